import PyProof.Rows.All
import Wide.All
import Open.Boot
import Open.Tree
import Open.Line
import OpenK.KMake
import OpenK.KCall
import OpenK.KGet
import OpenK.KList
import OpenK.KWalk
import Lean
import PySem.Challenge.RW_no0264_01
open PySem PySem.W PySem.Calls PyProof.Rows
set_option Elab.async false
set_option linter.unusedVariables false
namespace Mine
section

/-! ## data, and how a heap bears them -/
abbrev Mem := Addr → Option Obj
noncomputable def Sub (g g' : Mem) : Prop := ∀ b o, g b = some o → g' b = some o
theorem Sub.refl (g : Mem) : Sub g g := fun _ _ e => e
theorem Sub.trans {a b c : Mem} (x : Sub a b) (y : Sub b c) : Sub a c := fun p o e => y p o (x p o e)

inductive D where
  | none
  | bool (b : Bool)
  | int (i : Int)
  | str (x : List Nat)
  | tup (l : List D)
  | lst (l : List D)
  | lsx (l : List D)
  | obj (C : Addr) (xs : List Str) (l : List D)
  | rng (a b c : Int)

mutual
noncomputable def Rep (g : Mem) : D → Value → Prop
  | .none, v => v = .none
  | .bool b, v => v = .bool b
  | .int i, v => ∃ t, v = .int i t
  | .str x, v => ∃ t, v = .str ⟨x.toArray⟩ t
  | .tup l, v => ∃ a o vs n, v = .ref a ∧ g a = some o ∧ o.cls = .type "tuple" ∧ o.data = .seq (List.toArray vs) n ∧ RepL g l vs
  | .lst l, v => ∃ a vs n, v = .ref a ∧ g a = some (listOf (List.toArray vs) n) ∧ RepL g l vs
  | .lsx l, v => ∃ a o vs n, v = .ref a ∧ g a = some o ∧ o.cls = .type "list" ∧ o.data = .seq (List.toArray vs) n ∧ RepL g l vs
  | .obj C xs l, v => ∃ a d es n, v = .ref a ∧ g a = some (instObj C d) ∧ g d = some (dictOf es n) ∧ RepF g l xs es
  | .rng a b c, v => ∃ r t u w, v = .ref r ∧ g r = some { cls := .type "range", dict := none, data := .fields #[.int a t, .int b u, .int c w], slots := #[] }
noncomputable def RepL (g : Mem) : List D → List Value → Prop
  | [], vs => vs = []
  | d :: l, vs => ∃ v r, vs = v :: r ∧ Rep g d v ∧ RepL g l r
noncomputable def RepF (g : Mem) : List D → List Str → List DictEntry → Prop
  | [], xs, es => xs = [] ∧ es = []
  | d :: l, xs, es => ∃ x xr e er, xs = x :: xr ∧ es = e :: er ∧ (∃ t, e.key = .str x t) ∧ Rep g d e.val ∧ RepF g l xr er
end

mutual
theorem Rep.mono {g g' : Mem} (s : Sub g g') : ∀ {d : D} {v : Value}, Rep g d v → Rep g' d v
  | .none, _, h => by simp only [Rep] at h ⊢; exact h
  | .bool _, _, h => by simp only [Rep] at h ⊢; exact h
  | .int _, _, h => by simp only [Rep] at h ⊢; exact h
  | .str _, _, h => by simp only [Rep] at h ⊢; exact h
  | .tup l, _, h => by
    simp only [Rep] at h ⊢
    obtain ⟨a, o, vs, n, e, ho, hc, hd, hr⟩ := h
    exact ⟨a, o, vs, n, e, s _ _ ho, hc, hd, RepL.mono s hr⟩
  | .lst l, _, h => by
    simp only [Rep] at h ⊢
    obtain ⟨a, vs, n, e, ho, hr⟩ := h
    exact ⟨a, vs, n, e, s _ _ ho, RepL.mono s hr⟩
  | .lsx l, _, h => by
    simp only [Rep] at h ⊢
    obtain ⟨a, o, vs, n, e, ho, hc, hd, hr⟩ := h
    exact ⟨a, o, vs, n, e, s _ _ ho, hc, hd, RepL.mono s hr⟩
  | .obj C xs l, _, h => by
    simp only [Rep] at h ⊢
    obtain ⟨a, d, es, n, e, ho, hd, hr⟩ := h
    exact ⟨a, d, es, n, e, s _ _ ho, s _ _ hd, RepF.mono s hr⟩
  | .rng _ _ _, _, h => by
    simp only [Rep] at h ⊢
    obtain ⟨r, t, u, w, e, ho⟩ := h
    exact ⟨r, t, u, w, e, s _ _ ho⟩
theorem RepL.mono {g g' : Mem} (s : Sub g g') : ∀ {l : List D} {vs : List Value}, RepL g l vs → RepL g' l vs
  | [], _, h => by simp only [RepL] at h ⊢; exact h
  | d :: l, _, h => by
    simp only [RepL] at h ⊢
    obtain ⟨v, r, e, hd, hr⟩ := h
    exact ⟨v, r, e, Rep.mono s hd, RepL.mono s hr⟩
theorem RepF.mono {g g' : Mem} (s : Sub g g') : ∀ {l : List D} {xs : List Str} {es : List DictEntry}, RepF g l xs es → RepF g' l xs es
  | [], _, _, h => by simp only [RepF] at h ⊢; exact h
  | d :: l, _, _, h => by
    simp only [RepF] at h ⊢
    obtain ⟨x, xr, e, er, e1, e2, hk, hd, hr⟩ := h
    exact ⟨x, xr, e, er, e1, e2, hk, Rep.mono s hd, RepF.mono s hr⟩
end

theorem RepL.length {g : Mem} : ∀ {l : List D} {vs : List Value}, RepL g l vs → vs.length = l.length
  | [], _, h => by simp only [RepL] at h; rw [h]; rfl
  | d :: l, _, h => by
    simp only [RepL] at h
    obtain ⟨v, r, rfl, _, hr⟩ := h
    simp [hr.length]
theorem RepL.get {g : Mem} : ∀ {l : List D} {vs : List Value}, RepL g l vs → ∀ {i : Nat} {d : D}, l[i]? = some d → ∃ v, vs[i]? = some v ∧ Rep g d v
  | [], _, _, i, d, e => by simp at e
  | d :: l, _, h, i, d', e => by
    simp only [RepL] at h
    obtain ⟨v, r, rfl, hd, hr⟩ := h
    cases i with
    | zero => simp at e; subst e; exact ⟨v, rfl, hd⟩
    | succ i => simp at e; simpa using hr.get e
theorem RepL.append {g : Mem} : ∀ {l l' : List D} {vs vs' : List Value}, RepL g l vs → RepL g l' vs' → RepL g (l ++ l') (vs ++ vs')
  | [], _, _, _, h, h' => by simp only [RepL] at h; subst h; simpa using h'
  | d :: l, _, _, _, h, h' => by
    simp only [RepL] at h
    obtain ⟨v, r, rfl, hd, hr⟩ := h
    rw [List.cons_append, List.cons_append, RepL]
    exact ⟨_, _, rfl, hd, hr.append h'⟩
theorem RepL.single {g : Mem} {d : D} {v : Value} (h : Rep g d v) : RepL g [d] [v] := by
  simp only [RepL]; exact ⟨_, _, rfl, h, rfl⟩
theorem RepL.nil {g : Mem} : RepL g [] [] := by simp only [RepL]
theorem RepL.cons {g : Mem} {d : D} {l : List D} {v : Value} {vs : List Value} (h : Rep g d v) (hr : RepL g l vs) : RepL g (d :: l) (v :: vs) := by
  simp only [RepL]; exact ⟨_, _, rfl, h, hr⟩
theorem RepL.take {g : Mem} : ∀ {l : List D} {vs : List Value} (n : Nat), RepL g l vs → RepL g (l.take n) (vs.take n)
  | l, vs, 0, _ => by simp [RepL]
  | [], vs, n + 1, h => by simp only [RepL] at h; subst h; simp [RepL]
  | d :: l, vs, n + 1, h => by
    simp only [RepL] at h
    obtain ⟨v, r, rfl, hd, hr⟩ := h
    simp only [List.take_succ_cons]
    exact RepL.cons hd (RepL.take n hr)
theorem RepL.drop {g : Mem} : ∀ {l : List D} {vs : List Value} (n : Nat), RepL g l vs → RepL g (l.drop n) (vs.drop n)
  | l, vs, 0, h => by simpa using h
  | [], vs, n + 1, h => by simp only [RepL] at h; subst h; simp [RepL]
  | d :: l, vs, n + 1, h => by
    simp only [RepL] at h
    obtain ⟨v, r, rfl, hd, hr⟩ := h
    simp only [List.drop_succ_cons]
    exact RepL.drop n hr

/-- the heap less some addresses -/
noncomputable def hid (H : List Addr) (h : Heap) : Mem := fun b => if b ∈ H then none else h.get? b
theorem hid_sub {H : List Addr} {h : Heap} : Sub (hid H h) h.get? := fun b o e => by
  unfold hid at e; split at e
  · cases e
  · exact e
theorem hid_mono {H : List Addr} {h h' : Heap} (k : ∀ b o, b ∉ H → h.get? b = some o → h'.get? b = some o) : Sub (hid H h) (hid H h') := fun b o e => by
  unfold hid at e ⊢; split at e
  · cases e
  · rename_i n; rw [if_neg n]; exact k b o n e
theorem hid_weaken {H H' : List Addr} {h : Heap} (k : ∀ b, b ∈ H → b ∈ H') : Sub (hid H' h) (hid H h) := fun b o e => by
  unfold hid at e ⊢; split at e
  · cases e
  · rename_i n; rw [if_neg fun m => n (k b m)]; exact e
theorem hid_nil {h : Heap} : hid [] h = h.get? := by funext b; simp [hid]

mutual
/-- no list within -/
noncomputable def noLst : D → Bool
  | .none => true
  | .bool _ => true
  | .int _ => true
  | .str _ => true
  | .tup l => noLsts l
  | .lst _ => false
  | .lsx _ => false
  | .obj _ _ l => noLsts l
  | .rng _ _ _ => false
noncomputable def noLsts : List D → Bool
  | [] => true
  | d :: l => noLst d && noLsts l
end

mutual
theorem Rep.avoid {g g' : Mem} (s : ∀ b o, g b = some o → o.cls ≠ .type "list" → g' b = some o) : ∀ {d : D} {v : Value}, noLst d = true → Rep g d v → Rep g' d v
  | .none, _, _, h => by simp only [Rep] at h ⊢; exact h
  | .bool _, _, _, h => by simp only [Rep] at h ⊢; exact h
  | .int _, _, _, h => by simp only [Rep] at h ⊢; exact h
  | .str _, _, _, h => by simp only [Rep] at h ⊢; exact h
  | .tup l, _, n, h => by
    simp only [Rep] at h ⊢
    obtain ⟨a, o, vs, k, e, ho, hc, hd, hr⟩ := h
    exact ⟨a, o, vs, k, e, s _ _ ho (by rw [hc]; decide), hc, hd, RepL.avoid s (by simpa only [noLst] using n) hr⟩
  | .lst l, _, n, h => by simp [noLst] at n
  | .lsx l, _, n, h => by simp [noLst] at n
  | .rng _ _ _, _, n, h => by simp [noLst] at n
  | .obj C xs l, _, n, h => by
    simp only [Rep] at h ⊢
    obtain ⟨a, d, es, k, e, ho, hd, hr⟩ := h
    exact ⟨a, d, es, k, e, s _ _ ho (by intro q; cases q), s _ _ hd (by show Value.type "dict" ≠ Value.type "list"; decide), RepF.avoid s (by simpa only [noLst] using n) hr⟩
theorem RepL.avoid {g g' : Mem} (s : ∀ b o, g b = some o → o.cls ≠ .type "list" → g' b = some o) : ∀ {l : List D} {vs : List Value}, noLsts l = true → RepL g l vs → RepL g' l vs
  | [], _, _, h => by simp only [RepL] at h ⊢; exact h
  | d :: l, _, n, h => by
    simp only [RepL] at h ⊢
    simp only [noLsts, Bool.and_eq_true] at n
    obtain ⟨v, r, e, hd, hr⟩ := h
    exact ⟨v, r, e, Rep.avoid s n.1 hd, RepL.avoid s n.2 hr⟩
theorem RepF.avoid {g g' : Mem} (s : ∀ b o, g b = some o → o.cls ≠ .type "list" → g' b = some o) : ∀ {l : List D} {xs : List Str} {es : List DictEntry}, noLsts l = true → RepF g l xs es → RepF g' l xs es
  | [], _, _, _, h => by simp only [RepF] at h ⊢; exact h
  | d :: l, _, _, n, h => by
    simp only [RepF] at h ⊢
    simp only [noLsts, Bool.and_eq_true] at n
    obtain ⟨x, xr, e, er, e1, e2, hk, hd, hr⟩ := h
    exact ⟨x, xr, e, er, e1, e2, hk, Rep.avoid s n.1 hd, RepF.avoid s n.2 hr⟩
end

/-! ## the frame -/
/-- the name x stands for v -/
noncomputable def Has (env : Env) (h : Heap) (x : Str) (v : Value) : Prop :=
  (env.kindOf x = some .local ∧ ∃ m, h.Ns env.locals m ∧ m x = some v) ∨
  ((env.kindOf x = some .cell ∨ env.kindOf x = some .free) ∧ ∃ c o, env.cells.lookup x = some c ∧ h.get? c = some o ∧ o.data = .cell (some v))
theorem Has.mono {env : Env} {h h' : Heap} {x : Str} {v : Value} (k : ∀ b o, h.get? b = some o → h'.get? b = some o) (q : Has env h x v) : Has env h' x v := by
  rcases q with ⟨a, m, b, c⟩ | ⟨a, c, o, b, d, e⟩
  · exact .inl ⟨a, m, b.keeps k, c⟩
  · exact .inr ⟨a, c, o, b, k _ _ d, e⟩

abbrev Loc := List (Str × D)
noncomputable def LocR (env : Env) (g : Mem) (h : Heap) (σ : Loc) : Prop := ∀ x d, σ.lookup x = some d → ∃ v, Has env h x v ∧ Rep g d v
theorem LocR.mono {env : Env} {g g' : Mem} {h h' : Heap} {σ : Loc} (s : Sub g g') (k : ∀ b o, h.get? b = some o → h'.get? b = some o) (q : LocR env g h σ) : LocR env g' h' σ :=
  fun x d e => let ⟨v, a, b⟩ := q x d e; ⟨v, a.mono k, b.mono s⟩

structure EnvOk (env : Env) : Prop where
  g : env.globals = mainGlobals
  b : env.builtins = builtinsNs
  k : env.scope.kind = .function

/-- what the top left: its names, the built-ins, the written part -/
structure Cx where
  gm : Str → Option Value
  mb : Str → Option Value
  K : Frag
  prog : Program
  w : World
  bb : ∀ x : Str, x ≠ "__name__" → mb x = bootBuiltins x
structure Gl (c : Cx) (h : Heap) : Prop where
  g : h.Ns mainGlobals c.gm
  b : h.Ns builtinsNs c.mb
  nl : h.NoLimit
  k : c.K.In h
  dg : ∃ mc, h.Ns cStatics mc ∧ mc "sys.int_max_str_digits" = none
theorem Gl.mono {c : Cx} {h h' : Heap} (k : ∀ b o, h.get? b = some o → h'.get? b = some o) (q : Gl c h) : Gl c h' :=
  ⟨q.g.keeps k, q.b.keeps k, q.nl.keeps k, q.k.keeps k, let ⟨mc, a, b⟩ := q.dg; ⟨mc, a.keeps k, b⟩⟩

/-- room for k calls more -/
structure Ok (k : Nat) (A : Around) : Prop where
  hn : A.handled = none
  d : A.depth + 4 * k ≤ 900
  u : A.units + 20 * k ≤ 9000

/-- s' is s with a heap that has grown -/
noncomputable def Ext0 (s s' : Shared) : Prop := ∃ h' tk, s' = { s with heap := h', toks := tk } ∧ ∀ b o, s.heap.get? b = some o → h'.get? b = some o
noncomputable def Ext (s s' : Shared) : Prop := Ext0 s s' ∧ s.toks ≤ s'.toks
theorem Ext0.refl (s : Shared) : Ext0 s s := ⟨_, _, rfl, fun _ _ e => e⟩
theorem Ext.refl (s : Shared) : Ext s s := ⟨Ext0.refl s, Nat.le_refl _⟩
theorem Ext.keeps {s s' : Shared} (x : Ext s s') : ∀ b o, s.heap.get? b = some o → s'.heap.get? b = some o := by
  obtain ⟨⟨h', tk, rfl, k⟩, _⟩ := x; exact k
theorem Ext.trans {s s' s'' : Shared} (x : Ext s s') (y : Ext s' s'') : Ext s s'' := by
  obtain ⟨⟨h, t, rfl, k⟩, z⟩ := x
  obtain ⟨⟨h', t', rfl, k'⟩, z'⟩ := y
  exact ⟨⟨h', t', rfl, fun b o e => k' b o (k b o e)⟩, Nat.le_trans z z'⟩
theorem Ext0.mk' {s : Shared} {h' : Heap} {tk : Nat} (k : ∀ b o, s.heap.get? b = some o → h'.get? b = some o) : Ext0 s { s with heap := h', toks := tk } := ⟨_, _, rfl, k⟩
theorem Ext0.tok {s : Shared} {tk : Nat} : Ext0 s { s with toks := tk } := ⟨_, _, rfl, fun _ _ e => e⟩
theorem Ext0.push {s : Shared} {o : Obj} {tk : Nat} : Ext0 s { s with heap := s.heap.push o, toks := tk } := ⟨_, _, rfl, fun _ _ e => Heap.get?_push_of_some _ e⟩
theorem Ext.tok {s : Shared} {tk : Nat} (h : s.toks ≤ tk := by exact Nat.le_succ _) : Ext s { s with toks := tk } := ⟨⟨_, _, rfl, fun _ _ e => e⟩, h⟩
theorem Ext.hid {s s' : Shared} (x : Ext s s') (H : List Addr) : Sub (hid H s.heap) (hid H s'.heap) := hid_mono fun b o _ e => x.keeps b o e

noncomputable def HOk (H : List Addr) (h : Heap) : Prop := ∀ a ∈ H, ∃ o, h.get? a = some o
theorem HOk.mono {H : List Addr} {h h' : Heap} (k : ∀ b o, h.get? b = some o → h'.get? b = some o) (q : HOk H h) : HOk H h' := fun a m => let ⟨o, e⟩ := q a m; ⟨o, k _ _ e⟩
theorem hid_new {H : List Addr} {h h' : Heap} {a : Addr} {o : Obj} (q : HOk H h) (n : h.get? a = none) (e : h'.get? a = some o) : hid H h' a = some o := by
  unfold hid
  rw [if_neg]; exact e
  intro m
  obtain ⟨o', e'⟩ := q a m
  rw [n] at e'; cases e'
theorem hid_old {H : List Addr} {h : Heap} {a : Addr} {o : Obj} (e : hid H h a = some o) : h.get? a = some o := hid_sub _ _ e

/-- an expression may be walked at s -/
structure At (c : Cx) (k : Nat) (env : Env) (σ : Loc) (H : List Addr) (A : Around) (s : Shared) : Prop where
  ok : Ok k A
  eo : EnvOk env
  gl : Gl c s.heap
  ho : HOk H s.heap
  loc : LocR env (hid H s.heap) s.heap σ
  tk : 0 < s.toks
  kx : ∀ a ∈ H, c.K.lookup a = none
theorem At.ext {c : Cx} {k : Nat} {env : Env} {σ : Loc} {H : List Addr} {A : Around} {s s' : Shared} (x : At c k env σ H A s) (e : Ext s s') : At c k env σ H A s' :=
  ⟨x.ok, x.eo, x.gl.mono e.keeps, x.ho.mono e.keeps, x.loc.mono (e.hid H) e.keeps, Nat.lt_of_lt_of_le x.tk e.2, x.kx⟩

section
variable (c : Cx)

/-- the expression e ends, raises nothing, writes nothing that stood, and gives some d of P -/
noncomputable def Ev (k : Nat) (env : Env) (σ : Loc) (e : Expr) (P : D → Prop) : Prop :=
  ∀ (A : Around) (s : Shared) (H : List Addr) (E : Value → Shared → Prop) (Q : Value → Shared → Prop), At c k env σ H A s →
    (∀ d v s', P d → Ext s s' → Rep (hid H s'.heap) d v → Q v s') → wpAny (model c.prog c.w) A (eval e env) Q E s

/-- a row of expressions, in order -/
noncomputable def Evs (k : Nat) (env : Env) (σ : Loc) (es : List Expr) (P : List D → Prop) : Prop :=
  ∀ (A : Around) (s : Shared) (H : List Addr) (pos : Pos) (E : Value → Shared → Prop) (Q : List Value → Shared → Prop), At c k env σ H A s →
    (∀ ds vs s', P ds → Ext s s' → RepL (hid H s'.heap) ds vs → Q vs s') → wpAny (model c.prog c.w) A (spliced (backTo pos (starEach es env))) Q E s

/-- a test -/
noncomputable def Tr (k : Nat) (env : Env) (σ : Loc) (e : Expr) (P : Bool → Prop) : Prop :=
  ∀ (A : Around) (s : Shared) (H : List Addr) (E : Value → Shared → Prop) (Q : Bool → Shared → Prop) (whole : Sem Value), whole = eval e env → At c k env σ H A s →
    (∀ b s', P b → Ext s s' → Q b s') → wpAny (model c.prog c.w) A (isTrue e env whole) Q E s

/-- an operation upon values that stand for ds -/
noncomputable def Op (t : List Value → Sem Value) (ds : List D) (P : D → Prop) : Prop :=
  ∀ (A : Around) (s : Shared) (H : List Addr) (E : Value → Shared → Prop) (Q : Value → Shared → Prop) (vs : List Value), A.handled = none → A.units ≤ 9000 → 0 < s.toks → Gl c s.heap → HOk H s.heap → RepL (hid H s.heap) ds vs →
    (∀ d v s', P d → Ext s s' → Rep (hid H s'.heap) d v → Q v s') → wpAny (model c.prog c.w) A (t vs) Q E s

theorem Op.of {t : List Value → Sem Value} {ds : List D} {P : D → Prop} {c : Cx}
    (h : ∀ (A : Around) (s : Shared) (H : List Addr) (E : Value → Shared → Prop) (Q : Value → Shared → Prop) (vs : List Value), A.handled = none → A.units ≤ 9000 → 0 < s.toks → Gl c s.heap → HOk H s.heap → RepL (hid H s.heap) ds vs →
      (∀ d v s', P d → Ext0 s s' → Rep (hid H s'.heap) d v → Q v s') → wpAny (model c.prog c.w) A (t vs) Q E s) : Op c t ds P :=
  fun A s H E Q vs hn hu ht hg ho hr hq => wpAny_with_toks (Nat.le_refl s.toks) (h A s H _ _ vs hn hu ht hg ho hr fun d v s' hp e hv tk => hq d v s' hp ⟨e, tk⟩ hv)

/-- the def at f, called with args -/
noncomputable def Fn (k : Nat) (f : Addr) (args : List D) (P : D → Prop) : Prop :=
  ∀ (A : Around) (s : Shared) (H : List Addr) (R : Result → Shared → Prop) (vs : List Value), Ok k A → 0 < s.toks → Gl c s.heap → HOk H s.heap → (∀ a ∈ H, c.K.lookup a = none) → RepL (hid H s.heap) args vs →
    (∀ d v s', P d → Ext s s' → Rep (hid H s'.heap) d v → R (.ok (.ret v)) s') → codeAny (model c.prog c.w) A (.call (.ref f) ⟨vs, []⟩) R s

/-! ## statements -/
abbrev Own := List (Str × List D)
inductive Out where
  | next (σ : Loc) (ω : Own)
  | brk (σ : Loc) (ω : Own)
  | cont (σ : Loc) (ω : Own)
  | ret (d : D)

noncomputable def OwnR (env : Env) (g : Mem) (h : Heap) : Own → List Addr → Prop
  | [], H => H = []
  | (x, l) :: ω, H => ∃ a r vs n, H = a :: r ∧ env.kindOf x = some .local ∧ Has env h x (.ref a) ∧ h.get? a = some (listOf (List.toArray vs) n) ∧ RepL g l vs ∧ OwnR env g h ω r

structure St (env : Env) (σ : Loc) (ω : Own) (Ho Hx : List Addr) (s : Shared) : Prop where
  gb : ∃ g : Heap, Gl c g ∧ ∀ b o, g.get? b = some o → s.heap.get? b = some o ∧ b ≠ env.locals ∧ b ∉ Ho
  ns : ∃ m, s.heap.Ns env.locals m
  ok : HOk (Ho ++ Hx) s.heap
  loc : LocR env (hid (env.locals :: (Ho ++ Hx)) s.heap) s.heap σ
  own : OwnR env (hid (env.locals :: (Ho ++ Hx)) s.heap) s.heap ω Ho
  nd : Ho.Nodup
  ap : ∀ a ∈ Ho, a ∉ Hx
  cl : ∀ x b, env.cells.lookup x = some b → b ≠ env.locals ∧ ∃ o v, s.heap.get? b = some o ∧ o.data = .cell v
  tk : 0 < s.toks
  eo : EnvOk env
  kx : ∀ a ∈ Hx, c.K.lookup a = none

/-- from s to s' all stands but the frame L and the owned lists -/
noncomputable def Keep (L : Addr) (Ho : List Addr) (s s' : Shared) (Ho' : List Addr) : Prop :=
  (∃ h' tk, s' = { s with heap := h', toks := tk }) ∧ s.toks ≤ s'.toks ∧ ∀ b o, b ≠ L → b ∉ Ho → s.heap.get? b = some o → s'.heap.get? b = some o ∧ b ∉ Ho'

noncomputable def OutR (env : Env) (o : Out) (fl : Flow) (Ho Hx : List Addr) (s : Shared) : Prop := match o with
  | .next σ ω => fl = .next ∧ St c env σ ω Ho Hx s
  | .brk σ ω => fl = .brk ∧ St c env σ ω Ho Hx s
  | .cont σ ω => fl = .cont ∧ St c env σ ω Ho Hx s
  | .ret d => ∃ v, fl = .ret v ∧ Rep (hid Hx s.heap) d v

noncomputable def Ex (k : Nat) (env : Env) (σ : Loc) (ω : Own) (b : List Stmt) (P : Out → Prop) : Prop :=
  ∀ (A : Around) (s : Shared) (Ho Hx : List Addr) (E : Value → Shared → Prop) (Q : Flow → Shared → Prop), Ok k A → St c env σ ω Ho Hx s →
    (∀ o fl s' Ho', P o → Keep env.locals Ho s s' Ho' → OutR c env o fl Ho' Hx s' → Q fl s') → wpAny (model c.prog c.w) A (execs b env) Q E s
noncomputable def Ex1 (k : Nat) (env : Env) (σ : Loc) (ω : Own) (b : Stmt) (P : Out → Prop) : Prop :=
  ∀ (A : Around) (s : Shared) (Ho Hx : List Addr) (E : Value → Shared → Prop) (Q : Flow → Shared → Prop), Ok k A → St c env σ ω Ho Hx s →
    (∀ o fl s' Ho', P o → Keep env.locals Ho s s' Ho' → OutR c env o fl Ho' Hx s' → Q fl s') → wpAny (model c.prog c.w) A (exec b env) Q E s
noncomputable def after (k : Nat) (env : Env) (rest : List Stmt) (P : Out → Prop) : Out → Prop
  | .next σ ω => Ex c k env σ ω rest P
  | o => P o
end
end
section

section
variable {c : Cx} {k : Nat} {env : Env} {σ : Loc} {P : D → Prop}

theorem Ok.u' {A : Around} (h : Ok k A) : A.units ≤ 9000 := by have := h.u; omega

theorem ev_name {x : Str} {pos : Pos} {d : D} (hl : σ.lookup x = some d) (hp : P d) (hd : (x == ("__debug__" : Str)) = false := by decide) (hcd : (x == ("__classdict__" : Str)) = false := by decide) : Ev c k env σ (.Name x pos) P := by
  intro A s H E Q a h
  obtain ⟨v, hv, hr⟩ := a.loc x d hl
  have q : Q v s := h d v s hp (Ext.refl s) hr
  rcases hv with ⟨hk, m, hn, hm⟩ | ⟨hk, b, o, hc, ho, hdt⟩
  · exact wpAny_Name (wpAny_loadName_local a.eo.k hk hn hm q) hd
  · rcases hk with hk | hk
    · exact wpAny_Name (wpAny_loadName_cell a.eo.k hk hc ⟨o, ho, hdt⟩ q) hd
    · exact wpAny_Name (wpAny_loadName_free a.eo.k hk hc ⟨o, ho, hdt⟩ q hcd) hd
theorem ev_int {i : Int} {n : Nat} {pos : Pos} (hp : P (.int i)) : Ev c k env σ (.Constant (.int i) n pos) P := fun A s H E Q a h =>
  wpAny_Constant_int (h _ _ _ hp Ext.tok (by simp only [Rep]; exact ⟨_, rfl⟩))
theorem ev_str {x : Str} {n : Nat} {pos : Pos} (hp : P (.str x.cps.toList)) : Ev c k env σ (.Constant (.str x) n pos) P := fun A s H E Q a h =>
  Calls.Constant_str (h _ _ _ hp Ext.tok (by simp only [Rep]; exact ⟨_, rfl⟩))
theorem ev_bool {b : Bool} {n : Nat} {pos : Pos} (hp : P (.bool b)) : Ev c k env σ (.Constant (.bool b) n pos) P := fun A s H E Q a h =>
  Constant_bool (h _ _ _ hp (Ext.refl s) (by simp only [Rep]))
theorem ev_none {n : Nat} {pos : Pos} (hp : P .none) : Ev c k env σ (.Constant .none n pos) P := fun A s H E Q a h =>
  Constant_none (h _ _ _ hp (Ext.refl s) (by simp only [Rep]))

theorem ev_gstr {x y : Str} {t : Tok} {pos : Pos} (hk : env.kindOf x = some .globalImplicit) (hg : c.gm x = some (.str y t)) (hp : P (.str y.cps.toList)) (hd : (x == ("__debug__" : Str)) = false := by decide) :
    Ev c k env σ (.Name x pos) P := fun A s H E Q a h =>
  Name_function_global a.eo.k hk (loadGlobal_global (by rw [a.eo.g]; exact a.gl.g) hg (h _ _ _ hp (Ext.refl s) (by simp only [Rep]; exact ⟨_, rfl⟩))) hd
theorem ev_gint {x : Str} {i : Int} {t : Tok} {pos : Pos} (hk : env.kindOf x = some .globalImplicit) (hg : c.gm x = some (.int i t)) (hp : P (.int i)) (hd : (x == ("__debug__" : Str)) = false := by decide) :
    Ev c k env σ (.Name x pos) P := fun A s H E Q a h =>
  Name_function_global a.eo.k hk (loadGlobal_global (by rw [a.eo.g]; exact a.gl.g) hg (h _ _ _ hp (Ext.refl s) (by simp only [Rep]; exact ⟨_, rfl⟩))) hd

theorem ev_binop {l r : Expr} {op : Operator} {pos : Pos} (h : Ev c k env σ l fun a => Ev c k env σ r fun b => Op c (fun vs => binaryOp op (vs.getD 0 .none) (vs.getD 1 .none)) [a, b] P) : Ev c k env σ (.BinOp l op r pos) P :=
  fun A s H E Q a hq => wpAny_BinOp (h A s H E _ a fun d v s₁ hr e hv => hr A s₁ H E _ (a.ext e) fun d' v' s₂ ho e' hv' =>
    ho A s₂ H E Q [v, v'] a.ok.hn a.ok.u' (a.ext (e.trans e')).tk (a.ext (e.trans e')).gl (a.ext (e.trans e')).ho (RepL.cons (hv.mono (e'.hid H)) (RepL.single hv')) fun d'' v'' s₃ hp e'' hv'' => hq d'' v'' s₃ hp (e.trans (e'.trans e'')) hv'')

theorem ev_compare {l r : Expr} {op : CmpOp} {pos : Pos} (h : Ev c k env σ l fun a => Ev c k env σ r fun b => Op c (fun vs => compareOp op (vs.getD 0 .none) (vs.getD 1 .none)) [a, b] P)
    (hm : behindInMarks op r = false := by with_unfolding_all rfl) : Ev c k env σ (.Compare l [op] [r] pos) P :=
  fun A s H E Q a hq => wpAny_Compare1 (h A s H E _ a fun d v s₁ hr e hv => hr A s₁ H E _ (a.ext e) fun d' v' s₂ ho e' hv' =>
    ho A s₂ H E Q [v, v'] a.ok.hn a.ok.u' (a.ext (e.trans e')).tk (a.ext (e.trans e')).gl (a.ext (e.trans e')).ho (RepL.cons (hv.mono (e'.hid H)) (RepL.single hv')) fun d'' v'' s₃ hp e'' hv'' => hq d'' v'' s₃ hp (e.trans (e'.trans e'')) hv'') hm

theorem ev_neg {x : Expr} {pos : Pos} (h : Ev c k env σ x fun d => ∃ i, d = .int i ∧ P (.int (-i))) : Ev c k env σ (.UnaryOp .USub x pos) P :=
  fun A s H E Q a hq => UnaryOp_ (h A s H E _ a fun d v s₁ hr e hv => by
    obtain ⟨i, rfl, hp⟩ := hr
    simp only [Rep] at hv
    obtain ⟨t, rfl⟩ := hv
    exact neg_int (hq _ _ _ hp (e.trans Ext.tok) (by simp only [Rep]; exact ⟨_, rfl⟩)))

theorem ev_ifexp {t b o : Expr} {pos : Pos} (h : Tr c k env σ t fun q => (q = true → Ev c k env σ b P) ∧ (q = false → Ev c k env σ o P)) : Ev c k env σ (.IfExp t b o pos) P :=
  fun A s H E Q a hq => IfExp_ (h A s H E _ _ rfl a fun q s₁ hr e => by
    cases q with
    | true => rw [if_pos rfl]; exact hr.1 rfl A s₁ H E Q (a.ext e) fun d v s₂ hp e' hv => hq d v s₂ hp (e.trans e') hv
    | false => rw [if_neg Bool.false_ne_true]; exact hr.2 rfl A s₁ H E Q (a.ext e) fun d v s₂ hp e' hv => hq d v s₂ hp (e.trans e') hv)

/-! tests -/
theorem tr_compare {l r : Expr} {op : CmpOp} {pos : Pos} {P : Bool → Prop} (h : Ev c k env σ l fun a => Ev c k env σ r fun b => Op c (fun vs => compareOp op (vs.getD 0 .none) (vs.getD 1 .none)) [a, b] fun d => ∃ q, d = .bool q ∧ P q)
    (hm : behindInMarks op r = false := by with_unfolding_all rfl) : Tr c k env σ (.Compare l [op] [r] pos) P :=
  fun A s H E Q whole hw a hq => wpAny_isTrue_Compare1 (h A s H E _ a fun d v s₁ hr e hv => hr A s₁ H E _ (a.ext e) fun d' v' s₂ ho e' hv' =>
    ho A s₂ H E _ [v, v'] a.ok.hn a.ok.u' (a.ext (e.trans e')).tk (a.ext (e.trans e')).gl (a.ext (e.trans e')).ho (RepL.cons (hv.mono (e'.hid H)) (RepL.single hv')) fun d'' v'' s₃ hp e'' hv'' => by
      obtain ⟨q, rfl, hp⟩ := hp
      simp only [Rep] at hv''
      subst hv''
      exact wpAny_truthy_bool (hq q s₃ hp (e.trans (e'.trans e'')))) hm
theorem tr_not {x : Expr} {pos : Pos} {P : Bool → Prop} (h : Tr c k env σ x fun q => P (!q)) : Tr c k env σ (.UnaryOp .Not x pos) P :=
  fun A s H E Q whole hw a hq => isTrue_not (h A s H E _ _ rfl a fun q s₁ hp e => hq _ s₁ hp e)
theorem tr_and_nil {pos : Pos} {P : Bool → Prop} (h : P true) : Tr c k env σ (.BoolOp .And [] pos) P :=
  fun A s H E Q whole hw a hq => isTrue_and_nil (hq _ s h (Ext.refl s))
theorem tr_or_nil {pos : Pos} {P : Bool → Prop} (h : P false) : Tr c k env σ (.BoolOp .Or [] pos) P :=
  fun A s H E Q whole hw a hq => isTrue_or_nil (hq _ s h (Ext.refl s))

/-- the value is a bool -/
theorem tr_bool {x : Expr} {P : Bool → Prop} (h : Ev c k env σ x fun d => ∃ q, d = .bool q ∧ P q)
    (he : ∀ whole, isTrue x env whole = (do let v ← whole; standAt x.pos; holding [v] (truthy v)) := by intro _; rfl) : Tr c k env σ x P := by
  intro A s H E Q whole hw a hq
  have h1 : wpAny (model c.prog c.w) A whole (fun v s₁ => wpAny (model c.prog c.w) A (truthy v) Q E s₁) E s := by
    subst hw
    refine h A s H E _ a fun d v s₁ hr e hv => ?_
    obtain ⟨q, rfl, hp⟩ := hr
    simp only [Rep] at hv
    subst hv
    exact wpAny_truthy_bool (hq q s₁ hp e)
  exact isTrue_plain h1 (he whole)
theorem tr_and {x : Expr} {rest : List Expr} {pos : Pos} {P : Bool → Prop} (h : Tr c k env σ x fun q => (q = true → Tr c k env σ (.BoolOp .And rest pos) P) ∧ (q = false → P false)) : Tr c k env σ (.BoolOp .And (x :: rest) pos) P := by
  intro A s H E Q whole hw a hq
  refine isTrue_and (h A s H E _ _ rfl a fun q s₁ hr e => ?_)
  cases q with
  | false => rw [if_neg Bool.false_ne_true]; exact hq _ s₁ (hr.2 rfl) e
  | true =>
    rw [if_pos rfl]
    have := hr.1 rfl A s₁ H E Q _ rfl (a.ext e) fun b s₂ hp e' => hq b s₂ hp (e.trans e')
    exact this
theorem tr_or {x : Expr} {rest : List Expr} {pos : Pos} {P : Bool → Prop} (h : Tr c k env σ x fun q => (q = true → P true) ∧ (q = false → Tr c k env σ (.BoolOp .Or rest pos) P)) : Tr c k env σ (.BoolOp .Or (x :: rest) pos) P := by
  intro A s H E Q whole hw a hq
  refine isTrue_or (h A s H E _ _ rfl a fun q s₁ hr e => ?_)
  cases q with
  | true => rw [if_pos rfl]; exact hq _ s₁ (hr.1 rfl) e
  | false =>
    rw [if_neg Bool.false_ne_true]
    have := hr.2 rfl A s₁ H E Q _ rfl (a.ext e) fun b s₂ hp e' => hq b s₂ hp (e.trans e')
    exact this

/-! and, or as values (bools) -/
theorem ev_and1 {x : Expr} {op : BoolOp} {pos : Pos} (h : Ev c k env σ x P) : Ev c k env σ (.BoolOp op [x] pos) P := fun A s H E Q a hq => BoolOp_one (h A s H E Q a hq)
theorem ev_and {x y : Expr} {rest : List Expr} {pos : Pos} (h : Ev c k env σ x fun d => ∃ q, d = .bool q ∧ (q = true → Ev c k env σ (.BoolOp .And (y :: rest) pos) P) ∧ (q = false → P (.bool false))) : Ev c k env σ (.BoolOp .And (x :: y :: rest) pos) P := by
  intro A s H E Q a hq
  refine BoolOp_and (h A s H E _ a fun d v s₁ hr e hv => ?_)
  obtain ⟨q, rfl, h1, h2⟩ := hr
  simp only [Rep] at hv
  subst hv
  refine wpAny_truthy_bool ?_
  cases q with
  | true => rw [if_pos rfl]; exact h1 rfl A s₁ H E Q (a.ext e) fun d v s₂ hp e' hv => hq d v s₂ hp (e.trans e') hv
  | false => rw [if_neg Bool.false_ne_true]; exact hq _ _ s₁ (h2 rfl) e (by simp only [Rep])
theorem ev_or {x y : Expr} {rest : List Expr} {pos : Pos} (h : Ev c k env σ x fun d => ∃ q, d = .bool q ∧ (q = true → P (.bool true)) ∧ (q = false → Ev c k env σ (.BoolOp .Or (y :: rest) pos) P)) : Ev c k env σ (.BoolOp .Or (x :: y :: rest) pos) P := by
  intro A s H E Q a hq
  refine BoolOp_or (h A s H E _ a fun d v s₁ hr e hv => ?_)
  obtain ⟨q, rfl, h1, h2⟩ := hr
  simp only [Rep] at hv
  subst hv
  refine wpAny_truthy_bool ?_
  cases q with
  | false => rw [if_neg Bool.false_ne_true]; exact h2 rfl A s₁ H E Q (a.ext e) fun d v s₂ hp e' hv => hq d v s₂ hp (e.trans e') hv
  | true => rw [if_pos rfl]; exact hq _ _ s₁ (h1 rfl) e (by simp only [Rep])

/-! a chain of two comparisons of texts -/
theorem tr_chain {l m r : Expr} {o1 o2 : CmpOp} {pos : Pos} {P : Bool → Prop}
    (h : Ev c k env σ l fun a => Ev c k env σ m fun b => Op c (fun vs => compareOp o1 (vs.getD 0 .none) (vs.getD 1 .none)) [a, b] fun d => ∃ q, d = .bool q ∧ (q = false → P false) ∧
      (q = true → Ev c k env σ r fun e => Op c (fun vs => compareOp o2 (vs.getD 0 .none) (vs.getD 1 .none)) [b, e] fun d => ∃ q, d = .bool q ∧ P q))
    (hm : lastMarks [o1, o2] [m, r] = false := by with_unfolding_all rfl) : Tr c k env σ (.Compare l [o1, o2] [m, r] pos) P := by
  intro A s H E Q whole hw a hq
  refine isTrue_chain (rs := []) (ops := []) (h A s H E _ a fun d v s₁ hr e hv => test_link (hr A s₁ H E _ (a.ext e) fun d' v' s₂ ho e' hv' =>
    ho A s₂ H E _ [v, v'] a.ok.hn a.ok.u' (a.ext (e.trans e')).tk (a.ext (e.trans e')).gl (a.ext (e.trans e')).ho (RepL.cons (hv.mono (e'.hid H)) (RepL.single hv')) fun d'' v'' s₃ hp e'' hv'' => ?_)) hm
  obtain ⟨q, rfl, h1, h2⟩ := hp
  simp only [Rep] at hv''
  subst hv''
  have e3 := e.trans (e'.trans e'')
  refine wpAny_truthy_bool ?_
  cases q with
  | false => rw [if_neg Bool.false_ne_true]; exact hq _ s₃ (h1 rfl) e3
  | true =>
    rw [if_pos rfl]
    refine test_last (h2 rfl A s₃ H E _ (a.ext e3) fun d4 v4 s₄ ho4 e4 hv4 => ho4 A s₄ H E _ [v', v4] a.ok.hn a.ok.u' (a.ext (e3.trans e4)).tk (a.ext (e3.trans e4)).gl (a.ext (e3.trans e4)).ho (RepL.cons (hv'.mono ((e''.trans e4).hid H)) (RepL.single hv4)) fun d5 v5 s₅ hp e5 hv5 => ?_)
    obtain ⟨q, rfl, hp⟩ := hp
    simp only [Rep] at hv5
    subst hv5
    exact wpAny_truthy_bool (hq q s₅ hp (e3.trans (e4.trans e5)))

/-! ## operations -/
theorem rep2_int {g : Mem} {i j : Int} {vs : List Value} (h : RepL g [.int i, .int j] vs) : ∃ t u, vs = [.int i t, .int j u] := by
  simp only [RepL, Rep] at h
  obtain ⟨_, _, rfl, ⟨t, rfl⟩, _, _, rfl, ⟨u, rfl⟩, rfl⟩ := h
  exact ⟨t, u, rfl⟩
theorem rep2_str {g : Mem} {x y : List Nat} {vs : List Value} (h : RepL g [.str x, .str y] vs) : ∃ t u, vs = [.str ⟨x.toArray⟩ t, .str ⟨y.toArray⟩ u] := by
  simp only [RepL, Rep] at h
  obtain ⟨_, _, rfl, ⟨t, rfl⟩, _, _, rfl, ⟨u, rfl⟩, rfl⟩ := h
  exact ⟨t, u, rfl⟩
theorem repI {g : Mem} {i : Int} {t : Tok} : Rep g (.int i) (.int i t) := by simp only [Rep]; exact ⟨_, rfl⟩
theorem repS {g : Mem} {x : List Nat} {y : Str} {t : Tok} (h : y.cps.toList = x) : Rep g (.str x) (.str y t) := by
  subst h
  simp only [Rep]
  exact ⟨t, rfl⟩
theorem repB {g : Mem} {b : Bool} : Rep g (.bool b) (.bool b) := by simp only [Rep]

abbrev binop (op : Operator) (vs : List Value) : Sem Value := binaryOp op (vs.getD 0 .none) (vs.getD 1 .none)
abbrev inpop (op : Operator) (vs : List Value) : Sem Value := inplaceOp op (vs.getD 0 .none) (vs.getD 1 .none)
abbrev cmpop (op : CmpOp) (vs : List Value) : Sem Value := compareOp op (vs.getD 0 .none) (vs.getD 1 .none)

variable {x y : List Nat} {i j : Int}
theorem op_add_int (hp : P (.int (i + j))) : Op c (binop .Add) [.int i, .int j] P := Op.of fun A s H E Q vs hn hu _ hg ho hr hq => by
  obtain ⟨t, u, rfl⟩ := rep2_int hr; exact add_int (hq _ _ _ hp Ext0.tok repI)
theorem op_iadd_int (hp : P (.int (i + j))) : Op c (inpop .Add) [.int i, .int j] P := Op.of fun A s H E Q vs hn hu _ hg ho hr hq => by
  obtain ⟨t, u, rfl⟩ := rep2_int hr; exact PySem.P.iadd_int (hq _ _ _ hp Ext0.tok repI)
theorem op_sub_int (hp : P (.int (i - j))) : Op c (binop .Sub) [.int i, .int j] P := Op.of fun A s H E Q vs hn hu _ hg ho hr hq => by
  obtain ⟨t, u, rfl⟩ := rep2_int hr; exact PySem.P.sub_int (hq _ _ _ hp Ext0.tok repI)
theorem op_isub_int (hp : P (.int (i - j))) : Op c (inpop .Sub) [.int i, .int j] P := Op.of fun A s H E Q vs hn hu _ hg ho hr hq => by
  obtain ⟨t, u, rfl⟩ := rep2_int hr; exact PySem.P.isub_int (hq _ _ _ hp Ext0.tok repI)
theorem op_mul_int (hm : i.natAbs < 2 ^ 63 ∧ j.natAbs < 2 ^ 63) (hp : P (.int (i * j))) : Op c (binop .Mult) [.int i, .int j] P := Op.of fun A s H E Q vs hn hu _ hg ho hr hq => by
  obtain ⟨t, u, rfl⟩ := rep2_int hr; exact PySem.P.mul_int (hq _ _ _ hp Ext0.tok repI) (by have := hm.1; have := hm.2; mul_fits)
theorem op_mod_int (h0 : j ≠ 0) (hp : P (.int (i.fmod j))) : Op c (binop .Mod) [.int i, .int j] P := Op.of fun A s H E Q vs hn hu _ hg ho hr hq => by
  obtain ⟨t, u, rfl⟩ := rep2_int hr; exact mod_int' h0 (hq _ _ _ hp Ext0.tok repI)
theorem op_imod_int (h0 : j ≠ 0) (hp : P (.int (i.fmod j))) : Op c (inpop .Mod) [.int i, .int j] P := Op.of fun A s H E Q vs hn hu _ hg ho hr hq => by
  obtain ⟨t, u, rfl⟩ := rep2_int hr; exact imod_int h0 (hq _ _ _ hp Ext0.tok repI)
theorem op_div_int (h0 : j ≠ 0) (hs : i.natAbs < 2 ^ 63 ∧ j.natAbs < 1000000) (hp : P (.int (i.fdiv j))) : Op c (binop .FloorDiv) [.int i, .int j] P := Op.of fun A s H E Q vs hn hu _ hg ho hr hq => by
  obtain ⟨t, u, rfl⟩ := rep2_int hr; exact floordiv_int h0 (hq _ _ _ hp Ext0.tok repI) (Or.inl (PyProof.noPylong_small (by have := hs.1; have := hs.2; omega)))
theorem op_pow_int (hj : 0 ≤ j ∧ j ≤ 1000) (hi : i.natAbs < 2 ^ 64) (hp : P (.int (i ^ j.toNat))) : Op c (binop .Pow) [.int i, .int j] P := Op.of fun A s H E Q vs hn hu _ hg ho hr hq => by
  obtain ⟨t, u, rfl⟩ := rep2_int hr; exact pow_int_small hj.1 (by omega) hi (hq _ _ _ hp Ext0.tok repI)
theorem op_eq_int (hp : P (.bool (decide (i = j)))) : Op c (cmpop .Eq) [.int i, .int j] P := Op.of fun A s H E Q vs hn hu _ hg ho hr hq => by
  obtain ⟨t, u, rfl⟩ := rep2_int hr
  refine PySem.P.eq_int (hq _ _ _ hp (Ext0.refl s) ?_)
  rw [show (i == j) = decide (i = j) by rw [Bool.eq_iff_iff]; simp]; exact repB
theorem op_ne_int (hp : P (.bool (decide (i ≠ j)))) : Op c (cmpop .NotEq) [.int i, .int j] P := Op.of fun A s H E Q vs hn hu _ hg ho hr hq => by
  obtain ⟨t, u, rfl⟩ := rep2_int hr
  refine PySem.P.ne_int (hq _ _ _ hp (Ext0.refl s) ?_)
  rw [show (i != j) = decide (i ≠ j) by rw [Bool.eq_iff_iff]; simp]; exact repB
theorem op_lt_int (hp : P (.bool (decide (i < j)))) : Op c (cmpop .Lt) [.int i, .int j] P := Op.of fun A s H E Q vs hn hu _ hg ho hr hq => by
  obtain ⟨t, u, rfl⟩ := rep2_int hr; exact PySem.P.lt_int (hq _ _ _ hp (Ext0.refl s) repB)
theorem op_le_int (hp : P (.bool (decide (i ≤ j)))) : Op c (cmpop .LtE) [.int i, .int j] P := Op.of fun A s H E Q vs hn hu _ hg ho hr hq => by
  obtain ⟨t, u, rfl⟩ := rep2_int hr; exact PySem.P.le_int (hq _ _ _ hp (Ext0.refl s) repB)
theorem op_gt_int (hp : P (.bool (decide (i > j)))) : Op c (cmpop .Gt) [.int i, .int j] P := Op.of fun A s H E Q vs hn hu _ hg ho hr hq => by
  obtain ⟨t, u, rfl⟩ := rep2_int hr; exact PySem.P.gt_int (hq _ _ _ hp (Ext0.refl s) repB)
theorem op_ge_int (hp : P (.bool (decide (i ≥ j)))) : Op c (cmpop .GtE) [.int i, .int j] P := Op.of fun A s H E Q vs hn hu _ hg ho hr hq => by
  obtain ⟨t, u, rfl⟩ := rep2_int hr; exact PySem.P.ge_int (hq _ _ _ hp (Ext0.refl s) repB)

theorem cat_list : (({ cps := x.toArray } : Str) ++ ({ cps := y.toArray } : Str)).cps.toList = x ++ y := by
  rw [Str.cps_append]; simp
theorem op_add_str (hz : x.length + y.length ≤ 10000000) (hp : P (.str (x ++ y))) : Op c (binop .Add) [.str x, .str y] P := Op.of fun A s H E Q vs hn hu _ hg ho hr hq => by
  obtain ⟨t, u, rfl⟩ := rep2_str hr
  exact add_str (fun t' tk => hq _ _ _ hp Ext0.tok (repS cat_list)) (by simp only [Str.length, List.size_toArray]; rw [sizeLine_eq]; omega)
theorem op_iadd_str (hz : x.length + y.length ≤ 10000000) (hp : P (.str (x ++ y))) : Op c (inpop .Add) [.str x, .str y] P := Op.of fun A s H E Q vs hn hu _ hg ho hr hq => by
  obtain ⟨t, u, rfl⟩ := rep2_str hr
  exact iadd_str (fun t' tk => hq _ _ _ hp Ext0.tok (repS cat_list)) (by simp only [Str.length, List.size_toArray]; rw [sizeLine_eq]; omega)
theorem op_eq_str (hp : P (.bool (decide (x = y)))) : Op c (cmpop .Eq) [.str x, .str y] P := Op.of fun A s H E Q vs hn hu _ hg ho hr hq => by
  obtain ⟨t, u, rfl⟩ := rep2_str hr
  refine PySem.P.eq_str (hq _ _ _ hp (Ext0.refl s) ?_)
  dsimp only
  rw [show (x == y) = decide (x = y) by rw [Bool.eq_iff_iff]; simp]; exact repB
theorem op_ne_str (hp : P (.bool (decide (x ≠ y)))) : Op c (cmpop .NotEq) [.str x, .str y] P := Op.of fun A s H E Q vs hn hu _ hg ho hr hq => by
  obtain ⟨t, u, rfl⟩ := rep2_str hr
  refine PySem.P.ne_str (hq _ _ _ hp (Ext0.refl s) ?_)
  dsimp only
  rw [show (x != y) = decide (x ≠ y) by rw [Bool.eq_iff_iff]; simp]; exact repB
theorem op_le_str (hp : P (.bool (!decide (y < x)))) : Op c (cmpop .LtE) [.str x, .str y] P := Op.of fun A s H E Q vs hn hu _ hg ho hr hq => by
  obtain ⟨t, u, rfl⟩ := rep2_str hr
  exact PySem.P.le_str (hq _ _ _ hp (Ext0.refl s) repB)
/-- a text in a text -/
noncomputable def inStr (x y : List Nat) : Bool := !(Builtin.Str.occurrences ⟨y.toArray⟩ ⟨x.toArray⟩ 0 y.length 1).isEmpty
theorem inStr_one {a : Nat} {y : List Nat} : inStr [a] y = y.contains a := by
  unfold inStr
  have := StrLaws.found_one ⟨y.toArray⟩ a
  rw [show (⟨y.toArray⟩ : Str).length = y.length by simp [Str.length]] at this
  rw [this, Bool.eq_iff_iff]; simp
theorem op_in_str (hp : P (.bool (inStr x y))) : Op c (cmpop .In) [.str x, .str y] P := Op.of fun A s H E Q vs hn hu _ hg ho hr hq => by
  obtain ⟨t, u, rfl⟩ := rep2_str hr
  refine in_str (hq _ _ _ hp (Ext0.refl s) ?_)
  rw [show (⟨y.toArray⟩ : Str).length = y.length by simp [Str.length]]
  exact repB
theorem op_notin_str (hp : P (.bool (!inStr x y))) : Op c (cmpop .NotIn) [.str x, .str y] P := Op.of fun A s H E Q vs hn hu _ hg ho hr hq => by
  obtain ⟨t, u, rfl⟩ := rep2_str hr
  refine notIn_str (hq _ _ _ hp (Ext0.refl s) ?_)
  rw [show (⟨y.toArray⟩ : Str).length = y.length by simp [Str.length]]
  exact repB
theorem mul_blank (n : Int) : (Txt.mul ⟨[32].toArray⟩ n).cps.toList = List.replicate n.toNat 32 := by
  unfold Txt.mul
  split
  · rename_i h; rw [show n.toNat = 0 by omega]; rfl
  · split
    · rename_i h1 h
      simp [Str.length] at h
      subst h; rfl
    · have : ∀ (m : Nat) (acc : Array Nat), ((List.replicate m (#[32] : Array Nat)).foldl (· ++ ·) acc).toList = acc.toList ++ List.replicate m 32 := by
        intro m
        induction m with
        | zero => intro acc; simp
        | succ m ih => intro acc; rw [List.replicate_succ, List.foldl_cons, ih, List.replicate_succ]; simp
      have := this n.toNat #[]
      simpa using this
theorem op_mul_blank {n : Int} (hn : n ≤ 1000 ∧ -1000 ≤ n) (hp : P (.str (List.replicate n.toNat 32))) : Op c (binop .Mult) [.str [32], .int n] P := Op.of fun A s H E Q vs hh hu _ hg ho hr hq => by
  simp only [RepL, Rep] at hr
  obtain ⟨_, _, rfl, ⟨t, rfl⟩, _, _, rfl, ⟨u, rfl⟩, rfl⟩ := hr
  exact SB.mul (mulOk_of 1 1000 (by simp [Str.length]) (by omega) (by omega) (by omega) (by omega)) fun t' tk => hq _ _ _ hp Ext0.tok (repS (mul_blank n))
end
end
section

section
variable {c : Cx} {k : Nat} {env : Env} {σ : Loc} {P : D → Prop}

/-! ## rows of expressions -/
theorem evs_nil {P : List D → Prop} (h : P []) : Evs c k env σ [] P := fun A s H pos E Q a hq => args_nil (hq _ _ s h (Ext.refl s) RepL.nil)
theorem evs_cons {e : Expr} {rest : List Expr} {P : List D → Prop} (h : Ev c k env σ e fun d => Evs c k env σ rest fun ds => P (d :: ds))
    (he : starEach (e :: rest) env = (false, eval e env) :: starEach rest env := by rfl) : Evs c k env σ (e :: rest) P := fun A s H pos E Q a hq =>
  args_cons (h A s H E _ a fun d v s₁ hr e hv => hr A s₁ H pos E _ (a.ext e) fun ds vs s₂ hp e' hvs => hq _ _ s₂ hp (e.trans e') (RepL.cons (hv.mono (e'.hid H)) hvs)) he

/-! ## calls -/
theorem Op.at {t : List Value → Sem Value} {ds : List D} (h : Op c t ds P) {A : Around} {s : Shared} {H : List Addr} {E : Value → Shared → Prop} {Q : Value → Shared → Prop} {vs : List Value}
    (a : At c k env σ H A s) (hr : RepL (hid H s.heap) ds vs) (hq : ∀ d v s', P d → Ext s s' → Rep (hid H s'.heap) d v → Q v s') : wpAny (model c.prog c.w) A (t vs) Q E s :=
  h A s H E Q vs a.ok.hn a.ok.u' a.tk a.gl a.ho hr hq

/-- a def of the text's own -/
theorem ev_call {f : Str} {a : Addr} {o : Obj} {fd : FuncData} {fp pos : Pos} {e : Expr} {rest : List Expr} (hk : env.kindOf f = some .globalImplicit) (hg : c.gm f = some (.ref a)) (ho : c.K.lookup a = some o) (hd : o.data = .func fd)
    (h : Evs c k env σ (e :: rest) fun ds => Fn c k a ds P)
    (he : starEach (e :: rest) env = (false, eval e env) :: starEach rest env := by rfl) (hdb : (f == ("__debug__" : Str)) = false := by decide)
    (hev : eval (.Call (.Name f fp) (e :: rest) [] pos) env = (do callWith pos (← eval (.Name f fp) env) [] (backTo pos (starEach (e :: rest) env)) (backToKw pos (keywordEach [] env))) := by rfl) :
    Ev c k env σ (.Call (.Name f fp) (e :: rest) [] pos) P := fun A s H E Q x hq =>
  Call_ (Name_function_global x.eo.k hk (loadGlobal_global (by rw [x.eo.g]; exact x.gl.g) hg (callWith_def hd (h A s H pos E _ x fun ds vs s₁ hf e hvs =>
    ⟨(x.gl.mono e.keeps).k _ _ ho, wpAny_call (hf A s₁ H _ vs x.ok (x.ext e).tk (x.ext e).gl (x.ext e).ho x.kx hvs fun d v s₂ hp e' hv => hq d v s₂ hp (e.trans e') hv)⟩) he)) hdb) hev
theorem ev_call0 {f : Str} {a : Addr} {o : Obj} {fd : FuncData} {fp pos : Pos} (hk : env.kindOf f = some .globalImplicit) (hg : c.gm f = some (.ref a)) (ho : c.K.lookup a = some o) (hd : o.data = .func fd)
    (h : Fn c k a [] P) (hdb : (f == ("__debug__" : Str)) = false := by decide)
    (hev : eval (.Call (.Name f fp) [] [] pos) env = (do callWith pos (← eval (.Name f fp) env) [] (backTo pos (starEach [] env)) (backToKw pos (keywordEach [] env))) := by rfl) :
    Ev c k env σ (.Call (.Name f fp) [] [] pos) P := fun A s H E Q x hq =>
  Call_ (Name_function_global x.eo.k hk (loadGlobal_global (by rw [x.eo.g]; exact x.gl.g) hg (callWith_function (o := o) (fd := fd) (args := []) (PyProof.Rows.evalArgs_none
    ⟨⟨x.gl.k _ _ ho, hd⟩, wpAny_call (h A s H _ [] x.ok x.tk x.gl x.ho x.kx RepL.nil fun d v s₂ hp e' hv => hq d v s₂ hp e' hv)⟩))) hdb) hev

/-- a built-in -/
theorem ev_callb {f : Str} {id : String} {fp pos : Pos} {e : Expr} {rest : List Expr} (hk : env.kindOf f = some .globalImplicit) (hg : c.gm f = none) (hb : bootBuiltins f = some (.builtin id)) (hn : f ≠ "__name__")
    (h : Evs c k env σ (e :: rest) fun ds => Op c (fun vs => call (.builtin id) vs) ds P)
    (he : starEach (e :: rest) env = (false, eval e env) :: starEach rest env := by rfl) (hplain : (backTo pos (starEach rest env)).any (·.1) = false := by rfl) (hdb : (f == ("__debug__" : Str)) = false := by decide)
    (hev : eval (.Call (.Name f fp) (e :: rest) [] pos) env = (do callWith pos (← eval (.Name f fp) env) [] (backTo pos (starEach (e :: rest) env)) (backToKw pos (keywordEach [] env))) := by rfl) :
    Ev c k env σ (.Call (.Name f fp) (e :: rest) [] pos) P := fun A s H E Q x hq =>
  Call_ (Name_function_global x.eo.k hk (loadGlobal_builtin (by rw [x.eo.g]; exact x.gl.g) hg (by rw [x.eo.b]; exact x.gl.b) ((c.bb f hn).trans hb) (callWith_builtin1 (h A s H pos E _ x fun ds vs s₁ hf e hvs =>
    hf.at (x.ext e) hvs fun d v s₂ hp e' hv => hq d v s₂ hp (e.trans e') hv) he hplain)) hdb) hev
theorem ev_callt {f : Str} {T : String} {fp pos : Pos} {e : Expr} {rest : List Expr} (hk : env.kindOf f = some .globalImplicit) (hg : c.gm f = none) (hb : bootBuiltins f = some (.type T)) (hn : f ≠ "__name__")
    (h : Evs c k env σ (e :: rest) fun ds => Op c (fun vs => call (.type T) vs) ds P)
    (he : starEach (e :: rest) env = (false, eval e env) :: starEach rest env := by rfl) (hplain : (backTo pos (starEach rest env)).any (·.1) = false := by rfl) (hdb : (f == ("__debug__" : Str)) = false := by decide)
    (hev : eval (.Call (.Name f fp) (e :: rest) [] pos) env = (do callWith pos (← eval (.Name f fp) env) [] (backTo pos (starEach (e :: rest) env)) (backToKw pos (keywordEach [] env))) := by rfl) :
    Ev c k env σ (.Call (.Name f fp) (e :: rest) [] pos) P := fun A s H E Q x hq =>
  Call_ (Name_function_global x.eo.k hk (loadGlobal_builtin (by rw [x.eo.g]; exact x.gl.g) hg (by rw [x.eo.b]; exact x.gl.b) ((c.bb f hn).trans hb) (callWith_type1 (h A s H pos E _ x fun ds vs s₁ hf e hvs =>
    hf.at (x.ext e) hvs fun d v s₂ hp e' hv => hq d v s₂ hp (e.trans e') hv) he hplain)) hdb) hev

/-- a method of a text -/
theorem ev_meth {o : Expr} {name : Str} {id : String} {ap pos : Pos} {e : Expr} {rest : List Expr}
    (slot : Slot "str" name id) (ty : typeOf (.builtin id) = pure (.type "method_descriptor"))
    (h : Ev c k env σ o fun d => ∃ x, d = .str x ∧ Evs c k env σ (e :: rest) fun ds => Op c (fun vs => call (.builtin id) vs) (.str x :: ds) P)
    (he : starEach (e :: rest) env = (false, eval e env) :: starEach rest env := by rfl) (hplain : (backTo pos (starEach rest env)).any (·.1) = false := by rfl)
    {pl : Sem Bool}
    (hev : eval (.Call (.Attribute o name ap) (e :: rest) [] pos) env = (do
      let ov ← eval o env
      standAt ap.atName
      let (f, first) ← holding [ov] (getMethod ov name pl)
      callWith pos f first (backTo pos (starEach (e :: rest) env)) []) := by rfl) :
    Ev c k env σ (.Call (.Attribute o name ap) (e :: rest) [] pos) P := by
  intro A s H E Q x hq
  refine MethodCall_ (pl := pl) (h A s H E _ x fun d v s₁ hr ee hv => ?_) hev
  obtain ⟨y, rfl, hr⟩ := hr
  have hv' := hv
  simp only [Rep] at hv'
  obtain ⟨t, rfl⟩ := hv'
  have q : wpAny (model c.prog c.w) A (callWith pos (.builtin id) [.str ⟨y.toArray⟩ t] (backTo pos (starEach (e :: rest) env)) []) Q E s₁ := by
    refine callWith_method1 (hr A s₁ H pos E _ (x.ext ee) fun ds vs s₂ hf e' hvs => ?_) he hplain
    exact hf.at (vs := .str ⟨y.toArray⟩ t :: vs) (x.ext (ee.trans e')) (RepL.cons (hv.mono (e'.hid H)) hvs) fun d v s₃ hp e'' hv => hq d v s₃ hp (ee.trans (e'.trans e'')) hv
  have hT : s₁.TypeIs (.str ⟨y.toArray⟩ t) "str" := typeIs_str s₁ _ t
  have z := @getMethod_builtin (model c.prog c.w) A E s₁ (.str ⟨y.toArray⟩ t) "str" name id pl (fun fx s₂ => wpAny (model c.prog c.w) A (callWith pos fx.1 fx.2 (backTo pos (starEach (e :: rest) env)) []) Q E s₂) hT F.plainAttrs_str slot ty GM.noRef q
  with_reducible exact z

/-! ## built-ins -/
variable {x y z : List Nat} {i j : Int} {l : List D}
theorem rep1_str {g : Mem} {x : List Nat} {vs : List Value} (h : RepL g [.str x] vs) : ∃ t, vs = [.str ⟨x.toArray⟩ t] := by
  simp only [RepL, Rep] at h
  obtain ⟨_, _, rfl, ⟨t, rfl⟩, rfl⟩ := h
  exact ⟨t, rfl⟩
theorem rep1_int {g : Mem} {i : Int} {vs : List Value} (h : RepL g [.int i] vs) : ∃ t, vs = [.int i t] := by
  simp only [RepL, Rep] at h
  obtain ⟨_, _, rfl, ⟨t, rfl⟩, rfl⟩ := h
  exact ⟨t, rfl⟩
theorem isList_of {H : List Addr} {h : Heap} {a : Addr} {vs : List Value} {n : Nat} (e : hid H h a = some (listOf vs.toArray n)) : h.IsList a vs.toArray := ⟨_, hid_old e, rfl, _, rfl⟩

theorem op_len_str (hz : x.length ≤ 10000000) (hp : P (.int x.length)) : Op c (fun vs => call (.builtin "len") vs) [.str x] P := Op.of fun A s H E Q vs hn hu _ hg ho hr hq => by
  obtain ⟨t, rfl⟩ := rep1_str hr
  have e : (⟨x.toArray⟩ : Str).length = x.length := by simp [Str.length]
  have q := hq (.int x.length) (.int x.length (s.toks + 1)) { s with toks := s.toks + 1 + 1 } hp Ext0.tok repI
  show wpAny _ _ (call (.builtin "len") [.str ⟨x.toArray⟩ t]) Q E s
  refine PyProof.Rows.len_str (x := ⟨x.toArray⟩) (s := s) ?_ (by rw [e]; exact q)
  rw [e]
  generalize x.length = n at hz
  omega
theorem op_len_lst (hz : l.length ≤ 10000000) (hp : P (.int l.length)) : Op c (fun vs => call (.builtin "len") vs) [.lst l] P := Op.of fun A s H E Q vs hn hu _ hg ho hr hq => by
  simp only [RepL, Rep] at hr
  obtain ⟨_, _, rfl, ⟨a, vs, n, rfl, e, hl⟩, rfl⟩ := hr
  have hL := hl.length
  exact len_list (isList_of e) (by simp; omega) (hq _ _ _ hp Ext0.tok (by simp only [List.size_toArray, hL]; exact repI))
theorem op_abs (hp : P (.int i.natAbs)) : Op c (fun vs => call (.builtin "abs") vs) [.int i] P := Op.of fun A s H E Q vs hn hu _ hg ho hr hq => by
  obtain ⟨t, rfl⟩ := rep1_int hr
  exact call_abs_int fun u tk => hq _ _ _ hp Ext0.tok (by rw [show (if i < 0 then -i else i) = (i.natAbs : Int) by split <;> omega]; exact repI)
theorem op_ord {a : Nat} (hp : P (.int a)) : Op c (fun vs => call (.builtin "ord") vs) [.str [a]] P := Op.of fun A s H E Q vs hn hu _ hg ho hr hq => by
  obtain ⟨t, rfl⟩ := rep1_str hr
  exact PySem.P.ord_of_char (hq _ _ _ hp Ext0.tok repI)
theorem op_chr (h0 : 0 ≤ i) (h1 : i ≤ 1114111) (hp : P (.str [i.toNat])) : Op c (fun vs => call (.builtin "chr") vs) [.int i] P := Op.of fun A s H E Q vs hn hu _ hg ho hr hq => by
  obtain ⟨t, rfl⟩ := rep1_int hr
  exact chr_of_range h0 h1 (hq _ _ _ hp Ext0.tok (repS rfl))

/-- str of a small int -/
noncomputable def decNat (i : Int) : List Nat := (Str.ofString (toString i)).cps.toList
theorem op_str (h0 : 0 ≤ i) (h1 : i < 1000000) (hp : P (.str (decNat i))) : Op c (fun vs => call (.type "str") vs) [.int i] P := Op.of fun A s H E Q vs hn hu _ hg ho hr hq => by
  obtain ⟨t, rfl⟩ := rep1_int hr
  exact str_of_int_fit (N := 1000000) (by split <;> omega) (by omega) fun _ => hq _ _ _ hp Ext0.tok (repS rfl)
theorem op_find (hp : P (.int (Txt.find ⟨x.toArray⟩ ⟨y.toArray⟩))) : Op c (fun vs => call (.builtin "str.find") vs) [.str x, .str y] P := Op.of fun A s H E Q vs hn hu _ hg ho hr hq => by
  obtain ⟨t, u, rfl⟩ := rep2_str hr
  exact SC.find (hq _ _ _ hp Ext0.tok repI)

theorem notZero {i j : Int} (h : i ≠ j) : i ≠ j := h
/-- x.replace(y, z), the two given as fresh texts -/
theorem ev_replace {o : Expr} {Y Z : Str} {n1 n2 : Nat} {p1 p2 ap pos : Pos} (hyz : (Y == Z) = false) (hZ : Z.length ≤ 4)
    (h : Ev c k env σ o fun d => ∃ x, d = .str x ∧ x.length ≤ 1000000 ∧ P (.str (Txt.replace ⟨x.toArray⟩ Y Z).cps.toList))
    {pl : Sem Bool}
    (hev : eval (.Call (.Attribute o "replace" ap) [.Constant (.str Y) n1 p1, .Constant (.str Z) n2 p2] [] pos) env = (do
      let ov ← eval o env
      standAt ap.atName
      let (f, first) ← holding [ov] (getMethod ov "replace" pl)
      callWith pos f first (backTo pos (starEach [.Constant (.str Y) n1 p1, .Constant (.str Z) n2 p2] env)) []) := by rfl) :
    Ev c k env σ (.Call (.Attribute o "replace" ap) [.Constant (.str Y) n1 p1, .Constant (.str Z) n2 p2] [] pos) P := by
  intro A s H E Q x hq
  refine MethodCall_ (pl := pl) (h A s H E _ x fun d v s₁ hr ee hv => ?_) hev
  obtain ⟨y, rfl, hz, hr⟩ := hr
  have hv' := hv
  simp only [Rep] at hv'
  obtain ⟨t, rfl⟩ := hv'
  have hT : s₁.TypeIs (.str ⟨y.toArray⟩ t) "str" := typeIs_str s₁ _ t
  have htk : 0 < s₁.toks := (x.ext ee).tk
  have q : wpAny (model c.prog c.w) A (callWith pos (.builtin "str.replace") [.str ⟨y.toArray⟩ t] (backTo pos (starEach [.Constant (.str Y) n1 p1, .Constant (.str Z) n2 p2] env)) []) Q E s₁ := by
    refine callWith_method1 (args_cons (Calls.Constant_str (args_cons (Calls.Constant_str (args_nil ?_))))) rfl rfl
    have b : wpAny (model c.prog c.w) A (call (.builtin "str.replace") [.str ⟨y.toArray⟩ t, .str Y s₁.toks, .str Z (s₁.toks + 1)]) Q E { s₁ with toks := s₁.toks + 1 + 1 } := by
      refine wpAny_with_toks (Nat.le_refl _) (SC.replace (Nat.pos_iff_ne_zero.mp htk) (Nat.succ_ne_zero _) (Nat.ne_of_lt (Nat.lt_succ_self _)) hyz ?_ fun t' k' => fun htk => ?_)
      · have e : (⟨y.toArray⟩ : Str).length = y.length := by simp [Str.length]
        rw [e]
        have h1 : (y.length + 1) * Z.length ≤ (y.length + 1) * 4 := Nat.mul_le_mul_left _ hZ
        omega
      · refine hq _ _ _ hr (ee.trans (Ext.tok ?_)) (repS rfl)
        have : s₁.toks + 1 + 1 ≤ k' := htk
        omega
    exact b
  have z := @getMethod_builtin (model c.prog c.w) A E s₁ (.str ⟨y.toArray⟩ t) "str" "replace" "str.replace" pl (fun fx s₂ => wpAny (model c.prog c.w) A (callWith pos fx.1 fx.2 (backTo pos (starEach [.Constant (.str Y) n1 p1, .Constant (.str Z) n2 p2] env)) []) Q E s₂) hT F.plainAttrs_str F.slot_str_replace F.type_str_replace GM.noRef q
  with_reducible exact z
end
end
section

/-- Python's l[lo:hi] -/
noncomputable def sl {α : Type} (l : List α) (lo hi : Option Int) : List α :=
  (l.drop (lo.elim 0 (clipAt l.length))).take (hi.elim l.length (clipAt l.length) - lo.elim 0 (clipAt l.length))
theorem sl_upto {α : Type} (l : List α) (n : Nat) : sl l none (some (n : Int)) = l.take n := by
  simp only [sl, Option.elim, clipAt_nat, List.drop_zero, Nat.sub_zero]
  rcases Nat.le_total n l.length with h | h
  · rw [Nat.min_eq_left h]
  · rw [Nat.min_eq_right h, List.take_of_length_le (Nat.le_refl _), List.take_of_length_le h]
theorem sl_from {α : Type} (l : List α) (n : Nat) : sl l (some (n : Int)) none = l.drop n := by
  simp only [sl, Option.elim, clipAt_nat]
  rcases Nat.le_total n l.length with h | h
  · rw [Nat.min_eq_left h, List.take_of_length_le (by simp)]
  · rw [Nat.min_eq_right h, List.drop_of_length_le (Nat.le_refl _), List.drop_of_length_le h]; simp
theorem sl_mid {α : Type} (l : List α) (a b : Nat) : sl l (some (a : Int)) (some (b : Int)) = (l.drop a).take (b - a) := by
  simp only [sl, Option.elim, clipAt_nat]
  rcases Nat.le_total a l.length with h | h
  · rw [Nat.min_eq_left h]
    rcases Nat.le_total b l.length with h' | h'
    · rw [Nat.min_eq_left h']
    · rw [Nat.min_eq_right h', List.take_of_length_le (by simp), List.take_of_length_le (by simp; omega)]
  · rw [Nat.min_eq_right h, List.drop_of_length_le (Nat.le_refl _), List.drop_of_length_le h]; simp
theorem sl_butlast {α : Type} (l : List α) (k : Nat) (hk : 1 ≤ k) : sl l none (some (-(k : Int))) = l.take (l.length - k) := by
  simp only [sl, Option.elim, clipAt_neg _ _ hk, List.drop_zero, Nat.sub_zero]
theorem sl_length_le {α : Type} (l : List α) (lo hi : Option Int) : (sl l lo hi).length ≤ l.length := by
  simp only [sl, List.length_take, List.length_drop]; omega

theorem clip_le (n : Nat) (i : Int) : clipAt n i ≤ n := by
  have := clipAt_cast n i; omega
theorem strSlice_eq (lo hi : Option Int) (n : Nat) : Builtin.Str.strSliceIndices lo hi 1 n = (List.range (hi.elim n (clipAt n) - lo.elim 0 (clipAt n))).map (lo.elim 0 (clipAt n) + ·) := by
  rw [← sliceRange_one]
  unfold Builtin.Str.strSliceIndices
  cases lo <;> cases hi <;> simp [clipAt_cast]
theorem sliceMade_post {x : List Nat} {t : Tok} {l u : Option (Int × Tok)} {Q : Value → Shared → Prop} {s : Shared} (hz : x.length ≤ 10000000)
    (h : ∀ y t' tk, y.cps.toList = sl x (l.map (·.1)) (u.map (·.1)) → Q (.str y t') { s with toks := tk }) : (sliceMade ⟨x.toArray⟩ t l u none).post Q s := by
  have e0 : (⟨x.toArray⟩ : Str).length = x.length := by simp [Str.length]
  have ep : slicePicked ⟨x.toArray⟩ l u none = (List.range ((u.map (·.1)).elim x.length (clipAt x.length) - (l.map (·.1)).elim 0 (clipAt x.length))).map ((l.map (·.1)).elim 0 (clipAt x.length) + ·) := by
    unfold slicePicked
    rw [e0]
    exact strSlice_eq _ _ _
  have em : ((slicePicked ⟨x.toArray⟩ l u none).filterMap ((⟨x.toArray⟩ : Str).cps[·]?)) = sl x (l.map (·.1)) (u.map (·.1)) := by
    rw [ep]
    exact pick_run x.toArray _ _
  unfold sliceMade
  split
  · rename_i hc
    refine h ⟨x.toArray⟩ t s.toks ?_
    simp only [Option.map_none, Option.getD_none, beq_self_eq_true, Bool.true_and, beq_iff_eq] at hc
    rw [ep, e0] at hc
    simp only [List.length_map, List.length_range] at hc
    have h1 : (l.map (·.1)).elim 0 (clipAt x.length) ≤ x.length := by cases (l.map (·.1)) <;> simp [clip_le]
    have h2 : (u.map (·.1)).elim x.length (clipAt x.length) ≤ x.length := by cases (u.map (·.1)) <;> simp [clip_le]
    unfold sl
    rw [hc]
    by_cases hx : x.length = 0
    · have : x = [] := List.eq_nil_of_length_eq_zero hx
      subst this; simp
    · have : (l.map (·.1)).elim 0 (clipAt x.length) = 0 := by omega
      rw [this]; simp
  · refine ⟨?_, h _ _ _ em⟩
    rw [sizeLine_eq]
    simp only [Str.length, List.size_toArray]
    rw [em]
    have := sl_length_le x (l.map (·.1)) (u.map (·.1))
    omega

section
variable {c : Cx} {k : Nat} {env : Env} {σ : Loc} {P : D → Prop}

/-- a place of a list that was just made: nobody else has it -/
noncomputable def EvN (c : Cx) (k : Nat) (env : Env) (σ : Loc) (e : Expr) (P : List D → Prop) : Prop :=
  ∀ (A : Around) (s : Shared) (H : List Addr) (E : Value → Shared → Prop) (Q : Value → Shared → Prop), At c k env σ H A s →
    (∀ l a vs n s', P l → Ext s s' → s.heap.get? a = none → s'.heap.get? a = some (listOf (List.toArray vs) n) → RepL (hid (a :: H) s'.heap) l vs → Q (.ref a) s') → wpAny (model c.prog c.w) A (eval e env) Q E s
theorem ev_fresh {e : Expr} (h : EvN c k env σ e fun l => P (.lst l)) : Ev c k env σ e P := fun A s H E Q a hq =>
  h A s H E Q a fun l b vs n s' hp e hb hb' hr => hq _ _ s' hp e (by
    simp only [Rep]
    exact ⟨b, vs, n, rfl, hid_new (fun a' m => a.ho a' m) hb hb', hr.mono (hid_weaken fun x m => List.mem_cons_of_mem _ m)⟩)

noncomputable def EvP (c : Cx) (k : Nat) (env : Env) (σ : Loc) (e : Option Expr) (P : Option Int → Prop) : Prop := match e with
  | none => P none
  | some e => Ev c k env σ e fun d => ∃ i, d = .int i ∧ P (some i)
theorem evp_none {P : Option Int → Prop} (h : P none) : EvP c k env σ none P := h
theorem evp_some {e : Expr} {P : Option Int → Prop} (h : Ev c k env σ e fun d => ∃ i, d = .int i ∧ P (some i)) : EvP c k env σ (some e) P := h
theorem EvP.at {e : Option Expr} {P : Option Int → Prop} (h : EvP c k env σ e P) {A : Around} {s : Shared} {H : List Addr} {E : Value → Shared → Prop} {Q : Value → Shared → Prop} (a : At c k env σ H A s)
    (hq : ∀ (p : Option (Int × Tok)) s', P (p.map (·.1)) → Ext s s' → Q (partValue p) s') : wpAny (model c.prog c.w) A (evalPart e env) Q E s := by
  cases e with
  | none => rw [evalPart_none]; exact wpAny_pure (hq none s h (Ext.refl s))
  | some e =>
    refine wpAny_evalPart_some (h A s H E _ a fun d v s' hr ee hv => ?_)
    obtain ⟨i, rfl, hp⟩ := hr
    simp only [Rep] at hv
    obtain ⟨t, rfl⟩ := hv
    exact hq (some (i, t)) s' hp ee

theorem Ext.pushed {s s' : Shared} (e : Ext s s') (o : Obj) : Ext s { s' with heap := s'.heap.push o } :=
  e.trans ⟨⟨_, _, rfl, fun _ _ x => Heap.get?_push_of_some _ x⟩, Nat.le_refl _⟩
theorem Ext.fresh {s s' : Shared} (e : Ext s s') {b : Addr} (h : s'.heap.objs.size ≤ b) : s.heap.get? b = none := by
  cases hq : s.heap.get? b with
  | none => rfl
  | some o => exact absurd (Heap.lt_size (e.keeps _ _ hq)) (Nat.not_lt.mpr h)
theorem isPart (p : Option (Int × Tok)) : IsPart (partValue p) (p.map (·.1)) := by
  cases p with
  | none => exact .none
  | some q => exact .int _ _

theorem ev_slice_str {value : Expr} {lo hi : Option Expr} {p pos : Pos}
    (h : Ev c k env σ value fun d => ∃ x, d = .str x ∧ x.length ≤ 10000000 ∧ EvP c k env σ lo fun a => EvP c k env σ hi fun b => P (.str (sl x a b))) :
    Ev c k env σ (.Subscript value (.Slice lo hi none p) pos) P := by
  intro A s H E Q a hq
  refine Subscript_ (h A s H E _ a fun d v s₁ hr e hv => ?_)
  obtain ⟨x, rfl, hz, hr⟩ := hr
  simp only [Rep] at hv
  obtain ⟨t, rfl⟩ := hv
  refine wpAny_Slice (hr.at (a.ext e) fun pl s₂ hr e2 => EvP.at hr (a.ext (e.trans e2)) fun pu s₃ hp e3 => ?_)
  rw [evalPart_none]
  refine wpAny_pure ?_
  have e' := e.trans (e2.trans e3)
  refine tail_any (typeIs_str _ _ t) F.slot_str_getitem.lookup (ops := [.ref s₃.heap.objs.size, .str ⟨x.toArray⟩ t])
    (wpAny_with_toks (Nat.le_refl _) (wpAny_getItem_str_slice (l := pl) (u := pu) (st := none) ⟨_, Heap.get?_push_size _ rfl, rfl, rfl⟩ rfl (sliceMade_post hz fun y t' tk hy => fun htk => ?_))) rfl
  exact hq _ _ _ hp ((e'.pushed _).trans (Ext.tok htk)) (repS hy)

theorem ev_slice_lst {value : Expr} {lo hi : Option Expr} {p pos : Pos}
    (h : Ev c k env σ value fun d => ∃ x, (d = .lst x ∨ d = .lsx x) ∧ x.length ≤ 10000000 ∧ EvP c k env σ lo fun a => EvP c k env σ hi fun b => P (.lst (sl x a b))) :
    Ev c k env σ (.Subscript value (.Slice lo hi none p) pos) P := by
  intro A s H E Q a hq
  refine Subscript_ (h A s H E _ a fun d v s₁ hr e hv => ?_)
  obtain ⟨x, hd, hz, hr⟩ := hr
  obtain ⟨b, vs, o, n, rfl, hb, hc, hdt, hvs⟩ : ∃ b vs o n, v = .ref b ∧ hid H s₁.heap b = some o ∧ o.cls = .type "list" ∧ o.data = .seq (List.toArray vs) n ∧ RepL (hid H s₁.heap) x vs := by
    rcases hd with rfl | rfl
    · simp only [Rep] at hv; obtain ⟨b, vs, n, e1, e2, e3⟩ := hv; exact ⟨b, vs, _, n, e1, e2, rfl, rfl, e3⟩
    · simp only [Rep] at hv; obtain ⟨b, o, vs, n, e1, e2, e3, e4, e5⟩ := hv; exact ⟨b, vs, o, n, e1, e2, e3, e4, e5⟩
  refine wpAny_Slice (hr.at (a.ext e) fun pl s₂ hr e2 => EvP.at hr (a.ext (e.trans e2)) fun pu s₃ hp e3 => ?_)
  rw [evalPart_none]
  refine wpAny_pure ?_
  have e' := e.trans (e2.trans e3)
  have hL : s₃.heap.IsList b vs.toArray := ⟨o, (e2.trans e3).keeps _ _ (hid_old hb), hc, n, hdt⟩
  have hlen := hvs.length
  refine tail_any (Heap.IsList.typeIs (s := { s₃ with heap := s₃.heap.push _ }) (hL.push _)) slot_list_getitem.lookup (ops := [.ref s₃.heap.objs.size, .ref b])
    (wpAny_getItem_list_slice (lo := pl.map (·.1)) (hi := pu.map (·.1)) (st := none) (hL.push _) (Heap.IsSliceOf.new ..) (isPart pl) (isPart pu) .none (by simp) ?_ (by simp only [List.size_toArray]; rw [sizeLine_eq]; omega)) rfl
  have ee := (e'.pushed { cls := .type "slice", data := .fields #[partValue pl, partValue pu, .none] }).pushed { cls := .type "list", data := .seq (slicePick vs.toArray (pl.map (·.1)) (pu.map (·.1)) none) }
  refine hq _ _ _ hp ee ?_
  simp only [Rep]
  refine ⟨_, _, 0, rfl, hid_new (h := s.heap) a.ho ?_ ((Heap.get?_push_size _ rfl).trans (congrArg some (congrArg (fun z => listOf z 0) (slicePick_plain vs.toArray (pl.map (·.1)) (pu.map (·.1)))))), ?_⟩
  · exact e'.fresh (by rw [Heap.size_push]; exact Nat.le_succ _)
  · have r := (hvs.mono ((e2.trans e3).hid H)).drop ((pl.map (·.1)).elim 0 (clipAt x.length))
    have r := r.take ((pu.map (·.1)).elim x.length (clipAt x.length) - (pl.map (·.1)).elim 0 (clipAt x.length))
    have e4 := ((Ext.refl s₃).pushed { cls := .type "slice", data := .fields #[partValue pl, partValue pu, .none] }).pushed { cls := .type "list", data := .seq (slicePick vs.toArray (pl.map (·.1)) (pu.map (·.1)) none) }
    simpa only [sl, List.size_toArray, hlen] using r.mono (e4.hid H)

/-! ## items -/
theorem ev_sub {value slice : Expr} {pos : Pos} (h : Ev c k env σ value fun a => Ev c k env σ slice fun b => Op c (fun vs => subscriptTail value slice (vs.getD 0 .none) (vs.getD 1 .none)) [a, b] P) : Ev c k env σ (.Subscript value slice pos) P :=
  fun A s H E Q a hq => Subscript_ (h A s H E _ a fun d v s₁ hr e hv => hr A s₁ H E _ (a.ext e) fun d' v' s₂ ho e' hv' =>
    ho.at (vs := [v, v']) (a.ext (e.trans e')) (RepL.cons (hv.mono (e'.hid H)) (RepL.single hv')) fun d'' v'' s₃ hp e'' hv'' => hq d'' v'' s₃ hp (e.trans (e'.trans e'')) hv'')
variable {value slice : Expr} {l : List D} {i : Int} {d : D} {x : List Nat}
/-- Python's place i of n -/
noncomputable def idx (i : Int) (n : Nat) : Nat := if i < 0 then (i + n).toNat else i.toNat
theorem op_item_lst (hi : -(l.length : Int) ≤ i ∧ i < l.length) (hz : l.length ≤ 10000000) (hd : l[idx i l.length]? = some d) (hp : P d) (hs : ∀ o j, subscripted slice false o j = operate [o, j] (getItem o j) := by intro _ _; rfl) :
    Op c (fun vs => subscriptTail value slice (vs.getD 0 .none) (vs.getD 1 .none)) [.lst l, .int i] P := Op.of fun A s H E Q vs hn hu _ hg ho hr hq => by
  simp only [RepL, Rep] at hr
  obtain ⟨_, _, rfl, ⟨a, vs, n, rfl, e, hl⟩, _, _, rfl, ⟨t, rfl⟩, rfl⟩ := hr
  obtain ⟨v, hv, hr⟩ := hl.get hd
  have hL := hl.length
  have q : Q v s := hq _ _ _ hp (Ext0.refl s) hr
  unfold idx at hv
  refine tail_any (isList_of e).typeIs slot_list_getitem.lookup ?_ (hs _ _)
  show wpAny _ _ (getItem (.ref a) (.int i t)) Q E s
  by_cases h0 : i < 0
  · rw [if_pos h0] at hv
    exact wpAny_getItem_list_neg (isList_of e) h0 (by simp only [List.size_toArray]; omega) (by omega) (by simp only [List.size_toArray, hL]; simpa using hv) q
  · rw [if_neg h0] at hv
    exact wpAny_getItem_list (isList_of e) (by omega) (by omega) (by simpa using hv) q
theorem seqIndex_pos {i : Int} {n : Nat} (h0 : 0 ≤ i) (h1 : i < n) : seqIndex? i n = some i.toNat := by
  unfold seqIndex?
  have a : ¬ i < 0 := by omega
  simp only [a, if_false]
  rw [if_pos (by simp only [Bool.and_eq_true, decide_eq_true_eq]; omega)]
theorem op_item_tup (hi : 0 ≤ i ∧ i < l.length) (hz : l.length ≤ 10000000) (hd : l[i.toNat]? = some d) (hp : P d) (hs : ∀ o j, subscripted slice false o j = operate [o, j] (getItem o j) := by intro _ _; rfl) :
    Op c (fun vs => subscriptTail value slice (vs.getD 0 .none) (vs.getD 1 .none)) [.tup l, .int i] P := Op.of fun A s H E Q vs hn hu _ hg ho hr hq => by
  simp only [RepL, Rep] at hr
  obtain ⟨_, _, rfl, ⟨a, o, vs, n, rfl, e, hc, hdt, hl⟩, _, _, rfl, ⟨t, rfl⟩, rfl⟩ := hr
  obtain ⟨v, hv, hr⟩ := hl.get hd
  have hL := hl.length
  have q : Q v s := hq _ _ _ hp (Ext0.refl s) hr
  have ht : IsTup s.heap a vs.toArray := ⟨o, hid_old e, hc, n, hdt⟩
  refine tail_any ht.typeIs slot_tuple_getitem.lookup ?_ (hs _ _)
  show wpAny _ _ (getItem (.ref a) (.int i t)) Q E s
  refine getItem_tuple (j := i.toNat) ht (by omega) (by omega) ?_ (by simpa using hv) q
  rw [List.size_toArray, hL]
  exact seqIndex_pos hi.1 hi.2
theorem op_item_str {a : Nat} (hi : 0 ≤ i ∧ i < x.length) (hz : x.length ≤ 10000000) (hd : x[i.toNat]? = some a) (hp : P (.str [a])) (hs : ∀ o j, subscripted slice false o j = operate [o, j] (getItem o j) := by intro _ _; rfl) :
    Op c (fun vs => subscriptTail value slice (vs.getD 0 .none) (vs.getD 1 .none)) [.str x, .int i] P := Op.of fun A s H E Q vs hn hu _ hg ho hr hq => by
  simp only [RepL, Rep] at hr
  obtain ⟨_, _, rfl, ⟨u, rfl⟩, _, _, rfl, ⟨t, rfl⟩, rfl⟩ := hr
  refine tail_any (typeIs_str s _ u) F.slot_str_getitem.lookup ?_ (hs _ _)
  show wpAny _ _ (getItem (.str ⟨x.toArray⟩ u) (.int i t)) Q E s
  refine PySem.P.getItem_str (c := a) ?_ ?_ (hq _ _ _ hp Ext0.tok (repS rfl))
  · rw [decide_eq_false (by omega), decide_eq_false (by omega)]; rfl
  · rw [show (⟨x.toArray⟩ : Str).length = x.length by simp [Str.length], seqIndex_pos hi.1 hi.2]
    simpa using hd

/-! ## displays -/
theorem ev_tuple {es : List Expr} {n : Nat} {pos : Pos} (h : Evs c k env σ es fun ds => ds.length ≤ 10000000 ∧ P (.tup ds)) : Ev c k env σ (.Tuple es n pos) P := by
  intro A s H E Q a hq
  refine Tuple_ (h A s H pos E _ a fun ds vs s₁ hr e hvs => ?_)
  have hL := hvs.length
  refine wpAny_newObj_type ?_ (by show vs.toArray.size ≤ sizeLine; rw [List.size_toArray, sizeLine_eq]; omega)
  refine hq _ _ _ hr.2 (e.pushed _) ?_
  simp only [Rep]
  exact ⟨_, _, vs, 0, rfl, hid_new (h := s.heap) a.ho (e.fresh (Nat.le_refl _)) (Heap.get?_push_size _ rfl), rfl, rfl, hvs.mono (((Ext.refl s₁).pushed _).hid H)⟩
theorem hid_cons {a : Addr} {H : List Addr} {h h' : Heap} (n : h.get? a = none) (s : Sub (hid H h) (hid H h')) : Sub (hid H h) (hid (a :: H) h') := fun b o e => by
  have hb : b ≠ a := by
    rintro rfl
    have := hid_old e
    rw [n] at this; cases this
  have := s b o e
  unfold hid at this ⊢
  split at this
  · cases this
  · rename_i hm
    rw [if_neg (by simp [hb, hm])]; exact this
theorem evn_list {es : List Expr} {pos : Pos} {P : List D → Prop} (h : Evs c k env σ es fun ds => ds.length ≤ 10000000 ∧ P ds) : EvN c k env σ (.List es pos) P := by
  intro A s H E Q a hq
  refine List_ (h A s H pos E _ a fun ds vs s₁ hr e hvs => ?_)
  have hL := hvs.length
  refine wpAny_newObj_type ?_ (by show vs.toArray.size ≤ sizeLine; rw [List.size_toArray, sizeLine_eq]; omega)
  have hf : s₁.heap.get? s₁.heap.objs.size = none := Heap.get?_none_of_le (Nat.le_refl _)
  exact hq _ _ vs 0 _ hr.2 (e.pushed _) (e.fresh (Nat.le_refl _)) (Heap.get?_push_size _ rfl) (hvs.mono (hid_cons hf (((Ext.refl s₁).pushed _).hid H)))
/-- a list and a list -/
theorem evn_add {a b : Expr} {pos : Pos} {P : List D → Prop} (h : Ev c k env σ a fun x => Ev c k env σ b fun y => ∃ l m, x = .lst l ∧ y = .lst m ∧ l.length + m.length ≤ 10000000 ∧ P (l ++ m)) : EvN c k env σ (.BinOp a .Add b pos) P := by
  intro A s H E Q x hq
  refine wpAny_BinOp (h A s H E _ x fun d v s₁ hr e hv => hr A s₁ H E _ (x.ext e) fun d' v' s₂ ho e' hv' => ?_)
  obtain ⟨l, m, rfl, rfl, hz, hp⟩ := ho
  simp only [Rep] at hv hv'
  obtain ⟨b1, vs, n, rfl, hb, hl⟩ := hv
  obtain ⟨b2, us, n', rfl, hb', hm⟩ := hv'
  have h1 := hl.length
  have h2 := hm.length
  refine PySem.P.add_list (hid_old (e'.hid H _ _ hb)) (hid_old hb') ?_ (by simp only [List.size_toArray]; rw [sizeLine_eq]; omega)
  have hf : s₂.heap.get? s₂.heap.objs.size = none := Heap.get?_none_of_le (Nat.le_refl _)
  refine hq _ _ (vs ++ us) 0 _ hp ((e.trans e').pushed _) ((e.trans e').fresh (Nat.le_refl _)) ((Heap.get?_push_size _ rfl).trans (by simp)) ?_
  exact (RepL.append (hl.mono (e'.hid H)) hm).mono (hid_cons hf (((Ext.refl s₂).pushed _).hid H))
end
end
section

noncomputable def delL {α : Type} (x : Str) (l : List (Str × α)) : List (Str × α) := l.filter fun p => !(p.1 == x)
noncomputable def bor (σ : Loc) (ω : Own) : Loc := ω.map (fun p => (p.1, D.lst p.2)) ++ σ

theorem lookup_del {α : Type} {x y : Str} {l : List (Str × α)} {d : α} (h : (delL x l).lookup y = some d) : y ≠ x ∧ l.lookup y = some d := by
  induction l with
  | nil => cases h
  | cons p r ih =>
    unfold delL at h
    rw [List.filter_cons] at h
    by_cases hx : p.1 = x
    · rw [if_neg (by simp [hx])] at h
      obtain ⟨a, b⟩ := ih h
      refine ⟨a, ?_⟩
      rw [List.lookup_cons]
      have : (y == p.1) = false := by rw [beq_eq_false_iff_ne, hx]; exact a
      rw [this]; exact b
    · rw [if_pos (by simp [hx])] at h
      rw [List.lookup_cons] at h ⊢
      by_cases hy : (y == p.1) = true
      · rw [hy] at h ⊢
        refine ⟨?_, h⟩
        rw [beq_iff_eq] at hy
        rw [hy]; exact hx
      · have hy' : (y == p.1) = false := by simpa using hy
        rw [hy'] at h ⊢
        exact ih h

section
variable {c : Cx} {k : Nat} {env : Env} {σ : Loc} {ω : Own} {Ho Hx : List Addr} {s s' : Shared} {A : Around}

theorem OwnR.mono {g g' : Mem} {h h' : Heap} (sg : Sub g g') : ∀ {ω : Own} {H : List Addr}, (∀ a ∈ H, ∀ o, h.get? a = some o → h'.get? a = some o) → (∀ x v, Has env h x v → Has env h' x v) → OwnR env g h ω H → OwnR env g' h' ω H
  | [], _, _, _, q => by simp only [OwnR] at q ⊢; exact q
  | (x, l) :: ω, _, kk, hh, q => by
    simp only [OwnR] at q ⊢
    obtain ⟨a, r, vs, n, rfl, h1, h2, h3, h4, h5⟩ := q
    exact ⟨a, r, vs, n, rfl, h1, hh _ _ h2, kk a (.head _) _ h3, h4.mono sg, OwnR.mono sg (fun b m => kk b (.tail _ m)) hh h5⟩
theorem OwnR.lists {g : Mem} {h : Heap} : ∀ {ω : Own} {H : List Addr}, OwnR env g h ω H → ∀ a ∈ H, ∃ vs n, h.get? a = some (listOf (List.toArray vs) n)
  | [], _, q, a, m => by simp only [OwnR] at q; subst q; cases m
  | (x, l) :: ω, _, q, a, m => by
    simp only [OwnR] at q
    obtain ⟨b, r, vs, n, rfl, h1, h2, h3, h4, h5⟩ := q
    cases m with
    | head => exact ⟨vs, n, h3⟩
    | tail _ m => exact h5.lists a m

theorem St.gl (x : St c env σ ω Ho Hx s) : Gl c s.heap := let ⟨g, a, b⟩ := x.gb; a.mono fun p o e => (b p o e).1
theorem St.kL (x : St c env σ ω Ho Hx s) : c.K.lookup env.locals = none := by
  obtain ⟨g, a, b⟩ := x.gb
  cases e : c.K.lookup env.locals with
  | none => rfl
  | some o => exact absurd rfl (b _ o (a.k _ _ e)).2.1
theorem St.kO (x : St c env σ ω Ho Hx s) : ∀ p ∈ Ho, c.K.lookup p = none := fun p m => by
  obtain ⟨g, a, b⟩ := x.gb
  cases e : c.K.lookup p with
  | none => rfl
  | some o => exact absurd m (b _ o (a.k _ _ e)).2.2
theorem St.notL (x : St c env σ ω Ho Hx s) : env.locals ∉ Ho := fun m => by
  obtain ⟨vs, n, e⟩ := x.own.lists _ m
  obtain ⟨mm, o, es, ep, ho, hd, _⟩ := x.ns
  rw [e] at ho
  cases ho
  cases hd
theorem St.at (x : St c env σ ω Ho Hx s) (ok : Ok k A) : At c k env σ (env.locals :: (Ho ++ Hx)) A s :=
  ⟨ok, x.eo, x.gl, fun a m => by
    rcases List.mem_cons.mp m with rfl | m
    · obtain ⟨_, o, _, _, ho, _⟩ := x.ns; exact ⟨o, ho⟩
    · exact x.ok a m, x.loc, x.tk, fun a m => by
    rcases List.mem_cons.mp m with rfl | m
    · exact x.kL
    · rcases List.mem_append.mp m with m | m
      · exact x.kO a m
      · exact x.kx a m⟩

theorem own_bor {g : Mem} {h : Heap} {L : Addr} {Hx : List Addr} (hL : ∀ vs n, h.get? L ≠ some (listOf vs n)) (sg : Sub g (hid (L :: Hx) h)) : ∀ {ω : Own} {H : List Addr}, (∀ a ∈ H, a ∉ Hx) → OwnR env g h ω H →
    ∀ x d, (ω.map (fun p => (p.1, D.lst p.2))).lookup x = some d → ∃ v, Has env h x v ∧ Rep (hid (L :: Hx) h) d v
  | [], _, _, _, x, d, e => by cases e
  | (y, l) :: ω, H, hx, q, x, d, e => by
    simp only [OwnR] at q
    obtain ⟨a, r, vs, n, rfl, h1, h2, h3, h4, h5⟩ := q
    rw [List.map_cons, List.lookup_cons] at e
    by_cases hxy : (x == y) = true
    · simp only [hxy] at e
      cases e
      rw [beq_iff_eq] at hxy
      subst hxy
      refine ⟨_, h2, ?_⟩
      simp only [Rep]
      refine ⟨a, vs, n, rfl, ?_, h4.mono sg⟩
      unfold hid
      rw [if_neg]; exact h3
      intro m
      rcases List.mem_cons.mp m with rfl | m
      · exact hL _ _ h3
      · exact hx a (.head _) m
    · simp only [hxy] at e
      exact own_bor hL sg (fun b m => hx b (.tail _ m)) h5 x d e
theorem lookup_app {α : Type} {x : Str} {d : α} : ∀ {l l' : List (Str × α)}, (l ++ l').lookup x = some d → l.lookup x = some d ∨ l'.lookup x = some d
  | [], _, h => .inr h
  | p :: r, l', h => by
    rw [List.cons_append, List.lookup_cons] at h
    rw [List.lookup_cons]
    split at h
    · exact .inl h
    · exact lookup_app h
theorem St.noList (x : St c env σ ω Ho Hx s) (vs : Array Value) (n : Nat) : s.heap.get? env.locals ≠ some (listOf vs n) := fun e => by
  obtain ⟨mm, o, es, ep, ho, hd, _⟩ := x.ns
  rw [e] at ho
  cases ho
  cases hd
theorem hid_less {L : Addr} {Ho Hx : List Addr} {h : Heap} : Sub (hid (L :: (Ho ++ Hx)) h) (hid (L :: Hx) h) := hid_weaken fun b m => by
  rcases List.mem_cons.mp m with rfl | m
  · exact .head _
  · exact .tail _ (List.mem_append_right _ m)
theorem St.bor (x : St c env σ ω Ho Hx s) (ok : Ok k A) : At c k env (bor σ ω) (env.locals :: Hx) A s :=
  ⟨ok, x.eo, x.gl, fun a m => by
    rcases List.mem_cons.mp m with rfl | m
    · obtain ⟨_, o, _, _, ho, _⟩ := x.ns; exact ⟨o, ho⟩
    · exact x.ok a (List.mem_append_right _ m), fun y d e => by
      rcases lookup_app e with e | e
      · exact own_bor x.noList hid_less x.ap x.own y d e
      · obtain ⟨v, a, b⟩ := x.loc y d e
        exact ⟨v, a, b.mono hid_less⟩, x.tk, fun a m => by
    rcases List.mem_cons.mp m with rfl | m
    · exact x.kL
    · exact x.kx a m⟩
theorem St.ext (x : St c env σ ω Ho Hx s) (e : Ext s s') : St c env σ ω Ho Hx s' :=
  ⟨let ⟨g, a, b⟩ := x.gb; ⟨g, a, fun p o q => let ⟨q1, q2, q3⟩ := b p o q; ⟨e.keeps _ _ q1, q2, q3⟩⟩, let ⟨m, h⟩ := x.ns; ⟨m, h.keeps e.keeps⟩, x.ok.mono e.keeps, x.loc.mono (e.hid _) e.keeps, x.own.mono (e.hid _) (fun a _ o q => e.keeps a o q) (fun y v q => q.mono e.keeps), x.nd, x.ap, (fun y b q => let ⟨q1, o, v, q2, q3⟩ := x.cl y b q; ⟨q1, o, v, e.keeps _ _ q2, q3⟩), Nat.lt_of_lt_of_le x.tk e.2, x.eo, x.kx⟩

theorem Keep.ofExt {L : Addr} (e : Ext s s') : Keep L Ho s s' Ho := ⟨let ⟨⟨h, t, q, _⟩, _⟩ := e; ⟨h, t, q⟩, e.2, fun b o _ hb q => ⟨e.keeps b o q, hb⟩⟩
theorem Keep.trans {L : Addr} {Ho' Ho'' : List Addr} {s'' : Shared} (x : Keep L Ho s s' Ho') (y : Keep L Ho' s' s'' Ho'') : Keep L Ho s s'' Ho'' := by
  obtain ⟨⟨h, t, rfl⟩, x2, x3⟩ := x
  obtain ⟨⟨h', t', rfl⟩, y2, y3⟩ := y
  exact ⟨⟨h', t', rfl⟩, Nat.le_trans x2 y2, fun b o n m q => let ⟨q', m'⟩ := x3 b o n m q; y3 b o n m' q'⟩
theorem Keep.hid {L : Addr} {Ho' : List Addr} (x : Keep L Ho s s' Ho') : Sub (hid (L :: (Ho ++ Hx)) s.heap) (hid (L :: (Ho' ++ Hx)) s'.heap) := fun b o e => by
  unfold Mine.hid at e ⊢
  split at e
  · cases e
  · rename_i n
    have n1 : b ≠ L := fun q => n (q ▸ .head _)
    have n2 : b ∉ Ho := fun q => n (.tail _ (List.mem_append_left _ q))
    have n3 : b ∉ Hx := fun q => n (.tail _ (List.mem_append_right _ q))
    obtain ⟨e', n4⟩ := x.2.2 b o n1 n2 e
    rw [if_neg]; exact e'
    intro m
    rcases List.mem_cons.mp m with rfl | m
    · exact n1 rfl
    · rcases List.mem_append.mp m with m | m
      · exact n4 m
      · exact n3 m

/-! ## a name is stored -/
theorem Has.store {h h' : Heap} {x y : Str} {v w : Value} {m : Str → Option Value} (hs : Heap.SameBut env.locals h h') (hn : h.Ns env.locals m) (hn' : h'.Ns env.locals (fun z => if z = x then some v else m z))
    (cl : ∀ x b, env.cells.lookup x = some b → b ≠ env.locals) (hy : y ≠ x) (q : Has env h y w) : Has env h' y w := by
  rcases q with ⟨a, m', b, d⟩ | ⟨a, b, o, d, e, f⟩
  · refine .inl ⟨a, _, hn', ?_⟩
    rw [if_neg hy, hn.agree b y]; exact d
  · exact .inr ⟨a, b, o, d, (hs.2 b (cl y b d)).trans e, f⟩

theorem OwnR.store {g g' : Mem} {h h' : Heap} {x : Str} {v : Value} {m : Str → Option Value} (sg : Sub g g') (hs : Heap.SameBut env.locals h h') (hn : h.Ns env.locals m) (hn' : h'.Ns env.locals (fun z => if z = x then some v else m z))
    (cl : ∀ x b, env.cells.lookup x = some b → b ≠ env.locals) : ∀ {ω : Own} {H : List Addr}, (∀ a ∈ H, a ≠ env.locals) → OwnR env g h ω H → ∃ H', H'.Sublist H ∧ OwnR env g' h' (delL x ω) H'
  | [], H, _, q => ⟨[], List.nil_sublist _, by simp [delL, OwnR]⟩
  | (y, l) :: ω, H, hl, q => by
    simp only [OwnR] at q
    obtain ⟨a, r, vs, n, rfl, h1, h2, h3, h4, h5⟩ := q
    obtain ⟨H', sb, q'⟩ := OwnR.store sg hs hn hn' cl (fun b m => hl b (.tail _ m)) h5
    by_cases hy : y = x
    · refine ⟨H', .cons _ sb, ?_⟩
      unfold delL at q' ⊢
      rw [List.filter_cons, if_neg (by simp [hy])]
      exact q'
    · refine ⟨a :: H', .cons_cons _ sb, ?_⟩
      unfold delL at q' ⊢
      rw [List.filter_cons, if_pos (by simp [hy])]
      simp only [OwnR]
      exact ⟨a, H', vs, n, rfl, h1, h2.store hs hn hn' cl hy, (hs.2 a (hl a (.head _))).trans h3, h4.mono sg, q'⟩

theorem St.store {x : Str} {d : D} {v : Value} {m : Str → Option Value} {h' : Heap} {tk : Nat} (z : St c env σ ω Ho Hx s) (hk : env.kindOf x = some .local) (hn : s.heap.Ns env.locals m)
    (hn' : h'.Ns env.locals (fun z => if z = x then some v else m z)) (hs : Heap.SameBut env.locals s.heap h') (hv : Rep (hid (env.locals :: (Ho ++ Hx)) s.heap) d v) (htk : s.toks ≤ tk) :
    ∃ Ho', Keep env.locals Ho s { s with heap := h', toks := tk } Ho' ∧ St c env ((x, d) :: σ) (delL x ω) Ho' Hx { s with heap := h', toks := tk } := by
  have hb : ∀ b o, b ≠ env.locals → s.heap.get? b = some o → h'.get? b = some o := fun b o n e => (hs.2 b n).trans e
  have sg0 : Sub (hid (env.locals :: (Ho ++ Hx)) s.heap) (hid (env.locals :: (Ho ++ Hx)) h') := hid_mono fun b o n e => hb b o (fun q => n (q ▸ .head _)) e
  obtain ⟨Ho', sb, ho'⟩ := z.own.store (g' := hid (env.locals :: (Ho ++ Hx)) h') sg0 hs hn hn' (fun y b q => (z.cl y b q).1) (fun a m q => z.notL (q ▸ m))
  have sub : ∀ b, b ∈ Ho' → b ∈ Ho := fun b m => sb.subset m
  have sg : Sub (hid (env.locals :: (Ho ++ Hx)) h') (hid (env.locals :: (Ho' ++ Hx)) h') := hid_weaken fun b m => by
    rcases List.mem_cons.mp m with rfl | m
    · exact .head _
    · rcases List.mem_append.mp m with m | m
      · exact .tail _ (List.mem_append_left _ (sub b m))
      · exact .tail _ (List.mem_append_right _ m)
  refine ⟨Ho', ⟨⟨h', tk, rfl⟩, htk, fun b o n n2 e => ⟨hb b o n e, fun q => n2 (sub b q)⟩⟩, ?_⟩
  refine ⟨?_, ⟨_, hn'⟩, fun a m => ?_, fun y e hy => ?_, ho'.mono sg (fun a _ o q => q) (fun y w q => q), sb.nodup z.nd, fun a m => z.ap a (sub a m), (fun y b q => let ⟨q1, o, v, q2, q3⟩ := z.cl y b q; ⟨q1, o, v, hb _ _ q1 q2, q3⟩), Nat.lt_of_lt_of_le z.tk htk, z.eo, z.kx⟩
  · obtain ⟨g, a, b⟩ := z.gb
    exact ⟨g, a, fun p o q => let ⟨q1, q2, q3⟩ := b p o q; ⟨hb p o q2 q1, q2, fun m => q3 (sub p m)⟩⟩
  · rcases List.mem_append.mp m with m | m
    · obtain ⟨o, e⟩ := z.ok a (List.mem_append_left _ (sub a m))
      exact ⟨o, hb a o (fun q => z.notL (q ▸ sub a m)) e⟩
    · obtain ⟨o, e⟩ := z.ok a (List.mem_append_right _ m)
      by_cases q : a = env.locals
      · obtain ⟨o', _, _, e', _⟩ := hn'
        exact ⟨o', q ▸ e'⟩
      · exact ⟨o, hb a o q e⟩
  · rw [List.lookup_cons] at hy
    by_cases hxy : (y == x) = true
    · simp only [hxy] at hy
      cases hy
      rw [beq_iff_eq] at hxy
      subst hxy
      exact ⟨v, .inl ⟨hk, _, hn', by simp⟩, (hv.mono sg0).mono sg⟩
    · simp only [hxy] at hy
      obtain ⟨w, a, b⟩ := z.loc y e hy
      refine ⟨w, a.store hs hn hn' (fun y b q => (z.cl y b q).1) ?_, (b.mono sg0).mono sg⟩
      intro q; exact hxy (by rw [q]; exact beq_self_eq_true _)
end
end
section

section
variable {c : Cx} {k : Nat} {env : Env} {σ : Loc} {ω : Own} {Ho Hx : List Addr} {s s' : Shared} {A : Around} {P : Out → Prop} {x : Str}

theorem St.avoid (z : St c env σ ω Ho Hx s) {d : D} {v : Value} (n : noLst d = true) (h : Rep (hid (env.locals :: Hx) s.heap) d v) : Rep (hid (env.locals :: (Ho ++ Hx)) s.heap) d v :=
  Rep.avoid (fun b o e nl => by
    unfold hid at e ⊢
    split at e
    · cases e
    · rename_i m
      rw [if_neg]; exact e
      intro m'
      rcases List.mem_cons.mp m' with rfl | m'
      · exact m (.head _)
      · rcases List.mem_append.mp m' with m' | m'
        · obtain ⟨vs, n, e'⟩ := z.own.lists b m'
          rw [e] at e'
          cases e'
          exact nl rfl
        · exact m (.tail _ m')) n h
theorem EnvOk.store (e : EnvOk env) : (env.scope.kind == .class || (env.scope.kind == .module && env.locals != env.globals)) = false := by rw [e.k]; rfl
theorem Ok.mono {k k' : Nat} (h : Ok k A) (e : k' ≤ k) : Ok k' A := ⟨h.hn, by have := h.d; omega, by have := h.u; omega⟩

/-! ## the empty row, and one statement more -/
theorem ex_nil (h : P (.next σ ω)) : Ex c k env σ ω [] P := fun A s Ho Hx E Q ok z hq =>
  wpAny_execs_nil (hq _ _ s Ho h (Keep.ofExt (Ext.refl s)) ⟨rfl, z⟩)
theorem ex_cons {st : Stmt} {rest : List Stmt} (h : Ex1 c k env σ ω st (after c k env rest P)) : Ex c k env σ ω (st :: rest) P := fun A s Ho Hx E Q ok z hq =>
  wpAny_execs_cons (h A s Ho Hx E _ ok z fun o fl s' Ho' hp kp hr => by
    cases o with
    | next σ' ω' =>
      obtain ⟨rfl, z'⟩ := hr
      exact hp A s' Ho' Hx E Q ok z' fun o fl s'' Ho'' hp' kp' hr' => hq o fl s'' Ho'' hp' (kp.trans kp') hr'
    | brk σ' ω' => obtain ⟨rfl, z'⟩ := hr; exact hq _ _ s' Ho' hp kp ⟨rfl, z'⟩
    | cont σ' ω' => obtain ⟨rfl, z'⟩ := hr; exact hq _ _ s' Ho' hp kp ⟨rfl, z'⟩
    | ret d => obtain ⟨v, rfl, hv⟩ := hr; exact hq _ _ s' Ho' hp kp ⟨v, rfl, hv⟩)
theorem ex1_mono {st : Stmt} {P' : Out → Prop} (h : Ex1 c k env σ ω st P) (m : ∀ o, P o → P' o) : Ex1 c k env σ ω st P' := fun A s Ho Hx E Q ok z hq =>
  h A s Ho Hx E Q ok z fun o fl s' Ho' hp => hq o fl s' Ho' (m o hp)
theorem ex_mono {b : List Stmt} {P' : Out → Prop} (h : Ex c k env σ ω b P) (m : ∀ o, P o → P' o) : Ex c k env σ ω b P' := fun A s Ho Hx E Q ok z hq =>
  h A s Ho Hx E Q ok z fun o fl s' Ho' hp => hq o fl s' Ho' (m o hp)

/-- fewer names known -/
noncomputable def SubL (σ' σ : Loc) : Prop := ∀ x d, σ'.lookup x = some d → σ.lookup x = some d
theorem St.weaken {σ' : Loc} (z : St c env σ ω Ho Hx s) (h : SubL σ' σ) : St c env σ' ω Ho Hx s := { z with loc := fun x d e => z.loc x d (h x d e) }
theorem ex_weaken {σ' : Loc} {b : List Stmt} (h : SubL σ' σ) (e : Ex c k env σ' ω b P) : Ex c k env σ ω b P := fun A s Ho Hx E Q ok z hq => e A s Ho Hx E Q ok (z.weaken h) hq

/-! ## storing -/
theorem store_val {d : D} {v : Value} {E : Value → Shared → Prop} {Q : Unit → Shared → Prop} (z : St c env σ ω Ho Hx s) (hk : env.kindOf x = some .local) (hv : Rep (hid (env.locals :: (Ho ++ Hx)) s.heap) d v)
    (hq : ∀ s' Ho', Keep env.locals Ho s s' Ho' → St c env ((x, d) :: σ) (delL x ω) Ho' Hx s' → Q () s') : wpAny (model c.prog c.w) A (storeName env x v) Q E s := by
  obtain ⟨m, hn⟩ := z.ns
  refine wpAny_storeName_local hk hn (fun h' hn' hs => ?_) z.eo.store
  obtain ⟨Ho', kp, z'⟩ := z.store hk hn hn' hs hv (Nat.le_succ _)
  exact hq _ Ho' kp z'

theorem OwnR.del {g g' : Mem} {h h' : Heap} (sg : Sub g g') (hh : ∀ y v, y ≠ x → Has env h y v → Has env h' y v) : ∀ {ω : Own} {H : List Addr}, (∀ b ∈ H, ∀ o, h.get? b = some o → h'.get? b = some o) → OwnR env g h ω H →
    ∃ H', H'.Sublist H ∧ OwnR env g' h' (delL x ω) H'
  | [], H, _, q => ⟨[], List.nil_sublist _, by simp [delL, OwnR]⟩
  | (y, l) :: ω, H, hl, q => by
    simp only [OwnR] at q
    obtain ⟨a, r, vs, n, rfl, h1, h2, h3, h4, h5⟩ := q
    obtain ⟨H', sb, q'⟩ := OwnR.del sg hh (fun b m => hl b (.tail _ m)) h5
    by_cases hy : y = x
    · refine ⟨H', .cons _ sb, ?_⟩
      unfold delL at q' ⊢
      rw [List.filter_cons, if_neg (by simp [hy])]
      exact q'
    · refine ⟨a :: H', .cons_cons _ sb, ?_⟩
      unfold delL at q' ⊢
      rw [List.filter_cons, if_pos (by simp [hy])]
      simp only [OwnR]
      exact ⟨a, H', vs, n, rfl, h1, hh _ _ hy h2, hl a (.head _) _ h3, h4.mono sg, q'⟩

theorem store_own {s₁ : Shared} {l : List D} {a : Addr} {vs : List Value} {n : Nat} {E : Value → Shared → Prop} {Q : Unit → Shared → Prop} (z : St c env σ ω Ho Hx s) (e : Ext s s₁) (hk : env.kindOf x = some .local)
    (fa : s.heap.get? a = none) (hb : s₁.heap.get? a = some (listOf (List.toArray vs) n)) (hv : RepL (hid (a :: env.locals :: (Ho ++ Hx)) s₁.heap) l vs)
    (hq : ∀ s' Ho', Keep env.locals Ho s s' Ho' → St c env (delL x σ) ((x, l) :: delL x ω) Ho' Hx s' → Q () s') : wpAny (model c.prog c.w) A (storeName env x (.ref a)) Q E s₁ := by
  have z1 := z.ext e
  obtain ⟨m, hn⟩ := z1.ns
  refine wpAny_storeName_local hk hn (fun h' hn' hs => ?_) z.eo.store
  have hb0 : ∀ b o, b ≠ env.locals → s₁.heap.get? b = some o → h'.get? b = some o := fun b o n e => (hs.2 b n).trans e
  have haL : a ≠ env.locals := fun q => z1.noList _ _ (q ▸ hb)
  have haO : a ∉ Ho := fun q => by obtain ⟨o, w⟩ := z.ok a (List.mem_append_left _ q); rw [fa] at w; cases w
  have haX : a ∉ Hx := fun q => by obtain ⟨o, w⟩ := z.ok a (List.mem_append_right _ q); rw [fa] at w; cases w
  have sg0 : Sub (hid (a :: env.locals :: (Ho ++ Hx)) s₁.heap) (hid (a :: env.locals :: (Ho ++ Hx)) h') := hid_mono fun b o n e => hb0 b o (fun q => n (q ▸ .tail _ (.head _))) e
  have sg1 : Sub (hid (env.locals :: (Ho ++ Hx)) s.heap) (hid (a :: env.locals :: (Ho ++ Hx)) h') := (hid_cons fa (e.hid _)).trans sg0
  have hh : ∀ y v, y ≠ x → Has env s.heap y v → Has env h' y v := fun y v ny q => (q.mono e.keeps).store hs hn hn' (fun y b q => (z.cl y b q).1) ny
  obtain ⟨Ho', sb, ho'⟩ := z.own.del sg1 hh (fun b m o q => hb0 b o (fun w => z.notL (w ▸ m)) (e.keeps _ _ q))
  have sub : ∀ b, b ∈ Ho' → b ∈ Ho := fun b m => sb.subset m
  have sg : Sub (hid (a :: env.locals :: (Ho ++ Hx)) h') (hid (env.locals :: ((a :: Ho') ++ Hx)) h') := hid_weaken fun b m => by
    rcases List.mem_cons.mp m with rfl | m
    · exact .tail _ (.head _)
    · rcases List.mem_append.mp m with m | m
      · rcases List.mem_cons.mp m with rfl | m
        · exact .head _
        · exact .tail _ (.tail _ (List.mem_append_left _ (sub b m)))
      · exact .tail _ (.tail _ (List.mem_append_right _ m))
  refine hq _ (a :: Ho') ⟨?_, Nat.le_trans e.2 (Nat.le_succ _), fun b o n n2 q => ⟨hb0 b o n (e.keeps _ _ q), fun w => ?_⟩⟩ ⟨?_, ⟨_, hn'⟩, fun b m => ?_, fun y d hy => ?_, ?_, ?_, fun b m => ?_, (fun y b q => let ⟨q1, o, v, q2, q3⟩ := z1.cl y b q; ⟨q1, o, v, hb0 _ _ q1 q2, q3⟩), Nat.lt_of_lt_of_le z1.tk (Nat.le_succ _), z.eo, z.kx⟩
  · obtain ⟨⟨hh', tk', rfl, _⟩, _⟩ := e; exact ⟨_, _, rfl⟩
  · rcases List.mem_cons.mp w with rfl | w
    · rw [fa] at q; cases q
    · exact n2 (sub b w)
  · obtain ⟨g, q1, q2⟩ := z.gb
    refine ⟨g, q1, fun b o w => ?_⟩
    obtain ⟨w1, w2, w3⟩ := q2 b o w
    refine ⟨hb0 b o w2 (e.keeps _ _ w1), w2, fun q => ?_⟩
    rcases List.mem_cons.mp q with rfl | q
    · rw [fa] at w1; cases w1
    · exact w3 (sub b q)
  · rcases List.mem_append.mp m with m | m
    · rcases List.mem_cons.mp m with rfl | m
      · exact ⟨_, hb0 _ _ haL hb⟩
      · obtain ⟨o, w⟩ := z1.ok b (List.mem_append_left _ (sub b m))
        exact ⟨o, hb0 b o (fun q => z.notL (q ▸ sub b m)) w⟩
    · obtain ⟨o, w⟩ := z1.ok b (List.mem_append_right _ m)
      by_cases q : b = env.locals
      · obtain ⟨o', _, _, e', _⟩ := hn'
        exact ⟨o', q ▸ e'⟩
      · exact ⟨o, hb0 b o q w⟩
  · obtain ⟨ny, hy⟩ := lookup_del hy
    obtain ⟨w, q1, q2⟩ := z.loc y d hy
    exact ⟨w, hh y w ny q1, (q2.mono sg1).mono sg⟩
  · simp only [OwnR]
    refine ⟨a, Ho', vs, n, rfl, hk, .inl ⟨hk, _, hn', by simp⟩, hb0 a _ haL hb, (hv.mono sg0).mono sg, ho'.mono sg (fun b _ o q => q) (fun y v q => q)⟩
  · exact List.nodup_cons.mpr ⟨fun q => haO (sub a q), sb.nodup z.nd⟩
  · rcases List.mem_cons.mp m with rfl | m
    · exact haX
    · exact z.ap b (sub b m)

/-! ## assignments -/
/-- a value that holds no list; all names may be read -/
theorem ex_assign {x : Str} {p pos : Pos} {e : Expr} (hk : env.kindOf x = some .local) (h : Ev c k env (bor σ ω) e fun d => noLst d = true ∧ P (.next ((x, d) :: σ) (delL x ω)))
    (hs : swapsWith e (some (.Name x p)) pos.line env = pure false := by rfl) : Ex1 c k env σ ω (.Assign [.Name x p] e pos) P := fun A s Ho Hx E Q ok z hq =>
  wpAny_Assign_Name (h A s _ E _ (z.bor ok) fun d v s₁ hp e hv => store_val (z.ext e) hk ((z.ext e).avoid hp.1 hv) fun s' Ho' kp z' => hq _ _ s' Ho' hp.2 ((Keep.ofExt e).trans kp) ⟨rfl, z'⟩) hs
/-- any value; the lists that are owned may not be read -/
theorem ex_assignL {x : Str} {p pos : Pos} {e : Expr} (hk : env.kindOf x = some .local) (h : Ev c k env σ e fun d => P (.next ((x, d) :: σ) (delL x ω)))
    (hs : swapsWith e (some (.Name x p)) pos.line env = pure false := by rfl) : Ex1 c k env σ ω (.Assign [.Name x p] e pos) P := fun A s Ho Hx E Q ok z hq =>
  wpAny_Assign_Name (h A s _ E _ (z.at ok) fun d v s₁ hp e hv => store_val (z.ext e) hk hv fun s' Ho' kp z' => hq _ _ s' Ho' hp ((Keep.ofExt e).trans kp) ⟨rfl, z'⟩) hs
/-- a list that was just made of things that hold no list -/
theorem ex_assignN {x : Str} {p pos : Pos} {e : Expr} (hk : env.kindOf x = some .local) (h : EvN c k env (bor σ ω) e fun l => noLsts l = true ∧ P (.next (delL x σ) ((x, l) :: delL x ω)))
    (hs : swapsWith e (some (.Name x p)) pos.line env = pure false := by rfl) : Ex1 c k env σ ω (.Assign [.Name x p] e pos) P := fun A s Ho Hx E Q ok z hq =>
  wpAny_Assign_Name (h A s _ E _ (z.bor ok) fun l a vs n s₁ hp e fa hb hv => by
    have z1 := z.ext e
    refine store_own z e hk fa hb (RepL.avoid (fun b o w nl => ?_) hp.1 hv) fun s' Ho' kp z' => hq _ _ s' Ho' hp.2 kp ⟨rfl, z'⟩
    unfold hid at w ⊢
    split at w
    · cases w
    · rename_i m
      rw [if_neg]; exact w
      intro m'
      rcases List.mem_cons.mp m' with rfl | m'
      · exact m (.head _)
      · rcases List.mem_cons.mp m' with rfl | m'
        · exact m (.tail _ (.head _))
        · rcases List.mem_append.mp m' with m' | m'
          · obtain ⟨vs, n, e'⟩ := z1.own.lists b m'
            rw [w] at e'
            cases e'
            exact nl rfl
          · exact m (.tail _ (.tail _ m'))) hs
end
end
section

noncomputable def setO (x : Str) (l : List D) (ω : Own) : Own := ω.map fun p => if p.1 = x then (x, l) else p

section
variable {c : Cx} {k : Nat} {env : Env} {σ : Loc} {ω : Own} {Ho Hx : List Addr} {s s' : Shared} {A : Around} {P : Out → Prop} {x : Str}

theorem load_has {v : Value} {E : Value → Shared → Prop} {Q : Value → Shared → Prop} (eo : EnvOk env) (hv : Has env s.heap x v) (q : Q v s) (hcd : (x == ("__classdict__" : Str)) = false := by decide) : wpAny (model c.prog c.w) A (loadName env x) Q E s := by
  rcases hv with ⟨hk, m, hn, hm⟩ | ⟨hk, b, o, hc, ho, hdt⟩
  · exact wpAny_loadName_local eo.k hk hn hm q
  · rcases hk with hk | hk
    · exact wpAny_loadName_cell eo.k hk hc ⟨o, ho, hdt⟩ q
    · exact wpAny_loadName_free eo.k hk hc ⟨o, ho, hdt⟩ q hcd

theorem ex_aug {op : Operator} {p pos : Pos} {e : Expr} {d0 : D} (hk : env.kindOf x = some .local) (hl : (bor σ ω).lookup x = some d0)
    (h : Ev c k env (bor σ ω) e fun d1 => Op c (inpop op) [d0, d1] fun d => noLst d = true ∧ P (.next ((x, d) :: σ) (delL x ω)))
    (hcd : (x == ("__classdict__" : Str)) = false := by decide) : Ex1 c k env σ ω (.AugAssign (.Name x p) op e pos) P := fun A s Ho Hx E Q ok z hq => by
  obtain ⟨v0, hv0, hr0⟩ := (z.bor ok).loc x d0 hl
  refine wpAny_AugAssign_Name (load_has z.eo hv0 (h A s _ E _ (z.bor ok) fun d v s₁ ho e hv => ?_) hcd)
  refine ho.at (k := k) (vs := [v0, v]) ((z.bor ok).ext e) (RepL.cons (hr0.mono (e.hid _)) (RepL.single hv)) fun d v s₂ hp e2 hv => ?_
  have e3 := e.trans e2
  exact store_val (z.ext e3) hk ((z.ext e3).avoid hp.1 hv) fun s' Ho' kp z' => hq _ _ s' Ho' hp.2 ((Keep.ofExt e3).trans kp) ⟨rfl, z'⟩

theorem ex_return {pos : Pos} {e : Expr} (h : Ev c k env (bor σ ω) e fun d => P (.ret d)) : Ex1 c k env σ ω (.Return (some e) pos) P := fun A s Ho Hx E Q ok z hq =>
  wpAny_Return_some (h A s _ E _ (z.bor ok) fun d v s₁ hp e hv => hq _ _ s₁ Ho hp (Keep.ofExt e) ⟨v, rfl, hv.mono (hid_weaken fun b m => .tail _ m)⟩)

theorem ex_if {pos : Pos} {t : Expr} {b o : List Stmt} (h : Tr c k env (bor σ ω) t fun q => (q = true → Ex c k env σ ω b P) ∧ (q = false → Ex c k env σ ω o P)) : Ex1 c k env σ ω (.If t b o pos) P := fun A s Ho Hx E Q ok z hq =>
  wpAny_If (h A s _ E _ _ rfl (z.bor ok) fun q s₁ hr e => by
    cases q with
    | true => rw [if_pos rfl]; exact hr.1 rfl A s₁ Ho Hx E Q ok (z.ext e) fun o fl s' Ho' hp kp hr => hq o fl s' Ho' hp ((Keep.ofExt e).trans kp) hr
    | false => rw [if_neg Bool.false_ne_true]; exact hr.2 rfl A s₁ Ho Hx E Q ok (z.ext e) fun o fl s' Ho' hp kp hr => hq o fl s' Ho' hp ((Keep.ofExt e).trans kp) hr)

/-! ## an owned list grows -/
theorem OwnR.find {g : Mem} {h : Heap} {l : List D} : ∀ {ω : Own} {H : List Addr}, OwnR env g h ω H → ω.lookup x = some l → ∃ a vs n, a ∈ H ∧ Has env h x (.ref a) ∧ h.get? a = some (listOf (List.toArray vs) n) ∧ RepL g l vs
  | [], H, q, e => by cases e
  | (y, m) :: ω, H, q, e => by
    simp only [OwnR] at q
    obtain ⟨a, r, vs, n, rfl, h1, h2, h3, h4, h5⟩ := q
    rw [List.lookup_cons] at e
    split at e
    · rename_i hxy
      cases e
      rw [beq_iff_eq] at hxy
      subst hxy
      exact ⟨a, vs, n, .head _, h2, h3, h4⟩
    · obtain ⟨b, vs', n', q1, q2⟩ := h5.find e
      exact ⟨b, vs', n', .tail _ q1, q2⟩

theorem Has.uniq {h : Heap} {a b : Addr} (hk : env.kindOf x = some .local) (p : Has env h x (.ref a)) (q : Has env h x (.ref b)) : a = b := by
  rcases p with ⟨_, m1, w2, w3⟩ | ⟨w1, _⟩
  · rcases q with ⟨_, m2, w2', w3'⟩ | ⟨w1', _⟩
    · have := w2.agree w2' x
      rw [w3, w3'] at this
      cases this; rfl
    · rw [hk] at w1'; rcases w1' with w | w <;> cases w
  · rw [hk] at w1; rcases w1 with w | w <;> cases w
/-- the list at a, which x names, is written anew -/
theorem OwnR.write {g g' : Mem} {h h' : Heap} {l : List D} {a : Addr} {vs : List Value} {n : Nat} (sg : Sub g g') (hh : ∀ y v, Has env h y v → Has env h' y v) (ha : h'.get? a = some (listOf (List.toArray vs) n)) (hl : RepL g' l vs) (hk : env.kindOf x = some .local) (hx : Has env h x (.ref a))
    {ω : Own} : ∀ {H : List Addr}, H.Nodup → (∀ b ∈ H, b ≠ a → ∀ o, h.get? b = some o → h'.get? b = some o) → (∃ l0, ω.lookup x = some l0) ∨ a ∉ H → OwnR env g h ω H → OwnR env g' h' (setO x l ω) H := by
  induction ω with
  | nil => intro H _ _ _ q; simp only [OwnR, setO, List.map_nil] at q ⊢; exact q
  | cons p ω ih =>
    obtain ⟨y, m⟩ := p
    intro H nd kk hin q
    simp only [OwnR] at q
    obtain ⟨b, r, us, n', rfl, h1, h2, h3, h4, h5⟩ := q
    obtain ⟨nb, nd'⟩ := List.nodup_cons.mp nd
    by_cases e : y = x
    · subst e
      have e2 : b = a := Has.uniq h1 h2 hx
      subst e2
      have ih := ih nd' (fun d m => kk d (.tail _ m)) (.inr nb) h5
      unfold setO at ih ⊢
      rw [List.map_cons, if_pos rfl]
      simp only [OwnR]
      exact ⟨b, r, vs, n, rfl, h1, hh _ _ h2, ha, hl, ih⟩
    · have hxy : (x == y) = false := by rw [beq_eq_false_iff_ne]; exact fun q => e q.symm
      have hin' : (∃ l0, ω.lookup x = some l0) ∨ a ∉ b :: r := by
        rcases hin with ⟨l0, hin⟩ | hin
        · rw [List.lookup_cons, hxy] at hin
          exact .inl ⟨l0, hin⟩
        · exact .inr hin
      have hne : b ≠ a := by
        rintro rfl
        rcases hin' with ⟨l0, hin⟩ | hin
        · obtain ⟨a', _, _, m1, m2, _⟩ := h5.find hin
          have : a' = b := Has.uniq hk m2 hx
          exact nb (this ▸ m1)
        · exact hin (.head _)
      have ih := ih nd' (fun d m => kk d (.tail _ m)) (hin'.imp id fun q w => q (.tail _ w)) h5
      unfold setO at ih ⊢
      rw [List.map_cons, if_neg e]
      simp only [OwnR]
      exact ⟨b, r, us, n', rfl, h1, hh _ _ h2, kk b (.head _) hne _ h3, h4.mono sg, ih⟩

/-- the state where the list at a, owned by x, is written anew -/
theorem St.write {l : List D} {a : Addr} {vs : List Value} {n : Nat} {f : Obj → Obj} {o : Obj} (z : St c env σ ω Ho Hx s) (hk : env.kindOf x = some .local) (hl0 : ∃ l0, ω.lookup x = some l0) (hx : Has env s.heap x (.ref a)) (hm : a ∈ Ho)
    (ho : s.heap.get? a = some o) (hf : f o = listOf (List.toArray vs) n) (hr : RepL (hid (env.locals :: (Ho ++ Hx)) s.heap) l vs) :
    Keep env.locals Ho s { s with heap := s.heap.update a f } Ho ∧ St c env σ (setO x l ω) Ho Hx { s with heap := s.heap.update a f } := by
  have hg : ∀ b, b ≠ a → (s.heap.update a f).get? b = s.heap.get? b := fun b n => Heap.get?_update_ne _ _ _ _ n
  have ha : (s.heap.update a f).get? a = some (listOf (List.toArray vs) n) := by rw [← hf]; exact Heap.get?_update_self _ ho (by rw [hf]; rfl)
  have nL : env.locals ≠ a := fun q => z.notL (q ▸ hm)
  have hh : ∀ y v, Has env s.heap y v → Has env (s.heap.update a f) y v := fun y v q => by
    rcases q with ⟨w, m, b, d⟩ | ⟨w, b, o', d, e, f'⟩
    · refine .inl ⟨w, m, ?_, d⟩
      exact b.at fun o q => (hg _ nL).trans q
    · refine .inr ⟨w, b, o', d, (hg b ?_).trans e, f'⟩
      rintro rfl
      obtain ⟨vs', n', w'⟩ := z.own.lists _ hm
      rw [e] at w'
      cases w'
      cases f'
  have sg : Sub (hid (env.locals :: (Ho ++ Hx)) s.heap) (hid (env.locals :: (Ho ++ Hx)) (s.heap.update a f)) := hid_mono fun b o n e => (hg b (fun q => n (q ▸ .tail _ (List.mem_append_left _ hm)))).trans e
  refine ⟨⟨⟨_, s.toks, rfl⟩, Nat.le_refl _, fun b o n n2 q => ⟨(hg b (fun w => n2 (w ▸ hm))).trans q, n2⟩⟩, ?_, ?_, fun b m => ?_, fun y d hy => ?_, ?_, z.nd, z.ap, (fun y b q => let ⟨q1, o, v, q2, q3⟩ := z.cl y b q; ⟨q1, o, v, (hg b (by rintro rfl; obtain ⟨vs', n', w'⟩ := z.own.lists _ hm; rw [q2] at w'; cases w'; cases q3)).trans q2, q3⟩), z.tk, z.eo, z.kx⟩
  · obtain ⟨g, q1, q2⟩ := z.gb
    refine ⟨g, q1, fun b o w => ?_⟩
    obtain ⟨w1, w2, w3⟩ := q2 b o w
    exact ⟨(hg b (fun q => w3 (q ▸ hm))).trans w1, w2, w3⟩
  · obtain ⟨m, q⟩ := z.ns
    exact ⟨m, q.at fun o q => (hg _ nL).trans q⟩
  · by_cases e : b = a
    · subst e; exact ⟨_, ha⟩
    · obtain ⟨o', w⟩ := z.ok b m
      exact ⟨o', (hg b e).trans w⟩
  · obtain ⟨v, w1, w2⟩ := z.loc y d hy
    exact ⟨v, hh _ _ w1, w2.mono sg⟩
  · exact z.own.write sg hh ha (hr.mono sg) hk hx z.nd (fun b _ n o q => (hg b n).trans q) (.inl hl0)

theorem lookup_bor {l : List D} (h : ω.lookup x = some l) : (bor σ ω).lookup x = some (.lst l) := by
  unfold bor
  induction ω with
  | nil => cases h
  | cons p r ih =>
    rw [List.map_cons, List.cons_append, List.lookup_cons]
    rw [List.lookup_cons] at h
    split at h
    · rename_i e
      cases h
      rfl
    · rename_i e
      exact ih h

/-- x.append(e) -/
theorem append_call {E : Value → Shared → Prop} {Q0 : Value → Shared → Prop} {xp ap cp : Pos} {e : Expr} {l : List D} {Pd : D → Prop} (z : St c env σ ω Ho Hx s) (ok : Ok k A) (hk : env.kindOf x = some .local) (hl : ω.lookup x = some l)
    (h : Ev c k env (bor σ ω) e fun d => noLst d = true ∧ l.length ≤ 1000000 ∧ Pd d)
    (hq : ∀ d s', Pd d → Keep env.locals Ho s s' Ho → St c env σ (setO x (l ++ [d]) ω) Ho Hx s' → Q0 .none s')
    {pl : Sem Bool}
    (hev : eval (.Call (.Attribute (.Name x xp) "append" ap) [e] [] cp) env = (do
      let ov ← eval (.Name x xp) env
      standAt ap.atName
      let (f, first) ← holding [ov] (getMethod ov "append" pl)
      callWith cp f first (backTo cp (starEach [e] env)) []))
    (he : backTo cp (starEach [e] env) = [(false, eval e env)])
    (hdb : (x == ("__debug__" : Str)) = false) (hcd : (x == ("__classdict__" : Str)) = false) : wpAny (model c.prog c.w) A (eval (.Call (.Attribute (.Name x xp) "append" ap) [e] [] cp) env) Q0 E s := by
  obtain ⟨a, vs, n, hm, hx, hb, hr⟩ := z.own.find hl
  refine MethodCall_ (pl := pl) (wpAny_Name (load_has z.eo hx ?_ hcd) hdb) hev
  have hT : s.TypeIs (.ref a) "list" := ⟨_, hb, rfl⟩
  have q : wpAny (model c.prog c.w) A (callWith cp (.builtin "list.append") [.ref a] (backTo cp (starEach [e] env)) []) Q0 E s := by
    rw [he]
    refine PySem.P.append_list (h A s _ E _ (z.bor ok) fun d v s₁ hp ee hv => ?_)
    have z1 := z.ext ee
    have hlen := hr.length
    refine ⟨vs.toArray, n, by simp only [List.size_toArray]; rw [sizeLine_eq]; omega, ee.keeps _ _ hb, ?_⟩
    obtain ⟨kp, z2⟩ := z1.write (x := x) (l := l ++ [d]) (a := a) (vs := vs ++ [v]) (n := n + 1) (f := Obj.mapSeq fun xs => xs.push v) hk ⟨l, hl⟩ (hx.mono ee.keeps) hm (ee.keeps _ _ hb) (by simp [Obj.mapSeq]) ((hr.mono (ee.hid _)).append (RepL.single (z1.avoid hp.1 hv)))
    exact hq d _ hp.2.2 ((Keep.ofExt ee).trans kp) z2
  have z := @getMethod_builtin (model c.prog c.w) A E s (.ref a) "list" "append" "list.append" pl (fun fx s₂ => wpAny (model c.prog c.w) A (callWith cp fx.1 fx.2 (backTo cp (starEach [e] env)) []) Q0 E s₂) hT F.plainAttrs_list F.slot_list_append F.type_list_append (fun b w => by cases w; exact ⟨_, hb, rfl⟩) q
  with_reducible exact z
theorem ex_append {xp ap cp pos : Pos} {e : Expr} {l : List D} (hk : env.kindOf x = some .local) (hl : ω.lookup x = some l)
    (h : Ev c k env (bor σ ω) e fun d => noLst d = true ∧ l.length ≤ 1000000 ∧ P (.next σ (setO x (l ++ [d]) ω)))
    {pl : Sem Bool}
    (hev : eval (.Call (.Attribute (.Name x xp) "append" ap) [e] [] cp) env = (do
      let ov ← eval (.Name x xp) env
      standAt ap.atName
      let (f, first) ← holding [ov] (getMethod ov "append" pl)
      callWith cp f first (backTo cp (starEach [e] env)) []) := by rfl)
    (he : backTo cp (starEach [e] env) = [(false, eval e env)] := by rfl)
    (hi : interactive env = false := by rfl) (hs : swapsWith (.Call (.Attribute (.Name x xp) "append" ap) [e] [] cp) none pos.line env = pure false := by rfl)
    (hdb : (x == ("__debug__" : Str)) = false := by decide) (hcd : (x == ("__classdict__" : Str)) = false := by decide) : Ex1 c k env σ ω (.Expr (.Call (.Attribute (.Name x xp) "append" ap) [e] [] cp) pos) P :=
  fun A s Ho Hx E Q ok z hq => wpAny_Expr (append_call z ok hk hl h (fun d s' hp kp z' => hq _ _ s' Ho hp kp ⟨rfl, z'⟩) hev he hdb hcd) hi hs
/-- x.pop(), at a list that ends in a text -/
theorem pop_call {E : Value → Shared → Prop} {Q0 : Value → Shared → Prop} {xp ap cp : Pos} {l : List D} {y : List Nat} (z : St c env σ ω Ho Hx s) (ok : Ok k A) (hk : env.kindOf x = some .local) (hl : ω.lookup x = some (l ++ [.str y])) (hz : l.length ≤ 1000000)
    (hq : ∀ t s', Keep env.locals Ho s s' Ho → St c env σ (setO x l ω) Ho Hx s' → Q0 (.str ⟨y.toArray⟩ t) s')
    {pl : Sem Bool}
    (hev : eval (.Call (.Attribute (.Name x xp) "pop" ap) [] [] cp) env = (do
      let ov ← eval (.Name x xp) env
      standAt ap.atName
      let (f, first) ← holding [ov] (getMethod ov "pop" pl)
      callWith cp f first (backTo cp (starEach [] env)) []))
    (hdb : (x == ("__debug__" : Str)) = false) (hcd : (x == ("__classdict__" : Str)) = false) : wpAny (model c.prog c.w) A (eval (.Call (.Attribute (.Name x xp) "pop" ap) [] [] cp) env) Q0 E s := by
  obtain ⟨a, vs, n, hm, hx, hb, hr⟩ := z.own.find hl
  refine MethodCall_ (pl := pl) (wpAny_Name (load_has z.eo hx ?_ hcd) hdb) hev
  have hT : s.TypeIs (.ref a) "list" := ⟨_, hb, rfl⟩
  have hlen := hr.length
  rw [List.length_append, List.length_singleton] at hlen
  obtain ⟨v, hv, hrv⟩ := hr.get (i := l.length) (d := .str y) (by simp)
  simp only [Rep] at hrv
  obtain ⟨t, rfl⟩ := hrv
  have q : wpAny (model c.prog c.w) A (callWith cp (.builtin "list.pop") [.ref a] (backTo cp (starEach [] env)) []) Q0 E s := by
    refine PySem.P.pop_list (items := vs.toArray) (n := n) (y := .str ⟨y.toArray⟩ t) hb (by simp only [List.size_toArray, hlen]; simpa using hv) ?_ (by simp only [List.size_toArray]; rw [sizeLine_eq]; omega)
    have e1 : vs.toArray.size - 1 = l.length := by simp [hlen]
    have e2 : (vs.toArray.eraseIdxIfInBounds (vs.toArray.size - 1)) = (vs.take l.length).toArray := by
      rw [e1]
      apply Array.ext'
      rw [Array.toList_eraseIdxIfInBounds]
      simp only
      rw [List.eraseIdx_eq_take_drop_succ, List.drop_of_length_le (by omega)]
      simp
    have hf : (Obj.mapSeq fun xs => xs.eraseIdxIfInBounds (vs.toArray.size - 1)) (listOf vs.toArray n) = listOf (vs.take l.length).toArray (n + 1) := by
      have e3 : ((vs.take l.length).toArray.size == vs.toArray.size) = false := by simp [hlen]
      simp only [Obj.mapSeq, e2]
      rw [e3]; rfl
    have hr' := hr.take l.length
    rw [List.take_left] at hr'
    obtain ⟨kp, z2⟩ := z.write (x := x) (l := l) (a := a) (vs := vs.take l.length) (n := n + 1) hk ⟨_, hl⟩ hx hm hb hf hr'
    exact hq t _ kp z2
  have z := @getMethod_builtin (model c.prog c.w) A E s (.ref a) "list" "pop" "list.pop" pl (fun fx s₂ => wpAny (model c.prog c.w) A (callWith cp fx.1 fx.2 (backTo cp (starEach [] env)) []) Q0 E s₂) hT F.plainAttrs_list F.slot_list_pop F.type_list_pop (fun b w => by cases w; exact ⟨_, hb, rfl⟩) q
  with_reducible exact z
theorem ex_pop {xp ap cp pos : Pos} {l : List D} {y : List Nat} (hk : env.kindOf x = some .local) (hl : ω.lookup x = some (l ++ [.str y])) (hz : l.length ≤ 1000000)
    (h : P (.next σ (setO x l ω)))
    {pl : Sem Bool}
    (hev : eval (.Call (.Attribute (.Name x xp) "pop" ap) [] [] cp) env = (do
      let ov ← eval (.Name x xp) env
      standAt ap.atName
      let (f, first) ← holding [ov] (getMethod ov "pop" pl)
      callWith cp f first (backTo cp (starEach [] env)) []) := by rfl)
    (hi : interactive env = false := by rfl) (hs : swapsWith (.Call (.Attribute (.Name x xp) "pop" ap) [] [] cp) none pos.line env = pure false := by rfl)
    (hdb : (x == ("__debug__" : Str)) = false := by decide) (hcd : (x == ("__classdict__" : Str)) = false := by decide) : Ex1 c k env σ ω (.Expr (.Call (.Attribute (.Name x xp) "pop" ap) [] [] cp) pos) P :=
  fun A s Ho Hx E Q ok z hq => wpAny_Expr (pop_call z ok hk hl hz (fun t s' kp z' => hq _ _ s' Ho h kp ⟨rfl, z'⟩) hev hdb hcd) hi hs
end
end
section

section
variable {c : Cx} {k : Nat} {env : Env} {σ : Loc} {ω : Own} {Ho Hx : List Addr} {s s' : Shared} {A : Around} {P : Out → Prop} {x : Str}

/-! ## while -/
noncomputable def Again (J : Loc → Own → Prop) (σ' : Loc) (ω' : Own) : Prop := ∃ σ'', SubL σ'' σ' ∧ J σ'' ω'
theorem Again.mk {J : Loc → Own → Prop} {σ' σ'' : Loc} {ω' : Own} (h : J σ'' ω') (s : SubL σ'' σ') : Again J σ' ω' := ⟨σ'', s, h⟩

noncomputable def turnW (I : Nat → Loc → Own → Prop) (n : Nat) (P : Out → Prop) : Out → Prop
  | .next σ ω => ∃ m, m < n ∧ Again (I m) σ ω
  | .cont σ ω => ∃ m, m < n ∧ Again (I m) σ ω
  | .brk σ ω => P (.next σ ω)
  | .ret d => P (.ret d)

theorem ex_while {t : Expr} {b : List Stmt} {pos : Pos} (I : Nat → Loc → Own → Prop) (n : Nat) (h0 : Again (I n) σ ω)
    (h : ∀ n σ ω, I n σ ω → Tr c k env (bor σ ω) t fun q => (q = true → Ex c k env σ ω b (turnW I n P)) ∧ (q = false → P (.next σ ω))) : Ex1 c k env σ ω (.While t b [] pos) P := by
  intro A s Ho Hx E Q ok z hq
  refine wpAny_While ?_
  refine codeAny_whileLoop (fun n s' => ∃ σ' ω' Ho', I n σ' ω' ∧ St c env σ' ω' Ho' Hx s' ∧ Keep env.locals Ho s s' Ho') ?_ n ?_
  · rintro n s₁ ⟨σ', ω', Ho', hI, z1, kp⟩
    refine h n σ' ω' hI A s₁ _ _ _ _ rfl (z1.bor ok) fun q s₂ hr e => ?_
    cases q with
    | false =>
      rw [if_neg Bool.false_ne_true]
      exact wpAny_execs_nil (hq _ _ s₂ Ho' (hr.2 rfl) (kp.trans (Keep.ofExt e)) ⟨rfl, z1.ext e⟩)
    | true =>
      rw [if_pos rfl]
      refine hr.1 rfl A s₂ Ho' Hx _ _ ok (z1.ext e) fun o fl s₃ Ho3 hp kp3 hr3 => ?_
      have kk := kp.trans ((Keep.ofExt e).trans kp3)
      cases o with
      | next σ3 ω3 =>
        obtain ⟨rfl, z3⟩ := hr3
        obtain ⟨m, hm, σ4, sub, hJ⟩ := hp
        exact ⟨m, hm, σ4, ω3, Ho3, hJ, z3.weaken sub, kk⟩
      | cont σ3 ω3 =>
        obtain ⟨rfl, z3⟩ := hr3
        obtain ⟨m, hm, σ4, sub, hJ⟩ := hp
        exact ⟨m, hm, σ4, ω3, Ho3, hJ, z3.weaken sub, kk⟩
      | brk σ3 ω3 =>
        obtain ⟨rfl, z3⟩ := hr3
        exact hq _ _ s₃ Ho3 hp kk ⟨rfl, z3⟩
      | ret d =>
        obtain ⟨v, rfl, hv⟩ := hr3
        exact hq _ _ s₃ Ho3 hp kk ⟨v, rfl, hv⟩
  · obtain ⟨σ4, sub, hJ⟩ := h0
    exact ⟨σ4, ω, Ho, hJ, z.weaken sub, Keep.ofExt (Ext.refl s)⟩

/-! ## targets -/
noncomputable def Asg (c : Cx) (k : Nat) (env : Env) (t : Expr) (d : D) (σ : Loc) (ω : Own) (P : Loc → Own → Prop) : Prop :=
  ∀ (A : Around) (s : Shared) (Ho Hx : List Addr) (E : Value → Shared → Prop) (Q : Unit → Shared → Prop) (v : Value), Ok k A → St c env σ ω Ho Hx s → Rep (hid (env.locals :: (Ho ++ Hx)) s.heap) d v →
    (∀ σ' ω' s' Ho', P σ' ω' → Keep env.locals Ho s s' Ho' → St c env σ' ω' Ho' Hx s' → Q () s') → wpAny (model c.prog c.w) A (assign t env v) Q E s
theorem asg_name {pos : Pos} {d : D} {P : Loc → Own → Prop} (hk : env.kindOf x = some .local) (h : P ((x, d) :: σ) (delL x ω)) : Asg c k env (.Name x pos) d σ ω P := fun A s Ho Hx E Q v ok z hv hq =>
  PyProof.Rows.assign_Name (store_val z hk hv fun s' Ho' kp z' => hq _ _ s' Ho' h kp z')
noncomputable def Asgs (c : Cx) (k : Nat) (env : Env) : List Expr → List D → Loc → Own → (Loc → Own → Prop) → Prop
  | [], [], σ, ω, P => P σ ω
  | t :: ts, d :: ds, σ, ω, P => Asg c k env t d σ ω fun σ' ω' => Asgs c k env ts ds σ' ω' P
  | _, _, _, _, _ => False
theorem asgs_run : ∀ {ts : List Expr} {ds : List D} {σ : Loc} {ω : Own} {P : Loc → Own → Prop}, Asgs c k env ts ds σ ω P → ∀ {A : Around} {s : Shared} {Ho Hx : List Addr} {E : Value → Shared → Prop} {Q : Unit → Shared → Prop} {vs : List Value}, Ok k A → St c env σ ω Ho Hx s → RepL (hid (env.locals :: (Ho ++ Hx)) s.heap) ds vs →
    (∀ σ' ω' s' Ho', P σ' ω' → Keep env.locals Ho s s' Ho' → St c env σ' ω' Ho' Hx s' → Q () s') → wpAny (model c.prog c.w) A (assignInOrder (ts.map fun t => assign t env) vs) Q E s
  | [], [], σ, ω, P, h, A, s, Ho, Hx, E, Q, vs, ok, z, hr, hq => by
    simp only [RepL] at hr
    subst hr
    exact wpAny_pure (hq _ _ s Ho h (Keep.ofExt (Ext.refl s)) z)
  | t :: ts, d :: ds, σ, ω, P, h, A, s, Ho, Hx, E, Q, vs, ok, z, hr, hq => by
    simp only [RepL] at hr
    obtain ⟨v, r, rfl, hv, hr⟩ := hr
    show wpAny _ _ (do holding r (assign t env v); assignInOrder (ts.map fun t => assign t env) r) Q E s
    refine wpAny_bind (wpAny_holding (h A s Ho Hx E _ v ok z hv fun σ' ω' s' Ho' hp kp z' => ?_))
    exact asgs_run hp ok z' (hr.mono kp.hid) fun σ'' ω'' s'' Ho'' hp kp' z'' => hq _ _ s'' Ho'' hp (kp.trans kp') z''
  | [], _ :: _, _, _, _, h, _, _, _, _, _, _, _, _, _, _, _ => h.elim
  | _ :: _, [], _, _, _, h, _, _, _, _, _, _, _, _, _, _, _ => h.elim
theorem asg_tuple {ts : List Expr} {n : Nat} {pos : Pos} {ds : List D} {P : Loc → Own → Prop} (h : Asgs c k env ts ds σ ω P) (hlen : ds.length = ts.length)
    (hts : assignEach ts env = ts.map fun t => (false, assign t env) := by rfl) : Asg c k env (.Tuple ts n pos) (.tup ds) σ ω P := by
  intro A s Ho Hx E Q v ok z hv hq
  show wpAny _ _ (do standAt pos; unpack v (assignEach ts env)) Q E s
  refine wpAny_bind (wpAny_standAt ?_)
  rw [hts]
  unfold unpack
  simp only [Rep] at hv
  obtain ⟨a, o, vs, m, rfl, hb, hc, hd, hr⟩ := hv
  have ht : IsTup s.heap a vs.toArray := ⟨o, hid_old hb, hc, m, hd⟩
  have e1 : (ts.map fun t => (false, assign t env)).length = vs.toArray.size := by simp [hr.length, hlen]
  have e2 : (ts.map fun t => ((false, assign t env) : Bool × (Value → Sem Unit))).findIdx? (·.1) = none := by
    rw [List.findIdx?_eq_none_iff]
    intro y hy
    obtain ⟨t, _, rfl⟩ := List.mem_map.mp hy
    rfl
  rw [e1, e2]
  refine wpAny_bind (wpAny_holding (unpackItems_tuple ok.hn ht fun h' he => ?_))
  have ee : Ext s { s with heap := h' } := ⟨⟨h', s.toks, rfl, fun b o q => he b o (Nat.ne_of_lt (Heap.lt_size q)) q⟩, Nat.le_refl _⟩
  have := asgs_run (A := A) (E := E) (Q := Q) (vs := vs) h ok (z.ext ee) (hr.mono (ee.hid _)) fun σ' ω' s' Ho' hp kp z' => hq σ' ω' s' Ho' hp ((Keep.ofExt ee).trans kp) z'
  rw [List.map_map]
  exact this

theorem ex_assign_tuple {ts : List Expr} {n : Nat} {p pos : Pos} {e : Expr} (h : Ev c k env (bor σ ω) e fun d => noLst d = true ∧ Asg c k env (.Tuple ts n p) d σ ω fun σ' ω' => P (.next σ' ω'))
    (hs : swapsWithSole [.Tuple ts n p] e pos.line env = pure false := by rfl) (hw : swappedStores [.Tuple ts n p] e env = pure none := by rfl) : Ex1 c k env σ ω (.Assign [.Tuple ts n p] e pos) P := fun A s Ho Hx E Q ok z hq =>
  Assign_Tuple (h A s _ E _ (z.bor ok) fun d v s₁ hp e hv => hp.2 A s₁ Ho Hx E _ v ok (z.ext e) ((z.ext e).avoid hp.1 hv) fun σ' ω' s' Ho' hp' kp z' => hq _ _ s' Ho' hp' ((Keep.ofExt e).trans kp) ⟨rfl, z'⟩) hs hw

/-! ## for -/
structure WX (c : Cx) (A : Around) (L : Addr) (Ho Hx : List Addr) (s s₁ : Shared) (it : Addr) (items : List D) (fp wr : List Addr) (Pv : Nat → Value → Prop) (W : Nat → Heap → Prop) : Prop where
  w : Walks c.prog c.w A it fp wr items.length Pv W
  st : W 0 s₁.heap
  fr : ∀ b ∈ wr, s.heap.get? b = none
  fo : ∀ b ∈ fp, b ≠ L ∧ b ∉ Ho
  ex : ∀ i h, W i h → ∀ b ∈ fp, ∃ o, h.get? b = some o
  cls : ∀ i h, W i h → ∃ o vs T, h.get? it = some o ∧ o.cls = .type T ∧ o.data = .fields vs ∧ (["enumerate", "zip", "dict_itemiterator", "dict_reverseitemiterator", "odict_iterator", "itertools.zip_longest", "itertools.pairwise"] : List String).contains T = false
  ri : ∀ i v, i < items.length → Pv i v → ∃ d, items[i]? = some d ∧ Rep (hid (L :: (Ho ++ (Hx ++ wr))) s₁.heap) d v
noncomputable def IterP (c : Cx) (k : Nat) (env : Env) (σ : Loc) (ω : Own) (iter : Expr) (PI : List D → Prop) : Prop :=
  ∀ (A : Around) (s : Shared) (Ho Hx : List Addr) (E : Value → Shared → Prop) (Q : Value → Shared → Prop), Ok k A → St c env σ ω Ho Hx s →
    (∀ items s₁ it fp wr Pv W, PI items → Ext s s₁ → WX c A env.locals Ho Hx s s₁ it items fp wr Pv W → Q (.ref it) s₁) →
    wpAny (model c.prog c.w) A (eval iter env) (fun x s₁ => wpAny (model c.prog c.w) A (pyIter x) Q E s₁) E s
noncomputable def turnF (J : Loc → Own → Prop) (P : Out → Prop) : Out → Prop
  | .next σ ω => Again J σ ω
  | .cont σ ω => Again J σ ω
  | .brk σ ω => P (.next σ ω)
  | .ret d => P (.ret d)

theorem letOwned {t : Expr} {it : Addr} {v : Value} {o : Obj} {vs : Array Value} {T : String} {E : Value → Shared → Prop} {Q : Unit → Shared → Prop} (ho : s.heap.get? it = some o) (hc : o.cls = .type T) (hd : o.data = .fields vs)
    (hT : (["enumerate", "zip", "dict_itemiterator", "dict_reverseitemiterator", "odict_iterator", "itertools.zip_longest", "itertools.pairwise"] : List String).contains T = false) (q : Q () s) : wpAny (model c.prog c.w) A (letOwnedTupleGo t (.ref it) v) Q E s := by
  have key : wpAny (model c.prog c.w) A (do
      let (.ref r, .ref a) := (Value.ref it, v) | return
      let o ← load r
      match o.cls, o.data with
      | .type n, .fields vs =>
        if (["enumerate", "zip", "dict_itemiterator", "dict_reverseitemiterator", "odict_iterator", "itertools.zip_longest", "itertools.pairwise"] : List String).contains n && vs[0]? == some (rawInt a) then
          rule "for.unpacks-the-owned-tuple"
          updateField r 0 .none
      | _, _ => pure ()) Q E s := by
    cases v with
    | ref a =>
      refine wpAny_bind (wpAny_load ho ?_)
      rw [hc, hd]
      dsimp only
      rw [hT, Bool.false_and, if_neg Bool.false_ne_true]
      exact wpAny_pure q
    | _ => exact wpAny_pure q
  unfold letOwnedTupleGo
  split
  · exact key
  · exact key
  · exact wpAny_pure q

theorem St.stepped {σ' : Loc} {ω' : Own} {Ho' wr Hx' : List Addr} {h' : Heap} {tk : Nat} (z : St c env σ ω Ho Hx s) (z3 : St c env σ' ω' Ho' (Hx ++ wr) s') (kp : Keep env.locals Ho s s' Ho') (fr : ∀ b ∈ wr, s.heap.get? b = none) (nw : ∀ b ∈ wr, b ≠ env.locals ∧ b ∉ Ho')
    (hk : ∀ b o, b ∉ wr → s'.heap.get? b = some o → h'.get? b = some o) (htk : s'.toks ≤ tk) (hsub : ∀ b ∈ Hx', b ∈ Hx ++ wr) (hok : HOk Hx' h') : St c env σ' ω' Ho' Hx' { s' with heap := h', toks := tk } := by
  have sg : Sub (hid (env.locals :: (Ho' ++ (Hx ++ wr))) s'.heap) (hid (env.locals :: (Ho' ++ Hx')) h') := fun b o q => by
    have q0 := hid_old q
    unfold hid at q ⊢
    split at q
    · cases q
    · rename_i n
      rw [if_neg]
      · exact hk b o (fun q => n (.tail _ (List.mem_append_right _ (List.mem_append_right _ q)))) q0
      · intro m
        rcases List.mem_cons.mp m with rfl | m
        · exact n (.head _)
        · rcases List.mem_append.mp m with m | m
          · exact n (.tail _ (List.mem_append_left _ m))
          · exact n (.tail _ (List.mem_append_right _ (hsub b m)))
  have cellOk : ∀ y b, env.cells.lookup y = some b → b ∉ wr := fun y b q w => by
    obtain ⟨_, o, v, q2, _⟩ := z.cl y b q
    rw [fr b w] at q2; cases q2
  have hh : ∀ y u, Has env s'.heap y u → Has env h' y u := fun y u q => by
    rcases q with ⟨a, m, e, f⟩ | ⟨a, b, o, e, f, g⟩
    · exact .inl ⟨a, m, e.at fun o q => hk _ o (fun w => (nw _ w).1 rfl) q, f⟩
    · exact .inr ⟨a, b, o, e, hk b o (cellOk y b e) f, g⟩
  refine ⟨?_, ?_, fun a m => ?_, fun y d hy => ?_, z3.own.mono sg (fun a m o q => hk a o (fun w => (nw a w).2 m) q) hh, z3.nd, fun a m q => z3.ap a m (hsub a q), fun y b q => ?_, Nat.lt_of_lt_of_le z3.tk htk, z3.eo, fun a m => z3.kx a (hsub a m)⟩
  · obtain ⟨g, q1, q2⟩ := z.gb
    refine ⟨g, q1, fun b o w => ?_⟩
    obtain ⟨w1, w2, w3⟩ := q2 b o w
    obtain ⟨w4, w5⟩ := kp.2.2 b o w2 w3 w1
    exact ⟨hk b o (fun q => by rw [fr b q] at w1; cases w1) w4, w2, w5⟩
  · obtain ⟨m, q⟩ := z3.ns
    exact ⟨m, q.at fun o q => hk _ o (fun w => (nw _ w).1 rfl) q⟩
  · rcases List.mem_append.mp m with m | m
    · obtain ⟨o, q⟩ := z3.ok a (List.mem_append_left _ m)
      exact ⟨o, hk a o (fun w => (nw a w).2 m) q⟩
    · exact hok a m
  · obtain ⟨u, q1, q2⟩ := z3.loc y d hy
    exact ⟨u, hh y u q1, q2.mono sg⟩
  · obtain ⟨q1, o, v, q2, q3⟩ := z3.cl y b q
    exact ⟨q1, o, v, hk b o (cellOk y b q) q2, q3⟩

theorem ex_for {t iter : Expr} {b : List Stmt} {pos : Pos} {PI : List D → Prop} (hI : IterP c k env σ ω iter PI)
    (h : ∀ items, PI items → ∃ J : Nat → Loc → Own → Prop, Again (J 0) σ ω ∧
      (∀ j d σ' ω', items[j]? = some d → J j σ' ω' → Asg c k env t d σ' ω' fun σ'' ω'' => Ex c k env σ'' ω'' b (turnF (J (j + 1)) P)) ∧ ∀ σ' ω', J items.length σ' ω' → P (.next σ' ω'))
    (hs : ∀ x, foldedSetIterable iter env x = pure x := by intro _; rfl) : Ex1 c k env σ ω (.For t iter b [] pos) P := by
  intro A s Ho Hx E Q ok z hq
  refine wpAny_For (hI A s Ho Hx E _ ok z fun items s₁ it fp wr Pv W hp ee X => ?_) hs
  obtain ⟨J, j0, jt, je⟩ := h items hp
  have z1 := z.ext ee
  have zz : ∀ {σ' : Loc} {ω' : Own} {H : List Addr} {s' : Shared}, St c env σ' ω' H (Hx ++ wr) s' → St c env σ' ω' H Hx s' := fun {σ' ω' H s'} z' =>
    ⟨z'.gb, z'.ns, fun a m => z'.ok a (by rcases List.mem_append.mp m with m | m; exact List.mem_append_left _ m; exact List.mem_append_right _ (List.mem_append_left _ m)),
      z'.loc.mono (hid_weaken fun b m => by
        rcases List.mem_cons.mp m with rfl | m
        · exact .head _
        · rcases List.mem_append.mp m with m | m
          · exact .tail _ (List.mem_append_left _ m)
          · exact .tail _ (List.mem_append_right _ (List.mem_append_left _ m))) (fun _ _ e => e),
      z'.own.mono (hid_weaken fun b m => by
        rcases List.mem_cons.mp m with rfl | m
        · exact .head _
        · rcases List.mem_append.mp m with m | m
          · exact .tail _ (List.mem_append_left _ m)
          · exact .tail _ (List.mem_append_right _ (List.mem_append_left _ m))) (fun _ _ _ q => q) (fun _ _ q => q), z'.nd, fun a m q => z'.ap a m (List.mem_append_left _ q), z'.cl, z'.tk, z'.eo, fun a m => z'.kx a (List.mem_append_left _ m)⟩
  -- the iterator is hidden from the body
  have z2 : St c env σ ω Ho (Hx ++ wr) s₁ := by
    have sg : Sub (hid (env.locals :: (Ho ++ Hx)) s.heap) (hid (env.locals :: (Ho ++ (Hx ++ wr))) s₁.heap) := fun b o q => by
      have q0 := hid_old q
      unfold hid at q ⊢
      split at q
      · cases q
      · rename_i n
        rw [if_neg]; exact ee.keeps _ _ q0
        intro m
        rcases List.mem_cons.mp m with rfl | m
        · exact n (.head _)
        · rcases List.mem_append.mp m with m | m
          · exact n (.tail _ (List.mem_append_left _ m))
          · rcases List.mem_append.mp m with m | m
            · exact n (.tail _ (List.mem_append_right _ m))
            · have := X.fr b m; rw [this] at q0; cases q0
    refine ⟨z1.gb, z1.ns, fun a m => ?_, z.loc.mono sg ee.keeps, z.own.mono sg (fun a _ o q => ee.keeps a o q) (fun y v q => q.mono ee.keeps), z.nd, fun a m q => ?_, z1.cl, z1.tk, z.eo, fun a m => ?_⟩
    · rcases List.mem_append.mp m with m | m
      · exact z1.ok a (List.mem_append_left _ m)
      · rcases List.mem_append.mp m with m | m
        · exact z1.ok a (List.mem_append_right _ m)
        · exact X.ex 0 _ X.st a (X.w.sub a m)
    · rcases List.mem_append.mp q with q | q
      · exact z.ap a m q
      · obtain ⟨o, w⟩ := z.ok a (List.mem_append_left _ m)
        rw [X.fr a q] at w; cases w
    · rcases List.mem_append.mp m with m | m
      · exact z.kx a m
      · cases e : c.K.lookup a with
        | none => rfl
        | some o =>
          have := z.gl.k _ _ e
          rw [X.fr a m] at this; cases this
  refine codeAny_forLoop_any (fun n s' => ∃ j σ' ω' Ho', n = items.length - j ∧ j ≤ items.length ∧ J j σ' ω' ∧ St c env σ' ω' Ho' (Hx ++ wr) s' ∧ W j s'.heap ∧ (∀ b ∈ fp, b ≠ env.locals ∧ b ∉ Ho') ∧
    (∀ i v, i < items.length → Pv i v → ∃ d, items[i]? = some d ∧ Rep (hid (env.locals :: (Ho' ++ (Hx ++ wr))) s'.heap) d v) ∧ Keep env.locals Ho s s' Ho') ?_ items.length ?_
  · rintro n s' ⟨j, σ', ω', Ho', rfl, hj, hJ, z3, hW, hfp, hri, kp⟩
    by_cases hlt : j < items.length
    · refine wpAny_with_toks (Nat.le_refl s'.toks) (X.w.item j s' _ _ hlt hW fun v h' tk hPv hW' hk => fun htk => ?_)
      obtain ⟨d, hd, hrd⟩ := hri j v hlt hPv
      -- the state behind the iterator's step
      have nw : ∀ b, b ∈ wr → b ≠ env.locals ∧ b ∉ Ho' := fun b m => hfp b (X.w.sub b m)
      have sg : Sub (hid (env.locals :: (Ho' ++ (Hx ++ wr))) s'.heap) (hid (env.locals :: (Ho' ++ (Hx ++ wr))) h') := hid_mono fun b o n e => hk b o (fun q => n (.tail _ (List.mem_append_right _ (List.mem_append_right _ q)))) e
      have z4 : St c env σ' ω' Ho' (Hx ++ wr) { s' with heap := h', toks := tk } := z.stepped z3 kp X.fr nw hk htk (fun _ m => m) fun a m => by
        by_cases hw : a ∈ wr
        · exact X.ex (j + 1) _ hW' a (X.w.sub a hw)
        · obtain ⟨o, q⟩ := z3.ok a (List.mem_append_right _ m)
          exact ⟨o, hk a o hw q⟩
      have kp4 : Keep env.locals Ho s { s' with heap := h', toks := tk } Ho' := by
        obtain ⟨⟨h0, t0, e0⟩, k2, k3⟩ := kp
        refine ⟨⟨h', tk, by rw [e0]⟩, Nat.le_trans k2 htk, fun b o n m q => ?_⟩
        obtain ⟨q', m'⟩ := k3 b o n m q
        refine ⟨hk b o (fun w => ?_) q', m'⟩
        rw [X.fr b w] at q; cases q
      obtain ⟨o, vs, T, w1, w2, w3, w4⟩ := X.cls (j + 1) _ hW'
      refine letOwned w1 w2 w3 w4 ?_
      refine jt j d σ' ω' hd hJ A { s' with heap := h', toks := tk } Ho' (Hx ++ wr) _ _ v ok z4 (hrd.mono sg) fun σ5 ω5 s5 Ho5 hp5 kp5 z5 => ?_
      refine hp5 A s5 Ho5 (Hx ++ wr) _ _ ok z5 fun o fl s6 Ho6 hp6 kp6 hr6 => ?_
      have kk := kp5.trans kp6
      have kall := kp4.trans kk
      have hW6 : W (j + 1) s6.heap := X.w.frame _ _ _ hW' fun b m o q => (kk.2.2 b o (hfp b m).1 (hfp b m).2 q).1
      have hfp6 : ∀ b ∈ fp, b ≠ env.locals ∧ b ∉ Ho6 := fun b m => ⟨(hfp b m).1, by
        obtain ⟨o, q⟩ := X.ex (j + 1) _ hW' b m
        exact (kk.2.2 b o (hfp b m).1 (hfp b m).2 q).2⟩
      have hri6 : ∀ i v, i < items.length → Pv i v → ∃ d, items[i]? = some d ∧ Rep (hid (env.locals :: (Ho6 ++ (Hx ++ wr))) s6.heap) d v := fun i v hi q => by
        obtain ⟨d, q1, q2⟩ := hri i v hi q
        exact ⟨d, q1, (q2.mono sg).mono kk.hid⟩
      cases o with
      | next σ7 ω7 =>
        obtain ⟨rfl, z7⟩ := hr6
        obtain ⟨σ8, sub, hJ8⟩ := hp6
        exact ⟨items.length - (j + 1), by omega, j + 1, σ8, ω7, Ho6, rfl, hlt, hJ8, z7.weaken sub, hW6, hfp6, hri6, kall⟩
      | cont σ7 ω7 =>
        obtain ⟨rfl, z7⟩ := hr6
        obtain ⟨σ8, sub, hJ8⟩ := hp6
        exact ⟨items.length - (j + 1), by omega, j + 1, σ8, ω7, Ho6, rfl, hlt, hJ8, z7.weaken sub, hW6, hfp6, hri6, kall⟩
      | brk σ7 ω7 =>
        obtain ⟨rfl, z7⟩ := hr6
        exact hq _ _ s6 Ho6 hp6 kall ⟨rfl, zz z7⟩
      | ret d =>
        obtain ⟨v, rfl, hv⟩ := hr6
        exact hq _ _ s6 Ho6 hp6 kall ⟨v, rfl, hv.mono (hid_weaken fun b m => List.mem_append_left _ m)⟩
    · obtain rfl : j = items.length := by omega
      refine wpAny_with_toks (Nat.le_refl s'.toks) (X.w.done s' _ _ hW fun h' tk hk => fun htk => ?_)
      refine wpAny_execs_nil ?_
      have nw : ∀ b, b ∈ wr → b ≠ env.locals ∧ b ∉ Ho' := fun b m => hfp b (X.w.sub b m)
      have z4 : St c env σ' ω' Ho' Hx { s' with heap := h', toks := tk } := z.stepped z3 kp X.fr nw hk htk (fun _ m => List.mem_append_left _ m) fun a m => by
        obtain ⟨o, q⟩ := z3.ok a (List.mem_append_right _ (List.mem_append_left _ m))
        obtain ⟨o', q'⟩ := z.ok a (List.mem_append_right _ m)
        exact ⟨o, hk a o (fun w => by rw [X.fr a w] at q'; cases q') q⟩
      refine hq _ _ _ Ho' (je σ' ω' hJ) ?_ ⟨rfl, z4⟩
      obtain ⟨⟨h0, t0, e0⟩, k2, k3⟩ := kp
      refine ⟨⟨h', tk, by rw [e0]⟩, Nat.le_trans k2 htk, fun b o n m q => ?_⟩
      obtain ⟨q', m'⟩ := k3 b o n m q
      refine ⟨hk b o (fun w => ?_) q', m'⟩
      rw [X.fr b w] at q; cases q
  · obtain ⟨σ4, sub, hJ⟩ := j0
    exact ⟨0, σ4, ω, Ho, rfl, Nat.zero_le _, hJ, z2.weaken sub, X.st, X.fo, X.ri, Keep.ofExt ee⟩
end
end
section

section
variable {c : Cx} {k : Nat} {env : Env} {σ : Loc} {ω : Own} {Ho Hx : List Addr} {s s' : Shared} {A : Around} {x : Str}

/-! ## the written part -/
theorem At.part {H : List Addr} (a : At c k env σ H A s) : Sub (fun a => c.K.lookup a) (hid H s.heap) := fun b o e => by
  unfold hid
  rw [if_neg]; exact a.gl.k _ _ e
  intro m
  have := a.kx b m
  dsimp only at e
  rw [e] at this; cases this
theorem ev_gval {v : Value} {d : D} {P : D → Prop} {pos : Pos} (hk : env.kindOf x = some .globalImplicit) (hg : c.gm x = some v) (hr : Rep (fun a => c.K.lookup a) d v) (hp : P d) (hd : (x == ("__debug__" : Str)) = false := by decide) :
    Ev c k env σ (.Name x pos) P := fun A s H E Q a h =>
  Name_function_global a.eo.k hk (loadGlobal_global (by rw [a.eo.g]; exact a.gl.g) hg (h _ _ _ hp (Ext.refl s) (hr.mono a.part))) hd

/-! ## an owned list stands from now on -/
theorem OwnR.kind {g : Mem} {h : Heap} {l : List D} : ∀ {ω : Own} {H : List Addr}, OwnR env g h ω H → ω.lookup x = some l → env.kindOf x = some .local
  | [], H, q, e => by cases e
  | (y, m) :: ω, H, q, e => by
    simp only [OwnR] at q
    obtain ⟨a, r, vs, n, rfl, h1, h2, h3, h4, h5⟩ := q
    rw [List.lookup_cons] at e
    split at e
    · rename_i hxy
      rw [beq_iff_eq] at hxy
      rw [hxy]; exact h1
    · exact h5.kind e
/-- the entry of x is dropped, with its address -/
theorem OwnR.drop {g : Mem} {h : Heap} {a : Addr} (hk : env.kindOf x = some .local) (hx : Has env h x (.ref a)) : ∀ {ω : Own} {H : List Addr}, H.Nodup → OwnR env g h ω H →
    ∃ H', H'.Sublist H ∧ ((∃ l, ω.lookup x = some l) → a ∉ H') ∧ OwnR env g h (delL x ω) H'
  | [], H, _, q => by
    simp only [OwnR] at q; subst q
    exact ⟨[], List.nil_sublist _, (fun ⟨l, e⟩ => nomatch e), by simp [delL, OwnR]⟩
  | (y, m) :: ω, H, nd, q => by
    simp only [OwnR] at q
    obtain ⟨b, r, us, n', rfl, h1, h2, h3, h4, h5⟩ := q
    obtain ⟨nb, nd'⟩ := List.nodup_cons.mp nd
    obtain ⟨H', sb, na, q'⟩ := OwnR.drop hk hx nd' h5
    by_cases e : y = x
    · subst e
      have e2 : b = a := Has.uniq h1 h2 hx
      subst e2
      refine ⟨H', .cons _ sb, fun _ w => nb (sb.subset w), ?_⟩
      unfold delL at q' ⊢
      rw [List.filter_cons, if_neg (by simp)]
      exact q'
    · have hxy : (x == y) = false := by rw [beq_eq_false_iff_ne]; exact fun q => e q.symm
      refine ⟨b :: H', .cons_cons _ sb, fun ⟨l, w⟩ q => ?_, ?_⟩
      · rw [List.lookup_cons, hxy] at w
        rcases List.mem_cons.mp q with q | q
        · obtain ⟨b', _, _, m1, m2, _⟩ := h5.find w
          have : b' = a := Has.uniq hk m2 hx
          exact nb (q ▸ this ▸ m1)
        · exact na ⟨l, w⟩ q
      · unfold delL at q' ⊢
        rw [List.filter_cons, if_pos (by simp [e])]
        simp only [OwnR]
        exact ⟨b, H', us, n', rfl, h1, h2, h3, h4, q'⟩
theorem St.freeze {l : List D} (z : St c env σ ω Ho Hx s) (hl : ω.lookup x = some l) : ∃ Ho', Keep env.locals Ho s s Ho' ∧ St c env ((x, .lst l) :: σ) (delL x ω) Ho' Hx s := by
  obtain ⟨a, vs, n, hm, hx, hb, hr⟩ := z.own.find hl
  obtain ⟨Ho', sb, na, q⟩ := z.own.drop (z.own.kind hl) hx z.nd
  have sub : ∀ b, b ∈ Ho' → b ∈ Ho := fun b m => sb.subset m
  have sg : Sub (hid (env.locals :: (Ho ++ Hx)) s.heap) (hid (env.locals :: (Ho' ++ Hx)) s.heap) := hid_weaken fun b m => by
    rcases List.mem_cons.mp m with rfl | m
    · exact .head _
    · rcases List.mem_append.mp m with m | m
      · exact .tail _ (List.mem_append_left _ (sub b m))
      · exact .tail _ (List.mem_append_right _ m)
  refine ⟨Ho', ⟨⟨s.heap, s.toks, rfl⟩, Nat.le_refl _, fun b o n n2 e => ⟨e, fun w => n2 (sub b w)⟩⟩, ?_, z.ns, fun b m => ?_, fun y d hy => ?_, q.mono sg (fun _ _ _ e => e) (fun _ _ e => e), sb.nodup z.nd, fun b m => z.ap b (sub b m), z.cl, z.tk, z.eo, z.kx⟩
  · obtain ⟨g, q1, q2⟩ := z.gb
    exact ⟨g, q1, fun b o w => let ⟨w1, w2, w3⟩ := q2 b o w; ⟨w1, w2, fun m => w3 (sub b m)⟩⟩
  · rcases List.mem_append.mp m with m | m
    · exact z.ok b (List.mem_append_left _ (sub b m))
    · exact z.ok b (List.mem_append_right _ m)
  · rw [List.lookup_cons] at hy
    by_cases hxy : (y == x) = true
    · simp only [hxy] at hy
      cases hy
      rw [beq_iff_eq] at hxy
      subst hxy
      refine ⟨.ref a, hx, ?_⟩
      simp only [Rep]
      refine ⟨a, vs, n, rfl, ?_, hr.mono sg⟩
      unfold hid
      rw [if_neg]; exact hb
      intro m
      rcases List.mem_cons.mp m with rfl | m
      · exact z.noList _ _ hb
      · rcases List.mem_append.mp m with m | m
        · exact na ⟨l, hl⟩ m
        · exact z.ap a hm m
    · simp only [hxy] at hy
      obtain ⟨v, w1, w2⟩ := z.loc y d hy
      exact ⟨v, w1, w2.mono sg⟩

theorem ex_freeze {b : List Stmt} {P : Out → Prop} {l : List D} (x : Str) (hl : ω.lookup x = some l) (h : Ex c k env ((x, .lst l) :: σ) (delL x ω) b P) : Ex c k env σ ω b P := fun A s Ho Hx E Q ok z hq => by
  obtain ⟨Ho', kp, z'⟩ := z.freeze hl
  exact h A s Ho' Hx E Q ok z' fun o fl s' Ho'' hp kp' hr => hq o fl s' Ho'' hp (kp.trans kp') hr

/-! ## what a for-loop goes over -/
structure WA (c : Cx) (A : Around) (H : List Addr) (s s₁ : Shared) (it : Addr) (items : List D) (fp wr : List Addr) (Pv : Nat → Value → Prop) (W : Nat → Heap → Prop) : Prop where
  w : Walks c.prog c.w A it fp wr items.length Pv W
  st : W 0 s₁.heap
  fr : ∀ b ∈ wr, s.heap.get? b = none
  fo : ∀ b ∈ fp, b ∉ H
  ex : ∀ i h, W i h → ∀ b ∈ fp, ∃ o, h.get? b = some o
  cls : ∀ i h, W i h → ∃ o vs T, h.get? it = some o ∧ o.cls = .type T ∧ o.data = .fields vs ∧ (["enumerate", "zip", "dict_itemiterator", "dict_reverseitemiterator", "odict_iterator", "itertools.zip_longest", "itertools.pairwise"] : List String).contains T = false
  ri : ∀ i v, i < items.length → Pv i v → ∃ d, items[i]? = some d ∧ Rep (hid (wr ++ H) s₁.heap) d v
noncomputable def IterA (c : Cx) (k : Nat) (env : Env) (σ : Loc) (iter : Expr) (PI : List D → Prop) : Prop :=
  ∀ (A : Around) (s : Shared) (H : List Addr) (E : Value → Shared → Prop) (Q : Value → Shared → Prop), At c k env σ H A s →
    (∀ items s₁ it fp wr Pv W, PI items → Ext s s₁ → WA c A H s s₁ it items fp wr Pv W → Q (.ref it) s₁) →
    wpAny (model c.prog c.w) A (eval iter env) (fun x s₁ => wpAny (model c.prog c.w) A (pyIter x) Q E s₁) E s
theorem IterA.iterP {iter : Expr} {PI : List D → Prop} (h : IterA c k env σ iter PI) : IterP c k env σ ω iter PI := fun A s Ho Hx E Q ok z hq =>
  h A s _ E Q (z.at ok) fun items s₁ it fp wr Pv W hp e X => hq items s₁ it fp wr Pv W hp e
    ⟨X.w, X.st, X.fr, fun b m => ⟨fun q => X.fo b m (q ▸ .head _), fun q => X.fo b m (.tail _ (List.mem_append_left _ q))⟩, X.ex, X.cls, fun i v hi q => by
      obtain ⟨d, h1, h2⟩ := X.ri i v hi q
      refine ⟨d, h1, h2.mono (hid_weaken fun b m => ?_)⟩
      simp only [List.mem_cons, List.mem_append] at m ⊢
      rcases m with m | m | m | m <;> simp [m]⟩
theorem At.notNew {H : List Addr} (a : At c k env σ H A s) {b : Addr} (h : s.heap.get? b = none) : b ∉ H := fun m => by
  obtain ⟨o, e⟩ := a.ho b m
  rw [h] at e; cases e

theorem itera_list {e : Expr} {PI : List D → Prop} (h : Ev c k env σ e fun d => ∃ l, (d = .lst l ∨ d = .lsx l) ∧ PI l) : IterA c k env σ e PI := fun A s H E Q a hq =>
  h A s H E _ a fun d v s₁ hr ee hv => by
    obtain ⟨l, hd, hp⟩ := hr
    obtain ⟨b, vs, o, n, rfl, hb, hc, hdt, hvs⟩ : ∃ b vs o n, v = .ref b ∧ hid H s₁.heap b = some o ∧ o.cls = .type "list" ∧ o.data = .seq (List.toArray vs) n ∧ RepL (hid H s₁.heap) l vs := by
      rcases hd with rfl | rfl
      · simp only [Rep] at hv; obtain ⟨b, vs, n, e1, e2, e3⟩ := hv; exact ⟨b, vs, _, n, e1, e2, rfl, rfl, e3⟩
      · simp only [Rep] at hv; obtain ⟨b, o, vs, n, e1, e2, e3, e4, e5⟩ := hv; exact ⟨b, vs, o, n, e1, e2, e3, e4, e5⟩
    have hL : s₁.heap.IsList b vs.toArray := ⟨o, hid_old hb, hc, n, hdt⟩
    have hlen := hvs.length
    have hf : s₁.heap.get? s₁.heap.objs.size = none := Heap.get?_none_of_le (Nat.le_refl _)
    have hne : b ≠ s₁.heap.objs.size := fun q => by
      have := hid_old hb
      rw [q, hf] at this; cases this
    have hbH : b ∉ H := fun m => by
      unfold hid at hb
      rw [if_pos m] at hb; cases hb
    refine wpAny_pyIter_list hL (hq l _ _ [s₁.heap.objs.size, b] [s₁.heap.objs.size] (fun i v => vs.toArray[i]? = some v) (fun i h => h.IsListIter s₁.heap.objs.size b i ∧ h.IsList b vs.toArray) hp (ee.pushed _) ⟨?_, ⟨⟨_, Heap.get?_push_size _ rfl, rfl, rfl⟩, hL.push _⟩, ?_, ?_, ?_, ?_, ?_⟩)
    · have := Walks.list (prog := c.prog) (w := c.w) (A := A) a.ok.hn s₁.heap.objs.size b hne vs.toArray
      simp only [List.size_toArray, hlen] at this
      exact this
    · intro x m; simp only [List.mem_singleton] at m; subst m
      exact ee.fresh (Nat.le_refl _)
    · intro x m
      rcases List.mem_cons.mp m with rfl | m
      · exact a.notNew (ee.fresh (Nat.le_refl _))
      · simp only [List.mem_singleton] at m; subst m; exact hbH
    · rintro i h ⟨⟨o1, q1, _⟩, ⟨o2, q2, _⟩⟩ x m
      rcases List.mem_cons.mp m with rfl | m
      · exact ⟨o1, q1⟩
      · simp only [List.mem_singleton] at m; subst m; exact ⟨o2, q2⟩
    · rintro i h ⟨⟨o1, q1, q2, q3⟩, _⟩
      exact ⟨o1, _, _, q1, q2, q3, by decide⟩
    · intro i v this q
      obtain ⟨v', e1, e2⟩ := hvs.get (i := i) (d := l[i]) (by simp [this])
      have : v' = v := by
        have q' : vs[i]? = some v := by simpa using q
        rw [e1] at q'; cases q'; rfl
      subst this
      exact ⟨_, by simp [this], e2.mono (hid_cons hf (((Ext.refl s₁).pushed _).hid H))⟩

theorem itera_str {e : Expr} {PI : List D → Prop} (h : Ev c k env σ e fun d => ∃ x, d = .str x ∧ PI (x.map fun a => .str [a])) : IterA c k env σ e PI := fun A s H E Q a hq =>
  h A s H E _ a fun d v s₁ hr ee hv => by
    obtain ⟨x, rfl, hp⟩ := hr
    simp only [Rep] at hv
    obtain ⟨t, rfl⟩ := hv
    have ri : ∀ (o : Obj) i v, i < (x.map fun a => D.str [a]).length → SignAt ⟨x.toArray⟩ i v → ∃ d, (x.map fun a => D.str [a])[i]? = some d ∧ Rep (hid ([s₁.heap.objs.size] ++ H) (s₁.heap.push o)) d v := by
      rintro o i v _ ⟨a', u, q, rfl⟩
      have q' : x[i]? = some a' := by simpa using q
      exact ⟨.str [a'], by simp [q'], by simp only [Rep]; exact ⟨u, rfl⟩⟩
    have fr : ∀ b ∈ [s₁.heap.objs.size], s.heap.get? b = none := by
      intro x m; simp only [List.mem_singleton] at m; subst m
      exact ee.fresh (Nat.le_refl _)
    cases ha : (⟨x.toArray⟩ : Str).cps.all (· < 128)
    · refine wpAny_pyIter_wide ha (hq _ _ _ [s₁.heap.objs.size] [s₁.heap.objs.size] (SignAt ⟨x.toArray⟩) (fun i h => h.IsStrIter s₁.heap.objs.size "str_iterator" ⟨x.toArray⟩ t i) hp (ee.pushed _) ⟨?_, ⟨_, Heap.get?_push_size _ rfl, rfl, rfl⟩, fr, fun b m => a.notNew (fr b m), ?_, ?_, ri _⟩)
      · have := Walks.strWide (prog := c.prog) (w := c.w) (A := A) a.ok.hn s₁.heap.objs.size ⟨x.toArray⟩ t
        simp only [List.size_toArray] at this
        rw [List.length_map]; exact this
      · rintro i h ⟨o, q, _⟩ b m
        simp only [List.mem_singleton] at m; subst m; exact ⟨o, q⟩
      · rintro i h ⟨o, q, q2, q3⟩
        exact ⟨o, _, _, q, q2, q3, by decide⟩
    · refine wpAny_pyIter_ascii ha (hq _ _ _ [s₁.heap.objs.size] [s₁.heap.objs.size] (SignAt ⟨x.toArray⟩) (fun i h => h.IsStrIter s₁.heap.objs.size "str_ascii_iterator" ⟨x.toArray⟩ t i) hp (ee.pushed _) ⟨?_, ⟨_, Heap.get?_push_size _ rfl, rfl, rfl⟩, fr, fun b m => a.notNew (fr b m), ?_, ?_, ri _⟩)
      · have := Walks.strAscii (prog := c.prog) (w := c.w) (A := A) a.ok.hn s₁.heap.objs.size ⟨x.toArray⟩ t
        simp only [List.size_toArray] at this
        rw [List.length_map]; exact this
      · rintro i h ⟨o, q, _⟩ b m
        simp only [List.mem_singleton] at m; subst m; exact ⟨o, q⟩
      · rintro i h ⟨o, q, q2, q3⟩
        exact ⟨o, _, _, q, q2, q3, by decide⟩

/-- the numbers of a range -/
noncomputable def rngs (a b c : Int) : List D := (List.range (Builtin.Range.rangeSize a b c).toNat).map fun i : Nat => .int (a + (i : Int) * c)
theorem itera_rng {e : Expr} {PI : List D → Prop} (h : Ev c k env σ e fun d => ∃ x y z, d = .rng x y z ∧ 0 ≤ Builtin.Range.rangeSize x y z ∧ Builtin.Range.small x y z = true ∧ PI (rngs x y z)) : IterA c k env σ e PI := fun A s H E Q a hq =>
  h A s H E _ a fun d v s₁ hr ee hv => by
    obtain ⟨x, y, z, rfl, h0, hs, hp⟩ := hr
    simp only [Rep] at hv
    obtain ⟨r, t, u, w, rfl, hb⟩ := hv
    have fr : ∀ b ∈ [s₁.heap.objs.size], s.heap.get? b = none := by
      intro x m; simp only [List.mem_singleton] at m; subst m
      exact ee.fresh (Nat.le_refl _)
    refine wpAny_pyIter_range (hid_old hb) hs (hq _ _ _ [s₁.heap.objs.size] [s₁.heap.objs.size] (fun i v => ∃ t, v = .int (x + i * z) t) (fun i h => IsRangeIter h s₁.heap.objs.size (x + (i : Nat) * z) (((Builtin.Range.rangeSize x y z).toNat : Int) - (i : Nat)) z) hp (ee.pushed _) ⟨?_, ?_, fr, fun b m => a.notNew (fr b m), ?_, ?_, ?_⟩)
    · have := Walks.range (prog := c.prog) (w := c.w) (A := A) a.ok.hn s₁.heap.objs.size x z (Builtin.Range.rangeSize x y z).toNat
      unfold rngs
      rw [List.length_map, List.length_range]; exact this
    · show IsRangeIter _ _ _ _ _
      have e1 : x + ((0 : Nat) : Int) * z = x := by simp
      have e2 : ((Builtin.Range.rangeSize x y z).toNat : Int) - ((0 : Nat) : Int) = Builtin.Range.rangeSize x y z := by omega
      rw [e1, e2]
      exact Heap.get?_push_size _ rfl
    · intro i h q b m
      simp only [List.mem_singleton] at m; subst m; exact ⟨_, q⟩
    · intro i h q
      exact ⟨_, _, "range_iterator", q, rfl, rfl, by decide⟩
    · rintro i v hi ⟨t, rfl⟩
      unfold rngs at hi ⊢
      rw [List.length_map, List.length_range] at hi
      exact ⟨.int (x + (i : Int) * z), by simp [hi], repI⟩

theorem small_of {a b c : Int} (h : -10000000 ≤ a ∧ a ≤ 10000000 ∧ -10000000 ≤ b ∧ b ≤ 10000000 ∧ 1 ≤ c ∧ c ≤ 1000) : 0 ≤ Builtin.Range.rangeSize a b c ∧ Builtin.Range.small a b c = true := by
  have h1 := rangeSize_toNat a b c
  have h2 := rangeSize_toNat_le a b c
  refine ⟨by omega, ?_⟩
  have f : ∀ i : Int, -100000000 ≤ i → i ≤ 100000000 → Builtin.Range.rangeFitsLong i = true := fun i a b => by
    unfold Builtin.Range.rangeFitsLong
    simp only [Bool.and_eq_true, decide_eq_true_eq]; omega
  unfold Builtin.Range.small
  rw [f a (by omega) (by omega), f b (by omega) (by omega), f c (by omega) (by omega), f _ (by omega) (by omega)]
  rw [if_pos (by omega), f _ (by omega) (by omega)]
  simp
theorem rngs_one (n : Nat) : rngs 0 n 1 = (List.range n).map fun i : Nat => .int (i : Int) := by
  unfold rngs
  rw [rangeSize_nat]
  simp
theorem rngs_from (a n : Nat) : rngs a n 1 = (List.range (n - a)).map fun i : Nat => .int ((a + i : Nat) : Int) := by
  unfold rngs
  rw [rangeSize_nat]
  have : ((n : Int) - (a : Int)).toNat = n - a := by omega
  simp [this]
variable {P : D → Prop}
theorem op_range1 {n : Int} (hp : P (.rng 0 n 1)) : Op c (fun vs => call (.type "range") vs) [.int n] P := Op.of fun A s H E Q vs hn hu _ hg ho hr hq => by
  obtain ⟨t, rfl⟩ := rep1_int hr
  refine call_range_1 (hq _ _ _ hp Ext0.push ?_)
  simp only [Rep]
  exact ⟨_, _, _, _, rfl, hid_new ho (Heap.get?_none_of_le (Nat.le_refl _)) (Heap.get?_push_size _ rfl)⟩
theorem op_range2 {a b : Int} (hp : P (.rng a b 1)) : Op c (fun vs => call (.type "range") vs) [.int a, .int b] P := Op.of fun A s H E Q vs hn hu _ hg ho hr hq => by
  obtain ⟨t, u, rfl⟩ := rep2_int hr
  refine call_range_2 (hq _ _ _ hp Ext0.push ?_)
  simp only [Rep]
  exact ⟨_, _, _, _, rfl, hid_new ho (Heap.get?_none_of_le (Nat.le_refl _)) (Heap.get?_push_size _ rfl)⟩
theorem op_range3 {a b d : Int} (hd : d ≠ 0) (hz : (b - a).natAbs < 2 ^ 64 ∧ d.natAbs < 1000000) (hp : P (.rng a b d)) : Op c (fun vs => call (.type "range") vs) [.int a, .int b, .int d] P := Op.of fun A s H E Q vs hn hu _ hg ho hr hq => by
  simp only [RepL, Rep] at hr
  obtain ⟨_, _, rfl, ⟨t, rfl⟩, _, _, rfl, ⟨u, rfl⟩, _, _, rfl, ⟨w, rfl⟩, rfl⟩ := hr
  refine call_range_3 hd (hq _ _ _ hp Ext0.push ?_) (Or.inl (PyProof.noPylong_small (by have := hz.1; have := hz.2; omega)))
  simp only [Rep]
  exact ⟨_, _, _, _, rfl, hid_new ho (Heap.get?_none_of_le (Nat.le_refl _)) (Heap.get?_push_size _ rfl)⟩
end
end
section

noncomputable def retP (P : D → Prop) : Out → Prop
  | .ret d => P d
  | .next _ _ => P .none
  | _ => False

theorem loc_zip {g : Mem} : ∀ {xs : List Str} {args : List D} {vs : List Value} {aD : List (Str × D)} {aV : List (Str × Value)}, RepL g args vs → (∀ x d, aD.lookup x = some d → ∃ v, aV.lookup x = some v ∧ Rep g d v) →
    ∀ x d, ((xs.zip args).reverseAux aD).lookup x = some d → ∃ v, ((xs.zip vs).reverseAux aV).lookup x = some v ∧ Rep g d v
  | [], args, vs, aD, aV, _, ha, x, d, e => ha x d e
  | y :: xs, [], vs, aD, aV, h, ha, x, d, e => by
    simp only [RepL] at h
    subst h
    exact ha x d e
  | y :: xs, d0 :: args, vs, aD, aV, h, ha, x, d, e => by
    simp only [RepL] at h
    obtain ⟨v0, vs, rfl, h0, h⟩ := h
    refine loc_zip (xs := xs) h (fun x d e => ?_) x d e
    rw [List.lookup_cons] at e ⊢
    split at e
    · rename_i q
      cases e
      exact ⟨v0, rfl, h0⟩
    · exact ha x d e

section
variable {c : Cx} {k : Nat}
theorem fn_def {f : Addr} {o : Obj} {fd : FuncData} {body : List Stmt} {args : List D} {P : D → Prop} (xs : List Str) (ho : c.K.lookup f = some o) (hd : o.data = .func fd) (hcd : codeIn c.K fd.code fd.qualname = true)
    (hbody : fd.body = .stmts body) (hg : fd.globals = mainGlobals) (hb : fd.builtins = builtinsNs) (hclo : fd.closure = [])
    (hbind : ∀ vs : List Value, vs.length = args.length → bindArgs fd ⟨vs, []⟩ = pure (xs.zip vs))
    (hcell : ∀ x ∈ fd.scope.names, x.2 ≠ .cell) (hloc : ∀ x ∈ xs, fd.scope.names.lookup x = some .local)
    (h : ∀ L, Ex c k (callEnv fd L f) (xs.zip args).reverse [] body (retP P))
    (hco : fd.scope.isCoroutine = false := by rfl) (hgen : fd.scope.isGenerator = false := by rfl) (hk : fd.scope.kind = .function := by rfl) : Fn c (k + 1) f args P := by
  intro A s H R vs ok tk gl ho' kx hr hq
  refine codeAny_call_def (binds := xs.zip vs) (by have := ok.d; unfold recursionLimit; omega) (gl.k _ _ ho) hd gl.nl (codeRec_of gl.k hcd) hbody (BindsTo.of_eq (hbind vs hr.length)) hcell (fun x m => hloc _ (List.of_mem_zip m).1) (fun h₀ hn hkk => ?_) hco hgen hk
  have hL : s.heap.get? s.heap.objs.size = none := Heap.get?_none_of_le (Nat.le_refl _)
  have hnL : ∀ b o, s.heap.get? b = some o → b ≠ s.heap.objs.size := fun b o e q => by rw [q, hL] at e; cases e
  have sg : Sub (hid H s.heap) (hid (s.heap.objs.size :: ([] ++ H)) h₀) := fun b o e => by
    have q0 := hid_old e
    unfold hid at e ⊢
    split at e
    · cases e
    · rename_i n
      rw [if_neg]; exact hkk _ _ q0
      intro m
      rcases List.mem_cons.mp m with rfl | m
      · exact hnL _ _ q0 rfl
      · exact n m
  have z : St c (callEnv fd s.heap.objs.size f) (xs.zip args).reverse [] [] H { s with heap := h₀, toks := s.toks + (xs.zip vs).length } := by
    refine ⟨⟨s.heap, gl, fun b o e => ⟨hkk b o e, hnL b o e, by simp⟩⟩, ⟨_, hn⟩, ho'.mono hkk, fun x d e => ?_, by simp only [OwnR], .nil, (fun a m => nomatch m), fun x b e => ?_, Nat.lt_of_lt_of_le tk (Nat.le_add_right _ _), ⟨hg, hb, hk⟩, kx⟩
    · obtain ⟨v, e1, e2⟩ := loc_zip (aD := []) (aV := []) (hr.mono sg) (fun x d e => nomatch e) x d e
      · have hx : (callEnv fd s.heap.objs.size f).kindOf x = some .local := by
          have : x ∈ xs := by
            have m : ∀ (l : List (Str × Value)), l.lookup x = some v → ∃ p ∈ l, p.1 = x := by
              intro l
              induction l with
              | nil => intro q; cases q
              | cons p r ih =>
                intro q
                rw [List.lookup_cons] at q
                split at q
                · rename_i w
                  rw [beq_iff_eq] at w
                  exact ⟨p, .head _, w.symm⟩
                · obtain ⟨p', m', e'⟩ := ih q
                  exact ⟨p', .tail _ m', e'⟩
            obtain ⟨p, m', rfl⟩ := m _ e1
            have m2 : p ∈ xs.zip vs := by
              have : p ∈ (xs.zip vs).reverse := m'
              exact List.mem_reverse.mp this
            exact (List.of_mem_zip m2).1
          exact hloc x this
        exact ⟨v, .inl ⟨hx, _, hn, e1⟩, e2⟩
    · have : (callEnv fd s.heap.objs.size f).cells = [] := hclo
      rw [this] at e; cases e
  refine h _ _ _ [] H _ _ ⟨ok.hn, ?_, ?_⟩ z fun o fl s' Ho' hp kp hr' => ?_
  · have := ok.d; show A.depth + 1 + 4 * k ≤ 900; omega
  · have := ok.u; show A.units + 3 + 20 * k ≤ 9000; omega
  · have ee : Ext s s' := by
      obtain ⟨⟨h', t', e0⟩, k2, k3⟩ := kp
      refine ⟨⟨h', t', by rw [e0], fun b o e => ?_⟩, Nat.le_trans (Nat.le_add_right _ _) k2⟩
      have := (k3 b o (hnL b o e) (by simp) (hkk b o e)).1
      rw [e0] at this; exact this
    cases o with
    | next σ ω => obtain ⟨rfl, _⟩ := hr'; exact hq _ _ s' hp ee (by simp only [Rep])
    | ret d => obtain ⟨v, rfl, hv⟩ := hr'; exact hq _ _ s' hp ee hv
    | brk σ ω => exact hp.elim
    | cont σ ω => exact hp.elim
end
end
section
abbrev pw : Program := PySem.Challenge.pw_no0264_01
noncomputable def stAt (i : Nat) : Stmt := pw.main.body.getD i (.Pass default)
noncomputable def inCls : Stmt → Stmt
  | .ClassDef _ _ _ (s :: _) _ _ _ _ _ _ _ => s
  | s => s
noncomputable def fdOf (st : Stmt) (qual : Str) (dV pm cd : Value) : FuncData := match st with
  | .FunctionDef name params body _ _ _ scope _ _ _ => { name, qualname := qual, params, body := .stmts body, scope, globals := mainGlobals, closure := [], defaults := dV, kwdefaults := .none, doc := .none, pyModule := pm, annotations := none, code := cd, closureTuple := .none, builtins := builtinsNs }
  | _ => default
noncomputable def bodyOf (st : Stmt) : List Stmt := match st with
  | .FunctionDef _ _ body _ _ _ _ _ _ _ => body
  | _ => []
noncomputable def fnObj (fd : FuncData) : Obj := { cls := .type "function", data := .func fd }
noncomputable def cdO (n qual : Str) (t : Nat) (line nargs : Int) (b : Addr) (vars : Bool) (u : Nat) : Obj := { cls := .type "code", data := .fields #[.str n t, .str qual (t + 1), .str "/claim/cut.py" (t + 2), .int line 0, .int nargs 0, .int 0 0, .int 0 0, .int 3 0, .ref b, .bool true, .int 181 0, .ref (b + 1), .none, .none, .none, .none, .int u 0, .int line 0, .str "/claim/cut.py" (u + 1)] }
noncomputable def fd_cards_of : FuncData := fdOf (stAt 9) "cards_of" .none (.str "f77.source" 270) (.ref 99)
noncomputable def fd_without_blanks : FuncData := fdOf (stAt 10) "without_blanks" .none (.str "f77.source" 270) (.ref 106)
noncomputable def fd_is_comment : FuncData := fdOf (stAt 11) "is_comment" .none (.str "f77.source" 270) (.ref 113)
noncomputable def fd_read_cards : FuncData := fdOf (stAt 12) "read_cards" .none (.str "f77.source" 270) (.ref 120)
noncomputable def fd_is_continuation : FuncData := fdOf (stAt 13) "is_continuation" .none (.str "f77.source" 270) (.ref 127)
noncomputable def fd_read_label : FuncData := fdOf (stAt 14) "read_label" .none (.str "f77.source" 270) (.ref 134)
noncomputable def fd_padded : FuncData := fdOf (stAt 15) "padded" .none (.str "f77.source" 270) (.ref 141)
noncomputable def fd_joined : FuncData := fdOf (stAt 16) "joined" .none (.str "f77.source" 270) (.ref 148)
noncomputable def fd_check_continuation : FuncData := fdOf (stAt 17) "check_continuation" .none (.str "f77.source" 270) (.ref 155)
noncomputable def fd_statements_of : FuncData := fdOf (stAt 18) "statements_of" .none (.str "f77.source" 270) (.ref 162)
noncomputable def fd_read_statements : FuncData := fdOf (stAt 19) "read_statements" .none (.str "f77.source" 270) (.ref 169)
noncomputable def fd_capital : FuncData := fdOf (stAt 23) "capital" .none (.str "f77.squeeze" 416) (.ref 176)
noncomputable def fd_constant_end : FuncData := fdOf (stAt 24) "constant_end" .none (.str "f77.squeeze" 416) (.ref 183)
noncomputable def fd_count_end : FuncData := fdOf (stAt 25) "count_end" .none (.str "f77.squeeze" 416) (.ref 190)
noncomputable def fd_hollerith : FuncData := fdOf (stAt 26) "hollerith" .none (.str "f77.squeeze" 416) (.ref 197)
noncomputable def fd_squeeze : FuncData := fdOf (stAt 27) "squeeze" .none (.str "f77.squeeze" 416) (.ref 204)
noncomputable def fd_squeezed : FuncData := fdOf (stAt 28) "squeezed" .none (.str "f77.squeeze" 416) (.ref 211)
noncomputable def fd_depths : FuncData := fdOf (stAt 29) "depths" .none (.str "f77.squeeze" 416) (.ref 218)
noncomputable def fd_closing : FuncData := fdOf (stAt 30) "closing" .none (.str "f77.squeeze" 416) (.ref 225)
noncomputable def fd_name_end : FuncData := fdOf (stAt 37) "name_end" .none (.str "f77.classify" 504) (.ref 273)
noncomputable def fd_digits_end : FuncData := fdOf (stAt 38) "digits_end" .none (.str "f77.classify" 504) (.ref 280)
noncomputable def fd_is_target : FuncData := fdOf (stAt 39) "is_target" .none (.str "f77.classify" 504) (.ref 287)
noncomputable def fd_is_balanced : FuncData := fdOf (stAt 40) "is_balanced" .none (.str "f77.classify" 504) (.ref 294)
noncomputable def fd_equals_at : FuncData := fdOf (stAt 41) "equals_at" .none (.str "f77.classify" 504) (.ref 301)
noncomputable def fd_is_do_head : FuncData := fdOf (stAt 42) "is_do_head" .none (.str "f77.classify" 504) (.ref 308)
noncomputable def fd_word_of_if : FuncData := fdOf (stAt 43) "word_of_if" .none (.str "f77.classify" 504) (.ref 315)
noncomputable def fd_word_of_goto : FuncData := fdOf (stAt 44) "word_of_goto" .none (.str "f77.classify" 504) (.ref 322)
noncomputable def fd_word_of_type : FuncData := fdOf (stAt 45) "word_of_type" .none (.str "f77.classify" 504) (.ref 329)
noncomputable def fd_word_by_begin : FuncData := fdOf (stAt 46) "word_by_begin" .none (.str "f77.classify" 504) (.ref 336)
noncomputable def fd_classify : FuncData := fdOf (stAt 47) "classify" .none (.str "f77.classify" 504) (.ref 343)
noncomputable def fd_law_stock : FuncData := fdOf (stAt 51) "_law_stock" .none (.str "law_no0264_01" 742) (.ref 372)
noncomputable def fd_law_breaks : FuncData := fdOf (stAt 53) "_law_breaks" .none (.str "law_no0264_01" 742) (.ref 379)
noncomputable def fd_law_bent : FuncData := fdOf (stAt 54) "_law_bent" .none (.str "law_no0264_01" 742) (.ref 386)
noncomputable def fd_law_head : FuncData := fdOf (stAt 55) "_law_head" .none (.str "law_no0264_01" 742) (.ref 393)
noncomputable def fd_law_rows : FuncData := fdOf (stAt 56) "_law_rows" .none (.str "law_no0264_01" 742) (.ref 398)
noncomputable def fd_law : FuncData := fdOf (stAt 57) "law" .none (.str "law_no0264_01" 742) (.ref 403)
noncomputable def fd_CardInit : FuncData := fdOf (inCls (stAt 8)) "Card.__init__" .none (.str "f77.source" 270) (.ref 85)
noncomputable def fd_LimitsInit : FuncData := fdOf (inCls (stAt 49)) "Limits.__init__" (.ref 352) (.str "f77.limits" 689) (.ref 358)
noncomputable def KW (P : Params) : Frag := [
  (2, ({ cls := .none, data := .dict #[⟨PyData.keyHash P "type.__subclasses__.Exception.0", (.str "type.__subclasses__.Exception.0" 214), (.int 31 0)⟩, ⟨PyData.keyHash P "type.__subclasses__.Exception.n", (.str "type.__subclasses__.Exception.n" 215), (.int 1 0)⟩] 2 } : Obj)),
  (3, ({ cls := (.type "dict"), data := .dict #[⟨PyData.keyHash P "__name__", (.str "__name__" 165), (.str "law_no0264_01" 742)⟩, ⟨PyData.keyHash P "__doc__", (.str "__doc__" 166), .none⟩, ⟨PyData.keyHash P "__package__", (.str "__package__" 167), .none⟩, ⟨PyData.keyHash P "__loader__", (.str "__loader__" 168), (.builtin "__main__.__loader__#opaque")⟩, ⟨PyData.keyHash P "__spec__", (.str "__spec__" 169), .none⟩, ⟨PyData.keyHash P "__annotations__", (.str "__annotations__" 170), (.ref 6)⟩, ⟨PyData.keyHash P "__builtins__", (.str "__builtins__" 171), (.ref 4)⟩, ⟨PyData.keyHash P "__file__", (.str "__file__" 173), (.str "/claim/cut.py" 172)⟩, ⟨PyData.keyHash P "__cached__", (.str "__cached__" 174), .none⟩, ⟨PyData.keyHash P "F77Error", (.str "F77Error" 217), (.ref 31)⟩, ⟨PyData.keyHash P "SourceError", (.str "SourceError" 243), (.ref 51)⟩, ⟨PyData.keyHash P "LexFault", (.str "LexFault" 269), (.ref 70)⟩, ⟨PyData.keyHash P "LABEL_END", (.str "LABEL_END" 273), (.int 5 272)⟩, ⟨PyData.keyHash P "BODY_AT", (.str "BODY_AT" 275), (.int 6 274)⟩, ⟨PyData.keyHash P "DIGITS_source", (.str "DIGITS_source" 277), (.str "0123456789" 276)⟩, ⟨PyData.keyHash P "Card", (.str "Card" 312), (.ref 89)⟩, ⟨PyData.keyHash P "cards_of", (.str "cards_of" 322), (.ref 100)⟩, ⟨PyData.keyHash P "without_blanks", (.str "without_blanks" 329), (.ref 107)⟩, ⟨PyData.keyHash P "is_comment", (.str "is_comment" 337), (.ref 114)⟩, ⟨PyData.keyHash P "read_cards", (.str "read_cards" 349), (.ref 121)⟩, ⟨PyData.keyHash P "is_continuation", (.str "is_continuation" 356), (.ref 128)⟩, ⟨PyData.keyHash P "read_label", (.str "read_label" 367), (.ref 135)⟩, ⟨PyData.keyHash P "padded", (.str "padded" 375), (.ref 142)⟩, ⟨PyData.keyHash P "joined", (.str "joined" 386), (.ref 149)⟩, ⟨PyData.keyHash P "check_continuation", (.str "check_continuation" 395), (.ref 156)⟩, ⟨PyData.keyHash P "statements_of", (.str "statements_of" 407), (.ref 163)⟩, ⟨PyData.keyHash P "read_statements", (.str "read_statements" 415), (.ref 170)⟩, ⟨PyData.keyHash P "DIGITS_squeeze", (.str "DIGITS_squeeze" 419), (.str "0123456789" 418)⟩, ⟨PyData.keyHash P "AHEAD_OF_COUNT", (.str "AHEAD_OF_COUNT" 421), (.str "(,/:" 420)⟩, ⟨PyData.keyHash P "capital", (.str "capital" 428), (.ref 177)⟩, ⟨PyData.keyHash P "constant_end", (.str "constant_end" 437), (.ref 184)⟩, ⟨PyData.keyHash P "count_end", (.str "count_end" 447), (.ref 191)⟩, ⟨PyData.keyHash P "hollerith", (.str "hollerith" 458), (.ref 198)⟩, ⟨PyData.keyHash P "squeeze", (.str "squeeze" 472), (.ref 205)⟩, ⟨PyData.keyHash P "squeezed", (.str "squeezed" 482), (.ref 212)⟩, ⟨PyData.keyHash P "depths", (.str "depths" 493), (.ref 219)⟩, ⟨PyData.keyHash P "closing", (.str "closing" 503), (.ref 226)⟩, ⟨PyData.keyHash P "DIGITS_classify", (.str "DIGITS_classify" 507), (.str "0123456789" 506)⟩, ⟨PyData.keyHash P "LETTERS", (.str "LETTERS" 509), (.str "ABCDEFGHIJKLMNOPQRSTUVWXYZ" 508)⟩, ⟨PyData.keyHash P "WHOLE", (.str "WHOLE" 518), (.ref 231)⟩, ⟨PyData.keyHash P "TYPES", (.str "TYPES" 531), (.ref 238)⟩, ⟨PyData.keyHash P "BEGINS", (.str "BEGINS" 588), (.ref 267)⟩, ⟨PyData.keyHash P "name_end", (.str "name_end" 597), (.ref 274)⟩, ⟨PyData.keyHash P "digits_end", (.str "digits_end" 606), (.ref 281)⟩, ⟨PyData.keyHash P "is_target", (.str "is_target" 615), (.ref 288)⟩, ⟨PyData.keyHash P "is_balanced", (.str "is_balanced" 625), (.ref 295)⟩, ⟨PyData.keyHash P "equals_at", (.str "equals_at" 635), (.ref 302)⟩, ⟨PyData.keyHash P "is_do_head", (.str "is_do_head" 643), (.ref 309)⟩, ⟨PyData.keyHash P "word_of_if", (.str "word_of_if" 651), (.ref 316)⟩, ⟨PyData.keyHash P "word_of_goto", (.str "word_of_goto" 658), (.ref 323)⟩, ⟨PyData.keyHash P "word_of_type", (.str "word_of_type" 669), (.ref 330)⟩, ⟨PyData.keyHash P "word_by_begin", (.str "word_by_begin" 678), (.ref 337)⟩, ⟨PyData.keyHash P "classify", (.str "classify" 688), (.ref 344)⟩, ⟨PyData.keyHash P "Limits", (.str "Limits" 741), (.ref 362)⟩, ⟨PyData.keyHash P "_law_stock", (.str "_law_stock" 749), (.ref 373)⟩, ⟨PyData.keyHash P "_law_marks", (.str "_law_marks" 751), (.str "+1*&9'C$" 750)⟩, ⟨PyData.keyHash P "_law_breaks", (.str "_law_breaks" 761), (.ref 380)⟩, ⟨PyData.keyHash P "_law_bent", (.str "_law_bent" 772), (.ref 387)⟩, ⟨PyData.keyHash P "_law_head", (.str "_law_head" 780), (.ref 394)⟩, ⟨PyData.keyHash P "_law_rows", (.str "_law_rows" 786), (.ref 399)⟩, ⟨PyData.keyHash P "law", (.str "law" 792), (.ref 404)⟩] 61 } : Obj)),
  (85, ({ cls := (.type "code"), data := .fields #[(.str "__init__" 290), (.str "Card.__init__" 291), (.str "/claim/cut.py" 292), (.int 23 0), (.int 5 0), (.int 0 0), (.int 0 0), (.int 3 0), (.ref 80), (.bool true), (.int 181 0), (.ref 81), .none, (.ref 82), (.ref 83), (.ref 84), (.int 298 0), (.int 23 0), (.str "/claim/cut.py" 299)] } : Obj)),
  (86, (fnObj fd_CardInit : Obj)),
  (88, ({ cls := (.type "dict"), data := .dict #[⟨PyData.keyHash P "__module__", (.str "__module__" 285), (.str "f77.source" 270)⟩, ⟨PyData.keyHash P "__firstlineno__", (.str "__firstlineno__" 289), (.int 21 288)⟩, ⟨PyData.keyHash P "__init__", (.str "__init__" 300), (.ref 86)⟩, ⟨PyData.keyHash P "__static_attributes__", (.str "__static_attributes__" 305), (.ref 87)⟩, ⟨PyData.keyHash P "__dict__", (.str "__dict__" 307), (.ref 90)⟩, ⟨PyData.keyHash P "__weakref__", (.str "__weakref__" 309), (.ref 91)⟩, ⟨PyData.keyHash P "__doc__", (.str "__doc__" 310), .none⟩] 4 } : Obj)),
  (89, ({ cls := (.type "type"), data := .cls { name := "Card", bases := [(.type "object")], mro := [(.ref 89), (.type "object")], ns := 88, qualname := "Card", hasDict := true, slotNames := [], subclasses := [], abstract := false, collection := none, hasDel := false }, slots := #[none, none, some (.str "Card" 278), some (.str "Card" 286), some (.builtin "object.__new__"), some (.bool true)] } : Obj)),
  (99, ({ cls := (.type "code"), data := .fields #[(.str "cards_of" 313), (.str "cards_of" 314), (.str "/claim/cut.py" 315), (.int 28 0), (.int 1 0), (.int 0 0), (.int 0 0), (.int 3 0), (.ref 94), (.bool true), (.int 181 0), (.ref 95), .none, (.ref 96), (.ref 97), (.ref 98), (.int 320 0), (.int 28 0), (.str "/claim/cut.py" 321)] } : Obj)),
  (100, (fnObj fd_cards_of : Obj)),
  (106, ({ cls := (.type "code"), data := .fields #[(.str "without_blanks" 323), (.str "without_blanks" 324), (.str "/claim/cut.py" 325), (.int 36 0), (.int 1 0), (.int 0 0), (.int 0 0), (.int 3 0), (.ref 101), (.bool true), (.int 181 0), (.ref 102), .none, (.ref 103), (.ref 104), (.ref 105), (.int 327 0), (.int 36 0), (.str "/claim/cut.py" 328)] } : Obj)),
  (107, (fnObj fd_without_blanks : Obj)),
  (113, ({ cls := (.type "code"), data := .fields #[(.str "is_comment" 330), (.str "is_comment" 331), (.str "/claim/cut.py" 332), (.int 38 0), (.int 2 0), (.int 0 0), (.int 0 0), (.int 3 0), (.ref 108), (.bool true), (.int 181 0), (.ref 109), .none, (.ref 110), (.ref 111), (.ref 112), (.int 335 0), (.int 38 0), (.str "/claim/cut.py" 336)] } : Obj)),
  (114, (fnObj fd_is_comment : Obj)),
  (120, ({ cls := (.type "code"), data := .fields #[(.str "read_cards" 338), (.str "read_cards" 339), (.str "/claim/cut.py" 340), (.int 40 0), (.int 2 0), (.int 0 0), (.int 0 0), (.int 3 0), (.ref 115), (.bool true), (.int 181 0), (.ref 116), .none, (.ref 117), (.ref 118), (.ref 119), (.int 347 0), (.int 40 0), (.str "/claim/cut.py" 348)] } : Obj)),
  (121, (fnObj fd_read_cards : Obj)),
  (127, ({ cls := (.type "code"), data := .fields #[(.str "is_continuation" 350), (.str "is_continuation" 351), (.str "/claim/cut.py" 352), (.int 50 0), (.int 1 0), (.int 0 0), (.int 0 0), (.int 3 0), (.ref 122), (.bool true), (.int 181 0), (.ref 123), .none, (.ref 124), (.ref 125), (.ref 126), (.int 354 0), (.int 50 0), (.str "/claim/cut.py" 355)] } : Obj)),
  (128, (fnObj fd_is_continuation : Obj)),
  (134, ({ cls := (.type "code"), data := .fields #[(.str "read_label" 357), (.str "read_label" 358), (.str "/claim/cut.py" 359), (.int 52 0), (.int 1 0), (.int 0 0), (.int 0 0), (.int 3 0), (.ref 129), (.bool true), (.int 181 0), (.ref 130), .none, (.ref 131), (.ref 132), (.ref 133), (.int 365 0), (.int 52 0), (.str "/claim/cut.py" 366)] } : Obj)),
  (135, (fnObj fd_read_label : Obj)),
  (141, ({ cls := (.type "code"), data := .fields #[(.str "padded" 368), (.str "padded" 369), (.str "/claim/cut.py" 370), (.int 65 0), (.int 2 0), (.int 0 0), (.int 0 0), (.int 3 0), (.ref 136), (.bool true), (.int 181 0), (.ref 137), .none, (.ref 138), (.ref 139), (.ref 140), (.int 373 0), (.int 65 0), (.str "/claim/cut.py" 374)] } : Obj)),
  (142, (fnObj fd_padded : Obj)),
  (148, ({ cls := (.type "code"), data := .fields #[(.str "joined" 376), (.str "joined" 377), (.str "/claim/cut.py" 378), (.int 69 0), (.int 2 0), (.int 0 0), (.int 0 0), (.int 3 0), (.ref 143), (.bool true), (.int 181 0), (.ref 144), .none, (.ref 145), (.ref 146), (.ref 147), (.int 384 0), (.int 69 0), (.str "/claim/cut.py" 385)] } : Obj)),
  (149, (fnObj fd_joined : Obj)),
  (155, ({ cls := (.type "code"), data := .fields #[(.str "check_continuation" 387), (.str "check_continuation" 388), (.str "/claim/cut.py" 389), (.int 80 0), (.int 3 0), (.int 0 0), (.int 0 0), (.int 3 0), (.ref 150), (.bool true), (.int 181 0), (.ref 151), .none, (.ref 152), (.ref 153), (.ref 154), (.int 393 0), (.int 80 0), (.str "/claim/cut.py" 394)] } : Obj)),
  (156, (fnObj fd_check_continuation : Obj)),
  (162, ({ cls := (.type "code"), data := .fields #[(.str "statements_of" 396), (.str "statements_of" 397), (.str "/claim/cut.py" 398), (.int 89 0), (.int 2 0), (.int 0 0), (.int 0 0), (.int 3 0), (.ref 157), (.bool true), (.int 181 0), (.ref 158), .none, (.ref 159), (.ref 160), (.ref 161), (.int 405 0), (.int 89 0), (.str "/claim/cut.py" 406)] } : Obj)),
  (163, (fnObj fd_statements_of : Obj)),
  (169, ({ cls := (.type "code"), data := .fields #[(.str "read_statements" 408), (.str "read_statements" 409), (.str "/claim/cut.py" 410), (.int 105 0), (.int 2 0), (.int 0 0), (.int 0 0), (.int 3 0), (.ref 164), (.bool true), (.int 181 0), (.ref 165), .none, (.ref 166), (.ref 167), (.ref 168), (.int 413 0), (.int 105 0), (.str "/claim/cut.py" 414)] } : Obj)),
  (170, (fnObj fd_read_statements : Obj)),
  (176, ({ cls := (.type "code"), data := .fields #[(.str "capital" 422), (.str "capital" 423), (.str "/claim/cut.py" 424), (.int 110 0), (.int 1 0), (.int 0 0), (.int 0 0), (.int 3 0), (.ref 171), (.bool true), (.int 181 0), (.ref 172), .none, (.ref 173), (.ref 174), (.ref 175), (.int 426 0), (.int 110 0), (.str "/claim/cut.py" 427)] } : Obj)),
  (177, (fnObj fd_capital : Obj)),
  (183, ({ cls := (.type "code"), data := .fields #[(.str "constant_end" 429), (.str "constant_end" 430), (.str "/claim/cut.py" 431), (.int 114 0), (.int 2 0), (.int 0 0), (.int 0 0), (.int 3 0), (.ref 178), (.bool true), (.int 181 0), (.ref 179), .none, (.ref 180), (.ref 181), (.ref 182), (.int 435 0), (.int 114 0), (.str "/claim/cut.py" 436)] } : Obj)),
  (184, (fnObj fd_constant_end : Obj)),
  (190, ({ cls := (.type "code"), data := .fields #[(.str "count_end" 438), (.str "count_end" 439), (.str "/claim/cut.py" 440), (.int 123 0), (.int 2 0), (.int 0 0), (.int 0 0), (.int 3 0), (.ref 185), (.bool true), (.int 181 0), (.ref 186), .none, (.ref 187), (.ref 188), (.ref 189), (.int 445 0), (.int 123 0), (.str "/claim/cut.py" 446)] } : Obj)),
  (191, (fnObj fd_count_end : Obj)),
  (197, ({ cls := (.type "code"), data := .fields #[(.str "hollerith" 448), (.str "hollerith" 449), (.str "/claim/cut.py" 450), (.int 133 0), (.int 2 0), (.int 0 0), (.int 0 0), (.int 3 0), (.ref 192), (.bool true), (.int 181 0), (.ref 193), .none, (.ref 194), (.ref 195), (.ref 196), (.int 456 0), (.int 133 0), (.str "/claim/cut.py" 457)] } : Obj)),
  (198, (fnObj fd_hollerith : Obj)),
  (204, ({ cls := (.type "code"), data := .fields #[(.str "squeeze" 459), (.str "squeeze" 460), (.str "/claim/cut.py" 461), (.int 141 0), (.int 1 0), (.int 0 0), (.int 0 0), (.int 3 0), (.ref 199), (.bool true), (.int 181 0), (.ref 200), .none, (.ref 201), (.ref 202), (.ref 203), (.int 470 0), (.int 141 0), (.str "/claim/cut.py" 471)] } : Obj)),
  (205, (fnObj fd_squeeze : Obj)),
  (211, ({ cls := (.type "code"), data := .fields #[(.str "squeezed" 473), (.str "squeezed" 474), (.str "/claim/cut.py" 475), (.int 166 0), (.int 1 0), (.int 0 0), (.int 0 0), (.int 3 0), (.ref 206), (.bool true), (.int 181 0), (.ref 207), .none, (.ref 208), (.ref 209), (.ref 210), (.int 480 0), (.int 166 0), (.str "/claim/cut.py" 481)] } : Obj)),
  (212, (fnObj fd_squeezed : Obj)),
  (218, ({ cls := (.type "code"), data := .fields #[(.str "depths" 483), (.str "depths" 484), (.str "/claim/cut.py" 485), (.int 171 0), (.int 1 0), (.int 0 0), (.int 0 0), (.int 3 0), (.ref 213), (.bool true), (.int 181 0), (.ref 214), .none, (.ref 215), (.ref 216), (.ref 217), (.int 491 0), (.int 171 0), (.str "/claim/cut.py" 492)] } : Obj)),
  (219, (fnObj fd_depths : Obj)),
  (225, ({ cls := (.type "code"), data := .fields #[(.str "closing" 494), (.str "closing" 495), (.str "/claim/cut.py" 496), (.int 192 0), (.int 2 0), (.int 0 0), (.int 0 0), (.int 3 0), (.ref 220), (.bool true), (.int 181 0), (.ref 221), .none, (.ref 222), (.ref 223), (.ref 224), (.int 501 0), (.int 192 0), (.str "/claim/cut.py" 502)] } : Obj)),
  (226, (fnObj fd_closing : Obj)),
  (227, ({ cls := (.type "tuple"), data := .seq #[(.str "ELSE" 510), (.str "else" 511)] 0 } : Obj)),
  (228, ({ cls := (.type "tuple"), data := .seq #[(.str "ENDIF" 512), (.str "endif" 513)] 0 } : Obj)),
  (229, ({ cls := (.type "tuple"), data := .seq #[(.str "END" 514), (.str "end" 515)] 0 } : Obj)),
  (230, ({ cls := (.type "tuple"), data := .seq #[(.str "CONTINUE" 516), (.str "continue" 517)] 0 } : Obj)),
  (231, ({ cls := (.type "list"), data := .seq #[(.ref 227), (.ref 228), (.ref 229), (.ref 230)] 0 } : Obj)),
  (232, ({ cls := (.type "tuple"), data := .seq #[(.str "INTEGER" 519), (.str "integer" 520)] 0 } : Obj)),
  (233, ({ cls := (.type "tuple"), data := .seq #[(.str "REAL" 521), (.str "real" 522)] 0 } : Obj)),
  (234, ({ cls := (.type "tuple"), data := .seq #[(.str "DOUBLEPRECISION" 523), (.str "doubleprecision" 524)] 0 } : Obj)),
  (235, ({ cls := (.type "tuple"), data := .seq #[(.str "COMPLEX" 525), (.str "complex" 526)] 0 } : Obj)),
  (236, ({ cls := (.type "tuple"), data := .seq #[(.str "LOGICAL" 527), (.str "logical" 528)] 0 } : Obj)),
  (237, ({ cls := (.type "tuple"), data := .seq #[(.str "CHARACTER" 529), (.str "character" 530)] 0 } : Obj)),
  (238, ({ cls := (.type "list"), data := .seq #[(.ref 232), (.ref 233), (.ref 234), (.ref 235), (.ref 236), (.ref 237)] 0 } : Obj)),
  (239, ({ cls := (.type "tuple"), data := .seq #[(.str "FORMAT(" 532), (.str "format" 533)] 0 } : Obj)),
  (240, ({ cls := (.type "tuple"), data := .seq #[(.str "CALL" 534), (.str "call" 535)] 0 } : Obj)),
  (241, ({ cls := (.type "tuple"), data := .seq #[(.str "RETURN" 536), (.str "return" 537)] 0 } : Obj)),
  (242, ({ cls := (.type "tuple"), data := .seq #[(.str "STOP" 538), (.str "stop" 539)] 0 } : Obj)),
  (243, ({ cls := (.type "tuple"), data := .seq #[(.str "PAUSE" 540), (.str "pause" 541)] 0 } : Obj)),
  (244, ({ cls := (.type "tuple"), data := .seq #[(.str "READ" 542), (.str "read" 543)] 0 } : Obj)),
  (245, ({ cls := (.type "tuple"), data := .seq #[(.str "WRITE(" 544), (.str "write" 545)] 0 } : Obj)),
  (246, ({ cls := (.type "tuple"), data := .seq #[(.str "PRINT" 546), (.str "print" 547)] 0 } : Obj)),
  (247, ({ cls := (.type "tuple"), data := .seq #[(.str "OPEN(" 548), (.str "open" 549)] 0 } : Obj)),
  (248, ({ cls := (.type "tuple"), data := .seq #[(.str "CLOSE(" 550), (.str "close" 551)] 0 } : Obj)),
  (249, ({ cls := (.type "tuple"), data := .seq #[(.str "INQUIRE(" 552), (.str "inquire" 553)] 0 } : Obj)),
  (250, ({ cls := (.type "tuple"), data := .seq #[(.str "BACKSPACE" 554), (.str "backspace" 555)] 0 } : Obj)),
  (251, ({ cls := (.type "tuple"), data := .seq #[(.str "REWIND" 556), (.str "rewind" 557)] 0 } : Obj)),
  (252, ({ cls := (.type "tuple"), data := .seq #[(.str "ENDFILE" 558), (.str "endfile" 559)] 0 } : Obj)),
  (253, ({ cls := (.type "tuple"), data := .seq #[(.str "IMPLICIT" 560), (.str "implicit" 561)] 0 } : Obj)),
  (254, ({ cls := (.type "tuple"), data := .seq #[(.str "PARAMETER(" 562), (.str "parameter" 563)] 0 } : Obj)),
  (255, ({ cls := (.type "tuple"), data := .seq #[(.str "DIMENSION" 564), (.str "dimension" 565)] 0 } : Obj)),
  (256, ({ cls := (.type "tuple"), data := .seq #[(.str "COMMON" 566), (.str "common" 567)] 0 } : Obj)),
  (257, ({ cls := (.type "tuple"), data := .seq #[(.str "EQUIVALENCE(" 568), (.str "equivalence" 569)] 0 } : Obj)),
  (258, ({ cls := (.type "tuple"), data := .seq #[(.str "EXTERNAL" 570), (.str "external" 571)] 0 } : Obj)),
  (259, ({ cls := (.type "tuple"), data := .seq #[(.str "INTRINSIC" 572), (.str "intrinsic" 573)] 0 } : Obj)),
  (260, ({ cls := (.type "tuple"), data := .seq #[(.str "SAVE" 574), (.str "save" 575)] 0 } : Obj)),
  (261, ({ cls := (.type "tuple"), data := .seq #[(.str "DATA" 576), (.str "data" 577)] 0 } : Obj)),
  (262, ({ cls := (.type "tuple"), data := .seq #[(.str "PROGRAM" 578), (.str "program" 579)] 0 } : Obj)),
  (263, ({ cls := (.type "tuple"), data := .seq #[(.str "SUBROUTINE" 580), (.str "subroutine" 581)] 0 } : Obj)),
  (264, ({ cls := (.type "tuple"), data := .seq #[(.str "FUNCTION" 582), (.str "function" 583)] 0 } : Obj)),
  (265, ({ cls := (.type "tuple"), data := .seq #[(.str "BLOCKDATA" 584), (.str "blockdata" 585)] 0 } : Obj)),
  (266, ({ cls := (.type "tuple"), data := .seq #[(.str "ENTRY" 586), (.str "entry" 587)] 0 } : Obj)),
  (267, ({ cls := (.type "list"), data := .seq #[(.ref 239), (.ref 240), (.ref 241), (.ref 242), (.ref 243), (.ref 244), (.ref 245), (.ref 246), (.ref 247), (.ref 248), (.ref 249), (.ref 250), (.ref 251), (.ref 252), (.ref 253), (.ref 254), (.ref 255), (.ref 256), (.ref 257), (.ref 258), (.ref 259), (.ref 260), (.ref 261), (.ref 262), (.ref 263), (.ref 264), (.ref 265), (.ref 266)] 0 } : Obj)),
  (273, ({ cls := (.type "code"), data := .fields #[(.str "name_end" 589), (.str "name_end" 590), (.str "/claim/cut.py" 591), (.int 204 0), (.int 2 0), (.int 0 0), (.int 0 0), (.int 3 0), (.ref 268), (.bool true), (.int 181 0), (.ref 269), .none, (.ref 270), (.ref 271), (.ref 272), (.int 595 0), (.int 204 0), (.str "/claim/cut.py" 596)] } : Obj)),
  (274, (fnObj fd_name_end : Obj)),
  (280, ({ cls := (.type "code"), data := .fields #[(.str "digits_end" 598), (.str "digits_end" 599), (.str "/claim/cut.py" 600), (.int 211 0), (.int 2 0), (.int 0 0), (.int 0 0), (.int 3 0), (.ref 275), (.bool true), (.int 181 0), (.ref 276), .none, (.ref 277), (.ref 278), (.ref 279), (.int 604 0), (.int 211 0), (.str "/claim/cut.py" 605)] } : Obj)),
  (281, (fnObj fd_digits_end : Obj)),
  (287, ({ cls := (.type "code"), data := .fields #[(.str "is_target" 607), (.str "is_target" 608), (.str "/claim/cut.py" 609), (.int 216 0), (.int 1 0), (.int 0 0), (.int 0 0), (.int 3 0), (.ref 282), (.bool true), (.int 181 0), (.ref 283), .none, (.ref 284), (.ref 285), (.ref 286), (.int 613 0), (.int 216 0), (.str "/claim/cut.py" 614)] } : Obj)),
  (288, (fnObj fd_is_target : Obj)),
  (294, ({ cls := (.type "code"), data := .fields #[(.str "is_balanced" 616), (.str "is_balanced" 617), (.str "/claim/cut.py" 618), (.int 226 0), (.int 2 0), (.int 0 0), (.int 0 0), (.int 3 0), (.ref 289), (.bool true), (.int 181 0), (.ref 290), .none, (.ref 291), (.ref 292), (.ref 293), (.int 623 0), (.int 226 0), (.str "/claim/cut.py" 624)] } : Obj)),
  (295, (fnObj fd_is_balanced : Obj)),
  (301, ({ cls := (.type "code"), data := .fields #[(.str "equals_at" 626), (.str "equals_at" 627), (.str "/claim/cut.py" 628), (.int 236 0), (.int 2 0), (.int 0 0), (.int 0 0), (.int 3 0), (.ref 296), (.bool true), (.int 181 0), (.ref 297), .none, (.ref 298), (.ref 299), (.ref 300), (.int 633 0), (.int 236 0), (.str "/claim/cut.py" 634)] } : Obj)),
  (302, (fnObj fd_equals_at : Obj)),
  (308, ({ cls := (.type "code"), data := .fields #[(.str "is_do_head" 636), (.str "is_do_head" 637), (.str "/claim/cut.py" 638), (.int 244 0), (.int 1 0), (.int 0 0), (.int 0 0), (.int 3 0), (.ref 303), (.bool true), (.int 181 0), (.ref 304), .none, (.ref 305), (.ref 306), (.ref 307), (.int 641 0), (.int 244 0), (.str "/claim/cut.py" 642)] } : Obj)),
  (309, (fnObj fd_is_do_head : Obj)),
  (315, ({ cls := (.type "code"), data := .fields #[(.str "word_of_if" 644), (.str "word_of_if" 645), (.str "/claim/cut.py" 646), (.int 251 0), (.int 1 0), (.int 0 0), (.int 0 0), (.int 3 0), (.ref 310), (.bool true), (.int 181 0), (.ref 311), .none, (.ref 312), (.ref 313), (.ref 314), (.int 649 0), (.int 251 0), (.str "/claim/cut.py" 650)] } : Obj)),
  (316, (fnObj fd_word_of_if : Obj)),
  (322, ({ cls := (.type "code"), data := .fields #[(.str "word_of_goto" 652), (.str "word_of_goto" 653), (.str "/claim/cut.py" 654), (.int 260 0), (.int 1 0), (.int 0 0), (.int 0 0), (.int 3 0), (.ref 317), (.bool true), (.int 181 0), (.ref 318), .none, (.ref 319), (.ref 320), (.ref 321), (.int 656 0), (.int 260 0), (.str "/claim/cut.py" 657)] } : Obj)),
  (323, (fnObj fd_word_of_goto : Obj)),
  (329, ({ cls := (.type "code"), data := .fields #[(.str "word_of_type" 659), (.str "word_of_type" 660), (.str "/claim/cut.py" 661), (.int 268 0), (.int 1 0), (.int 0 0), (.int 0 0), (.int 3 0), (.ref 324), (.bool true), (.int 181 0), (.ref 325), .none, (.ref 326), (.ref 327), (.ref 328), (.int 667 0), (.int 268 0), (.str "/claim/cut.py" 668)] } : Obj)),
  (330, (fnObj fd_word_of_type : Obj)),
  (336, ({ cls := (.type "code"), data := .fields #[(.str "word_by_begin" 670), (.str "word_by_begin" 671), (.str "/claim/cut.py" 672), (.int 282 0), (.int 1 0), (.int 0 0), (.int 0 0), (.int 3 0), (.ref 331), (.bool true), (.int 181 0), (.ref 332), .none, (.ref 333), (.ref 334), (.ref 335), (.int 676 0), (.int 282 0), (.str "/claim/cut.py" 677)] } : Obj)),
  (337, (fnObj fd_word_by_begin : Obj)),
  (343, ({ cls := (.type "code"), data := .fields #[(.str "classify" 679), (.str "classify" 680), (.str "/claim/cut.py" 681), (.int 298 0), (.int 1 0), (.int 0 0), (.int 0 0), (.int 3 0), (.ref 338), (.bool true), (.int 181 0), (.ref 339), .none, (.ref 340), (.ref 341), (.ref 342), (.int 686 0), (.int 298 0), (.str "/claim/cut.py" 687)] } : Obj)),
  (344, (fnObj fd_classify : Obj)),
  (352, ({ cls := (.type "tuple"), data := .seq #[(.int 32 703), (.int 7 704), (.int 15 705), (.int 38 706), (.int 1000000 707), (.int 19 708), (.int 72 709), (.int 40 710)] 0 } : Obj)),
  (358, ({ cls := (.type "code"), data := .fields #[(.str "__init__" 711), (.str "Limits.__init__" 712), (.str "/claim/cut.py" 713), (.int 315 0), (.int 9 0), (.int 0 0), (.int 0 0), (.int 3 0), (.ref 353), (.bool true), (.int 181 0), (.ref 354), .none, (.ref 355), (.ref 356), (.ref 357), (.int 723 0), (.int 315 0), (.str "/claim/cut.py" 724)] } : Obj)),
  (359, (fnObj fd_LimitsInit : Obj)),
  (361, ({ cls := (.type "dict"), data := .dict #[⟨PyData.keyHash P "__module__", (.str "__module__" 698), (.str "f77.limits" 689)⟩, ⟨PyData.keyHash P "__firstlineno__", (.str "__firstlineno__" 702), (.int 313 701)⟩, ⟨PyData.keyHash P "__init__", (.str "__init__" 725), (.ref 359)⟩, ⟨PyData.keyHash P "__static_attributes__", (.str "__static_attributes__" 734), (.ref 360)⟩, ⟨PyData.keyHash P "__dict__", (.str "__dict__" 736), (.ref 363)⟩, ⟨PyData.keyHash P "__weakref__", (.str "__weakref__" 738), (.ref 364)⟩, ⟨PyData.keyHash P "__doc__", (.str "__doc__" 739), .none⟩] 4 } : Obj)),
  (362, ({ cls := (.type "type"), data := .cls { name := "Limits", bases := [(.type "object")], mro := [(.ref 362), (.type "object")], ns := 361, qualname := "Limits", hasDict := true, slotNames := [], subclasses := [], abstract := false, collection := none, hasDel := false }, slots := #[none, none, some (.str "Limits" 691), some (.str "Limits" 699), some (.builtin "object.__new__"), some (.bool true)] } : Obj)),
  (372, ({ cls := (.type "code"), data := .fields #[(.str "_law_stock" 744), (.str "_law_stock" 745), (.str "/claim/cut.py" 746), (.int 325 0), (.int 0 0), (.int 0 0), (.int 0 0), (.int 3 0), (.ref 367), (.bool true), (.int 181 0), (.ref 368), .none, (.ref 369), (.ref 370), (.ref 371), (.int 747 0), (.int 325 0), (.str "/claim/cut.py" 748)] } : Obj)),
  (373, (fnObj fd_law_stock : Obj)),
  (379, ({ cls := (.type "code"), data := .fields #[(.str "_law_breaks" 752), (.str "_law_breaks" 753), (.str "/claim/cut.py" 754), (.int 328 0), (.int 1 0), (.int 0 0), (.int 0 0), (.int 3 0), (.ref 374), (.bool true), (.int 181 0), (.ref 375), .none, (.ref 376), (.ref 377), (.ref 378), (.int 759 0), (.int 328 0), (.str "/claim/cut.py" 760)] } : Obj)),
  (380, (fnObj fd_law_breaks : Obj)),
  (386, ({ cls := (.type "code"), data := .fields #[(.str "_law_bent" 762), (.str "_law_bent" 763), (.str "/claim/cut.py" 764), (.int 337 0), (.int 2 0), (.int 0 0), (.int 0 0), (.int 3 0), (.ref 381), (.bool true), (.int 181 0), (.ref 382), .none, (.ref 383), (.ref 384), (.ref 385), (.int 770 0), (.int 337 0), (.str "/claim/cut.py" 771)] } : Obj)),
  (387, (fnObj fd_law_bent : Obj)),
  (393, ({ cls := (.type "code"), data := .fields #[(.str "_law_head" 773), (.str "_law_head" 774), (.str "/claim/cut.py" 775), (.int 353 0), (.int 2 0), (.int 0 0), (.int 0 0), (.int 3 0), (.ref 388), (.bool true), (.int 181 0), (.ref 389), .none, (.ref 390), (.ref 391), (.ref 392), (.int 778 0), (.int 353 0), (.str "/claim/cut.py" 779)] } : Obj)),
  (394, (fnObj fd_law_head : Obj)),
  (398, ({ cls := (.type "code"), data := .fields #[(.str "_law_rows" 781), (.str "_law_rows" 782), (.str "/claim/cut.py" 783), (.int 357 0), (.int 4 0), (.int 0 0), (.int 0 0), (.int 3 0), (.ref 395), (.bool true), (.int 181 0), (.ref 396), .none, .none, .none, (.ref 397), (.int 784 0), (.int 357 0), (.str "/claim/cut.py" 785)] } : Obj)),
  (399, (fnObj fd_law_rows : Obj)),
  (403, ({ cls := (.type "code"), data := .fields #[(.str "law" 787), (.str "law" 788), (.str "/claim/cut.py" 789), (.int 372 0), (.int 1 0), (.int 0 0), (.int 0 0), (.int 3 0), (.ref 400), (.bool true), (.int 181 0), (.ref 401), .none, .none, .none, (.ref 402), (.int 790 0), (.int 372 0), (.str "/claim/cut.py" 791)] } : Obj)),
  (404, (fnObj fd_law : Obj))]
noncomputable def KAs : List Addr := [2, 3, 85, 86, 88, 89, 99, 100, 106, 107, 113, 114, 120, 121, 127, 128, 134, 135, 141, 142, 148, 149, 155, 156, 162, 163, 169, 170, 176, 177, 183, 184, 190, 191, 197, 198, 204, 205, 211, 212, 218, 219, 225, 226, 227, 228, 229, 230, 231, 232, 233, 234, 235, 236, 237, 238, 239, 240, 241, 242, 243, 244, 245, 246, 247, 248, 249, 250, 251, 252, 253, 254, 255, 256, 257, 258, 259, 260, 261, 262, 263, 264, 265, 266, 267, 273, 274, 280, 281, 287, 288, 294, 295, 301, 302, 308, 309, 315, 316, 322, 323, 329, 330, 336, 337, 343, 344, 352, 358, 359, 361, 362, 372, 373, 379, 380, 386, 387, 393, 394, 398, 399, 403, 404]
noncomputable def tops : List (Str × Value) := [
  (("cards_of" : Str), (.ref 100 : Value)),
  (("without_blanks" : Str), (.ref 107 : Value)),
  (("is_comment" : Str), (.ref 114 : Value)),
  (("read_cards" : Str), (.ref 121 : Value)),
  (("is_continuation" : Str), (.ref 128 : Value)),
  (("read_label" : Str), (.ref 135 : Value)),
  (("padded" : Str), (.ref 142 : Value)),
  (("joined" : Str), (.ref 149 : Value)),
  (("check_continuation" : Str), (.ref 156 : Value)),
  (("statements_of" : Str), (.ref 163 : Value)),
  (("read_statements" : Str), (.ref 170 : Value)),
  (("capital" : Str), (.ref 177 : Value)),
  (("constant_end" : Str), (.ref 184 : Value)),
  (("count_end" : Str), (.ref 191 : Value)),
  (("hollerith" : Str), (.ref 198 : Value)),
  (("squeeze" : Str), (.ref 205 : Value)),
  (("squeezed" : Str), (.ref 212 : Value)),
  (("depths" : Str), (.ref 219 : Value)),
  (("closing" : Str), (.ref 226 : Value)),
  (("name_end" : Str), (.ref 274 : Value)),
  (("digits_end" : Str), (.ref 281 : Value)),
  (("is_target" : Str), (.ref 288 : Value)),
  (("is_balanced" : Str), (.ref 295 : Value)),
  (("equals_at" : Str), (.ref 302 : Value)),
  (("is_do_head" : Str), (.ref 309 : Value)),
  (("word_of_if" : Str), (.ref 316 : Value)),
  (("word_of_goto" : Str), (.ref 323 : Value)),
  (("word_of_type" : Str), (.ref 330 : Value)),
  (("word_by_begin" : Str), (.ref 337 : Value)),
  (("classify" : Str), (.ref 344 : Value)),
  (("_law_stock" : Str), (.ref 373 : Value)),
  (("_law_breaks" : Str), (.ref 380 : Value)),
  (("_law_bent" : Str), (.ref 387 : Value)),
  (("_law_head" : Str), (.ref 394 : Value)),
  (("_law_rows" : Str), (.ref 399 : Value)),
  (("law" : Str), (.ref 404 : Value)),
  (("Card" : Str), (.ref 89 : Value)),
  (("Limits" : Str), (.ref 362 : Value)),
  (("WHOLE" : Str), (.ref 231 : Value)),
  (("TYPES" : Str), (.ref 238 : Value)),
  (("BEGINS" : Str), (.ref 267 : Value))]
end
section
set_option maxRecDepth 100000
set_option maxHeartbeats 0
noncomputable def hdTpl (st : Stmt) (qual : Str) : Obj := { cls := .none, data := match st with
  | .FunctionDef name params body _ _ _ scope _ _ _ => .func { name, qualname := qual, params, body := .stmts body, scope, globals := builtinsNs, closure := [], defaults := .none, kwdefaults := .none }
  | _ => .plain }
noncomputable def hdO11 (P : Params) : Obj := ⟨(.type "tuple"), none, (.seq #[] 0), #[]⟩
noncomputable def hdO13 (P : Params) : Obj := ⟨(.type "code"), none, (.fields #[(.str "<module>" 182), (.str "<module>" 183), (.str "/claim/cut.py" 184), (.int 1 0), (.int 0 0), (.int 0 0), (.int 0 0), (.int 0 0), (.ref 11), (.bool false), (.int 181 0), (.ref 12), .none, .none, .none, .none, (.int 185 0), (.int 1 0), (.str "/claim/cut.py" 186)]), #[]⟩
noncomputable def hdO12 (P : Params) : Obj := ⟨.none, none, (.fields #[]), #[]⟩
noncomputable def hdO14 (P : Params) : Obj := ⟨(.type "frame"), none, .plain, #[some (.ref 13), some (.ref 3), some (.ref 3), none, some (.str "__main__" 164), none, some (.ref 0)]⟩
noncomputable def hdO3 (P : Params) : Obj := ⟨(.type "dict"), none, (.dict #[⟨PyData.keyHash P "__name__", (.str "__name__" 165), (.str "f77.source" 270)⟩, ⟨PyData.keyHash P "__doc__", (.str "__doc__" 166), .none⟩, ⟨PyData.keyHash P "__package__", (.str "__package__" 167), .none⟩, ⟨PyData.keyHash P "__loader__", (.str "__loader__" 168), (.builtin "__main__.__loader__#opaque")⟩, ⟨PyData.keyHash P "__spec__", (.str "__spec__" 169), .none⟩, ⟨PyData.keyHash P "__annotations__", (.str "__annotations__" 170), (.ref 6)⟩, ⟨PyData.keyHash P "__builtins__", (.str "__builtins__" 171), (.ref 4)⟩, ⟨PyData.keyHash P "__file__", (.str "__file__" 173), (.str "/claim/cut.py" 172)⟩, ⟨PyData.keyHash P "__cached__", (.str "__cached__" 174), .none⟩, ⟨PyData.keyHash P "F77Error", (.str "F77Error" 217), (.ref 31)⟩, ⟨PyData.keyHash P "SourceError", (.str "SourceError" 243), (.ref 51)⟩, ⟨PyData.keyHash P "LexFault", (.str "LexFault" 269), (.ref 70)⟩, ⟨PyData.keyHash P "LABEL_END", (.str "LABEL_END" 273), (.int 5 272)⟩, ⟨PyData.keyHash P "BODY_AT", (.str "BODY_AT" 275), (.int 6 274)⟩, ⟨PyData.keyHash P "DIGITS_source", (.str "DIGITS_source" 277), (.str "0123456789" 276)⟩, ⟨PyData.keyHash P "Card", (.str "Card" 312), (.ref 89)⟩] 16), #[]⟩
noncomputable def hdO15 (P : Params) : Obj := ⟨(.type "tuple"), none, (.seq #[(.type "Exception")] 0), #[]⟩
noncomputable def hdO31 (P : Params) : Obj := ⟨(.type "type"), none, (.cls ⟨"F77Error", [(.type "Exception")], [(.ref 31), (.type "Exception"), (.type "BaseException"), (.type "object")], 30, "F77Error", true, [], [(.ref 51), (.ref 70)], false, none, false⟩), #[some (.ref 15), none, some (.str "F77Error" 189), some (.str "F77Error" 197), some (.builtin "Exception.__new__"), some (.bool true)]⟩
noncomputable def hdO63 (P : Params) : Obj := ⟨(.type "tuple"), none, (.seq #[(.str "self" 259), (.str "at" 260), (.str "text" 261)] 0), #[]⟩
noncomputable def hdO47 (P : Params) : Obj := ⟨(.type "code"), none, (.fields #[(.str "__init__" 230), (.str "SourceError.__init__" 231), (.str "/claim/cut.py" 232), (.int 9 0), (.int 3 0), (.int 0 0), (.int 0 0), (.int 3 0), (.ref 42), (.bool true), (.int 181 0), (.ref 43), .none, (.ref 44), (.ref 45), (.ref 46), (.int 236 0), (.int 9 0), (.str "/claim/cut.py" 237)]), #[]⟩
noncomputable def hdO79 (P : Params) : Obj := ⟨(.type "frame"), none, .plain, #[some (.ref 78), some (.ref 3), some (.ref 75), none, some (.str "f77.source" 270), none, some (.ref 0)]⟩
noncomputable def hdO23 (P : Params) : Obj := ⟨.none, none, (.fields #[]), #[]⟩
noncomputable def hdO39 (P : Params) : Obj := ⟨.none, none, (.fields #[(.int 9 0), (.int 4 0), (.ref 47)]), #[]⟩
noncomputable def hdO71 (P : Params) : Obj := ⟨(.type "super"), none, (.fields #[(.ref 70), (.ref 70), (.ref 70)]), #[]⟩
noncomputable def hdO55 (P : Params) : Obj := ⟨(.type "builtin_function_or_method"), none, (.fields #[(.builtin "type.__prepare__"), (.type "type")]), #[]⟩
noncomputable def hdO87 (P : Params) : Obj := ⟨(.type "tuple"), none, (.seq #[(.str "body" 301), (.str "label" 302), (.str "line" 303), (.str "mark" 304)] 0), #[]⟩
noncomputable def hdO19 (P : Params) : Obj := ⟨.none, none, (.fields #[(.int 4 0), (.int 4 0), (.ref 27)]), #[]⟩
noncomputable def hdO35 (P : Params) : Obj := ⟨(.type "tuple"), none, (.seq #[(.ref 31)] 0), #[]⟩
noncomputable def hdO67 (P : Params) : Obj := fnObj (fdOf (inCls (stAt 3)) "LexFault.__init__" .none (.str "f77.errors" 187) (.ref 66))
noncomputable def hdO51 (P : Params) : Obj := ⟨(.type "type"), none, (.cls ⟨"SourceError", [(.ref 31)], [(.ref 51), (.ref 31), (.type "Exception"), (.type "BaseException"), (.type "object")], 50, "SourceError", true, [], [], false, none, false⟩), #[some (.ref 35), none, some (.str "SourceError" 218), some (.str "SourceError" 226), some (.builtin "Exception.__new__"), some (.bool true)]⟩
noncomputable def hdO83 (P : Params) : Obj := ⟨(.type "tuple"), none, (.seq #[] 0), #[]⟩
noncomputable def hdO27 (P : Params) : Obj := ⟨(.type "code"), none, (.fields #[(.str "__init__" 201), (.str "F77Error.__init__" 202), (.str "/claim/cut.py" 203), (.int 4 0), (.int 2 0), (.int 0 0), (.int 0 0), (.int 3 0), (.ref 22), (.bool true), (.int 181 0), (.ref 23), .none, (.ref 24), (.ref 25), (.ref 26), (.int 206 0), (.int 4 0), (.str "/claim/cut.py" 207)]), #[]⟩
noncomputable def hdO43 (P : Params) : Obj := ⟨.none, none, (.fields #[]), #[]⟩
noncomputable def hdO75 (P : Params) : Obj := ⟨(.type "dict"), none, (.dict #[⟨PyData.keyHash P "__module__", (.str "__module__" 285), (.str "f77.source" 270)⟩, ⟨PyData.keyHash P "__qualname__", (.str "__qualname__" 287), (.str "Card" 286)⟩, ⟨PyData.keyHash P "__firstlineno__", (.str "__firstlineno__" 289), (.int 21 288)⟩, ⟨PyData.keyHash P "__init__", (.str "__init__" 300), (.ref 86)⟩, ⟨PyData.keyHash P "__static_attributes__", (.str "__static_attributes__" 305), (.ref 87)⟩] 5), #[]⟩
noncomputable def hdO59 (P : Params) : Obj := ⟨(.type "code"), none, (.fields #[(.str "LexFault" 246), (.str "LexFault" 247), (.str "/claim/cut.py" 248), (.int 12 0), (.int 0 0), (.int 0 0), (.int 0 0), (.int 0 0), (.ref 57), (.bool false), (.int 181 0), (.ref 58), .none, .none, .none, .none, (.int 249 0), (.int 12 0), (.str "/claim/cut.py" 250)]), #[]⟩
noncomputable def hdO91 (P : Params) : Obj := ⟨(.type "getset_descriptor"), none, (.fields #[(.str "__weakref__" 308), (.ref 89), (.builtin "ExceptionGroup.__weakref__"), .none]), #[]⟩
noncomputable def hdO17 (P : Params) : Obj := ⟨(.type "dict"), none, (.dict #[⟨PyData.keyHash P "__module__", (.str "__module__" 196), (.str "f77.errors" 187)⟩, ⟨PyData.keyHash P "__qualname__", (.str "__qualname__" 198), (.str "F77Error" 197)⟩, ⟨PyData.keyHash P "__firstlineno__", (.str "__firstlineno__" 200), (.int 2 199)⟩, ⟨PyData.keyHash P "__init__", (.str "__init__" 208), (.ref 28)⟩, ⟨PyData.keyHash P "__static_attributes__", (.str "__static_attributes__" 210), (.ref 29)⟩] 5), #[]⟩
noncomputable def hdO33 (P : Params) : Obj := ⟨(.type "super"), none, (.fields #[(.ref 31), (.ref 31), (.ref 31)]), #[]⟩
noncomputable def hdO65 (P : Params) : Obj := hdTpl (inCls (stAt 3)) "LexFault.__init__"
noncomputable def hdO49 (P : Params) : Obj := ⟨(.type "tuple"), none, (.seq #[(.str "line" 239)] 0), #[]⟩
noncomputable def hdO81 (P : Params) : Obj := ⟨.none, none, (.fields #[]), #[]⟩
noncomputable def hdO25 (P : Params) : Obj := ⟨(.type "tuple"), none, (.seq #[] 0), #[]⟩
noncomputable def hdO41 (P : Params) : Obj := ⟨(.type "frame"), none, .plain, #[some (.ref 40), some (.ref 3), some (.ref 37), none, some (.str "f77.errors" 187), none, some (.ref 0)]⟩
noncomputable def hdO73 (P : Params) : Obj := ⟨(.type "tuple"), none, (.seq #[] 0), #[]⟩
noncomputable def hdO57 (P : Params) : Obj := ⟨(.type "tuple"), none, (.seq #[] 0), #[]⟩
noncomputable def hdO89 (P : Params) : Obj := ⟨(.type "type"), none, (.cls ⟨"Card", [(.type "object")], [(.ref 89), (.type "object")], 88, "Card", true, [], [], false, none, false⟩), #[none, none, some (.str "Card" 278), some (.str "Card" 286), some (.builtin "object.__new__"), some (.bool true)]⟩
noncomputable def hdO21 (P : Params) : Obj := ⟨(.type "frame"), none, .plain, #[some (.ref 20), some (.ref 3), some (.ref 17), none, some (.str "f77.errors" 187), none, some (.ref 0)]⟩
noncomputable def hdO37 (P : Params) : Obj := ⟨(.type "dict"), none, (.dict #[⟨PyData.keyHash P "__module__", (.str "__module__" 225), (.str "f77.errors" 187)⟩, ⟨PyData.keyHash P "__qualname__", (.str "__qualname__" 227), (.str "SourceError" 226)⟩, ⟨PyData.keyHash P "__firstlineno__", (.str "__firstlineno__" 229), (.int 7 228)⟩, ⟨PyData.keyHash P "__init__", (.str "__init__" 238), (.ref 48)⟩, ⟨PyData.keyHash P "__static_attributes__", (.str "__static_attributes__" 240), (.ref 49)⟩] 5), #[]⟩
noncomputable def hdO69 (P : Params) : Obj := ⟨(.type "dict"), none, (.dict #[⟨PyData.keyHash P "__module__", (.str "__module__" 251), (.str "f77.errors" 187)⟩, ⟨PyData.keyHash P "__firstlineno__", (.str "__firstlineno__" 255), (.int 12 254)⟩, ⟨PyData.keyHash P "__init__", (.str "__init__" 264), (.ref 67)⟩, ⟨PyData.keyHash P "__static_attributes__", (.str "__static_attributes__" 266), (.ref 68)⟩, ⟨PyData.keyHash P "__doc__", (.str "__doc__" 267), .none⟩] 2), #[]⟩
noncomputable def hdO53 (P : Params) : Obj := ⟨(.type "builtin_function_or_method"), none, (.fields #[(.builtin "object.__init_subclass__"), (.ref 51)]), #[]⟩
noncomputable def hdO85 (P : Params) : Obj := ⟨(.type "code"), none, (.fields #[(.str "__init__" 290), (.str "Card.__init__" 291), (.str "/claim/cut.py" 292), (.int 23 0), (.int 5 0), (.int 0 0), (.int 0 0), (.int 3 0), (.ref 80), (.bool true), (.int 181 0), (.ref 81), .none, (.ref 82), (.ref 83), (.ref 84), (.int 298 0), (.int 23 0), (.str "/claim/cut.py" 299)]), #[]⟩
noncomputable def hdO29 (P : Params) : Obj := ⟨(.type "tuple"), none, (.seq #[(.str "text" 209)] 0), #[]⟩
noncomputable def hdO45 (P : Params) : Obj := ⟨(.type "tuple"), none, (.seq #[] 0), #[]⟩
noncomputable def hdO77 (P : Params) : Obj := ⟨.none, none, (.fields #[(.int 23 0), (.int 4 0), (.ref 85)]), #[]⟩
noncomputable def hdO61 (P : Params) : Obj := ⟨(.type "tuple"), none, (.seq #[] 0), #[]⟩
noncomputable def hdO93 (P : Params) : Obj := ⟨(.type "builtin_function_or_method"), none, (.fields #[(.builtin "object.__init_subclass__"), (.ref 89)]), #[]⟩
noncomputable def hdO2 (P : Params) : Obj := ⟨.none, none, (.dict #[⟨PyData.keyHash P "type.__subclasses__.Exception.0", (.str "type.__subclasses__.Exception.0" 214), (.int 31 0)⟩, ⟨PyData.keyHash P "type.__subclasses__.Exception.n", (.str "type.__subclasses__.Exception.n" 215), (.int 1 0)⟩] 2), #[]⟩
noncomputable def hdO16 (P : Params) : Obj := ⟨(.type "builtin_function_or_method"), none, (.fields #[(.builtin "type.__prepare__"), (.type "type")]), #[]⟩
noncomputable def hdO32 (P : Params) : Obj := ⟨(.type "getset_descriptor"), none, (.fields #[(.str "__weakref__" 211), (.ref 31), (.builtin "ExceptionGroup.__weakref__"), .none]), #[]⟩
noncomputable def hdO64 (P : Params) : Obj := ⟨(.type "tuple"), none, (.seq #[] 0), #[]⟩
noncomputable def hdO48 (P : Params) : Obj := fnObj (fdOf (inCls (stAt 2)) "SourceError.__init__" .none (.str "f77.errors" 187) (.ref 47))
noncomputable def hdO80 (P : Params) : Obj := ⟨(.type "tuple"), none, (.seq #[] 0), #[]⟩
noncomputable def hdO24 (P : Params) : Obj := ⟨(.type "tuple"), none, (.seq #[(.str "self" 204), (.str "text" 205)] 0), #[]⟩
noncomputable def hdO40 (P : Params) : Obj := ⟨(.type "code"), none, (.fields #[(.str "SourceError" 220), (.str "SourceError" 221), (.str "/claim/cut.py" 222), (.int 7 0), (.int 0 0), (.int 0 0), (.int 0 0), (.int 0 0), (.ref 38), (.bool false), (.int 181 0), (.ref 39), .none, .none, .none, .none, (.int 223 0), (.int 7 0), (.str "/claim/cut.py" 224)]), #[]⟩
noncomputable def hdO72 (P : Params) : Obj := ⟨(.type "builtin_function_or_method"), none, (.fields #[(.builtin "object.__init_subclass__"), (.ref 70)]), #[]⟩
noncomputable def hdO56 (P : Params) : Obj := ⟨(.type "dict"), none, (.dict #[⟨PyData.keyHash P "__module__", (.str "__module__" 251), (.str "f77.errors" 187)⟩, ⟨PyData.keyHash P "__qualname__", (.str "__qualname__" 253), (.str "LexFault" 252)⟩, ⟨PyData.keyHash P "__firstlineno__", (.str "__firstlineno__" 255), (.int 12 254)⟩, ⟨PyData.keyHash P "__init__", (.str "__init__" 264), (.ref 67)⟩, ⟨PyData.keyHash P "__static_attributes__", (.str "__static_attributes__" 266), (.ref 68)⟩] 5), #[]⟩
noncomputable def hdO88 (P : Params) : Obj := ⟨(.type "dict"), none, (.dict #[⟨PyData.keyHash P "__module__", (.str "__module__" 285), (.str "f77.source" 270)⟩, ⟨PyData.keyHash P "__firstlineno__", (.str "__firstlineno__" 289), (.int 21 288)⟩, ⟨PyData.keyHash P "__init__", (.str "__init__" 300), (.ref 86)⟩, ⟨PyData.keyHash P "__static_attributes__", (.str "__static_attributes__" 305), (.ref 87)⟩, ⟨PyData.keyHash P "__dict__", (.str "__dict__" 307), (.ref 90)⟩, ⟨PyData.keyHash P "__weakref__", (.str "__weakref__" 309), (.ref 91)⟩, ⟨PyData.keyHash P "__doc__", (.str "__doc__" 310), .none⟩] 4), #[]⟩
noncomputable def hdO12_1 (P : Params) : Obj := ⟨.none, none, (.fields #[(.int 2 0), (.int 0 0), (.ref 20), (.int 7 0), (.int 0 0), (.ref 40), (.int 12 0), (.int 0 0), (.ref 59), (.int 21 0), (.int 0 0), (.ref 78)]), #[]⟩
noncomputable def hdO20 (P : Params) : Obj := ⟨(.type "code"), none, (.fields #[(.str "F77Error" 191), (.str "F77Error" 192), (.str "/claim/cut.py" 193), (.int 2 0), (.int 0 0), (.int 0 0), (.int 0 0), (.int 0 0), (.ref 18), (.bool false), (.int 181 0), (.ref 19), .none, .none, .none, .none, (.int 194 0), (.int 2 0), (.str "/claim/cut.py" 195)]), #[]⟩
noncomputable def hdO36 (P : Params) : Obj := ⟨(.type "builtin_function_or_method"), none, (.fields #[(.builtin "type.__prepare__"), (.type "type")]), #[]⟩
noncomputable def hdO68 (P : Params) : Obj := ⟨(.type "tuple"), none, (.seq #[(.str "at" 265)] 0), #[]⟩
noncomputable def hdO52 (P : Params) : Obj := ⟨(.type "super"), none, (.fields #[(.ref 51), (.ref 51), (.ref 51)]), #[]⟩
noncomputable def hdO84 (P : Params) : Obj := hdTpl (inCls (stAt 8)) "Card.__init__"
noncomputable def hdO28 (P : Params) : Obj := fnObj (fdOf (inCls (stAt 1)) "F77Error.__init__" .none (.str "f77.errors" 187) (.ref 27))
noncomputable def hdO44 (P : Params) : Obj := ⟨(.type "tuple"), none, (.seq #[(.str "self" 233), (.str "line" 234), (.str "text" 235)] 0), #[]⟩
noncomputable def hdO76 (P : Params) : Obj := ⟨(.type "tuple"), none, (.seq #[] 0), #[]⟩
noncomputable def hdO60 (P : Params) : Obj := ⟨(.type "frame"), none, .plain, #[some (.ref 59), some (.ref 3), some (.ref 56), none, some (.str "f77.errors" 187), none, some (.ref 0)]⟩
noncomputable def hdO92 (P : Params) : Obj := ⟨(.type "super"), none, (.fields #[(.ref 89), (.ref 89), (.ref 89)]), #[]⟩
noncomputable def hdO18 (P : Params) : Obj := ⟨(.type "tuple"), none, (.seq #[] 0), #[]⟩
noncomputable def hdO34 (P : Params) : Obj := ⟨(.type "builtin_function_or_method"), none, (.fields #[(.builtin "object.__init_subclass__"), (.ref 31)]), #[]⟩
noncomputable def hdO66 (P : Params) : Obj := ⟨(.type "code"), none, (.fields #[(.str "__init__" 256), (.str "LexFault.__init__" 257), (.str "/claim/cut.py" 258), (.int 14 0), (.int 3 0), (.int 0 0), (.int 0 0), (.int 3 0), (.ref 61), (.bool true), (.int 181 0), (.ref 62), .none, (.ref 63), (.ref 64), (.ref 65), (.int 262 0), (.int 14 0), (.str "/claim/cut.py" 263)]), #[]⟩
noncomputable def hdO50 (P : Params) : Obj := ⟨(.type "dict"), none, (.dict #[⟨PyData.keyHash P "__module__", (.str "__module__" 225), (.str "f77.errors" 187)⟩, ⟨PyData.keyHash P "__firstlineno__", (.str "__firstlineno__" 229), (.int 7 228)⟩, ⟨PyData.keyHash P "__init__", (.str "__init__" 238), (.ref 48)⟩, ⟨PyData.keyHash P "__static_attributes__", (.str "__static_attributes__" 240), (.ref 49)⟩, ⟨PyData.keyHash P "__doc__", (.str "__doc__" 241), .none⟩] 2), #[]⟩
noncomputable def hdO82 (P : Params) : Obj := ⟨(.type "tuple"), none, (.seq #[(.str "self" 293), (.str "line" 294), (.str "label" 295), (.str "mark" 296), (.str "body" 297)] 0), #[]⟩
noncomputable def hdO26 (P : Params) : Obj := hdTpl (inCls (stAt 1)) "F77Error.__init__"
noncomputable def hdO42 (P : Params) : Obj := ⟨(.type "tuple"), none, (.seq #[] 0), #[]⟩
noncomputable def hdO74 (P : Params) : Obj := ⟨(.type "builtin_function_or_method"), none, (.fields #[(.builtin "type.__prepare__"), (.type "type")]), #[]⟩
noncomputable def hdO58 (P : Params) : Obj := ⟨.none, none, (.fields #[(.int 14 0), (.int 4 0), (.ref 66)]), #[]⟩
noncomputable def hdO90 (P : Params) : Obj := ⟨(.type "getset_descriptor"), none, (.fields #[(.str "__dict__" 306), (.ref 89), (.builtin "function.__dict__"), (.builtin "function.__dict__#set")]), #[]⟩
noncomputable def hdO22 (P : Params) : Obj := ⟨(.type "tuple"), none, (.seq #[] 0), #[]⟩
noncomputable def hdO38 (P : Params) : Obj := ⟨(.type "tuple"), none, (.seq #[] 0), #[]⟩
noncomputable def hdO70 (P : Params) : Obj := ⟨(.type "type"), none, (.cls ⟨"LexFault", [(.ref 31)], [(.ref 70), (.ref 31), (.type "Exception"), (.type "BaseException"), (.type "object")], 69, "LexFault", true, [], [], false, none, false⟩), #[some (.ref 54), none, some (.str "LexFault" 244), some (.str "LexFault" 252), some (.builtin "Exception.__new__"), some (.bool true)]⟩
noncomputable def hdO54 (P : Params) : Obj := ⟨(.type "tuple"), none, (.seq #[(.ref 31)] 0), #[]⟩
noncomputable def hdO86 (P : Params) : Obj := fnObj (fdOf (inCls (stAt 8)) "Card.__init__" .none (.str "f77.source" 270) (.ref 85))
noncomputable def hdO30 (P : Params) : Obj := ⟨(.type "dict"), none, (.dict #[⟨PyData.keyHash P "__module__", (.str "__module__" 196), (.str "f77.errors" 187)⟩, ⟨PyData.keyHash P "__firstlineno__", (.str "__firstlineno__" 200), (.int 2 199)⟩, ⟨PyData.keyHash P "__init__", (.str "__init__" 208), (.ref 28)⟩, ⟨PyData.keyHash P "__static_attributes__", (.str "__static_attributes__" 210), (.ref 29)⟩, ⟨PyData.keyHash P "__weakref__", (.str "__weakref__" 212), (.ref 32)⟩, ⟨PyData.keyHash P "__doc__", (.str "__doc__" 213), .none⟩] 3), #[]⟩
noncomputable def hdO46 (P : Params) : Obj := hdTpl (inCls (stAt 2)) "SourceError.__init__"
noncomputable def hdO78 (P : Params) : Obj := ⟨(.type "code"), none, (.fields #[(.str "Card" 280), (.str "Card" 281), (.str "/claim/cut.py" 282), (.int 21 0), (.int 0 0), (.int 0 0), (.int 0 0), (.int 0 0), (.ref 76), (.bool false), (.int 181 0), (.ref 77), .none, .none, .none, .none, (.int 283 0), (.int 21 0), (.str "/claim/cut.py" 284)]), #[]⟩
noncomputable def hdO62 (P : Params) : Obj := ⟨.none, none, (.fields #[]), #[]⟩
noncomputable def hdO3_1 (P : Params) : Obj := ⟨(.type "dict"), none, (.dict #[⟨PyData.keyHash P "__name__", (.str "__name__" 165), (.str "f77.limits" 689)⟩, ⟨PyData.keyHash P "__doc__", (.str "__doc__" 166), .none⟩, ⟨PyData.keyHash P "__package__", (.str "__package__" 167), .none⟩, ⟨PyData.keyHash P "__loader__", (.str "__loader__" 168), (.builtin "__main__.__loader__#opaque")⟩, ⟨PyData.keyHash P "__spec__", (.str "__spec__" 169), .none⟩, ⟨PyData.keyHash P "__annotations__", (.str "__annotations__" 170), (.ref 6)⟩, ⟨PyData.keyHash P "__builtins__", (.str "__builtins__" 171), (.ref 4)⟩, ⟨PyData.keyHash P "__file__", (.str "__file__" 173), (.str "/claim/cut.py" 172)⟩, ⟨PyData.keyHash P "__cached__", (.str "__cached__" 174), .none⟩, ⟨PyData.keyHash P "F77Error", (.str "F77Error" 217), (.ref 31)⟩, ⟨PyData.keyHash P "SourceError", (.str "SourceError" 243), (.ref 51)⟩, ⟨PyData.keyHash P "LexFault", (.str "LexFault" 269), (.ref 70)⟩, ⟨PyData.keyHash P "LABEL_END", (.str "LABEL_END" 273), (.int 5 272)⟩, ⟨PyData.keyHash P "BODY_AT", (.str "BODY_AT" 275), (.int 6 274)⟩, ⟨PyData.keyHash P "DIGITS_source", (.str "DIGITS_source" 277), (.str "0123456789" 276)⟩, ⟨PyData.keyHash P "Card", (.str "Card" 312), (.ref 89)⟩, ⟨PyData.keyHash P "cards_of", (.str "cards_of" 322), (.ref 100)⟩, ⟨PyData.keyHash P "without_blanks", (.str "without_blanks" 329), (.ref 107)⟩, ⟨PyData.keyHash P "is_comment", (.str "is_comment" 337), (.ref 114)⟩, ⟨PyData.keyHash P "read_cards", (.str "read_cards" 349), (.ref 121)⟩, ⟨PyData.keyHash P "is_continuation", (.str "is_continuation" 356), (.ref 128)⟩, ⟨PyData.keyHash P "read_label", (.str "read_label" 367), (.ref 135)⟩, ⟨PyData.keyHash P "padded", (.str "padded" 375), (.ref 142)⟩, ⟨PyData.keyHash P "joined", (.str "joined" 386), (.ref 149)⟩, ⟨PyData.keyHash P "check_continuation", (.str "check_continuation" 395), (.ref 156)⟩, ⟨PyData.keyHash P "statements_of", (.str "statements_of" 407), (.ref 163)⟩, ⟨PyData.keyHash P "read_statements", (.str "read_statements" 415), (.ref 170)⟩, ⟨PyData.keyHash P "DIGITS_squeeze", (.str "DIGITS_squeeze" 419), (.str "0123456789" 418)⟩, ⟨PyData.keyHash P "AHEAD_OF_COUNT", (.str "AHEAD_OF_COUNT" 421), (.str "(,/:" 420)⟩, ⟨PyData.keyHash P "capital", (.str "capital" 428), (.ref 177)⟩, ⟨PyData.keyHash P "constant_end", (.str "constant_end" 437), (.ref 184)⟩, ⟨PyData.keyHash P "count_end", (.str "count_end" 447), (.ref 191)⟩, ⟨PyData.keyHash P "hollerith", (.str "hollerith" 458), (.ref 198)⟩, ⟨PyData.keyHash P "squeeze", (.str "squeeze" 472), (.ref 205)⟩, ⟨PyData.keyHash P "squeezed", (.str "squeezed" 482), (.ref 212)⟩, ⟨PyData.keyHash P "depths", (.str "depths" 493), (.ref 219)⟩, ⟨PyData.keyHash P "closing", (.str "closing" 503), (.ref 226)⟩, ⟨PyData.keyHash P "DIGITS_classify", (.str "DIGITS_classify" 507), (.str "0123456789" 506)⟩, ⟨PyData.keyHash P "LETTERS", (.str "LETTERS" 509), (.str "ABCDEFGHIJKLMNOPQRSTUVWXYZ" 508)⟩, ⟨PyData.keyHash P "WHOLE", (.str "WHOLE" 518), (.ref 231)⟩, ⟨PyData.keyHash P "TYPES", (.str "TYPES" 531), (.ref 238)⟩, ⟨PyData.keyHash P "BEGINS", (.str "BEGINS" 588), (.ref 267)⟩, ⟨PyData.keyHash P "name_end", (.str "name_end" 597), (.ref 274)⟩, ⟨PyData.keyHash P "digits_end", (.str "digits_end" 606), (.ref 281)⟩, ⟨PyData.keyHash P "is_target", (.str "is_target" 615), (.ref 288)⟩, ⟨PyData.keyHash P "is_balanced", (.str "is_balanced" 625), (.ref 295)⟩, ⟨PyData.keyHash P "equals_at", (.str "equals_at" 635), (.ref 302)⟩, ⟨PyData.keyHash P "is_do_head", (.str "is_do_head" 643), (.ref 309)⟩, ⟨PyData.keyHash P "word_of_if", (.str "word_of_if" 651), (.ref 316)⟩, ⟨PyData.keyHash P "word_of_goto", (.str "word_of_goto" 658), (.ref 323)⟩, ⟨PyData.keyHash P "word_of_type", (.str "word_of_type" 669), (.ref 330)⟩, ⟨PyData.keyHash P "word_by_begin", (.str "word_by_begin" 678), (.ref 337)⟩, ⟨PyData.keyHash P "classify", (.str "classify" 688), (.ref 344)⟩] 53), #[]⟩
noncomputable def hdO127 (P : Params) : Obj := ⟨(.type "code"), none, (.fields #[(.str "is_continuation" 350), (.str "is_continuation" 351), (.str "/claim/cut.py" 352), (.int 50 0), (.int 1 0), (.int 0 0), (.int 0 0), (.int 3 0), (.ref 122), (.bool true), (.int 181 0), (.ref 123), .none, (.ref 124), (.ref 125), (.ref 126), (.int 354 0), (.int 50 0), (.str "/claim/cut.py" 355)]), #[]⟩
noncomputable def hdO255 (P : Params) : Obj := ⟨(.type "tuple"), none, (.seq #[(.str "DIMENSION" 564), (.str "dimension" 565)] 0), #[]⟩
noncomputable def hdO191 (P : Params) : Obj := fnObj (fdOf (stAt 25) "count_end" .none (.str "f77.squeeze" 416) (.ref 190))
noncomputable def hdO319 (P : Params) : Obj := ⟨(.type "tuple"), none, (.seq #[(.str "row" 655)] 0), #[]⟩
noncomputable def hdO95 (P : Params) : Obj := ⟨.none, none, (.fields #[]), #[]⟩
noncomputable def hdO159 (P : Params) : Obj := ⟨(.type "tuple"), none, (.seq #[(.str "cards" 399), (.str "limits" 400), (.str "out" 401), (.str "rows" 402), (.str "width" 403), (.str "card" 404)] 0), #[]⟩
noncomputable def hdO287 (P : Params) : Obj := ⟨(.type "code"), none, (.fields #[(.str "is_target" 607), (.str "is_target" 608), (.str "/claim/cut.py" 609), (.int 216 0), (.int 1 0), (.int 0 0), (.int 0 0), (.int 3 0), (.ref 282), (.bool true), (.int 181 0), (.ref 283), .none, (.ref 284), (.ref 285), (.ref 286), (.int 613 0), (.int 216 0), (.str "/claim/cut.py" 614)]), #[]⟩
noncomputable def hdO223 (P : Params) : Obj := ⟨(.type "tuple"), none, (.seq #[] 0), #[]⟩
noncomputable def hdO143 (P : Params) : Obj := ⟨(.type "tuple"), none, (.seq #[] 0), #[]⟩
noncomputable def hdO271 (P : Params) : Obj := ⟨(.type "tuple"), none, (.seq #[] 0), #[]⟩
noncomputable def hdO207 (P : Params) : Obj := ⟨.none, none, (.fields #[]), #[]⟩
noncomputable def hdO335 (P : Params) : Obj := hdTpl (stAt 46) "word_by_begin"
noncomputable def hdO111 (P : Params) : Obj := ⟨(.type "tuple"), none, (.seq #[] 0), #[]⟩
noncomputable def hdO175 (P : Params) : Obj := hdTpl (stAt 23) "capital"
noncomputable def hdO303 (P : Params) : Obj := ⟨(.type "tuple"), none, (.seq #[] 0), #[]⟩
noncomputable def hdO239 (P : Params) : Obj := ⟨(.type "tuple"), none, (.seq #[(.str "FORMAT(" 532), (.str "format" 533)] 0), #[]⟩
noncomputable def hdO135 (P : Params) : Obj := fnObj (fdOf (stAt 14) "read_label" .none (.str "f77.source" 270) (.ref 134))
noncomputable def hdO263 (P : Params) : Obj := ⟨(.type "tuple"), none, (.seq #[(.str "SUBROUTINE" 580), (.str "subroutine" 581)] 0), #[]⟩
noncomputable def hdO199 (P : Params) : Obj := ⟨(.type "tuple"), none, (.seq #[] 0), #[]⟩
noncomputable def hdO327 (P : Params) : Obj := ⟨(.type "tuple"), none, (.seq #[] 0), #[]⟩
noncomputable def hdO103 (P : Params) : Obj := ⟨(.type "tuple"), none, (.seq #[(.str "text" 326)] 0), #[]⟩
noncomputable def hdO167 (P : Params) : Obj := ⟨(.type "tuple"), none, (.seq #[] 0), #[]⟩
noncomputable def hdO295 (P : Params) : Obj := fnObj (fdOf (stAt 40) "is_balanced" .none (.str "f77.classify" 504) (.ref 294))
noncomputable def hdO231 (P : Params) : Obj := ⟨(.type "list"), none, (.seq #[(.ref 227), (.ref 228), (.ref 229), (.ref 230)] 0), #[]⟩
noncomputable def hdO151 (P : Params) : Obj := ⟨.none, none, (.fields #[]), #[]⟩
noncomputable def hdO279 (P : Params) : Obj := hdTpl (stAt 38) "digits_end"
noncomputable def hdO215 (P : Params) : Obj := ⟨(.type "tuple"), none, (.seq #[(.str "row" 486), (.str "out" 487), (.str "depth" 488), (.str "is_inside" 489), (.str "sign" 490)] 0), #[]⟩
noncomputable def hdO343 (P : Params) : Obj := ⟨(.type "code"), none, (.fields #[(.str "classify" 679), (.str "classify" 680), (.str "/claim/cut.py" 681), (.int 298 0), (.int 1 0), (.int 0 0), (.int 0 0), (.int 3 0), (.ref 338), (.bool true), (.int 181 0), (.ref 339), .none, (.ref 340), (.ref 341), (.ref 342), (.int 686 0), (.int 298 0), (.str "/claim/cut.py" 687)]), #[]⟩
noncomputable def hdO119 (P : Params) : Obj := hdTpl (stAt 12) "read_cards"
noncomputable def hdO183 (P : Params) : Obj := ⟨(.type "code"), none, (.fields #[(.str "constant_end" 429), (.str "constant_end" 430), (.str "/claim/cut.py" 431), (.int 114 0), (.int 2 0), (.int 0 0), (.int 0 0), (.int 3 0), (.ref 178), (.bool true), (.int 181 0), (.ref 179), .none, (.ref 180), (.ref 181), (.ref 182), (.int 435 0), (.int 114 0), (.str "/claim/cut.py" 436)]), #[]⟩
noncomputable def hdO311 (P : Params) : Obj := ⟨.none, none, (.fields #[]), #[]⟩
noncomputable def hdO247 (P : Params) : Obj := ⟨(.type "tuple"), none, (.seq #[(.str "OPEN(" 548), (.str "open" 549)] 0), #[]⟩
noncomputable def hdO131 (P : Params) : Obj := ⟨(.type "tuple"), none, (.seq #[(.str "card" 360), (.str "digits" 361), (.str "label" 362), (.str "sign" 363), (.str "digit" 364)] 0), #[]⟩
noncomputable def hdO259 (P : Params) : Obj := ⟨(.type "tuple"), none, (.seq #[(.str "INTRINSIC" 572), (.str "intrinsic" 573)] 0), #[]⟩
noncomputable def hdO195 (P : Params) : Obj := ⟨(.type "tuple"), none, (.seq #[] 0), #[]⟩
noncomputable def hdO323 (P : Params) : Obj := fnObj (fdOf (stAt 44) "word_of_goto" .none (.str "f77.classify" 504) (.ref 322))
noncomputable def hdO99 (P : Params) : Obj := ⟨(.type "code"), none, (.fields #[(.str "cards_of" 313), (.str "cards_of" 314), (.str "/claim/cut.py" 315), (.int 28 0), (.int 1 0), (.int 0 0), (.int 0 0), (.int 3 0), (.ref 94), (.bool true), (.int 181 0), (.ref 95), .none, (.ref 96), (.ref 97), (.ref 98), (.int 320 0), (.int 28 0), (.str "/claim/cut.py" 321)]), #[]⟩
noncomputable def hdO163 (P : Params) : Obj := fnObj (fdOf (stAt 18) "statements_of" .none (.str "f77.source" 270) (.ref 162))
noncomputable def hdO291 (P : Params) : Obj := ⟨(.type "tuple"), none, (.seq #[(.str "row" 619), (.str "levels" 620), (.str "depth" 621), (.str "place" 622)] 0), #[]⟩
noncomputable def hdO227 (P : Params) : Obj := ⟨(.type "tuple"), none, (.seq #[(.str "ELSE" 510), (.str "else" 511)] 0), #[]⟩
noncomputable def hdO147 (P : Params) : Obj := hdTpl (stAt 16) "joined"
noncomputable def hdO275 (P : Params) : Obj := ⟨(.type "tuple"), none, (.seq #[] 0), #[]⟩
noncomputable def hdO211 (P : Params) : Obj := ⟨(.type "code"), none, (.fields #[(.str "squeezed" 473), (.str "squeezed" 474), (.str "/claim/cut.py" 475), (.int 166 0), (.int 1 0), (.int 0 0), (.int 0 0), (.int 3 0), (.ref 206), (.bool true), (.int 181 0), (.ref 207), .none, (.ref 208), (.ref 209), (.ref 210), (.int 480 0), (.int 166 0), (.str "/claim/cut.py" 481)]), #[]⟩
noncomputable def hdO339 (P : Params) : Obj := ⟨.none, none, (.fields #[]), #[]⟩
noncomputable def hdO115 (P : Params) : Obj := ⟨(.type "tuple"), none, (.seq #[] 0), #[]⟩
noncomputable def hdO179 (P : Params) : Obj := ⟨.none, none, (.fields #[]), #[]⟩
noncomputable def hdO307 (P : Params) : Obj := hdTpl (stAt 42) "is_do_head"
noncomputable def hdO243 (P : Params) : Obj := ⟨(.type "tuple"), none, (.seq #[(.str "PAUSE" 540), (.str "pause" 541)] 0), #[]⟩
noncomputable def hdO139 (P : Params) : Obj := ⟨(.type "tuple"), none, (.seq #[] 0), #[]⟩
noncomputable def hdO267 (P : Params) : Obj := ⟨(.type "list"), none, (.seq #[(.ref 239), (.ref 240), (.ref 241), (.ref 242), (.ref 243), (.ref 244), (.ref 245), (.ref 246), (.ref 247), (.ref 248), (.ref 249), (.ref 250), (.ref 251), (.ref 252), (.ref 253), (.ref 254), (.ref 255), (.ref 256), (.ref 257), (.ref 258), (.ref 259), (.ref 260), (.ref 261), (.ref 262), (.ref 263), (.ref 264), (.ref 265), (.ref 266)] 0), #[]⟩
noncomputable def hdO203 (P : Params) : Obj := hdTpl (stAt 27) "squeeze"
noncomputable def hdO331 (P : Params) : Obj := ⟨(.type "tuple"), none, (.seq #[] 0), #[]⟩
noncomputable def hdO107 (P : Params) : Obj := fnObj (fdOf (stAt 10) "without_blanks" .none (.str "f77.source" 270) (.ref 106))
noncomputable def hdO171 (P : Params) : Obj := ⟨(.type "tuple"), none, (.seq #[] 0), #[]⟩
noncomputable def hdO299 (P : Params) : Obj := ⟨(.type "tuple"), none, (.seq #[] 0), #[]⟩
noncomputable def hdO235 (P : Params) : Obj := ⟨(.type "tuple"), none, (.seq #[(.str "COMPLEX" 525), (.str "complex" 526)] 0), #[]⟩
noncomputable def hdO155 (P : Params) : Obj := ⟨(.type "code"), none, (.fields #[(.str "check_continuation" 387), (.str "check_continuation" 388), (.str "/claim/cut.py" 389), (.int 80 0), (.int 3 0), (.int 0 0), (.int 0 0), (.int 3 0), (.ref 150), (.bool true), (.int 181 0), (.ref 151), .none, (.ref 152), (.ref 153), (.ref 154), (.int 393 0), (.int 80 0), (.str "/claim/cut.py" 394)]), #[]⟩
noncomputable def hdO283 (P : Params) : Obj := ⟨.none, none, (.fields #[]), #[]⟩
noncomputable def hdO219 (P : Params) : Obj := fnObj (fdOf (stAt 29) "depths" .none (.str "f77.squeeze" 416) (.ref 218))
noncomputable def hdO123 (P : Params) : Obj := ⟨.none, none, (.fields #[]), #[]⟩
noncomputable def hdO187 (P : Params) : Obj := ⟨(.type "tuple"), none, (.seq #[(.str "text" 441), (.str "at" 442), (.str "count" 443), (.str "end" 444)] 0), #[]⟩
noncomputable def hdO315 (P : Params) : Obj := ⟨(.type "code"), none, (.fields #[(.str "word_of_if" 644), (.str "word_of_if" 645), (.str "/claim/cut.py" 646), (.int 251 0), (.int 1 0), (.int 0 0), (.int 0 0), (.int 3 0), (.ref 310), (.bool true), (.int 181 0), (.ref 311), .none, (.ref 312), (.ref 313), (.ref 314), (.int 649 0), (.int 251 0), (.str "/claim/cut.py" 650)]), #[]⟩
noncomputable def hdO251 (P : Params) : Obj := ⟨(.type "tuple"), none, (.seq #[(.str "REWIND" 556), (.str "rewind" 557)] 0), #[]⟩
noncomputable def hdO129 (P : Params) : Obj := ⟨(.type "tuple"), none, (.seq #[] 0), #[]⟩
noncomputable def hdO257 (P : Params) : Obj := ⟨(.type "tuple"), none, (.seq #[(.str "EQUIVALENCE(" 568), (.str "equivalence" 569)] 0), #[]⟩
noncomputable def hdO193 (P : Params) : Obj := ⟨.none, none, (.fields #[]), #[]⟩
noncomputable def hdO321 (P : Params) : Obj := hdTpl (stAt 44) "word_of_goto"
noncomputable def hdO97 (P : Params) : Obj := ⟨(.type "tuple"), none, (.seq #[] 0), #[]⟩
noncomputable def hdO161 (P : Params) : Obj := hdTpl (stAt 18) "statements_of"
noncomputable def hdO289 (P : Params) : Obj := ⟨(.type "tuple"), none, (.seq #[] 0), #[]⟩
noncomputable def hdO225 (P : Params) : Obj := ⟨(.type "code"), none, (.fields #[(.str "closing" 494), (.str "closing" 495), (.str "/claim/cut.py" 496), (.int 192 0), (.int 2 0), (.int 0 0), (.int 0 0), (.int 3 0), (.ref 220), (.bool true), (.int 181 0), (.ref 221), .none, (.ref 222), (.ref 223), (.ref 224), (.int 501 0), (.int 192 0), (.str "/claim/cut.py" 502)]), #[]⟩
noncomputable def hdO145 (P : Params) : Obj := ⟨(.type "tuple"), none, (.seq #[(.str "rows" 379), (.str "width" 380), (.str "first" 381), (.str "text" 382), (.str "at" 383)] 0), #[]⟩
noncomputable def hdO273 (P : Params) : Obj := ⟨(.type "code"), none, (.fields #[(.str "name_end" 589), (.str "name_end" 590), (.str "/claim/cut.py" 591), (.int 204 0), (.int 2 0), (.int 0 0), (.int 0 0), (.int 3 0), (.ref 268), (.bool true), (.int 181 0), (.ref 269), .none, (.ref 270), (.ref 271), (.ref 272), (.int 595 0), (.int 204 0), (.str "/claim/cut.py" 596)]), #[]⟩
noncomputable def hdO209 (P : Params) : Obj := ⟨(.type "tuple"), none, (.seq #[] 0), #[]⟩
noncomputable def hdO337 (P : Params) : Obj := fnObj (fdOf (stAt 46) "word_by_begin" .none (.str "f77.classify" 504) (.ref 336))
noncomputable def hdO113 (P : Params) : Obj := ⟨(.type "code"), none, (.fields #[(.str "is_comment" 330), (.str "is_comment" 331), (.str "/claim/cut.py" 332), (.int 38 0), (.int 2 0), (.int 0 0), (.int 0 0), (.int 3 0), (.ref 108), (.bool true), (.int 181 0), (.ref 109), .none, (.ref 110), (.ref 111), (.ref 112), (.int 335 0), (.int 38 0), (.str "/claim/cut.py" 336)]), #[]⟩
noncomputable def hdO177 (P : Params) : Obj := fnObj (fdOf (stAt 23) "capital" .none (.str "f77.squeeze" 416) (.ref 176))
noncomputable def hdO305 (P : Params) : Obj := ⟨(.type "tuple"), none, (.seq #[(.str "head" 639), (.str "end" 640)] 0), #[]⟩
noncomputable def hdO241 (P : Params) : Obj := ⟨(.type "tuple"), none, (.seq #[(.str "RETURN" 536), (.str "return" 537)] 0), #[]⟩
noncomputable def hdO137 (P : Params) : Obj := ⟨.none, none, (.fields #[]), #[]⟩
noncomputable def hdO265 (P : Params) : Obj := ⟨(.type "tuple"), none, (.seq #[(.str "BLOCKDATA" 584), (.str "blockdata" 585)] 0), #[]⟩
noncomputable def hdO201 (P : Params) : Obj := ⟨(.type "tuple"), none, (.seq #[(.str "text" 462), (.str "out" 463), (.str "last" 464), (.str "at" 465), (.str "sign" 466), (.str "constant" 467), (.str "end" 468), (.str "part" 469)] 0), #[]⟩
noncomputable def hdO329 (P : Params) : Obj := ⟨(.type "code"), none, (.fields #[(.str "word_of_type" 659), (.str "word_of_type" 660), (.str "/claim/cut.py" 661), (.int 268 0), (.int 1 0), (.int 0 0), (.int 0 0), (.int 3 0), (.ref 324), (.bool true), (.int 181 0), (.ref 325), .none, (.ref 326), (.ref 327), (.ref 328), (.int 667 0), (.int 268 0), (.str "/claim/cut.py" 668)]), #[]⟩
noncomputable def hdO105 (P : Params) : Obj := hdTpl (stAt 10) "without_blanks"
noncomputable def hdO169 (P : Params) : Obj := ⟨(.type "code"), none, (.fields #[(.str "read_statements" 408), (.str "read_statements" 409), (.str "/claim/cut.py" 410), (.int 105 0), (.int 2 0), (.int 0 0), (.int 0 0), (.int 3 0), (.ref 164), (.bool true), (.int 181 0), (.ref 165), .none, (.ref 166), (.ref 167), (.ref 168), (.int 413 0), (.int 105 0), (.str "/claim/cut.py" 414)]), #[]⟩
noncomputable def hdO297 (P : Params) : Obj := ⟨.none, none, (.fields #[]), #[]⟩
noncomputable def hdO233 (P : Params) : Obj := ⟨(.type "tuple"), none, (.seq #[(.str "REAL" 521), (.str "real" 522)] 0), #[]⟩
noncomputable def hdO153 (P : Params) : Obj := ⟨(.type "tuple"), none, (.seq #[] 0), #[]⟩
noncomputable def hdO281 (P : Params) : Obj := fnObj (fdOf (stAt 38) "digits_end" .none (.str "f77.classify" 504) (.ref 280))
noncomputable def hdO217 (P : Params) : Obj := hdTpl (stAt 29) "depths"
noncomputable def hdO121 (P : Params) : Obj := fnObj (fdOf (stAt 12) "read_cards" .none (.str "f77.source" 270) (.ref 120))
noncomputable def hdO185 (P : Params) : Obj := ⟨(.type "tuple"), none, (.seq #[] 0), #[]⟩
noncomputable def hdO313 (P : Params) : Obj := ⟨(.type "tuple"), none, (.seq #[] 0), #[]⟩
noncomputable def hdO249 (P : Params) : Obj := ⟨(.type "tuple"), none, (.seq #[(.str "INQUIRE(" 552), (.str "inquire" 553)] 0), #[]⟩
noncomputable def hdO133 (P : Params) : Obj := hdTpl (stAt 14) "read_label"
noncomputable def hdO261 (P : Params) : Obj := ⟨(.type "tuple"), none, (.seq #[(.str "DATA" 576), (.str "data" 577)] 0), #[]⟩
noncomputable def hdO197 (P : Params) : Obj := ⟨(.type "code"), none, (.fields #[(.str "hollerith" 448), (.str "hollerith" 449), (.str "/claim/cut.py" 450), (.int 133 0), (.int 2 0), (.int 0 0), (.int 0 0), (.int 3 0), (.ref 192), (.bool true), (.int 181 0), (.ref 193), .none, (.ref 194), (.ref 195), (.ref 196), (.int 456 0), (.int 133 0), (.str "/claim/cut.py" 457)]), #[]⟩
noncomputable def hdO325 (P : Params) : Obj := ⟨.none, none, (.fields #[]), #[]⟩
noncomputable def hdO101 (P : Params) : Obj := ⟨(.type "tuple"), none, (.seq #[] 0), #[]⟩
noncomputable def hdO165 (P : Params) : Obj := ⟨.none, none, (.fields #[]), #[]⟩
noncomputable def hdO293 (P : Params) : Obj := hdTpl (stAt 40) "is_balanced"
noncomputable def hdO229 (P : Params) : Obj := ⟨(.type "tuple"), none, (.seq #[(.str "END" 514), (.str "end" 515)] 0), #[]⟩
noncomputable def hdO149 (P : Params) : Obj := fnObj (fdOf (stAt 16) "joined" .none (.str "f77.source" 270) (.ref 148))
noncomputable def hdO277 (P : Params) : Obj := ⟨(.type "tuple"), none, (.seq #[(.str "row" 601), (.str "at" 602), (.str "end" 603)] 0), #[]⟩
noncomputable def hdO213 (P : Params) : Obj := ⟨(.type "tuple"), none, (.seq #[] 0), #[]⟩
noncomputable def hdO341 (P : Params) : Obj := ⟨(.type "tuple"), none, (.seq #[] 0), #[]⟩
noncomputable def hdO117 (P : Params) : Obj := ⟨(.type "tuple"), none, (.seq #[(.str "text" 341), (.str "limits" 342), (.str "cards" 343), (.str "line" 344), (.str "row" 345), (.str "seen" 346)] 0), #[]⟩
noncomputable def hdO181 (P : Params) : Obj := ⟨(.type "tuple"), none, (.seq #[] 0), #[]⟩
noncomputable def hdO309 (P : Params) : Obj := fnObj (fdOf (stAt 42) "is_do_head" .none (.str "f77.classify" 504) (.ref 308))
noncomputable def hdO245 (P : Params) : Obj := ⟨(.type "tuple"), none, (.seq #[(.str "WRITE(" 544), (.str "write" 545)] 0), #[]⟩
noncomputable def hdO141 (P : Params) : Obj := ⟨(.type "code"), none, (.fields #[(.str "padded" 368), (.str "padded" 369), (.str "/claim/cut.py" 370), (.int 65 0), (.int 2 0), (.int 0 0), (.int 0 0), (.int 3 0), (.ref 136), (.bool true), (.int 181 0), (.ref 137), .none, (.ref 138), (.ref 139), (.ref 140), (.int 373 0), (.int 65 0), (.str "/claim/cut.py" 374)]), #[]⟩
noncomputable def hdO269 (P : Params) : Obj := ⟨.none, none, (.fields #[]), #[]⟩
noncomputable def hdO205 (P : Params) : Obj := fnObj (fdOf (stAt 27) "squeeze" .none (.str "f77.squeeze" 416) (.ref 204))
noncomputable def hdO333 (P : Params) : Obj := ⟨(.type "tuple"), none, (.seq #[(.str "row" 673), (.str "text" 674), (.str "word" 675)] 0), #[]⟩
noncomputable def hdO109 (P : Params) : Obj := ⟨.none, none, (.fields #[]), #[]⟩
noncomputable def hdO173 (P : Params) : Obj := ⟨(.type "tuple"), none, (.seq #[(.str "sign" 425)] 0), #[]⟩
noncomputable def hdO301 (P : Params) : Obj := ⟨(.type "code"), none, (.fields #[(.str "equals_at" 626), (.str "equals_at" 627), (.str "/claim/cut.py" 628), (.int 236 0), (.int 2 0), (.int 0 0), (.int 0 0), (.int 3 0), (.ref 296), (.bool true), (.int 181 0), (.ref 297), .none, (.ref 298), (.ref 299), (.ref 300), (.int 633 0), (.int 236 0), (.str "/claim/cut.py" 634)]), #[]⟩
noncomputable def hdO237 (P : Params) : Obj := ⟨(.type "tuple"), none, (.seq #[(.str "CHARACTER" 529), (.str "character" 530)] 0), #[]⟩
noncomputable def hdO157 (P : Params) : Obj := ⟨(.type "tuple"), none, (.seq #[] 0), #[]⟩
noncomputable def hdO285 (P : Params) : Obj := ⟨(.type "tuple"), none, (.seq #[] 0), #[]⟩
noncomputable def hdO221 (P : Params) : Obj := ⟨.none, none, (.fields #[]), #[]⟩
noncomputable def hdO125 (P : Params) : Obj := ⟨(.type "tuple"), none, (.seq #[] 0), #[]⟩
noncomputable def hdO189 (P : Params) : Obj := hdTpl (stAt 25) "count_end"
noncomputable def hdO317 (P : Params) : Obj := ⟨(.type "tuple"), none, (.seq #[] 0), #[]⟩
noncomputable def hdO253 (P : Params) : Obj := ⟨(.type "tuple"), none, (.seq #[(.str "IMPLICIT" 560), (.str "implicit" 561)] 0), #[]⟩
noncomputable def hdO128 (P : Params) : Obj := fnObj (fdOf (stAt 13) "is_continuation" .none (.str "f77.source" 270) (.ref 127))
noncomputable def hdO256 (P : Params) : Obj := ⟨(.type "tuple"), none, (.seq #[(.str "COMMON" 566), (.str "common" 567)] 0), #[]⟩
noncomputable def hdO192 (P : Params) : Obj := ⟨(.type "tuple"), none, (.seq #[] 0), #[]⟩
noncomputable def hdO320 (P : Params) : Obj := ⟨(.type "tuple"), none, (.seq #[] 0), #[]⟩
noncomputable def hdO96 (P : Params) : Obj := ⟨(.type "tuple"), none, (.seq #[(.str "text" 316), (.str "rows" 317), (.str "out" 318), (.str "row" 319)] 0), #[]⟩
noncomputable def hdO160 (P : Params) : Obj := ⟨(.type "tuple"), none, (.seq #[] 0), #[]⟩
noncomputable def hdO288 (P : Params) : Obj := fnObj (fdOf (stAt 39) "is_target" .none (.str "f77.classify" 504) (.ref 287))
noncomputable def hdO224 (P : Params) : Obj := hdTpl (stAt 30) "closing"
noncomputable def hdO144 (P : Params) : Obj := ⟨.none, none, (.fields #[]), #[]⟩
noncomputable def hdO272 (P : Params) : Obj := hdTpl (stAt 37) "name_end"
noncomputable def hdO208 (P : Params) : Obj := ⟨(.type "tuple"), none, (.seq #[(.str "text" 476), (.str "row" 477), (.str "sign" 478), (.str "is_inside" 479)] 0), #[]⟩
noncomputable def hdO336 (P : Params) : Obj := ⟨(.type "code"), none, (.fields #[(.str "word_by_begin" 670), (.str "word_by_begin" 671), (.str "/claim/cut.py" 672), (.int 282 0), (.int 1 0), (.int 0 0), (.int 0 0), (.int 3 0), (.ref 331), (.bool true), (.int 181 0), (.ref 332), .none, (.ref 333), (.ref 334), (.ref 335), (.int 676 0), (.int 282 0), (.str "/claim/cut.py" 677)]), #[]⟩
noncomputable def hdO112 (P : Params) : Obj := hdTpl (stAt 11) "is_comment"
noncomputable def hdO176 (P : Params) : Obj := ⟨(.type "code"), none, (.fields #[(.str "capital" 422), (.str "capital" 423), (.str "/claim/cut.py" 424), (.int 110 0), (.int 1 0), (.int 0 0), (.int 0 0), (.int 3 0), (.ref 171), (.bool true), (.int 181 0), (.ref 172), .none, (.ref 173), (.ref 174), (.ref 175), (.int 426 0), (.int 110 0), (.str "/claim/cut.py" 427)]), #[]⟩
noncomputable def hdO304 (P : Params) : Obj := ⟨.none, none, (.fields #[]), #[]⟩
noncomputable def hdO240 (P : Params) : Obj := ⟨(.type "tuple"), none, (.seq #[(.str "CALL" 534), (.str "call" 535)] 0), #[]⟩
noncomputable def hdO136 (P : Params) : Obj := ⟨(.type "tuple"), none, (.seq #[] 0), #[]⟩
noncomputable def hdO264 (P : Params) : Obj := ⟨(.type "tuple"), none, (.seq #[(.str "FUNCTION" 582), (.str "function" 583)] 0), #[]⟩
noncomputable def hdO200 (P : Params) : Obj := ⟨.none, none, (.fields #[]), #[]⟩
noncomputable def hdO328 (P : Params) : Obj := hdTpl (stAt 45) "word_of_type"
noncomputable def hdO104 (P : Params) : Obj := ⟨(.type "tuple"), none, (.seq #[] 0), #[]⟩
noncomputable def hdO168 (P : Params) : Obj := hdTpl (stAt 19) "read_statements"
noncomputable def hdO296 (P : Params) : Obj := ⟨(.type "tuple"), none, (.seq #[] 0), #[]⟩
noncomputable def hdO232 (P : Params) : Obj := ⟨(.type "tuple"), none, (.seq #[(.str "INTEGER" 519), (.str "integer" 520)] 0), #[]⟩
noncomputable def hdO152 (P : Params) : Obj := ⟨(.type "tuple"), none, (.seq #[(.str "card" 390), (.str "rows" 391), (.str "limits" 392)] 0), #[]⟩
noncomputable def hdO280 (P : Params) : Obj := ⟨(.type "code"), none, (.fields #[(.str "digits_end" 598), (.str "digits_end" 599), (.str "/claim/cut.py" 600), (.int 211 0), (.int 2 0), (.int 0 0), (.int 0 0), (.int 3 0), (.ref 275), (.bool true), (.int 181 0), (.ref 276), .none, (.ref 277), (.ref 278), (.ref 279), (.int 604 0), (.int 211 0), (.str "/claim/cut.py" 605)]), #[]⟩
noncomputable def hdO216 (P : Params) : Obj := ⟨(.type "tuple"), none, (.seq #[] 0), #[]⟩
noncomputable def hdO344 (P : Params) : Obj := fnObj (fdOf (stAt 47) "classify" .none (.str "f77.classify" 504) (.ref 343))
noncomputable def hdO120 (P : Params) : Obj := ⟨(.type "code"), none, (.fields #[(.str "read_cards" 338), (.str "read_cards" 339), (.str "/claim/cut.py" 340), (.int 40 0), (.int 2 0), (.int 0 0), (.int 0 0), (.int 3 0), (.ref 115), (.bool true), (.int 181 0), (.ref 116), .none, (.ref 117), (.ref 118), (.ref 119), (.int 347 0), (.int 40 0), (.str "/claim/cut.py" 348)]), #[]⟩
noncomputable def hdO184 (P : Params) : Obj := fnObj (fdOf (stAt 24) "constant_end" .none (.str "f77.squeeze" 416) (.ref 183))
noncomputable def hdO312 (P : Params) : Obj := ⟨(.type "tuple"), none, (.seq #[(.str "row" 647), (.str "rest" 648)] 0), #[]⟩
noncomputable def hdO248 (P : Params) : Obj := ⟨(.type "tuple"), none, (.seq #[(.str "CLOSE(" 550), (.str "close" 551)] 0), #[]⟩
noncomputable def hdO12_2 (P : Params) : Obj := ⟨.none, none, (.fields #[(.int 2 0), (.int 0 0), (.ref 20), (.int 7 0), (.int 0 0), (.ref 40), (.int 12 0), (.int 0 0), (.ref 59), (.int 21 0), (.int 0 0), (.ref 78), (.int 28 0), (.int 0 0), (.ref 99), (.int 36 0), (.int 0 0), (.ref 106), (.int 38 0), (.int 0 0), (.ref 113), (.int 40 0), (.int 0 0), (.ref 120), (.int 50 0), (.int 0 0), (.ref 127), (.int 52 0), (.int 0 0), (.ref 134), (.int 65 0), (.int 0 0), (.ref 141), (.int 69 0), (.int 0 0), (.ref 148), (.int 80 0), (.int 0 0), (.ref 155), (.int 89 0), (.int 0 0), (.ref 162), (.int 105 0), (.int 0 0), (.ref 169), (.int 110 0), (.int 0 0), (.ref 176), (.int 114 0), (.int 0 0), (.ref 183), (.int 123 0), (.int 0 0), (.ref 190), (.int 133 0), (.int 0 0), (.ref 197), (.int 141 0), (.int 0 0), (.ref 204), (.int 166 0), (.int 0 0), (.ref 211), (.int 171 0), (.int 0 0), (.ref 218), (.int 192 0), (.int 0 0), (.ref 225), (.int 204 0), (.int 0 0), (.ref 273), (.int 211 0), (.int 0 0), (.ref 280), (.int 216 0), (.int 0 0), (.ref 287), (.int 226 0), (.int 0 0), (.ref 294), (.int 236 0), (.int 0 0), (.ref 301), (.int 244 0), (.int 0 0), (.ref 308), (.int 251 0), (.int 0 0), (.ref 315), (.int 260 0), (.int 0 0), (.ref 322), (.int 268 0), (.int 0 0), (.ref 329), (.int 282 0), (.int 0 0), (.ref 336), (.int 298 0), (.int 0 0), (.ref 343)]), #[]⟩
noncomputable def hdO132 (P : Params) : Obj := ⟨(.type "tuple"), none, (.seq #[] 0), #[]⟩
noncomputable def hdO260 (P : Params) : Obj := ⟨(.type "tuple"), none, (.seq #[(.str "SAVE" 574), (.str "save" 575)] 0), #[]⟩
noncomputable def hdO196 (P : Params) : Obj := hdTpl (stAt 26) "hollerith"
noncomputable def hdO324 (P : Params) : Obj := ⟨(.type "tuple"), none, (.seq #[] 0), #[]⟩
noncomputable def hdO100 (P : Params) : Obj := fnObj (fdOf (stAt 9) "cards_of" .none (.str "f77.source" 270) (.ref 99))
noncomputable def hdO164 (P : Params) : Obj := ⟨(.type "tuple"), none, (.seq #[] 0), #[]⟩
noncomputable def hdO292 (P : Params) : Obj := ⟨(.type "tuple"), none, (.seq #[] 0), #[]⟩
noncomputable def hdO228 (P : Params) : Obj := ⟨(.type "tuple"), none, (.seq #[(.str "ENDIF" 512), (.str "endif" 513)] 0), #[]⟩
noncomputable def hdO148 (P : Params) : Obj := ⟨(.type "code"), none, (.fields #[(.str "joined" 376), (.str "joined" 377), (.str "/claim/cut.py" 378), (.int 69 0), (.int 2 0), (.int 0 0), (.int 0 0), (.int 3 0), (.ref 143), (.bool true), (.int 181 0), (.ref 144), .none, (.ref 145), (.ref 146), (.ref 147), (.int 384 0), (.int 69 0), (.str "/claim/cut.py" 385)]), #[]⟩
noncomputable def hdO276 (P : Params) : Obj := ⟨.none, none, (.fields #[]), #[]⟩
noncomputable def hdO212 (P : Params) : Obj := fnObj (fdOf (stAt 28) "squeezed" .none (.str "f77.squeeze" 416) (.ref 211))
noncomputable def hdO340 (P : Params) : Obj := ⟨(.type "tuple"), none, (.seq #[(.str "row" 682), (.str "levels" 683), (.str "at" 684), (.str "has_comma" 685)] 0), #[]⟩
noncomputable def hdO116 (P : Params) : Obj := ⟨.none, none, (.fields #[]), #[]⟩
noncomputable def hdO180 (P : Params) : Obj := ⟨(.type "tuple"), none, (.seq #[(.str "text" 432), (.str "at" 433), (.str "end" 434)] 0), #[]⟩
noncomputable def hdO308 (P : Params) : Obj := ⟨(.type "code"), none, (.fields #[(.str "is_do_head" 636), (.str "is_do_head" 637), (.str "/claim/cut.py" 638), (.int 244 0), (.int 1 0), (.int 0 0), (.int 0 0), (.int 3 0), (.ref 303), (.bool true), (.int 181 0), (.ref 304), .none, (.ref 305), (.ref 306), (.ref 307), (.int 641 0), (.int 244 0), (.str "/claim/cut.py" 642)]), #[]⟩
noncomputable def hdO244 (P : Params) : Obj := ⟨(.type "tuple"), none, (.seq #[(.str "READ" 542), (.str "read" 543)] 0), #[]⟩
noncomputable def hdO140 (P : Params) : Obj := hdTpl (stAt 15) "padded"
noncomputable def hdO268 (P : Params) : Obj := ⟨(.type "tuple"), none, (.seq #[] 0), #[]⟩
noncomputable def hdO204 (P : Params) : Obj := ⟨(.type "code"), none, (.fields #[(.str "squeeze" 459), (.str "squeeze" 460), (.str "/claim/cut.py" 461), (.int 141 0), (.int 1 0), (.int 0 0), (.int 0 0), (.int 3 0), (.ref 199), (.bool true), (.int 181 0), (.ref 200), .none, (.ref 201), (.ref 202), (.ref 203), (.int 470 0), (.int 141 0), (.str "/claim/cut.py" 471)]), #[]⟩
noncomputable def hdO332 (P : Params) : Obj := ⟨.none, none, (.fields #[]), #[]⟩
noncomputable def hdO108 (P : Params) : Obj := ⟨(.type "tuple"), none, (.seq #[] 0), #[]⟩
noncomputable def hdO172 (P : Params) : Obj := ⟨.none, none, (.fields #[]), #[]⟩
noncomputable def hdO300 (P : Params) : Obj := hdTpl (stAt 41) "equals_at"
noncomputable def hdO236 (P : Params) : Obj := ⟨(.type "tuple"), none, (.seq #[(.str "LOGICAL" 527), (.str "logical" 528)] 0), #[]⟩
noncomputable def hdO156 (P : Params) : Obj := fnObj (fdOf (stAt 17) "check_continuation" .none (.str "f77.source" 270) (.ref 155))
noncomputable def hdO284 (P : Params) : Obj := ⟨(.type "tuple"), none, (.seq #[(.str "text" 610), (.str "at" 611), (.str "turn" 612)] 0), #[]⟩
noncomputable def hdO220 (P : Params) : Obj := ⟨(.type "tuple"), none, (.seq #[] 0), #[]⟩
noncomputable def hdO124 (P : Params) : Obj := ⟨(.type "tuple"), none, (.seq #[(.str "card" 353)] 0), #[]⟩
noncomputable def hdO188 (P : Params) : Obj := ⟨(.type "tuple"), none, (.seq #[] 0), #[]⟩
noncomputable def hdO316 (P : Params) : Obj := fnObj (fdOf (stAt 43) "word_of_if" .none (.str "f77.classify" 504) (.ref 315))
noncomputable def hdO252 (P : Params) : Obj := ⟨(.type "tuple"), none, (.seq #[(.str "ENDFILE" 558), (.str "endfile" 559)] 0), #[]⟩
noncomputable def hdO130 (P : Params) : Obj := ⟨.none, none, (.fields #[]), #[]⟩
noncomputable def hdO258 (P : Params) : Obj := ⟨(.type "tuple"), none, (.seq #[(.str "EXTERNAL" 570), (.str "external" 571)] 0), #[]⟩
noncomputable def hdO194 (P : Params) : Obj := ⟨(.type "tuple"), none, (.seq #[(.str "text" 451), (.str "at" 452), (.str "count" 453), (.str "begin" 454), (.str "inner" 455)] 0), #[]⟩
noncomputable def hdO322 (P : Params) : Obj := ⟨(.type "code"), none, (.fields #[(.str "word_of_goto" 652), (.str "word_of_goto" 653), (.str "/claim/cut.py" 654), (.int 260 0), (.int 1 0), (.int 0 0), (.int 0 0), (.int 3 0), (.ref 317), (.bool true), (.int 181 0), (.ref 318), .none, (.ref 319), (.ref 320), (.ref 321), (.int 656 0), (.int 260 0), (.str "/claim/cut.py" 657)]), #[]⟩
noncomputable def hdO98 (P : Params) : Obj := hdTpl (stAt 9) "cards_of"
noncomputable def hdO162 (P : Params) : Obj := ⟨(.type "code"), none, (.fields #[(.str "statements_of" 396), (.str "statements_of" 397), (.str "/claim/cut.py" 398), (.int 89 0), (.int 2 0), (.int 0 0), (.int 0 0), (.int 3 0), (.ref 157), (.bool true), (.int 181 0), (.ref 158), .none, (.ref 159), (.ref 160), (.ref 161), (.int 405 0), (.int 89 0), (.str "/claim/cut.py" 406)]), #[]⟩
noncomputable def hdO290 (P : Params) : Obj := ⟨.none, none, (.fields #[]), #[]⟩
noncomputable def hdO226 (P : Params) : Obj := fnObj (fdOf (stAt 30) "closing" .none (.str "f77.squeeze" 416) (.ref 225))
noncomputable def hdO146 (P : Params) : Obj := ⟨(.type "tuple"), none, (.seq #[] 0), #[]⟩
noncomputable def hdO274 (P : Params) : Obj := fnObj (fdOf (stAt 37) "name_end" .none (.str "f77.classify" 504) (.ref 273))
noncomputable def hdO210 (P : Params) : Obj := hdTpl (stAt 28) "squeezed"
noncomputable def hdO338 (P : Params) : Obj := ⟨(.type "tuple"), none, (.seq #[] 0), #[]⟩
noncomputable def hdO114 (P : Params) : Obj := fnObj (fdOf (stAt 11) "is_comment" .none (.str "f77.source" 270) (.ref 113))
noncomputable def hdO178 (P : Params) : Obj := ⟨(.type "tuple"), none, (.seq #[] 0), #[]⟩
noncomputable def hdO306 (P : Params) : Obj := ⟨(.type "tuple"), none, (.seq #[] 0), #[]⟩
noncomputable def hdO242 (P : Params) : Obj := ⟨(.type "tuple"), none, (.seq #[(.str "STOP" 538), (.str "stop" 539)] 0), #[]⟩
noncomputable def hdO138 (P : Params) : Obj := ⟨(.type "tuple"), none, (.seq #[(.str "body" 371), (.str "width" 372)] 0), #[]⟩
noncomputable def hdO266 (P : Params) : Obj := ⟨(.type "tuple"), none, (.seq #[(.str "ENTRY" 586), (.str "entry" 587)] 0), #[]⟩
noncomputable def hdO202 (P : Params) : Obj := ⟨(.type "tuple"), none, (.seq #[] 0), #[]⟩
noncomputable def hdO330 (P : Params) : Obj := fnObj (fdOf (stAt 45) "word_of_type" .none (.str "f77.classify" 504) (.ref 329))
noncomputable def hdO106 (P : Params) : Obj := ⟨(.type "code"), none, (.fields #[(.str "without_blanks" 323), (.str "without_blanks" 324), (.str "/claim/cut.py" 325), (.int 36 0), (.int 1 0), (.int 0 0), (.int 0 0), (.int 3 0), (.ref 101), (.bool true), (.int 181 0), (.ref 102), .none, (.ref 103), (.ref 104), (.ref 105), (.int 327 0), (.int 36 0), (.str "/claim/cut.py" 328)]), #[]⟩
noncomputable def hdO170 (P : Params) : Obj := fnObj (fdOf (stAt 19) "read_statements" .none (.str "f77.source" 270) (.ref 169))
noncomputable def hdO298 (P : Params) : Obj := ⟨(.type "tuple"), none, (.seq #[(.str "row" 629), (.str "levels" 630), (.str "found" 631), (.str "place" 632)] 0), #[]⟩
noncomputable def hdO234 (P : Params) : Obj := ⟨(.type "tuple"), none, (.seq #[(.str "DOUBLEPRECISION" 523), (.str "doubleprecision" 524)] 0), #[]⟩
noncomputable def hdO154 (P : Params) : Obj := hdTpl (stAt 17) "check_continuation"
noncomputable def hdO282 (P : Params) : Obj := ⟨(.type "tuple"), none, (.seq #[] 0), #[]⟩
noncomputable def hdO218 (P : Params) : Obj := ⟨(.type "code"), none, (.fields #[(.str "depths" 483), (.str "depths" 484), (.str "/claim/cut.py" 485), (.int 171 0), (.int 1 0), (.int 0 0), (.int 0 0), (.int 3 0), (.ref 213), (.bool true), (.int 181 0), (.ref 214), .none, (.ref 215), (.ref 216), (.ref 217), (.int 491 0), (.int 171 0), (.str "/claim/cut.py" 492)]), #[]⟩
noncomputable def hdO122 (P : Params) : Obj := ⟨(.type "tuple"), none, (.seq #[] 0), #[]⟩
noncomputable def hdO186 (P : Params) : Obj := ⟨.none, none, (.fields #[]), #[]⟩
noncomputable def hdO314 (P : Params) : Obj := hdTpl (stAt 43) "word_of_if"
noncomputable def hdO250 (P : Params) : Obj := ⟨(.type "tuple"), none, (.seq #[(.str "BACKSPACE" 554), (.str "backspace" 555)] 0), #[]⟩
noncomputable def hdO134 (P : Params) : Obj := ⟨(.type "code"), none, (.fields #[(.str "read_label" 357), (.str "read_label" 358), (.str "/claim/cut.py" 359), (.int 52 0), (.int 1 0), (.int 0 0), (.int 0 0), (.int 3 0), (.ref 129), (.bool true), (.int 181 0), (.ref 130), .none, (.ref 131), (.ref 132), (.ref 133), (.int 365 0), (.int 52 0), (.str "/claim/cut.py" 366)]), #[]⟩
noncomputable def hdO262 (P : Params) : Obj := ⟨(.type "tuple"), none, (.seq #[(.str "PROGRAM" 578), (.str "program" 579)] 0), #[]⟩
noncomputable def hdO198 (P : Params) : Obj := fnObj (fdOf (stAt 26) "hollerith" .none (.str "f77.squeeze" 416) (.ref 197))
noncomputable def hdO326 (P : Params) : Obj := ⟨(.type "tuple"), none, (.seq #[(.str "row" 662), (.str "text" 663), (.str "word" 664), (.str "at" 665), (.str "end" 666)] 0), #[]⟩
noncomputable def hdO102 (P : Params) : Obj := ⟨.none, none, (.fields #[]), #[]⟩
noncomputable def hdO166 (P : Params) : Obj := ⟨(.type "tuple"), none, (.seq #[(.str "text" 411), (.str "limits" 412)] 0), #[]⟩
noncomputable def hdO294 (P : Params) : Obj := ⟨(.type "code"), none, (.fields #[(.str "is_balanced" 616), (.str "is_balanced" 617), (.str "/claim/cut.py" 618), (.int 226 0), (.int 2 0), (.int 0 0), (.int 0 0), (.int 3 0), (.ref 289), (.bool true), (.int 181 0), (.ref 290), .none, (.ref 291), (.ref 292), (.ref 293), (.int 623 0), (.int 226 0), (.str "/claim/cut.py" 624)]), #[]⟩
noncomputable def hdO230 (P : Params) : Obj := ⟨(.type "tuple"), none, (.seq #[(.str "CONTINUE" 516), (.str "continue" 517)] 0), #[]⟩
noncomputable def hdO150 (P : Params) : Obj := ⟨(.type "tuple"), none, (.seq #[] 0), #[]⟩
noncomputable def hdO278 (P : Params) : Obj := ⟨(.type "tuple"), none, (.seq #[] 0), #[]⟩
noncomputable def hdO214 (P : Params) : Obj := ⟨.none, none, (.fields #[]), #[]⟩
noncomputable def hdO342 (P : Params) : Obj := hdTpl (stAt 47) "classify"
noncomputable def hdO118 (P : Params) : Obj := ⟨(.type "tuple"), none, (.seq #[] 0), #[]⟩
noncomputable def hdO182 (P : Params) : Obj := hdTpl (stAt 24) "constant_end"
noncomputable def hdO310 (P : Params) : Obj := ⟨(.type "tuple"), none, (.seq #[] 0), #[]⟩
noncomputable def hdO246 (P : Params) : Obj := ⟨(.type "tuple"), none, (.seq #[(.str "PRINT" 546), (.str "print" 547)] 0), #[]⟩
noncomputable def hdO142 (P : Params) : Obj := fnObj (fdOf (stAt 15) "padded" .none (.str "f77.source" 270) (.ref 141))
noncomputable def hdO270 (P : Params) : Obj := ⟨(.type "tuple"), none, (.seq #[(.str "row" 592), (.str "at" 593), (.str "end" 594)] 0), #[]⟩
noncomputable def hdO206 (P : Params) : Obj := ⟨(.type "tuple"), none, (.seq #[] 0), #[]⟩
noncomputable def hdO334 (P : Params) : Obj := ⟨(.type "tuple"), none, (.seq #[] 0), #[]⟩
noncomputable def hdO110 (P : Params) : Obj := ⟨(.type "tuple"), none, (.seq #[(.str "row" 333), (.str "columns" 334)] 0), #[]⟩
noncomputable def hdO174 (P : Params) : Obj := ⟨(.type "tuple"), none, (.seq #[] 0), #[]⟩
noncomputable def hdO302 (P : Params) : Obj := fnObj (fdOf (stAt 41) "equals_at" .none (.str "f77.classify" 504) (.ref 301))
noncomputable def hdO238 (P : Params) : Obj := ⟨(.type "list"), none, (.seq #[(.ref 232), (.ref 233), (.ref 234), (.ref 235), (.ref 236), (.ref 237)] 0), #[]⟩
noncomputable def hdO94 (P : Params) : Obj := ⟨(.type "tuple"), none, (.seq #[] 0), #[]⟩
noncomputable def hdO158 (P : Params) : Obj := ⟨.none, none, (.fields #[]), #[]⟩
noncomputable def hdO286 (P : Params) : Obj := hdTpl (stAt 39) "is_target"
noncomputable def hdO222 (P : Params) : Obj := ⟨(.type "tuple"), none, (.seq #[(.str "row" 497), (.str "at" 498), (.str "levels" 499), (.str "end" 500)] 0), #[]⟩
noncomputable def hdO126 (P : Params) : Obj := hdTpl (stAt 13) "is_continuation"
noncomputable def hdO190 (P : Params) : Obj := ⟨(.type "code"), none, (.fields #[(.str "count_end" 438), (.str "count_end" 439), (.str "/claim/cut.py" 440), (.int 123 0), (.int 2 0), (.int 0 0), (.int 0 0), (.int 3 0), (.ref 185), (.bool true), (.int 181 0), (.ref 186), .none, (.ref 187), (.ref 188), (.ref 189), (.int 445 0), (.int 123 0), (.str "/claim/cut.py" 446)]), #[]⟩
noncomputable def hdO318 (P : Params) : Obj := ⟨.none, none, (.fields #[]), #[]⟩
noncomputable def hdO254 (P : Params) : Obj := ⟨(.type "tuple"), none, (.seq #[(.str "PARAMETER(" 562), (.str "parameter" 563)] 0), #[]⟩
noncomputable def hdO3_2 (P : Params) : Obj := ⟨(.type "dict"), none, (.dict #[⟨PyData.keyHash P "__name__", (.str "__name__" 165), (.str "law_no0264_01" 742)⟩, ⟨PyData.keyHash P "__doc__", (.str "__doc__" 166), .none⟩, ⟨PyData.keyHash P "__package__", (.str "__package__" 167), .none⟩, ⟨PyData.keyHash P "__loader__", (.str "__loader__" 168), (.builtin "__main__.__loader__#opaque")⟩, ⟨PyData.keyHash P "__spec__", (.str "__spec__" 169), .none⟩, ⟨PyData.keyHash P "__annotations__", (.str "__annotations__" 170), (.ref 6)⟩, ⟨PyData.keyHash P "__builtins__", (.str "__builtins__" 171), (.ref 4)⟩, ⟨PyData.keyHash P "__file__", (.str "__file__" 173), (.str "/claim/cut.py" 172)⟩, ⟨PyData.keyHash P "__cached__", (.str "__cached__" 174), .none⟩, ⟨PyData.keyHash P "F77Error", (.str "F77Error" 217), (.ref 31)⟩, ⟨PyData.keyHash P "SourceError", (.str "SourceError" 243), (.ref 51)⟩, ⟨PyData.keyHash P "LexFault", (.str "LexFault" 269), (.ref 70)⟩, ⟨PyData.keyHash P "LABEL_END", (.str "LABEL_END" 273), (.int 5 272)⟩, ⟨PyData.keyHash P "BODY_AT", (.str "BODY_AT" 275), (.int 6 274)⟩, ⟨PyData.keyHash P "DIGITS_source", (.str "DIGITS_source" 277), (.str "0123456789" 276)⟩, ⟨PyData.keyHash P "Card", (.str "Card" 312), (.ref 89)⟩, ⟨PyData.keyHash P "cards_of", (.str "cards_of" 322), (.ref 100)⟩, ⟨PyData.keyHash P "without_blanks", (.str "without_blanks" 329), (.ref 107)⟩, ⟨PyData.keyHash P "is_comment", (.str "is_comment" 337), (.ref 114)⟩, ⟨PyData.keyHash P "read_cards", (.str "read_cards" 349), (.ref 121)⟩, ⟨PyData.keyHash P "is_continuation", (.str "is_continuation" 356), (.ref 128)⟩, ⟨PyData.keyHash P "read_label", (.str "read_label" 367), (.ref 135)⟩, ⟨PyData.keyHash P "padded", (.str "padded" 375), (.ref 142)⟩, ⟨PyData.keyHash P "joined", (.str "joined" 386), (.ref 149)⟩, ⟨PyData.keyHash P "check_continuation", (.str "check_continuation" 395), (.ref 156)⟩, ⟨PyData.keyHash P "statements_of", (.str "statements_of" 407), (.ref 163)⟩, ⟨PyData.keyHash P "read_statements", (.str "read_statements" 415), (.ref 170)⟩, ⟨PyData.keyHash P "DIGITS_squeeze", (.str "DIGITS_squeeze" 419), (.str "0123456789" 418)⟩, ⟨PyData.keyHash P "AHEAD_OF_COUNT", (.str "AHEAD_OF_COUNT" 421), (.str "(,/:" 420)⟩, ⟨PyData.keyHash P "capital", (.str "capital" 428), (.ref 177)⟩, ⟨PyData.keyHash P "constant_end", (.str "constant_end" 437), (.ref 184)⟩, ⟨PyData.keyHash P "count_end", (.str "count_end" 447), (.ref 191)⟩, ⟨PyData.keyHash P "hollerith", (.str "hollerith" 458), (.ref 198)⟩, ⟨PyData.keyHash P "squeeze", (.str "squeeze" 472), (.ref 205)⟩, ⟨PyData.keyHash P "squeezed", (.str "squeezed" 482), (.ref 212)⟩, ⟨PyData.keyHash P "depths", (.str "depths" 493), (.ref 219)⟩, ⟨PyData.keyHash P "closing", (.str "closing" 503), (.ref 226)⟩, ⟨PyData.keyHash P "DIGITS_classify", (.str "DIGITS_classify" 507), (.str "0123456789" 506)⟩, ⟨PyData.keyHash P "LETTERS", (.str "LETTERS" 509), (.str "ABCDEFGHIJKLMNOPQRSTUVWXYZ" 508)⟩, ⟨PyData.keyHash P "WHOLE", (.str "WHOLE" 518), (.ref 231)⟩, ⟨PyData.keyHash P "TYPES", (.str "TYPES" 531), (.ref 238)⟩, ⟨PyData.keyHash P "BEGINS", (.str "BEGINS" 588), (.ref 267)⟩, ⟨PyData.keyHash P "name_end", (.str "name_end" 597), (.ref 274)⟩, ⟨PyData.keyHash P "digits_end", (.str "digits_end" 606), (.ref 281)⟩, ⟨PyData.keyHash P "is_target", (.str "is_target" 615), (.ref 288)⟩, ⟨PyData.keyHash P "is_balanced", (.str "is_balanced" 625), (.ref 295)⟩, ⟨PyData.keyHash P "equals_at", (.str "equals_at" 635), (.ref 302)⟩, ⟨PyData.keyHash P "is_do_head", (.str "is_do_head" 643), (.ref 309)⟩, ⟨PyData.keyHash P "word_of_if", (.str "word_of_if" 651), (.ref 316)⟩, ⟨PyData.keyHash P "word_of_goto", (.str "word_of_goto" 658), (.ref 323)⟩, ⟨PyData.keyHash P "word_of_type", (.str "word_of_type" 669), (.ref 330)⟩, ⟨PyData.keyHash P "word_by_begin", (.str "word_by_begin" 678), (.ref 337)⟩, ⟨PyData.keyHash P "classify", (.str "classify" 688), (.ref 344)⟩, ⟨PyData.keyHash P "Limits", (.str "Limits" 741), (.ref 362)⟩, ⟨PyData.keyHash P "_law_stock", (.str "_law_stock" 749), (.ref 373)⟩, ⟨PyData.keyHash P "_law_marks", (.str "_law_marks" 751), (.str "+1*&9'C$" 750)⟩, ⟨PyData.keyHash P "_law_breaks", (.str "_law_breaks" 761), (.ref 380)⟩, ⟨PyData.keyHash P "_law_bent", (.str "_law_bent" 772), (.ref 387)⟩, ⟨PyData.keyHash P "_law_head", (.str "_law_head" 780), (.ref 394)⟩, ⟨PyData.keyHash P "_law_rows", (.str "_law_rows" 786), (.ref 399)⟩, ⟨PyData.keyHash P "law", (.str "law" 792), (.ref 404)⟩] 61), #[]⟩
noncomputable def hdO383 (P : Params) : Obj := ⟨(.type "tuple"), none, (.seq #[(.str "text" 765), (.str "n" 766), (.str "out" 767), (.str "quoted" 768), (.str "sign" 769)] 0), #[]⟩
noncomputable def hdO351 (P : Params) : Obj := ⟨(.type "frame"), none, .plain, #[some (.ref 350), some (.ref 3), some (.ref 347), none, some (.str "f77.limits" 689), none, some (.ref 0)]⟩
noncomputable def hdO399 (P : Params) : Obj := fnObj (fdOf (stAt 56) "_law_rows" .none (.str "law_no0264_01" 742) (.ref 398))
noncomputable def hdO367 (P : Params) : Obj := ⟨(.type "tuple"), none, (.seq #[] 0), #[]⟩
noncomputable def hdO391 (P : Params) : Obj := ⟨(.type "tuple"), none, (.seq #[] 0), #[]⟩
noncomputable def hdO359 (P : Params) : Obj := fnObj (fdOf (inCls (stAt 49)) "Limits.__init__" (.ref 352) (.str "f77.limits" 689) (.ref 358))
noncomputable def hdO375 (P : Params) : Obj := ⟨.none, none, (.fields #[]), #[]⟩
noncomputable def hdO387 (P : Params) : Obj := fnObj (fdOf (stAt 54) "_law_bent" .none (.str "law_no0264_01" 742) (.ref 386))
noncomputable def hdO355 (P : Params) : Obj := ⟨(.type "tuple"), none, (.seq #[(.str "self" 714), (.str "width" 715), (.str "real_digits" 716), (.str "double_digits" 717), (.str "top_exponent" 718), (.str "steps" 719), (.str "continuations" 720), (.str "columns" 721), (.str "depth" 722)] 0), #[]⟩
noncomputable def hdO403 (P : Params) : Obj := ⟨(.type "code"), none, (.fields #[(.str "law" 787), (.str "law" 788), (.str "/claim/cut.py" 789), (.int 372 0), (.int 1 0), (.int 0 0), (.int 0 0), (.int 3 0), (.ref 400), (.bool true), (.int 181 0), (.ref 401), .none, .none, .none, (.ref 402), (.int 790 0), (.int 372 0), (.str "/claim/cut.py" 791)]), #[]⟩
noncomputable def hdO371 (P : Params) : Obj := hdTpl (stAt 51) "_law_stock"
noncomputable def hdO395 (P : Params) : Obj := ⟨(.type "tuple"), none, (.seq #[] 0), #[]⟩
noncomputable def hdO363 (P : Params) : Obj := ⟨(.type "getset_descriptor"), none, (.fields #[(.str "__dict__" 735), (.ref 362), (.builtin "function.__dict__"), (.builtin "function.__dict__#set")]), #[]⟩
noncomputable def hdO347 (P : Params) : Obj := ⟨(.type "dict"), none, (.dict #[⟨PyData.keyHash P "__module__", (.str "__module__" 698), (.str "f77.limits" 689)⟩, ⟨PyData.keyHash P "__qualname__", (.str "__qualname__" 700), (.str "Limits" 699)⟩, ⟨PyData.keyHash P "__firstlineno__", (.str "__firstlineno__" 702), (.int 313 701)⟩, ⟨PyData.keyHash P "__init__", (.str "__init__" 725), (.ref 359)⟩, ⟨PyData.keyHash P "__static_attributes__", (.str "__static_attributes__" 734), (.ref 360)⟩] 5), #[]⟩
noncomputable def hdO379 (P : Params) : Obj := ⟨(.type "code"), none, (.fields #[(.str "_law_breaks" 752), (.str "_law_breaks" 753), (.str "/claim/cut.py" 754), (.int 328 0), (.int 1 0), (.int 0 0), (.int 0 0), (.int 3 0), (.ref 374), (.bool true), (.int 181 0), (.ref 375), .none, (.ref 376), (.ref 377), (.ref 378), (.int 759 0), (.int 328 0), (.str "/claim/cut.py" 760)]), #[]⟩
noncomputable def hdO385 (P : Params) : Obj := hdTpl (stAt 54) "_law_bent"
noncomputable def hdO353 (P : Params) : Obj := ⟨(.type "tuple"), none, (.seq #[] 0), #[]⟩
noncomputable def hdO401 (P : Params) : Obj := ⟨.none, none, (.fields #[]), #[]⟩
noncomputable def hdO369 (P : Params) : Obj := ⟨(.type "tuple"), none, (.seq #[] 0), #[]⟩
noncomputable def hdO393 (P : Params) : Obj := ⟨(.type "code"), none, (.fields #[(.str "_law_head" 773), (.str "_law_head" 774), (.str "/claim/cut.py" 775), (.int 353 0), (.int 2 0), (.int 0 0), (.int 0 0), (.int 3 0), (.ref 388), (.bool true), (.int 181 0), (.ref 389), .none, (.ref 390), (.ref 391), (.ref 392), (.int 778 0), (.int 353 0), (.str "/claim/cut.py" 779)]), #[]⟩
noncomputable def hdO361 (P : Params) : Obj := ⟨(.type "dict"), none, (.dict #[⟨PyData.keyHash P "__module__", (.str "__module__" 698), (.str "f77.limits" 689)⟩, ⟨PyData.keyHash P "__firstlineno__", (.str "__firstlineno__" 702), (.int 313 701)⟩, ⟨PyData.keyHash P "__init__", (.str "__init__" 725), (.ref 359)⟩, ⟨PyData.keyHash P "__static_attributes__", (.str "__static_attributes__" 734), (.ref 360)⟩, ⟨PyData.keyHash P "__dict__", (.str "__dict__" 736), (.ref 363)⟩, ⟨PyData.keyHash P "__weakref__", (.str "__weakref__" 738), (.ref 364)⟩, ⟨PyData.keyHash P "__doc__", (.str "__doc__" 739), .none⟩] 4), #[]⟩
noncomputable def hdO345 (P : Params) : Obj := ⟨(.type "tuple"), none, (.seq #[] 0), #[]⟩
noncomputable def hdO377 (P : Params) : Obj := ⟨(.type "tuple"), none, (.seq #[] 0), #[]⟩
noncomputable def hdO389 (P : Params) : Obj := ⟨.none, none, (.fields #[]), #[]⟩
noncomputable def hdO357 (P : Params) : Obj := hdTpl (inCls (stAt 49)) "Limits.__init__"
noncomputable def hdO373 (P : Params) : Obj := fnObj (fdOf (stAt 51) "_law_stock" .none (.str "law_no0264_01" 742) (.ref 372))
noncomputable def hdO397 (P : Params) : Obj := hdTpl (stAt 56) "_law_rows"
noncomputable def hdO365 (P : Params) : Obj := ⟨(.type "super"), none, (.fields #[(.ref 362), (.ref 362), (.ref 362)]), #[]⟩
noncomputable def hdO349 (P : Params) : Obj := ⟨.none, none, (.fields #[(.int 315 0), (.int 4 0), (.ref 358)]), #[]⟩
noncomputable def hdO381 (P : Params) : Obj := ⟨(.type "tuple"), none, (.seq #[] 0), #[]⟩
noncomputable def hdO384 (P : Params) : Obj := ⟨(.type "tuple"), none, (.seq #[] 0), #[]⟩
noncomputable def hdO352 (P : Params) : Obj := ⟨(.type "tuple"), none, (.seq #[(.int 32 703), (.int 7 704), (.int 15 705), (.int 38 706), (.int 1000000 707), (.int 19 708), (.int 72 709), (.int 40 710)] 0), #[]⟩
noncomputable def hdO400 (P : Params) : Obj := ⟨(.type "tuple"), none, (.seq #[] 0), #[]⟩
noncomputable def hdO368 (P : Params) : Obj := ⟨.none, none, (.fields #[]), #[]⟩
noncomputable def hdO392 (P : Params) : Obj := hdTpl (stAt 55) "_law_head"
noncomputable def hdO360 (P : Params) : Obj := ⟨(.type "tuple"), none, (.seq #[(.str "columns" 726), (.str "continuations" 727), (.str "depth" 728), (.str "double_digits" 729), (.str "real_digits" 730), (.str "steps" 731), (.str "top_exponent" 732), (.str "width" 733)] 0), #[]⟩
noncomputable def hdO376 (P : Params) : Obj := ⟨(.type "tuple"), none, (.seq #[(.str "text" 755), (.str "places" 756), (.str "quoted" 757), (.str "at" 758)] 0), #[]⟩
noncomputable def hdO12_3 (P : Params) : Obj := ⟨.none, none, (.fields #[(.int 2 0), (.int 0 0), (.ref 20), (.int 7 0), (.int 0 0), (.ref 40), (.int 12 0), (.int 0 0), (.ref 59), (.int 21 0), (.int 0 0), (.ref 78), (.int 28 0), (.int 0 0), (.ref 99), (.int 36 0), (.int 0 0), (.ref 106), (.int 38 0), (.int 0 0), (.ref 113), (.int 40 0), (.int 0 0), (.ref 120), (.int 50 0), (.int 0 0), (.ref 127), (.int 52 0), (.int 0 0), (.ref 134), (.int 65 0), (.int 0 0), (.ref 141), (.int 69 0), (.int 0 0), (.ref 148), (.int 80 0), (.int 0 0), (.ref 155), (.int 89 0), (.int 0 0), (.ref 162), (.int 105 0), (.int 0 0), (.ref 169), (.int 110 0), (.int 0 0), (.ref 176), (.int 114 0), (.int 0 0), (.ref 183), (.int 123 0), (.int 0 0), (.ref 190), (.int 133 0), (.int 0 0), (.ref 197), (.int 141 0), (.int 0 0), (.ref 204), (.int 166 0), (.int 0 0), (.ref 211), (.int 171 0), (.int 0 0), (.ref 218), (.int 192 0), (.int 0 0), (.ref 225), (.int 204 0), (.int 0 0), (.ref 273), (.int 211 0), (.int 0 0), (.ref 280), (.int 216 0), (.int 0 0), (.ref 287), (.int 226 0), (.int 0 0), (.ref 294), (.int 236 0), (.int 0 0), (.ref 301), (.int 244 0), (.int 0 0), (.ref 308), (.int 251 0), (.int 0 0), (.ref 315), (.int 260 0), (.int 0 0), (.ref 322), (.int 268 0), (.int 0 0), (.ref 329), (.int 282 0), (.int 0 0), (.ref 336), (.int 298 0), (.int 0 0), (.ref 343), (.int 313 0), (.int 0 0), (.ref 350), (.int 325 0), (.int 0 0), (.ref 372), (.int 328 0), (.int 0 0), (.ref 379), (.int 337 0), (.int 0 0), (.ref 386), (.int 353 0), (.int 0 0), (.ref 393), (.int 357 0), (.int 0 0), (.ref 398), (.int 372 0), (.int 0 0), (.ref 403)]), #[]⟩
noncomputable def hdO388 (P : Params) : Obj := ⟨(.type "tuple"), none, (.seq #[] 0), #[]⟩
noncomputable def hdO356 (P : Params) : Obj := ⟨(.type "tuple"), none, (.seq #[] 0), #[]⟩
noncomputable def hdO404 (P : Params) : Obj := fnObj (fdOf (stAt 57) "law" .none (.str "law_no0264_01" 742) (.ref 403))
noncomputable def hdO372 (P : Params) : Obj := ⟨(.type "code"), none, (.fields #[(.str "_law_stock" 744), (.str "_law_stock" 745), (.str "/claim/cut.py" 746), (.int 325 0), (.int 0 0), (.int 0 0), (.int 0 0), (.int 3 0), (.ref 367), (.bool true), (.int 181 0), (.ref 368), .none, (.ref 369), (.ref 370), (.ref 371), (.int 747 0), (.int 325 0), (.str "/claim/cut.py" 748)]), #[]⟩
noncomputable def hdO396 (P : Params) : Obj := ⟨.none, none, (.fields #[]), #[]⟩
noncomputable def hdO364 (P : Params) : Obj := ⟨(.type "getset_descriptor"), none, (.fields #[(.str "__weakref__" 737), (.ref 362), (.builtin "ExceptionGroup.__weakref__"), .none]), #[]⟩
noncomputable def hdO348 (P : Params) : Obj := ⟨(.type "tuple"), none, (.seq #[] 0), #[]⟩
noncomputable def hdO380 (P : Params) : Obj := fnObj (fdOf (stAt 53) "_law_breaks" .none (.str "law_no0264_01" 742) (.ref 379))
noncomputable def hdO386 (P : Params) : Obj := ⟨(.type "code"), none, (.fields #[(.str "_law_bent" 762), (.str "_law_bent" 763), (.str "/claim/cut.py" 764), (.int 337 0), (.int 2 0), (.int 0 0), (.int 0 0), (.int 3 0), (.ref 381), (.bool true), (.int 181 0), (.ref 382), .none, (.ref 383), (.ref 384), (.ref 385), (.int 770 0), (.int 337 0), (.str "/claim/cut.py" 771)]), #[]⟩
noncomputable def hdO354 (P : Params) : Obj := ⟨.none, none, (.fields #[]), #[]⟩
noncomputable def hdO402 (P : Params) : Obj := hdTpl (stAt 57) "law"
noncomputable def hdO370 (P : Params) : Obj := ⟨(.type "tuple"), none, (.seq #[] 0), #[]⟩
noncomputable def hdO394 (P : Params) : Obj := fnObj (fdOf (stAt 55) "_law_head" .none (.str "law_no0264_01" 742) (.ref 393))
noncomputable def hdO362 (P : Params) : Obj := ⟨(.type "type"), none, (.cls ⟨"Limits", [(.type "object")], [(.ref 362), (.type "object")], 361, "Limits", true, [], [], false, none, false⟩), #[none, none, some (.str "Limits" 691), some (.str "Limits" 699), some (.builtin "object.__new__"), some (.bool true)]⟩
noncomputable def hdO346 (P : Params) : Obj := ⟨(.type "builtin_function_or_method"), none, (.fields #[(.builtin "type.__prepare__"), (.type "type")]), #[]⟩
noncomputable def hdO378 (P : Params) : Obj := hdTpl (stAt 53) "_law_breaks"
noncomputable def hdO390 (P : Params) : Obj := ⟨(.type "tuple"), none, (.seq #[(.str "label" 776), (.str "ahead" 777)] 0), #[]⟩
noncomputable def hdO358 (P : Params) : Obj := ⟨(.type "code"), none, (.fields #[(.str "__init__" 711), (.str "Limits.__init__" 712), (.str "/claim/cut.py" 713), (.int 315 0), (.int 9 0), (.int 0 0), (.int 0 0), (.int 3 0), (.ref 353), (.bool true), (.int 181 0), (.ref 354), .none, (.ref 355), (.ref 356), (.ref 357), (.int 723 0), (.int 315 0), (.str "/claim/cut.py" 724)]), #[]⟩
noncomputable def hdO374 (P : Params) : Obj := ⟨(.type "tuple"), none, (.seq #[] 0), #[]⟩
noncomputable def hdO398 (P : Params) : Obj := ⟨(.type "code"), none, (.fields #[(.str "_law_rows" 781), (.str "_law_rows" 782), (.str "/claim/cut.py" 783), (.int 357 0), (.int 4 0), (.int 0 0), (.int 0 0), (.int 3 0), (.ref 395), (.bool true), (.int 181 0), (.ref 396), .none, .none, .none, (.ref 397), (.int 784 0), (.int 357 0), (.str "/claim/cut.py" 785)]), #[]⟩
noncomputable def hdO366 (P : Params) : Obj := ⟨(.type "builtin_function_or_method"), none, (.fields #[(.builtin "object.__init_subclass__"), (.ref 362)]), #[]⟩
noncomputable def hdO350 (P : Params) : Obj := ⟨(.type "code"), none, (.fields #[(.str "Limits" 693), (.str "Limits" 694), (.str "/claim/cut.py" 695), (.int 313 0), (.int 0 0), (.int 0 0), (.int 0 0), (.int 0 0), (.ref 348), (.bool false), (.int 181 0), (.ref 349), .none, .none, .none, .none, (.int 696 0), (.int 313 0), (.str "/claim/cut.py" 697)]), #[]⟩
noncomputable def hdO382 (P : Params) : Obj := ⟨.none, none, (.fields #[]), #[]⟩
noncomputable def hdT0 (P : Params) : BT := (.node (PySem.W.boot_o_0 P) (.node (PySem.W.boot_o_1 P) (.node (PySem.W.boot_o_3 P) (.node (PySem.W.boot_o_7 P) .nil .nil) (.node (hdO11 P) .nil .nil)) (.node (PySem.W.boot_o_5 P) (.node (PySem.W.boot_o_9 P) .nil .nil) (.node (hdO13 P) .nil .nil))) (.node (PySem.W.boot_o_2 P) (.node (PySem.W.boot_o_4 P) (.node (PySem.W.boot_o_8 P) .nil .nil) (.node (hdO12 P) .nil .nil)) (.node (PySem.W.boot_o_6 P) (.node (PySem.W.boot_o_10 P) .nil .nil) (.node (hdO14 P) .nil .nil))))
noncomputable def hdT1 (P : Params) : BT := (.node (PySem.W.boot_o_0 P) (.node (PySem.W.boot_o_1 P) (.node (hdO3 P) (.node (PySem.W.boot_o_7 P) (.node (hdO15 P) (.node (hdO31 P) (.node (hdO63 P) .nil .nil) .nil) (.node (hdO47 P) (.node (hdO79 P) .nil .nil) .nil)) (.node (hdO23 P) (.node (hdO39 P) (.node (hdO71 P) .nil .nil) .nil) (.node (hdO55 P) (.node (hdO87 P) .nil .nil) .nil))) (.node (hdO11 P) (.node (hdO19 P) (.node (hdO35 P) (.node (hdO67 P) .nil .nil) .nil) (.node (hdO51 P) (.node (hdO83 P) .nil .nil) .nil)) (.node (hdO27 P) (.node (hdO43 P) (.node (hdO75 P) .nil .nil) .nil) (.node (hdO59 P) (.node (hdO91 P) .nil .nil) .nil)))) (.node (PySem.W.boot_o_5 P) (.node (PySem.W.boot_o_9 P) (.node (hdO17 P) (.node (hdO33 P) (.node (hdO65 P) .nil .nil) .nil) (.node (hdO49 P) (.node (hdO81 P) .nil .nil) .nil)) (.node (hdO25 P) (.node (hdO41 P) (.node (hdO73 P) .nil .nil) .nil) (.node (hdO57 P) (.node (hdO89 P) .nil .nil) .nil))) (.node (hdO13 P) (.node (hdO21 P) (.node (hdO37 P) (.node (hdO69 P) .nil .nil) .nil) (.node (hdO53 P) (.node (hdO85 P) .nil .nil) .nil)) (.node (hdO29 P) (.node (hdO45 P) (.node (hdO77 P) .nil .nil) .nil) (.node (hdO61 P) (.node (hdO93 P) .nil .nil) .nil))))) (.node (hdO2 P) (.node (PySem.W.boot_o_4 P) (.node (PySem.W.boot_o_8 P) (.node (hdO16 P) (.node (hdO32 P) (.node (hdO64 P) .nil .nil) .nil) (.node (hdO48 P) (.node (hdO80 P) .nil .nil) .nil)) (.node (hdO24 P) (.node (hdO40 P) (.node (hdO72 P) .nil .nil) .nil) (.node (hdO56 P) (.node (hdO88 P) .nil .nil) .nil))) (.node (hdO12_1 P) (.node (hdO20 P) (.node (hdO36 P) (.node (hdO68 P) .nil .nil) .nil) (.node (hdO52 P) (.node (hdO84 P) .nil .nil) .nil)) (.node (hdO28 P) (.node (hdO44 P) (.node (hdO76 P) .nil .nil) .nil) (.node (hdO60 P) (.node (hdO92 P) .nil .nil) .nil)))) (.node (PySem.W.boot_o_6 P) (.node (PySem.W.boot_o_10 P) (.node (hdO18 P) (.node (hdO34 P) (.node (hdO66 P) .nil .nil) .nil) (.node (hdO50 P) (.node (hdO82 P) .nil .nil) .nil)) (.node (hdO26 P) (.node (hdO42 P) (.node (hdO74 P) .nil .nil) .nil) (.node (hdO58 P) (.node (hdO90 P) .nil .nil) .nil))) (.node (hdO14 P) (.node (hdO22 P) (.node (hdO38 P) (.node (hdO70 P) .nil .nil) .nil) (.node (hdO54 P) (.node (hdO86 P) .nil .nil) .nil)) (.node (hdO30 P) (.node (hdO46 P) (.node (hdO78 P) .nil .nil) .nil) (.node (hdO62 P) .nil .nil))))))
noncomputable def hdT2 (P : Params) : BT := (.node (PySem.W.boot_o_0 P) (.node (PySem.W.boot_o_1 P) (.node (hdO3_1 P) (.node (PySem.W.boot_o_7 P) (.node (hdO15 P) (.node (hdO31 P) (.node (hdO63 P) (.node (hdO127 P) (.node (hdO255 P) .nil .nil) .nil) (.node (hdO191 P) (.node (hdO319 P) .nil .nil) .nil)) (.node (hdO95 P) (.node (hdO159 P) (.node (hdO287 P) .nil .nil) .nil) (.node (hdO223 P) .nil .nil))) (.node (hdO47 P) (.node (hdO79 P) (.node (hdO143 P) (.node (hdO271 P) .nil .nil) .nil) (.node (hdO207 P) (.node (hdO335 P) .nil .nil) .nil)) (.node (hdO111 P) (.node (hdO175 P) (.node (hdO303 P) .nil .nil) .nil) (.node (hdO239 P) .nil .nil)))) (.node (hdO23 P) (.node (hdO39 P) (.node (hdO71 P) (.node (hdO135 P) (.node (hdO263 P) .nil .nil) .nil) (.node (hdO199 P) (.node (hdO327 P) .nil .nil) .nil)) (.node (hdO103 P) (.node (hdO167 P) (.node (hdO295 P) .nil .nil) .nil) (.node (hdO231 P) .nil .nil))) (.node (hdO55 P) (.node (hdO87 P) (.node (hdO151 P) (.node (hdO279 P) .nil .nil) .nil) (.node (hdO215 P) (.node (hdO343 P) .nil .nil) .nil)) (.node (hdO119 P) (.node (hdO183 P) (.node (hdO311 P) .nil .nil) .nil) (.node (hdO247 P) .nil .nil))))) (.node (hdO11 P) (.node (hdO19 P) (.node (hdO35 P) (.node (hdO67 P) (.node (hdO131 P) (.node (hdO259 P) .nil .nil) .nil) (.node (hdO195 P) (.node (hdO323 P) .nil .nil) .nil)) (.node (hdO99 P) (.node (hdO163 P) (.node (hdO291 P) .nil .nil) .nil) (.node (hdO227 P) .nil .nil))) (.node (hdO51 P) (.node (hdO83 P) (.node (hdO147 P) (.node (hdO275 P) .nil .nil) .nil) (.node (hdO211 P) (.node (hdO339 P) .nil .nil) .nil)) (.node (hdO115 P) (.node (hdO179 P) (.node (hdO307 P) .nil .nil) .nil) (.node (hdO243 P) .nil .nil)))) (.node (hdO27 P) (.node (hdO43 P) (.node (hdO75 P) (.node (hdO139 P) (.node (hdO267 P) .nil .nil) .nil) (.node (hdO203 P) (.node (hdO331 P) .nil .nil) .nil)) (.node (hdO107 P) (.node (hdO171 P) (.node (hdO299 P) .nil .nil) .nil) (.node (hdO235 P) .nil .nil))) (.node (hdO59 P) (.node (hdO91 P) (.node (hdO155 P) (.node (hdO283 P) .nil .nil) .nil) (.node (hdO219 P) .nil .nil)) (.node (hdO123 P) (.node (hdO187 P) (.node (hdO315 P) .nil .nil) .nil) (.node (hdO251 P) .nil .nil)))))) (.node (PySem.W.boot_o_5 P) (.node (PySem.W.boot_o_9 P) (.node (hdO17 P) (.node (hdO33 P) (.node (hdO65 P) (.node (hdO129 P) (.node (hdO257 P) .nil .nil) .nil) (.node (hdO193 P) (.node (hdO321 P) .nil .nil) .nil)) (.node (hdO97 P) (.node (hdO161 P) (.node (hdO289 P) .nil .nil) .nil) (.node (hdO225 P) .nil .nil))) (.node (hdO49 P) (.node (hdO81 P) (.node (hdO145 P) (.node (hdO273 P) .nil .nil) .nil) (.node (hdO209 P) (.node (hdO337 P) .nil .nil) .nil)) (.node (hdO113 P) (.node (hdO177 P) (.node (hdO305 P) .nil .nil) .nil) (.node (hdO241 P) .nil .nil)))) (.node (hdO25 P) (.node (hdO41 P) (.node (hdO73 P) (.node (hdO137 P) (.node (hdO265 P) .nil .nil) .nil) (.node (hdO201 P) (.node (hdO329 P) .nil .nil) .nil)) (.node (hdO105 P) (.node (hdO169 P) (.node (hdO297 P) .nil .nil) .nil) (.node (hdO233 P) .nil .nil))) (.node (hdO57 P) (.node (hdO89 P) (.node (hdO153 P) (.node (hdO281 P) .nil .nil) .nil) (.node (hdO217 P) .nil .nil)) (.node (hdO121 P) (.node (hdO185 P) (.node (hdO313 P) .nil .nil) .nil) (.node (hdO249 P) .nil .nil))))) (.node (hdO13 P) (.node (hdO21 P) (.node (hdO37 P) (.node (hdO69 P) (.node (hdO133 P) (.node (hdO261 P) .nil .nil) .nil) (.node (hdO197 P) (.node (hdO325 P) .nil .nil) .nil)) (.node (hdO101 P) (.node (hdO165 P) (.node (hdO293 P) .nil .nil) .nil) (.node (hdO229 P) .nil .nil))) (.node (hdO53 P) (.node (hdO85 P) (.node (hdO149 P) (.node (hdO277 P) .nil .nil) .nil) (.node (hdO213 P) (.node (hdO341 P) .nil .nil) .nil)) (.node (hdO117 P) (.node (hdO181 P) (.node (hdO309 P) .nil .nil) .nil) (.node (hdO245 P) .nil .nil)))) (.node (hdO29 P) (.node (hdO45 P) (.node (hdO77 P) (.node (hdO141 P) (.node (hdO269 P) .nil .nil) .nil) (.node (hdO205 P) (.node (hdO333 P) .nil .nil) .nil)) (.node (hdO109 P) (.node (hdO173 P) (.node (hdO301 P) .nil .nil) .nil) (.node (hdO237 P) .nil .nil))) (.node (hdO61 P) (.node (hdO93 P) (.node (hdO157 P) (.node (hdO285 P) .nil .nil) .nil) (.node (hdO221 P) .nil .nil)) (.node (hdO125 P) (.node (hdO189 P) (.node (hdO317 P) .nil .nil) .nil) (.node (hdO253 P) .nil .nil))))))) (.node (hdO2 P) (.node (PySem.W.boot_o_4 P) (.node (PySem.W.boot_o_8 P) (.node (hdO16 P) (.node (hdO32 P) (.node (hdO64 P) (.node (hdO128 P) (.node (hdO256 P) .nil .nil) .nil) (.node (hdO192 P) (.node (hdO320 P) .nil .nil) .nil)) (.node (hdO96 P) (.node (hdO160 P) (.node (hdO288 P) .nil .nil) .nil) (.node (hdO224 P) .nil .nil))) (.node (hdO48 P) (.node (hdO80 P) (.node (hdO144 P) (.node (hdO272 P) .nil .nil) .nil) (.node (hdO208 P) (.node (hdO336 P) .nil .nil) .nil)) (.node (hdO112 P) (.node (hdO176 P) (.node (hdO304 P) .nil .nil) .nil) (.node (hdO240 P) .nil .nil)))) (.node (hdO24 P) (.node (hdO40 P) (.node (hdO72 P) (.node (hdO136 P) (.node (hdO264 P) .nil .nil) .nil) (.node (hdO200 P) (.node (hdO328 P) .nil .nil) .nil)) (.node (hdO104 P) (.node (hdO168 P) (.node (hdO296 P) .nil .nil) .nil) (.node (hdO232 P) .nil .nil))) (.node (hdO56 P) (.node (hdO88 P) (.node (hdO152 P) (.node (hdO280 P) .nil .nil) .nil) (.node (hdO216 P) (.node (hdO344 P) .nil .nil) .nil)) (.node (hdO120 P) (.node (hdO184 P) (.node (hdO312 P) .nil .nil) .nil) (.node (hdO248 P) .nil .nil))))) (.node (hdO12_2 P) (.node (hdO20 P) (.node (hdO36 P) (.node (hdO68 P) (.node (hdO132 P) (.node (hdO260 P) .nil .nil) .nil) (.node (hdO196 P) (.node (hdO324 P) .nil .nil) .nil)) (.node (hdO100 P) (.node (hdO164 P) (.node (hdO292 P) .nil .nil) .nil) (.node (hdO228 P) .nil .nil))) (.node (hdO52 P) (.node (hdO84 P) (.node (hdO148 P) (.node (hdO276 P) .nil .nil) .nil) (.node (hdO212 P) (.node (hdO340 P) .nil .nil) .nil)) (.node (hdO116 P) (.node (hdO180 P) (.node (hdO308 P) .nil .nil) .nil) (.node (hdO244 P) .nil .nil)))) (.node (hdO28 P) (.node (hdO44 P) (.node (hdO76 P) (.node (hdO140 P) (.node (hdO268 P) .nil .nil) .nil) (.node (hdO204 P) (.node (hdO332 P) .nil .nil) .nil)) (.node (hdO108 P) (.node (hdO172 P) (.node (hdO300 P) .nil .nil) .nil) (.node (hdO236 P) .nil .nil))) (.node (hdO60 P) (.node (hdO92 P) (.node (hdO156 P) (.node (hdO284 P) .nil .nil) .nil) (.node (hdO220 P) .nil .nil)) (.node (hdO124 P) (.node (hdO188 P) (.node (hdO316 P) .nil .nil) .nil) (.node (hdO252 P) .nil .nil)))))) (.node (PySem.W.boot_o_6 P) (.node (PySem.W.boot_o_10 P) (.node (hdO18 P) (.node (hdO34 P) (.node (hdO66 P) (.node (hdO130 P) (.node (hdO258 P) .nil .nil) .nil) (.node (hdO194 P) (.node (hdO322 P) .nil .nil) .nil)) (.node (hdO98 P) (.node (hdO162 P) (.node (hdO290 P) .nil .nil) .nil) (.node (hdO226 P) .nil .nil))) (.node (hdO50 P) (.node (hdO82 P) (.node (hdO146 P) (.node (hdO274 P) .nil .nil) .nil) (.node (hdO210 P) (.node (hdO338 P) .nil .nil) .nil)) (.node (hdO114 P) (.node (hdO178 P) (.node (hdO306 P) .nil .nil) .nil) (.node (hdO242 P) .nil .nil)))) (.node (hdO26 P) (.node (hdO42 P) (.node (hdO74 P) (.node (hdO138 P) (.node (hdO266 P) .nil .nil) .nil) (.node (hdO202 P) (.node (hdO330 P) .nil .nil) .nil)) (.node (hdO106 P) (.node (hdO170 P) (.node (hdO298 P) .nil .nil) .nil) (.node (hdO234 P) .nil .nil))) (.node (hdO58 P) (.node (hdO90 P) (.node (hdO154 P) (.node (hdO282 P) .nil .nil) .nil) (.node (hdO218 P) .nil .nil)) (.node (hdO122 P) (.node (hdO186 P) (.node (hdO314 P) .nil .nil) .nil) (.node (hdO250 P) .nil .nil))))) (.node (hdO14 P) (.node (hdO22 P) (.node (hdO38 P) (.node (hdO70 P) (.node (hdO134 P) (.node (hdO262 P) .nil .nil) .nil) (.node (hdO198 P) (.node (hdO326 P) .nil .nil) .nil)) (.node (hdO102 P) (.node (hdO166 P) (.node (hdO294 P) .nil .nil) .nil) (.node (hdO230 P) .nil .nil))) (.node (hdO54 P) (.node (hdO86 P) (.node (hdO150 P) (.node (hdO278 P) .nil .nil) .nil) (.node (hdO214 P) (.node (hdO342 P) .nil .nil) .nil)) (.node (hdO118 P) (.node (hdO182 P) (.node (hdO310 P) .nil .nil) .nil) (.node (hdO246 P) .nil .nil)))) (.node (hdO30 P) (.node (hdO46 P) (.node (hdO78 P) (.node (hdO142 P) (.node (hdO270 P) .nil .nil) .nil) (.node (hdO206 P) (.node (hdO334 P) .nil .nil) .nil)) (.node (hdO110 P) (.node (hdO174 P) (.node (hdO302 P) .nil .nil) .nil) (.node (hdO238 P) .nil .nil))) (.node (hdO62 P) (.node (hdO94 P) (.node (hdO158 P) (.node (hdO286 P) .nil .nil) .nil) (.node (hdO222 P) .nil .nil)) (.node (hdO126 P) (.node (hdO190 P) (.node (hdO318 P) .nil .nil) .nil) (.node (hdO254 P) .nil .nil))))))))
noncomputable def hdT3 (P : Params) : BT := (.node (PySem.W.boot_o_0 P) (.node (PySem.W.boot_o_1 P) (.node (hdO3_2 P) (.node (PySem.W.boot_o_7 P) (.node (hdO15 P) (.node (hdO31 P) (.node (hdO63 P) (.node (hdO127 P) (.node (hdO255 P) .nil .nil) (.node (hdO383 P) .nil .nil)) (.node (hdO191 P) (.node (hdO319 P) .nil .nil) .nil)) (.node (hdO95 P) (.node (hdO159 P) (.node (hdO287 P) .nil .nil) .nil) (.node (hdO223 P) (.node (hdO351 P) .nil .nil) .nil))) (.node (hdO47 P) (.node (hdO79 P) (.node (hdO143 P) (.node (hdO271 P) .nil .nil) (.node (hdO399 P) .nil .nil)) (.node (hdO207 P) (.node (hdO335 P) .nil .nil) .nil)) (.node (hdO111 P) (.node (hdO175 P) (.node (hdO303 P) .nil .nil) .nil) (.node (hdO239 P) (.node (hdO367 P) .nil .nil) .nil)))) (.node (hdO23 P) (.node (hdO39 P) (.node (hdO71 P) (.node (hdO135 P) (.node (hdO263 P) .nil .nil) (.node (hdO391 P) .nil .nil)) (.node (hdO199 P) (.node (hdO327 P) .nil .nil) .nil)) (.node (hdO103 P) (.node (hdO167 P) (.node (hdO295 P) .nil .nil) .nil) (.node (hdO231 P) (.node (hdO359 P) .nil .nil) .nil))) (.node (hdO55 P) (.node (hdO87 P) (.node (hdO151 P) (.node (hdO279 P) .nil .nil) .nil) (.node (hdO215 P) (.node (hdO343 P) .nil .nil) .nil)) (.node (hdO119 P) (.node (hdO183 P) (.node (hdO311 P) .nil .nil) .nil) (.node (hdO247 P) (.node (hdO375 P) .nil .nil) .nil))))) (.node (hdO11 P) (.node (hdO19 P) (.node (hdO35 P) (.node (hdO67 P) (.node (hdO131 P) (.node (hdO259 P) .nil .nil) (.node (hdO387 P) .nil .nil)) (.node (hdO195 P) (.node (hdO323 P) .nil .nil) .nil)) (.node (hdO99 P) (.node (hdO163 P) (.node (hdO291 P) .nil .nil) .nil) (.node (hdO227 P) (.node (hdO355 P) .nil .nil) .nil))) (.node (hdO51 P) (.node (hdO83 P) (.node (hdO147 P) (.node (hdO275 P) .nil .nil) (.node (hdO403 P) .nil .nil)) (.node (hdO211 P) (.node (hdO339 P) .nil .nil) .nil)) (.node (hdO115 P) (.node (hdO179 P) (.node (hdO307 P) .nil .nil) .nil) (.node (hdO243 P) (.node (hdO371 P) .nil .nil) .nil)))) (.node (hdO27 P) (.node (hdO43 P) (.node (hdO75 P) (.node (hdO139 P) (.node (hdO267 P) .nil .nil) (.node (hdO395 P) .nil .nil)) (.node (hdO203 P) (.node (hdO331 P) .nil .nil) .nil)) (.node (hdO107 P) (.node (hdO171 P) (.node (hdO299 P) .nil .nil) .nil) (.node (hdO235 P) (.node (hdO363 P) .nil .nil) .nil))) (.node (hdO59 P) (.node (hdO91 P) (.node (hdO155 P) (.node (hdO283 P) .nil .nil) .nil) (.node (hdO219 P) (.node (hdO347 P) .nil .nil) .nil)) (.node (hdO123 P) (.node (hdO187 P) (.node (hdO315 P) .nil .nil) .nil) (.node (hdO251 P) (.node (hdO379 P) .nil .nil) .nil)))))) (.node (PySem.W.boot_o_5 P) (.node (PySem.W.boot_o_9 P) (.node (hdO17 P) (.node (hdO33 P) (.node (hdO65 P) (.node (hdO129 P) (.node (hdO257 P) .nil .nil) (.node (hdO385 P) .nil .nil)) (.node (hdO193 P) (.node (hdO321 P) .nil .nil) .nil)) (.node (hdO97 P) (.node (hdO161 P) (.node (hdO289 P) .nil .nil) .nil) (.node (hdO225 P) (.node (hdO353 P) .nil .nil) .nil))) (.node (hdO49 P) (.node (hdO81 P) (.node (hdO145 P) (.node (hdO273 P) .nil .nil) (.node (hdO401 P) .nil .nil)) (.node (hdO209 P) (.node (hdO337 P) .nil .nil) .nil)) (.node (hdO113 P) (.node (hdO177 P) (.node (hdO305 P) .nil .nil) .nil) (.node (hdO241 P) (.node (hdO369 P) .nil .nil) .nil)))) (.node (hdO25 P) (.node (hdO41 P) (.node (hdO73 P) (.node (hdO137 P) (.node (hdO265 P) .nil .nil) (.node (hdO393 P) .nil .nil)) (.node (hdO201 P) (.node (hdO329 P) .nil .nil) .nil)) (.node (hdO105 P) (.node (hdO169 P) (.node (hdO297 P) .nil .nil) .nil) (.node (hdO233 P) (.node (hdO361 P) .nil .nil) .nil))) (.node (hdO57 P) (.node (hdO89 P) (.node (hdO153 P) (.node (hdO281 P) .nil .nil) .nil) (.node (hdO217 P) (.node (hdO345 P) .nil .nil) .nil)) (.node (hdO121 P) (.node (hdO185 P) (.node (hdO313 P) .nil .nil) .nil) (.node (hdO249 P) (.node (hdO377 P) .nil .nil) .nil))))) (.node (hdO13 P) (.node (hdO21 P) (.node (hdO37 P) (.node (hdO69 P) (.node (hdO133 P) (.node (hdO261 P) .nil .nil) (.node (hdO389 P) .nil .nil)) (.node (hdO197 P) (.node (hdO325 P) .nil .nil) .nil)) (.node (hdO101 P) (.node (hdO165 P) (.node (hdO293 P) .nil .nil) .nil) (.node (hdO229 P) (.node (hdO357 P) .nil .nil) .nil))) (.node (hdO53 P) (.node (hdO85 P) (.node (hdO149 P) (.node (hdO277 P) .nil .nil) .nil) (.node (hdO213 P) (.node (hdO341 P) .nil .nil) .nil)) (.node (hdO117 P) (.node (hdO181 P) (.node (hdO309 P) .nil .nil) .nil) (.node (hdO245 P) (.node (hdO373 P) .nil .nil) .nil)))) (.node (hdO29 P) (.node (hdO45 P) (.node (hdO77 P) (.node (hdO141 P) (.node (hdO269 P) .nil .nil) (.node (hdO397 P) .nil .nil)) (.node (hdO205 P) (.node (hdO333 P) .nil .nil) .nil)) (.node (hdO109 P) (.node (hdO173 P) (.node (hdO301 P) .nil .nil) .nil) (.node (hdO237 P) (.node (hdO365 P) .nil .nil) .nil))) (.node (hdO61 P) (.node (hdO93 P) (.node (hdO157 P) (.node (hdO285 P) .nil .nil) .nil) (.node (hdO221 P) (.node (hdO349 P) .nil .nil) .nil)) (.node (hdO125 P) (.node (hdO189 P) (.node (hdO317 P) .nil .nil) .nil) (.node (hdO253 P) (.node (hdO381 P) .nil .nil) .nil))))))) (.node (hdO2 P) (.node (PySem.W.boot_o_4 P) (.node (PySem.W.boot_o_8 P) (.node (hdO16 P) (.node (hdO32 P) (.node (hdO64 P) (.node (hdO128 P) (.node (hdO256 P) .nil .nil) (.node (hdO384 P) .nil .nil)) (.node (hdO192 P) (.node (hdO320 P) .nil .nil) .nil)) (.node (hdO96 P) (.node (hdO160 P) (.node (hdO288 P) .nil .nil) .nil) (.node (hdO224 P) (.node (hdO352 P) .nil .nil) .nil))) (.node (hdO48 P) (.node (hdO80 P) (.node (hdO144 P) (.node (hdO272 P) .nil .nil) (.node (hdO400 P) .nil .nil)) (.node (hdO208 P) (.node (hdO336 P) .nil .nil) .nil)) (.node (hdO112 P) (.node (hdO176 P) (.node (hdO304 P) .nil .nil) .nil) (.node (hdO240 P) (.node (hdO368 P) .nil .nil) .nil)))) (.node (hdO24 P) (.node (hdO40 P) (.node (hdO72 P) (.node (hdO136 P) (.node (hdO264 P) .nil .nil) (.node (hdO392 P) .nil .nil)) (.node (hdO200 P) (.node (hdO328 P) .nil .nil) .nil)) (.node (hdO104 P) (.node (hdO168 P) (.node (hdO296 P) .nil .nil) .nil) (.node (hdO232 P) (.node (hdO360 P) .nil .nil) .nil))) (.node (hdO56 P) (.node (hdO88 P) (.node (hdO152 P) (.node (hdO280 P) .nil .nil) .nil) (.node (hdO216 P) (.node (hdO344 P) .nil .nil) .nil)) (.node (hdO120 P) (.node (hdO184 P) (.node (hdO312 P) .nil .nil) .nil) (.node (hdO248 P) (.node (hdO376 P) .nil .nil) .nil))))) (.node (hdO12_3 P) (.node (hdO20 P) (.node (hdO36 P) (.node (hdO68 P) (.node (hdO132 P) (.node (hdO260 P) .nil .nil) (.node (hdO388 P) .nil .nil)) (.node (hdO196 P) (.node (hdO324 P) .nil .nil) .nil)) (.node (hdO100 P) (.node (hdO164 P) (.node (hdO292 P) .nil .nil) .nil) (.node (hdO228 P) (.node (hdO356 P) .nil .nil) .nil))) (.node (hdO52 P) (.node (hdO84 P) (.node (hdO148 P) (.node (hdO276 P) .nil .nil) (.node (hdO404 P) .nil .nil)) (.node (hdO212 P) (.node (hdO340 P) .nil .nil) .nil)) (.node (hdO116 P) (.node (hdO180 P) (.node (hdO308 P) .nil .nil) .nil) (.node (hdO244 P) (.node (hdO372 P) .nil .nil) .nil)))) (.node (hdO28 P) (.node (hdO44 P) (.node (hdO76 P) (.node (hdO140 P) (.node (hdO268 P) .nil .nil) (.node (hdO396 P) .nil .nil)) (.node (hdO204 P) (.node (hdO332 P) .nil .nil) .nil)) (.node (hdO108 P) (.node (hdO172 P) (.node (hdO300 P) .nil .nil) .nil) (.node (hdO236 P) (.node (hdO364 P) .nil .nil) .nil))) (.node (hdO60 P) (.node (hdO92 P) (.node (hdO156 P) (.node (hdO284 P) .nil .nil) .nil) (.node (hdO220 P) (.node (hdO348 P) .nil .nil) .nil)) (.node (hdO124 P) (.node (hdO188 P) (.node (hdO316 P) .nil .nil) .nil) (.node (hdO252 P) (.node (hdO380 P) .nil .nil) .nil)))))) (.node (PySem.W.boot_o_6 P) (.node (PySem.W.boot_o_10 P) (.node (hdO18 P) (.node (hdO34 P) (.node (hdO66 P) (.node (hdO130 P) (.node (hdO258 P) .nil .nil) (.node (hdO386 P) .nil .nil)) (.node (hdO194 P) (.node (hdO322 P) .nil .nil) .nil)) (.node (hdO98 P) (.node (hdO162 P) (.node (hdO290 P) .nil .nil) .nil) (.node (hdO226 P) (.node (hdO354 P) .nil .nil) .nil))) (.node (hdO50 P) (.node (hdO82 P) (.node (hdO146 P) (.node (hdO274 P) .nil .nil) (.node (hdO402 P) .nil .nil)) (.node (hdO210 P) (.node (hdO338 P) .nil .nil) .nil)) (.node (hdO114 P) (.node (hdO178 P) (.node (hdO306 P) .nil .nil) .nil) (.node (hdO242 P) (.node (hdO370 P) .nil .nil) .nil)))) (.node (hdO26 P) (.node (hdO42 P) (.node (hdO74 P) (.node (hdO138 P) (.node (hdO266 P) .nil .nil) (.node (hdO394 P) .nil .nil)) (.node (hdO202 P) (.node (hdO330 P) .nil .nil) .nil)) (.node (hdO106 P) (.node (hdO170 P) (.node (hdO298 P) .nil .nil) .nil) (.node (hdO234 P) (.node (hdO362 P) .nil .nil) .nil))) (.node (hdO58 P) (.node (hdO90 P) (.node (hdO154 P) (.node (hdO282 P) .nil .nil) .nil) (.node (hdO218 P) (.node (hdO346 P) .nil .nil) .nil)) (.node (hdO122 P) (.node (hdO186 P) (.node (hdO314 P) .nil .nil) .nil) (.node (hdO250 P) (.node (hdO378 P) .nil .nil) .nil))))) (.node (hdO14 P) (.node (hdO22 P) (.node (hdO38 P) (.node (hdO70 P) (.node (hdO134 P) (.node (hdO262 P) .nil .nil) (.node (hdO390 P) .nil .nil)) (.node (hdO198 P) (.node (hdO326 P) .nil .nil) .nil)) (.node (hdO102 P) (.node (hdO166 P) (.node (hdO294 P) .nil .nil) .nil) (.node (hdO230 P) (.node (hdO358 P) .nil .nil) .nil))) (.node (hdO54 P) (.node (hdO86 P) (.node (hdO150 P) (.node (hdO278 P) .nil .nil) .nil) (.node (hdO214 P) (.node (hdO342 P) .nil .nil) .nil)) (.node (hdO118 P) (.node (hdO182 P) (.node (hdO310 P) .nil .nil) .nil) (.node (hdO246 P) (.node (hdO374 P) .nil .nil) .nil)))) (.node (hdO30 P) (.node (hdO46 P) (.node (hdO78 P) (.node (hdO142 P) (.node (hdO270 P) .nil .nil) (.node (hdO398 P) .nil .nil)) (.node (hdO206 P) (.node (hdO334 P) .nil .nil) .nil)) (.node (hdO110 P) (.node (hdO174 P) (.node (hdO302 P) .nil .nil) .nil) (.node (hdO238 P) (.node (hdO366 P) .nil .nil) .nil))) (.node (hdO62 P) (.node (hdO94 P) (.node (hdO158 P) (.node (hdO286 P) .nil .nil) .nil) (.node (hdO222 P) (.node (hdO350 P) .nil .nil) .nil)) (.node (hdO126 P) (.node (hdO190 P) (.node (hdO318 P) .nil .nil) .nil) (.node (hdO254 P) (.node (hdO382 P) .nil .nil) .nil))))))))
noncomputable def hdHf (P : Params) : Heap := ⟨⟨[PySem.W.boot_o_0 P, PySem.W.boot_o_1 P, hdO2 P, hdO3_2 P, PySem.W.boot_o_4 P, PySem.W.boot_o_5 P, PySem.W.boot_o_6 P, PySem.W.boot_o_7 P, PySem.W.boot_o_8 P, PySem.W.boot_o_9 P, PySem.W.boot_o_10 P, hdO11 P, hdO12_3 P, hdO13 P, hdO14 P, hdO15 P, hdO16 P, hdO17 P, hdO18 P, hdO19 P, hdO20 P, hdO21 P, hdO22 P, hdO23 P, hdO24 P, hdO25 P, hdO26 P, hdO27 P, hdO28 P, hdO29 P, hdO30 P, hdO31 P, hdO32 P, hdO33 P, hdO34 P, hdO35 P, hdO36 P, hdO37 P, hdO38 P, hdO39 P, hdO40 P, hdO41 P, hdO42 P, hdO43 P, hdO44 P, hdO45 P, hdO46 P, hdO47 P, hdO48 P, hdO49 P, hdO50 P, hdO51 P, hdO52 P, hdO53 P, hdO54 P, hdO55 P, hdO56 P, hdO57 P, hdO58 P, hdO59 P, hdO60 P, hdO61 P, hdO62 P, hdO63 P, hdO64 P, hdO65 P, hdO66 P, hdO67 P, hdO68 P, hdO69 P, hdO70 P, hdO71 P, hdO72 P, hdO73 P, hdO74 P, hdO75 P, hdO76 P, hdO77 P, hdO78 P, hdO79 P, hdO80 P, hdO81 P, hdO82 P, hdO83 P, hdO84 P, hdO85 P, hdO86 P, hdO87 P, hdO88 P, hdO89 P, hdO90 P, hdO91 P, hdO92 P, hdO93 P, hdO94 P, hdO95 P, hdO96 P, hdO97 P, hdO98 P, hdO99 P, hdO100 P, hdO101 P, hdO102 P, hdO103 P, hdO104 P, hdO105 P, hdO106 P, hdO107 P, hdO108 P, hdO109 P, hdO110 P, hdO111 P, hdO112 P, hdO113 P, hdO114 P, hdO115 P, hdO116 P, hdO117 P, hdO118 P, hdO119 P, hdO120 P, hdO121 P, hdO122 P, hdO123 P, hdO124 P, hdO125 P, hdO126 P, hdO127 P, hdO128 P, hdO129 P, hdO130 P, hdO131 P, hdO132 P, hdO133 P, hdO134 P, hdO135 P, hdO136 P, hdO137 P, hdO138 P, hdO139 P, hdO140 P, hdO141 P, hdO142 P, hdO143 P, hdO144 P, hdO145 P, hdO146 P, hdO147 P, hdO148 P, hdO149 P, hdO150 P, hdO151 P, hdO152 P, hdO153 P, hdO154 P, hdO155 P, hdO156 P, hdO157 P, hdO158 P, hdO159 P, hdO160 P, hdO161 P, hdO162 P, hdO163 P, hdO164 P, hdO165 P, hdO166 P, hdO167 P, hdO168 P, hdO169 P, hdO170 P, hdO171 P, hdO172 P, hdO173 P, hdO174 P, hdO175 P, hdO176 P, hdO177 P, hdO178 P, hdO179 P, hdO180 P, hdO181 P, hdO182 P, hdO183 P, hdO184 P, hdO185 P, hdO186 P, hdO187 P, hdO188 P, hdO189 P, hdO190 P, hdO191 P, hdO192 P, hdO193 P, hdO194 P, hdO195 P, hdO196 P, hdO197 P, hdO198 P, hdO199 P, hdO200 P, hdO201 P, hdO202 P, hdO203 P, hdO204 P, hdO205 P, hdO206 P, hdO207 P, hdO208 P, hdO209 P, hdO210 P, hdO211 P, hdO212 P, hdO213 P, hdO214 P, hdO215 P, hdO216 P, hdO217 P, hdO218 P, hdO219 P, hdO220 P, hdO221 P, hdO222 P, hdO223 P, hdO224 P, hdO225 P, hdO226 P, hdO227 P, hdO228 P, hdO229 P, hdO230 P, hdO231 P, hdO232 P, hdO233 P, hdO234 P, hdO235 P, hdO236 P, hdO237 P, hdO238 P, hdO239 P, hdO240 P, hdO241 P, hdO242 P, hdO243 P, hdO244 P, hdO245 P, hdO246 P, hdO247 P, hdO248 P, hdO249 P, hdO250 P, hdO251 P, hdO252 P, hdO253 P, hdO254 P, hdO255 P, hdO256 P, hdO257 P, hdO258 P, hdO259 P, hdO260 P, hdO261 P, hdO262 P, hdO263 P, hdO264 P, hdO265 P, hdO266 P, hdO267 P, hdO268 P, hdO269 P, hdO270 P, hdO271 P, hdO272 P, hdO273 P, hdO274 P, hdO275 P, hdO276 P, hdO277 P, hdO278 P, hdO279 P, hdO280 P, hdO281 P, hdO282 P, hdO283 P, hdO284 P, hdO285 P, hdO286 P, hdO287 P, hdO288 P, hdO289 P, hdO290 P, hdO291 P, hdO292 P, hdO293 P, hdO294 P, hdO295 P, hdO296 P, hdO297 P, hdO298 P, hdO299 P, hdO300 P, hdO301 P, hdO302 P, hdO303 P, hdO304 P, hdO305 P, hdO306 P, hdO307 P, hdO308 P, hdO309 P, hdO310 P, hdO311 P, hdO312 P, hdO313 P, hdO314 P, hdO315 P, hdO316 P, hdO317 P, hdO318 P, hdO319 P, hdO320 P, hdO321 P, hdO322 P, hdO323 P, hdO324 P, hdO325 P, hdO326 P, hdO327 P, hdO328 P, hdO329 P, hdO330 P, hdO331 P, hdO332 P, hdO333 P, hdO334 P, hdO335 P, hdO336 P, hdO337 P, hdO338 P, hdO339 P, hdO340 P, hdO341 P, hdO342 P, hdO343 P, hdO344 P, hdO345 P, hdO346 P, hdO347 P, hdO348 P, hdO349 P, hdO350 P, hdO351 P, hdO352 P, hdO353 P, hdO354 P, hdO355 P, hdO356 P, hdO357 P, hdO358 P, hdO359 P, hdO360 P, hdO361 P, hdO362 P, hdO363 P, hdO364 P, hdO365 P, hdO366 P, hdO367 P, hdO368 P, hdO369 P, hdO370 P, hdO371 P, hdO372 P, hdO373 P, hdO374 P, hdO375 P, hdO376 P, hdO377 P, hdO378 P, hdO379 P, hdO380 P, hdO381 P, hdO382 P, hdO383 P, hdO384 P, hdO385 P, hdO386 P, hdO387 P, hdO388 P, hdO389 P, hdO390 P, hdO391 P, hdO392 P, hdO393 P, hdO394 P, hdO395 P, hdO396 P, hdO397 P, hdO398 P, hdO399 P, hdO400 P, hdO401 P, hdO402 P, hdO403 P, hdO404 P]⟩, {}⟩
noncomputable def hdEnv : Env := { scope := pw.main.scope, locals := mainNs, globals := mainNs, cells := [], code := .ref 13, frame := some 14 }
noncomputable def hdPos : Pos := ⟨0, 0, 0, 0⟩
noncomputable def hdC : Code := .body (behindTheImports pw) hdEnv
abbrev hdAnn : Option Value := some (.ref 6)
noncomputable def hdL1 : List Stmt := ((behindTheImports pw).drop 0).take 9
noncomputable def hdL2 : List Stmt := ((behindTheImports pw).drop 9).take 40
noncomputable def hdL3 : List Stmt := ((behindTheImports pw).drop 49).take 9
noncomputable def hdS0 (w : World) (os : OsState) : SharedT := ⟨hdT0 w.params, 15, {}, #[], {}, 187, os⟩
noncomputable def hdS1 (w : World) (os : OsState) : SharedT := ⟨hdT1 w.params, 94, {}, #[], {}, 313, os⟩
noncomputable def hdS2 (w : World) (os : OsState) : SharedT := ⟨hdT2 w.params, 345, {}, #[], {}, 691, os⟩
noncomputable def hdS3 (w : World) (os : OsState) : SharedT := ⟨hdT3 w.params, 405, {}, #[], {}, 793, os⟩
theorem hd_g_pre (w : World) (os : OsState) : topGo treeTable pw w 11 hdAnn 12 ⟨boot_heap w.params, Array.mk [], boot_drawn, boot_toks, os⟩ (topStub pw) = some ((hdS0 w os).abs, ⟨denote treeTable hdC, hdC, hdPos, [topFrame hdPos]⟩) := by kernel_rfl
theorem hd_g_block (w : World) (os : OsState) : segRunT treeTable pw w 11 hdAnn 1 1 (hdS0 w os) (blockOf (behindTheImports pw) hdEnv hdC hdPos [topFrame hdPos]) = some (.next, hdS0 w os, hdC, hdPos) := by kernel_rfl
theorem hd_g1 (w : World) (os : OsState) : segRunT treeTable pw w 11 hdAnn 1 1003 (hdS0 w os) (piecesOf hdL1 hdEnv hdC hdPos [topFrame hdPos]) = some (.next, hdS1 w os, hdC, ⟨21, 0, 27, 24⟩) := by kernel_rfl
theorem hd_g2 (w : World) (os : OsState) : segRunT treeTable pw w 11 hdAnn 1 1231 (hdS1 w os) (piecesOf hdL2 hdEnv hdC ⟨21, 0, 27, 24⟩ [topFrame hdPos]) = some (.next, hdS2 w os, hdC, ⟨312, 0, 312, 8⟩) := by kernel_rfl
theorem hd_g3 (w : World) (os : OsState) : segRunT treeTable pw w 11 hdAnn 1 448 (hdS2 w os) (piecesOf hdL3 hdEnv hdC ⟨312, 0, 312, 8⟩ [topFrame hdPos]) = some (.next, hdS3 w os, hdC, ⟨372, 0, 402, 53⟩) := by kernel_rfl
theorem hd_g_fin (w : World) (os : OsState) : topRun treeTable pw w 11 hdAnn 2 (hdS3 w os).abs ⟨doneF .next, hdC, ⟨372, 0, 402, 53⟩, [topFrame hdPos]⟩ = some ⟨hdHf w.params, #[], {}, 793, os⟩ := by kernel_rfl
theorem hd_g_split : behindTheImports pw = (hdL1 ++ (hdL2 ++ (hdL3 ++ []))) := by kernel_rfl
end
section
set_option maxRecDepth 100000
set_option maxHeartbeats 0
noncomputable def loose : List Str := (PySem.Challenge.pw_no0264_01.main.body.take 57).flatMap fun s => match s with
  | .FunctionDef n .. => [n] | .ClassDef n .. => [n] | .Assign [.Name n _] _ _ => [n] | _ => []
noncomputable def vw : Program := { PySem.Challenge.pw_no0264_01 with main := { PySem.Challenge.pw_no0264_01.main with body := PySem.Challenge.pw_no0264_01.main.body.drop 57 } }
theorem kas : ∀ P, KAs = (KW P).map (·.1) := fun _ => rfl
noncomputable def hk : Hook := kHook KW KAs kas
noncomputable def hdEnd (w : World) (os : OsState) : Shared := ⟨hdHf w.params, Array.mk [], {}, 793, os⟩

theorem hd_look1 (w : World) (os : OsState) : (staticsOk (importedModules pw.main.body) (boot_heap w.params) (hdHf w.params) && namesBound pw (hdHf w.params) && gensDone (hdEnd w os) && laidKept (boot_heap w.params) (hdHf w.params)) = true := by kernel_rfl
theorem hd_look2 (w : World) (os : OsState) : openSeen vw loose (importedModules pw.main.body) (fun s => xlAt vw [] s && recOk [] s) true (hdEnd w os) = openGood vw loose := by kernel_rfl
theorem hd_look3 (w : World) (os : OsState) : hk.obs (hdEnd w os) = hk.val w := by kernel_rfl
theorem hd_run (w : World) (os : OsState) : topRun treeTable pw w 11 hdAnn (12 + (1 + (1003 + (1231 + (448 + 2))))) ⟨boot_heap w.params, Array.mk [], boot_drawn, boot_toks, os⟩ (topStub pw) = some ⟨hdHf w.params, Array.mk [], {}, 793, os⟩ := by
  refine go_top (hd_g_pre w os) ?_
  refine piece_block (segRun_of (hd_g_block w os)) ?_
  rw [hd_g_split]
  exact piece_app (segRun_of (hd_g1 w os)) (piece_app (segRun_of (hd_g2 w os)) (piece_app (segRun_of (hd_g3 w os)) (piece_nil (hd_g_fin w os))))
theorem left : LeftO PySem.Challenge.pw_no0264_01 vw loose (fun s => xlAt vw [] s && recOk [] s) hk.obs hk.val 5400 := by
  refine LeftO.of_pieces (H₀ := boot_heap) (H₁ := hdHf) (gs₀ := Array.mk []) (gs₁ := Array.mk []) (d₀ := boot_drawn) (d₁ := {}) (k₀ := boot_toks) (k₁ := 793) (m₀ := 11) (ann := hdAnn) (boot_open (by kernel_rfl) (by rfl) fun s => ?_) (fun w => ?_) hd_run (by rfl) (fun w => ?_)
  · kernel_rfl
  · kernel_rfl
  · funext os
    exact Prod.ext (hd_look1 w os) (Prod.ext (hd_look2 w os) (hd_look3 w os))
end
section
set_option maxRecDepth 100000
set_option maxHeartbeats 0
abbrev sdRl := PySem.Challenge.rw_no0264_01
abbrev sdPp := PySem.Challenge.pw_no0264_01
theorem sd_b1 : (sreFenced sdPp.main && ((moduleNames sdPp.main.body).isEmpty || lookedIntoSs (moduleNames sdPp.main.body) sdPp.main.body)) = true := by kernel_rfl
theorem sd_b2 : namesResolve sdPp = true := by kernel_rfl
theorem sd_b3 : sdPp.boundNames.all (fun n => !worldNames.contains n) = true := by kernel_rfl
theorem sd_b4 : (!(importedModules sdPp.main.body).all cThrough.contains) = false := by kernel_rfl
theorem sd_b5 : (["vars", "dir", "locals"] : List Str).filter (readsOut sdPp sdPp.main.body) = [] := by kernel_rfl
theorem sd_b6 : noRoadLSs { strict := false, foot := none, bare := [] } sdPp.main.body = true := by kernel_rfl
theorem sd_b6' : noRoadLSs { strict := !(importedModules sdPp.main.body).all cThrough.contains, foot := none, bare := (["vars", "dir", "locals"] : List Str).filter (readsOut sdPp sdPp.main.body) } sdPp.main.body = true :=
  (congr (congrArg (fun s b => noRoadLSs { strict := s, foot := none, bare := b } sdPp.main.body) sd_b4) sd_b5).trans sd_b6
theorem sd_b7 : (namesMeet sdPp sdPp.main.body fun _ n => attrL n) = true := by kernel_rfl
theorem sd_b8 : looksOpen sdPp = true := by
  delta looksOpen
  with_reducible exact look_both (look_both (look_both (look_both sd_b1 sd_b2) sd_b3) sd_b6') sd_b7
theorem sd_b9 : sdRl.row.toRowW.prog = sdPp := by kernel_rfl
theorem sd_b10 : looksOpen sdRl.row.toRowW.prog = true := (congrArg looksOpen sd_b9).trans sd_b8
theorem sd_c1 : sdRl.row.partSaid = true := by
  delta OpenRow.partSaid
  repeat' (first | with_reducible exact sd_b10 | with_reducible refine look_both ?_ ?_)
  all_goals kernel_rfl
theorem sd_c2 : sdRl.row.wellSaid = true := by
  delta OpenRow.wellSaid
  repeat' (first | with_reducible exact sd_c1 | with_reducible refine look_both ?_ ?_)
  all_goals kernel_rfl
theorem sd_d1 : noRoadLSs { strict := true, foot := some sdRl.bound', writes := sdRl.writes, may := sdRl.may } sdRl.footing = true := by kernel_rfl
theorem sd_d2 : sdRl.bound'.all (fun n => !builtinNamed n || sdRl.about == [n] || !sdRl.reads n) = true := by kernel_rfl
theorem sd_d3 : (sdRl.prog.main.body.flatMap importedNames).all (fun n => !sdRl.reads n || (drawsOf n sdRl.prog.main.body).all fun mn => mn.2 != ("attrgetter" : Str) && mn.2 != ("methodcaller" : Str)) = true := by kernel_rfl
theorem sd_d4 : namesMeet sdRl.prog sdRl.footing (fun sc n => (!(["type", "isinstance", "issubclass", "getattr", "hasattr"] : List Str).contains n || sc.names.lookup n == some .globalImplicit) &&
    (sdRl.may != some n || sc.kind == .module || sc.names.lookup n == some .globalImplicit)) = true := by kernel_rfl
theorem sd_d5 : sdRl.own.contains sdRl.name = true := by kernel_rfl
theorem sd_d6 : (sdRl.own.eraseDups.length == sdRl.own.length) = true := by kernel_rfl
theorem sd_d7 : sdRl.own.all (fun n => !builtinNamed n) = true := by kernel_rfl
theorem sd_d8 : namesMeet sdRl.prog sdRl.above (fun _ n => !sdRl.own.contains n) = true := by kernel_rfl
theorem sd_d9 : (namesMeet sdRl.prog sdRl.footing fun sc n => sc.kind == .module || sc.names.lookup n != some .globalExplicit) = true := by kernel_rfl
theorem sd_d10 : sdRl.namesIt = true := by kernel_rfl
theorem said : sdRl.wellSaid = true := by
  delta OpenLaw.wellSaid
  repeat' (first | with_reducible exact sd_c2 | with_reducible exact sd_d1 | with_reducible exact sd_d2 | with_reducible exact sd_d3 | with_reducible exact sd_d4 | with_reducible exact sd_d5 | with_reducible exact sd_d6 | with_reducible exact sd_d7 | with_reducible exact sd_d8 | with_reducible exact sd_d9 | with_reducible exact sd_d10 | with_reducible refine look_both ?_ ?_)
  all_goals kernel_rfl
end
section
set_option maxRecDepth 10000
structure Good (c : Cx) : Prop where
  k : c.K = KW c.w.params
  gm : ∀ x r, nsIn (KW c.w.params) mainGlobals x = some r → c.gm x = r
section
variable {c : Cx} {k : Nat} {env : Env} {σ : Loc} {ω : Own} {P : D → Prop}
theorem bind0 {fd : FuncData} (h : bindArgs fd ⟨[], []⟩ = pure []) : ∀ vs : List Value, vs.length = 0 → bindArgs fd ⟨vs, []⟩ = pure (([] : List Str).zip vs) := fun vs e => by
  match vs, e with
  | [], _ => exact h
theorem bind1 {fd : FuncData} {x : Str} (h : ∀ v, bindArgs fd ⟨[v], []⟩ = pure [(x, v)]) : ∀ vs : List Value, vs.length = 1 → bindArgs fd ⟨vs, []⟩ = pure ([x].zip vs) := fun vs e => by
  match vs, e with
  | [v], _ => exact h v
theorem bind2 {fd : FuncData} {x y : Str} (h : ∀ v u, bindArgs fd ⟨[v, u], []⟩ = pure [(x, v), (y, u)]) : ∀ vs : List Value, vs.length = 2 → bindArgs fd ⟨vs, []⟩ = pure ([x, y].zip vs) := fun vs e => by
  match vs, e with
  | [v, u], _ => exact h v u
theorem bind3 {fd : FuncData} {x y z : Str} (h : ∀ v u w, bindArgs fd ⟨[v, u, w], []⟩ = pure [(x, v), (y, u), (z, w)]) : ∀ vs : List Value, vs.length = 3 → bindArgs fd ⟨vs, []⟩ = pure ([x, y, z].zip vs) := fun vs e => by
  match vs, e with
  | [v, u, w], _ => exact h v u w

/-- the def fd stands at f -/
theorem fn_own (G : Good c) {f : Addr} {fd : FuncData} {body : List Stmt} {args : List D} (xs : List Str) (ho : ∀ P, (KW P).lookup f = some (fnObj fd)) (hcd : ∀ P, codeIn (KW P) fd.code fd.qualname = true)
    (hbody : fd.body = .stmts body) (hg : fd.globals = mainGlobals) (hb : fd.builtins = builtinsNs) (hclo : fd.closure = [])
    (hbind : ∀ vs : List Value, vs.length = args.length → bindArgs fd ⟨vs, []⟩ = pure (xs.zip vs))
    (hcell : ∀ x ∈ fd.scope.names, x.2 ≠ .cell) (hloc : ∀ x ∈ xs, fd.scope.names.lookup x = some .local)
    (h : ∀ L, Ex c k (callEnv fd L f) (xs.zip args).reverse [] body (retP P))
    (hco : fd.scope.isCoroutine = false := by rfl) (hgen : fd.scope.isGenerator = false := by rfl) (hk : fd.scope.kind = .function := by rfl) : Fn c (k + 1) f args P :=
  fn_def xs (by rw [G.k]; exact ho _) rfl (by rw [G.k]; exact hcd _) hbody hg hb hclo hbind hcell hloc h hco hgen hk
theorem Fn.mono {f : Addr} {args : List D} {P' : D → Prop} (h : Fn c k f args P') (m : ∀ d, P' d → P d) : Fn c k f args P := fun A s H R vs a b d e g i q => h A s H R vs a b d e g i fun d' v s' hp => q d' v s' (m d' hp)
theorem Fn.to {f : Addr} {args : List D} {d : D} (h : Fn c k f args fun x => x = d) (hp : P d) : Fn c k f args P := h.mono fun x e => e ▸ hp

theorem ev_own (G : Good c) {f : Str} {a : Addr} {fd : FuncData} {fp pos : Pos} {e : Expr} {rest : List Expr} (hk : env.kindOf f = some .globalImplicit) (hg : nsIn (KW c.w.params) mainGlobals f = some (some (.ref a))) (ho : (KW c.w.params).lookup a = some (fnObj fd))
    (h : Evs c k env σ (e :: rest) fun ds => Fn c k a ds P)
    (he : starEach (e :: rest) env = (false, eval e env) :: starEach rest env := by rfl) (hdb : (f == ("__debug__" : Str)) = false := by decide)
    (hev : eval (.Call (.Name f fp) (e :: rest) [] pos) env = (do callWith pos (← eval (.Name f fp) env) [] (backTo pos (starEach (e :: rest) env)) (backToKw pos (keywordEach [] env))) := by rfl) :
    Ev c k env σ (.Call (.Name f fp) (e :: rest) [] pos) P := ev_call hk (G.gm _ _ hg) (by rw [G.k]; exact ho) rfl h he hdb hev
theorem ev_own0 (G : Good c) {f : Str} {a : Addr} {fd : FuncData} {fp pos : Pos} (hk : env.kindOf f = some .globalImplicit) (hg : nsIn (KW c.w.params) mainGlobals f = some (some (.ref a))) (ho : (KW c.w.params).lookup a = some (fnObj fd))
    (h : Fn c k a [] P) (hdb : (f == ("__debug__" : Str)) = false := by decide)
    (hev : eval (.Call (.Name f fp) [] [] pos) env = (do callWith pos (← eval (.Name f fp) env) [] (backTo pos (starEach [] env)) (backToKw pos (keywordEach [] env))) := by rfl) :
    Ev c k env σ (.Call (.Name f fp) [] [] pos) P := ev_call0 hk (G.gm _ _ hg) (by rw [G.k]; exact ho) rfl h hdb hev
theorem ev_blt (G : Good c) {f : Str} {id : String} {fp pos : Pos} {e : Expr} {rest : List Expr} (hk : env.kindOf f = some .globalImplicit) (hg : nsIn (KW c.w.params) mainGlobals f = some none) (hb : bootBuiltins f = some (.builtin id))
    (h : Evs c k env σ (e :: rest) fun ds => Op c (fun vs => call (.builtin id) vs) ds P) (hn : f ≠ "__name__" := by decide)
    (he : starEach (e :: rest) env = (false, eval e env) :: starEach rest env := by rfl) (hplain : (backTo pos (starEach rest env)).any (·.1) = false := by rfl) (hdb : (f == ("__debug__" : Str)) = false := by decide)
    (hev : eval (.Call (.Name f fp) (e :: rest) [] pos) env = (do callWith pos (← eval (.Name f fp) env) [] (backTo pos (starEach (e :: rest) env)) (backToKw pos (keywordEach [] env))) := by rfl) :
    Ev c k env σ (.Call (.Name f fp) (e :: rest) [] pos) P := ev_callb hk (G.gm _ _ hg) hb hn h he hplain hdb hev
theorem ev_typ (G : Good c) {f : Str} {T : String} {fp pos : Pos} {e : Expr} {rest : List Expr} (hk : env.kindOf f = some .globalImplicit) (hg : nsIn (KW c.w.params) mainGlobals f = some none) (hb : bootBuiltins f = some (.type T))
    (h : Evs c k env σ (e :: rest) fun ds => Op c (fun vs => call (.type T) vs) ds P) (hn : f ≠ "__name__" := by decide)
    (he : starEach (e :: rest) env = (false, eval e env) :: starEach rest env := by rfl) (hplain : (backTo pos (starEach rest env)).any (·.1) = false := by rfl) (hdb : (f == ("__debug__" : Str)) = false := by decide)
    (hev : eval (.Call (.Name f fp) (e :: rest) [] pos) env = (do callWith pos (← eval (.Name f fp) env) [] (backTo pos (starEach (e :: rest) env)) (backToKw pos (keywordEach [] env))) := by rfl) :
    Ev c k env σ (.Call (.Name f fp) (e :: rest) [] pos) P := ev_callt hk (G.gm _ _ hg) hb hn h he hplain hdb hev
theorem ev_gs (G : Good c) {x y : Str} {t : Tok} {pos : Pos} (hk : env.kindOf x = some .globalImplicit) (hg : nsIn (KW c.w.params) mainGlobals x = some (some (.str y t))) (hp : P (.str y.cps.toList)) (hd : (x == ("__debug__" : Str)) = false := by decide) :
    Ev c k env σ (.Name x pos) P := ev_gstr hk (G.gm _ _ hg) hp hd
theorem ev_gi (G : Good c) {x : Str} {i : Int} {t : Tok} {pos : Pos} (hk : env.kindOf x = some .globalImplicit) (hg : nsIn (KW c.w.params) mainGlobals x = some (some (.int i t))) (hp : P (.int i)) (hd : (x == ("__debug__" : Str)) = false := by decide) :
    Ev c k env σ (.Name x pos) P := ev_gint hk (G.gm _ _ hg) hp hd
theorem ex_ite {pos : Pos} {t : Expr} {b o : List Stmt} {P : Out → Prop} (h : Tr c k env (bor σ ω) t fun q => (q = true → Ex c k env σ ω b P) ∧ (q = false → Ex c k env σ ω o P)) : Ex1 c k env σ ω (.If t b o pos) P := ex_if h
theorem tf_intro {A B : Prop} {p : Prop} [Decidable p] (h1 : p → A) (h2 : ¬ p → B) : (decide p = true → A) ∧ (decide p = false → B) := ⟨fun e => h1 (of_decide_eq_true e), fun e => h2 (of_decide_eq_false e)⟩

/-! the same rules, with the main premise last -/
variable {e l r m t b o x y : Expr} {op o1 o2 : CmpOp} {pos p p' : Pos} {f z : Str} {d : D} {rest es : List Expr} {PB : Bool → Prop} {PL : List D → Prop} {PO : Out → Prop} {ss : List Stmt} {st : Stmt}
theorem after_next (h : Ex c k env σ ω ss PO) : after c k env ss PO (.next σ ω) := h
theorem after_ret (h : PO (.ret d)) : after c k env ss PO (.ret d) := h
theorem after_brk (h : PO (.brk σ ω)) : after c k env ss PO (.brk σ ω) := h
theorem after_cont (h : PO (.cont σ ω)) : after c k env ss PO (.cont σ ω) := h
theorem retP_ret (h : P d) : retP P (.ret d) := h
theorem retP_next (h : P .none) : retP P (.next σ ω) := h
theorem turnF_ret {J : Loc → Own → Prop} (h : PO (.ret d)) : turnF J PO (.ret d) := h
theorem turnW_ret {I : Nat → Loc → Own → Prop} {n : Nat} (h : PO (.ret d)) : turnW I n PO (.ret d) := h
theorem s_name (hl : σ.lookup f = some d) (hd : (f == ("__debug__" : Str)) = false) (hcd : (f == ("__classdict__" : Str)) = false) (hp : P d) : Ev c k env σ (.Name f pos) P := ev_name hl hp hd hcd
theorem s_compare (hm : behindInMarks op r = false) (h : Ev c k env σ l fun a => Ev c k env σ r fun b => Op c (fun vs => compareOp op (vs.getD 0 .none) (vs.getD 1 .none)) [a, b] P) : Ev c k env σ (.Compare l [op] [r] pos) P := ev_compare h hm
theorem s_trcompare (hm : behindInMarks op r = false) (h : Ev c k env σ l fun a => Ev c k env σ r fun b => Op c (fun vs => compareOp op (vs.getD 0 .none) (vs.getD 1 .none)) [a, b] fun d => ∃ q, d = .bool q ∧ PB q) : Tr c k env σ (.Compare l [op] [r] pos) PB := tr_compare h hm
theorem s_chain (hm : lastMarks [o1, o2] [m, r] = false) (h : Ev c k env σ l fun a => Ev c k env σ m fun b => Op c (fun vs => compareOp o1 (vs.getD 0 .none) (vs.getD 1 .none)) [a, b] fun d => ∃ q, d = .bool q ∧ (q = false → PB false) ∧
      (q = true → Ev c k env σ r fun e => Op c (fun vs => compareOp o2 (vs.getD 0 .none) (vs.getD 1 .none)) [b, e] fun d => ∃ q, d = .bool q ∧ PB q)) : Tr c k env σ (.Compare l [o1, o2] [m, r] pos) PB := tr_chain h hm
theorem s_bool (he : ∀ whole, isTrue x env whole = (do let v ← whole; standAt x.pos; holding [v] (truthy v))) (h : Ev c k env σ x fun d => ∃ q, d = .bool q ∧ PB q) : Tr c k env σ x PB := tr_bool h he
theorem s_evs (he : starEach (e :: rest) env = (false, eval e env) :: starEach rest env) (h : Ev c k env σ e fun d => Evs c k env σ rest fun ds => PL (d :: ds)) : Evs c k env σ (e :: rest) PL := evs_cons h he
theorem s_own (G : Good c) {a : Addr} {fd : FuncData} {fp : Pos} (hk : env.kindOf f = some .globalImplicit) (hg : nsIn (KW c.w.params) mainGlobals f = some (some (.ref a))) (ho : (KW c.w.params).lookup a = some (fnObj fd))
    (he : starEach (e :: rest) env = (false, eval e env) :: starEach rest env) (hdb : (f == ("__debug__" : Str)) = false)
    (hev : eval (.Call (.Name f fp) (e :: rest) [] pos) env = (do callWith pos (← eval (.Name f fp) env) [] (backTo pos (starEach (e :: rest) env)) (backToKw pos (keywordEach [] env))))
    (h : Evs c k env σ (e :: rest) fun ds => Fn c k a ds P) :
    Ev c k env σ (.Call (.Name f fp) (e :: rest) [] pos) P := ev_own G hk hg ho h he hdb hev
theorem s_own0 (G : Good c) {a : Addr} {fd : FuncData} {fp : Pos} (hk : env.kindOf f = some .globalImplicit) (hg : nsIn (KW c.w.params) mainGlobals f = some (some (.ref a))) (ho : (KW c.w.params).lookup a = some (fnObj fd))
    (hdb : (f == ("__debug__" : Str)) = false)
    (hev : eval (.Call (.Name f fp) [] [] pos) env = (do callWith pos (← eval (.Name f fp) env) [] (backTo pos (starEach [] env)) (backToKw pos (keywordEach [] env))))
    (h : Fn c k a [] P) : Ev c k env σ (.Call (.Name f fp) [] [] pos) P := ev_own0 G hk hg ho h hdb hev
theorem s_blt (G : Good c) {id : String} {fp : Pos} (hk : env.kindOf f = some .globalImplicit) (hg : nsIn (KW c.w.params) mainGlobals f = some none) (hb : bootBuiltins f = some (.builtin id)) (hn : decide (f = "__name__") = false)
    (he : starEach (e :: rest) env = (false, eval e env) :: starEach rest env) (hplain : (backTo pos (starEach rest env)).any (·.1) = false) (hdb : (f == ("__debug__" : Str)) = false)
    (hev : eval (.Call (.Name f fp) (e :: rest) [] pos) env = (do callWith pos (← eval (.Name f fp) env) [] (backTo pos (starEach (e :: rest) env)) (backToKw pos (keywordEach [] env))))
    (h : Evs c k env σ (e :: rest) fun ds => Op c (fun vs => call (.builtin id) vs) ds P) : Ev c k env σ (.Call (.Name f fp) (e :: rest) [] pos) P := ev_blt G hk hg hb h (of_decide_eq_false hn) he hplain hdb hev
theorem s_typ (G : Good c) {T : String} {fp : Pos} (hk : env.kindOf f = some .globalImplicit) (hg : nsIn (KW c.w.params) mainGlobals f = some none) (hb : bootBuiltins f = some (.type T)) (hn : decide (f = "__name__") = false)
    (he : starEach (e :: rest) env = (false, eval e env) :: starEach rest env) (hplain : (backTo pos (starEach rest env)).any (·.1) = false) (hdb : (f == ("__debug__" : Str)) = false)
    (hev : eval (.Call (.Name f fp) (e :: rest) [] pos) env = (do callWith pos (← eval (.Name f fp) env) [] (backTo pos (starEach (e :: rest) env)) (backToKw pos (keywordEach [] env))))
    (h : Evs c k env σ (e :: rest) fun ds => Op c (fun vs => call (.type T) vs) ds P) : Ev c k env σ (.Call (.Name f fp) (e :: rest) [] pos) P := ev_typ G hk hg hb h (of_decide_eq_false hn) he hplain hdb hev
theorem s_gs (G : Good c) {y : Str} {t : Tok} (hk : env.kindOf f = some .globalImplicit) (hg : nsIn (KW c.w.params) mainGlobals f = some (some (.str y t))) (hd : (f == ("__debug__" : Str)) = false) (hp : P (.str y.cps.toList)) :
    Ev c k env σ (.Name f pos) P := ev_gs G hk hg hp hd
theorem s_gi (G : Good c) {i : Int} {t : Tok} (hk : env.kindOf f = some .globalImplicit) (hg : nsIn (KW c.w.params) mainGlobals f = some (some (.int i t))) (hd : (f == ("__debug__" : Str)) = false) (hp : P (.int i)) :
    Ev c k env σ (.Name f pos) P := ev_gi G hk hg hp hd
theorem s_assign (hk : env.kindOf f = some .local) (hs : swapsWith e (some (.Name f p)) pos.line env = pure false) (h : Ev c k env (bor σ ω) e fun d => noLst d = true ∧ PO (.next ((f, d) :: σ) (delL f ω))) : Ex1 c k env σ ω (.Assign [.Name f p] e pos) PO := ex_assign hk h hs
theorem s_assignL (hk : env.kindOf f = some .local) (hs : swapsWith e (some (.Name f p)) pos.line env = pure false) (h : Ev c k env σ e fun d => PO (.next ((f, d) :: σ) (delL f ω))) : Ex1 c k env σ ω (.Assign [.Name f p] e pos) PO := ex_assignL hk h hs
theorem s_assignN (hk : env.kindOf f = some .local) (hs : swapsWith e (some (.Name f p)) pos.line env = pure false) (h : EvN c k env (bor σ ω) e fun l => noLsts l = true ∧ PO (.next (delL f σ) ((f, l) :: delL f ω))) : Ex1 c k env σ ω (.Assign [.Name f p] e pos) PO := ex_assignN hk h hs
theorem s_aug {op : Operator} {d0 : D} (hk : env.kindOf f = some .local) (hl : (bor σ ω).lookup f = some d0) (hcd : (f == ("__classdict__" : Str)) = false)
    (h : Ev c k env (bor σ ω) e fun d1 => Op c (inpop op) [d0, d1] fun d => noLst d = true ∧ PO (.next ((f, d) :: σ) (delL f ω))) : Ex1 c k env σ ω (.AugAssign (.Name f p) op e pos) PO := ex_aug hk hl h hcd
theorem s_append {xp ap cp : Pos} {l : List D} {pl : Sem Bool} (hk : env.kindOf f = some .local) (hl : ω.lookup f = some l)
    (hev : eval (.Call (.Attribute (.Name f xp) "append" ap) [e] [] cp) env = (do
      let ov ← eval (.Name f xp) env
      standAt ap.atName
      let (f, first) ← holding [ov] (getMethod ov "append" pl)
      callWith cp f first (backTo cp (starEach [e] env)) []))
    (he : backTo cp (starEach [e] env) = [(false, eval e env)])
    (hi : interactive env = false) (hs : swapsWith (.Call (.Attribute (.Name f xp) "append" ap) [e] [] cp) none pos.line env = pure false)
    (hdb : (f == ("__debug__" : Str)) = false) (hcd : (f == ("__classdict__" : Str)) = false)
    (h : Ev c k env (bor σ ω) e fun d => noLst d = true ∧ l.length ≤ 1000000 ∧ PO (.next σ (setO f (l ++ [d]) ω))) : Ex1 c k env σ ω (.Expr (.Call (.Attribute (.Name f xp) "append" ap) [e] [] cp) pos) PO := ex_append hk hl h hev he hi hs hdb hcd
theorem s_asgname {PA : Loc → Own → Prop} (hk : env.kindOf f = some .local) (h : PA ((f, d) :: σ) (delL f ω)) : Asg c k env (.Name f pos) d σ ω PA := asg_name hk h
theorem s_find (h : Ev c k env σ o fun d => ∃ x, d = .str x ∧ Ev c k env σ e fun d => ∃ y, d = .str y ∧ P (.int (Txt.find ⟨x.toArray⟩ ⟨y.toArray⟩))) {ap : Pos} {pl : Sem Bool}
    (he : starEach [e] env = (false, eval e env) :: starEach [] env)
    (hev : eval (.Call (.Attribute o "find" ap) [e] [] pos) env = (do
      let ov ← eval o env
      standAt ap.atName
      let (f, first) ← holding [ov] (getMethod ov "find" pl)
      callWith pos f first (backTo pos (starEach [e] env)) [])) : Ev c k env σ (.Call (.Attribute o "find" ap) [e] [] pos) P :=
  ev_meth F.slot_str_find F.type_str_find (fun A s H E Q a hq => h A s H E Q a fun d v s' hp e1 hv => hq d v s' (by
    obtain ⟨x, rfl, hp⟩ := hp
    refine ⟨x, rfl, evs_cons (fun A s H E Q a hq => hp A s H E Q a fun d v s' hp e1 hv => hq d v s' (by
      obtain ⟨y, rfl, hp⟩ := hp
      exact evs_nil (op_find hp)) e1 hv) he⟩) e1 hv) he rfl hev

theorem s_assignT {ts : List Expr} {n : Nat} (hs : swapsWithSole [.Tuple ts n p] e pos.line env = pure false) (hw : swappedStores [.Tuple ts n p] e env = pure none) (h : Ev c k env (bor σ ω) e fun d => noLst d = true ∧ Asg c k env (.Tuple ts n p) d σ ω fun σ' ω' => PO (.next σ' ω')) : Ex1 c k env σ ω (.Assign [.Tuple ts n p] e pos) PO := ex_assign_tuple h hs hw
theorem s_asgtuple {ts : List Expr} {n : Nat} {ds : List D} {PA : Loc → Own → Prop} (hlen : ds.length = ts.length) (hts : assignEach ts env = ts.map fun t => (false, assign t env)) (h : Asgs c k env ts ds σ ω PA) : Asg c k env (.Tuple ts n pos) (.tup ds) σ ω PA := asg_tuple h hlen hts
theorem asgs_nil {PA : Loc → Own → Prop} (h : PA σ ω) : Asgs c k env [] [] σ ω PA := h
theorem asgs_cons {ts : List Expr} {t : Expr} {ds : List D} {PA : Loc → Own → Prop} (h : Asg c k env t d σ ω fun σ' ω' => Asgs c k env ts ds σ' ω' PA) : Asgs c k env (t :: ts) (d :: ds) σ ω PA := h
theorem op_max {i j : Int} (hp : P (.int (if j > i then j else i))) : Op c (fun vs => call (.builtin "max") vs) [.int i, .int j] P := Op.of fun A s H E Q vs hn hu _ hg ho hr hq => by
  obtain ⟨t, u, rfl⟩ := rep2_int hr
  refine max_two_ints hn fun h' tk hk => hq _ _ _ hp (Ext0.mk' hk) ?_
  split <;> exact repI
theorem tf_true {X Y : Prop} (h : X) : (true = true → X) ∧ (true = false → Y) := ⟨fun _ => h, nofun⟩
theorem tf_false {X Y : Prop} (h : Y) : (false = true → X) ∧ (false = false → Y) := ⟨nofun, fun _ => h⟩
theorem ex_continue (h : PO (.cont σ ω)) : Ex1 c k env σ ω (.Continue pos) PO := fun A s Ho Hx E Q ok z hq => wpAny_Continue (hq _ _ s Ho h (Keep.ofExt (Ext.refl s)) ⟨rfl, z⟩)
noncomputable def loopBody (s : Stmt) : List Stmt := match s with | .While _ b _ _ => b | .For _ _ b _ _ => b | _ => []
noncomputable def stmtAt (l : List Stmt) (i : Nat) : Stmt := l.getD i (.Pass default)
theorem ex1_cut (h : ∀ PT : Out → Prop, (∀ o, PO o → PT o) → Ex1 c k env σ ω st PT) : Ex1 c k env σ ω st PO := h PO fun _ x => x
theorem ev_not (h : Ev c k env σ x fun d => ∃ q, d = .bool q ∧ P (.bool (!q))) : Ev c k env σ (.UnaryOp .Not x pos) P :=
  fun A s H E Q a hq => UnaryOp_ (h A s H E _ a fun d v s₁ hr e hv => by
    obtain ⟨q, rfl, hp⟩ := hr
    simp only [Rep] at hv
    subst hv
    exact not_of (wpAny_truthy_bool (hq _ _ _ hp e (by simp only [Rep]))))
end
end
section
set_option maxRecDepth 10000
end
local macro_rules
  | `(tactic| walk_at "n") => `(tactic| first
    | with_reducible (first | refine ex_cons ?_ | refine ex_nil ?_ | refine ex_return ?_ | refine after_next ?_ | refine after_ret ?_ | refine after_brk ?_ | refine after_cont ?_ | refine retP_ret ?_ | refine retP_next ?_ | refine turnF_ret ?_ | refine turnW_ret ?_ | refine ev_str ?_ | refine ev_int ?_ | refine ev_bool ?_ | refine ev_ifexp ?_ | refine ev_binop ?_ | refine ev_neg ?_ | refine ev_not ?_ | refine ex_continue ?_ | refine ev_tuple ?_ | refine asgs_cons ?_ | refine asgs_nil ?_ | refine tf_true ?_ | refine tf_false ?_ | refine ev_or ?_ | refine ev_and ?_ | refine ev_and1 ?_ | refine ev_slice_str ?_ | refine ev_sub ?_ | refine tr_not ?_ | refine tr_and_nil ?_ | refine tr_or_nil ?_ | refine tr_and ?_ | refine tr_or ?_ | refine evs_nil ?_ | refine evp_none ?_ | refine evp_some ?_ | refine op_add_int ?_ | refine op_sub_int ?_ | refine op_eq_int ?_ | refine op_ne_int ?_ | refine op_lt_int ?_ | refine op_le_int ?_ | refine op_gt_int ?_ | refine op_ge_int ?_ | refine op_eq_str ?_ | refine op_ne_str ?_ | refine op_le_str ?_ | refine op_in_str ?_ | refine op_notin_str ?_ | refine op_ord ?_ | refine op_iadd_int ?_ | refine op_max ?_ | refine op_isub_int ?_ | refine ⟨_, rfl, ?_⟩)
    | ((with_reducible refine s_name (d := ?_) ?_ ?_ ?_ ?_); rotate_left; rfl; rfl; rfl)
    | ((with_reducible refine s_gs (by assumption) (y := ?_) (t := ?_) ?_ ?_ ?_ ?_); rotate_left 2; rfl; rfl; rfl)
    | ((with_reducible refine s_gi (by assumption) (i := ?_) (t := ?_) ?_ ?_ ?_ ?_); rotate_left 2; rfl; rfl; rfl)
    | ((with_reducible refine s_trcompare ?_ ?_); with_unfolding_all rfl)
    | ((with_reducible refine s_compare ?_ ?_); with_unfolding_all rfl)
    | ((with_reducible refine s_chain ?_ ?_); with_unfolding_all rfl)
    | ((with_reducible refine s_evs ?_ ?_); rfl)
    | ((with_reducible refine s_own (by assumption) (a := ?_) (fd := ?_) ?_ ?_ ?_ ?_ ?_ ?_ ?_); rotate_left 2; rfl; rfl; rfl; rfl; rfl; rfl)
    | ((with_reducible refine s_own0 (by assumption) (a := ?_) (fd := ?_) ?_ ?_ ?_ ?_ ?_ ?_); rotate_left 2; rfl; rfl; rfl; rfl; rfl)
    | ((with_reducible refine s_blt (by assumption) (id := ?_) ?_ ?_ ?_ ?_ ?_ ?_ ?_ ?_ ?_); rotate_left; rfl; rfl; rfl; rfl; rfl; rfl; rfl; rfl)
    | ((with_reducible refine s_typ (by assumption) (T := ?_) ?_ ?_ ?_ ?_ ?_ ?_ ?_ ?_ ?_); rotate_left; rfl; rfl; rfl; rfl; rfl; rfl; rfl; rfl)
    | ((with_reducible refine s_assign ?_ ?_ ?_); rfl; rfl)
    | ((with_reducible refine s_assignT ?_ ?_ ?_); rfl; rfl)
    | ((with_reducible refine s_asgtuple ?_ ?_ ?_); rfl; rfl)
    | ((with_reducible refine s_asgname ?_ ?_); rfl)
    | ((with_reducible refine s_aug (d0 := ?_) ?_ ?_ ?_ ?_); rotate_left; rfl; rfl; rfl)
    | ((with_reducible refine s_append (l := ?_) (pl := ?_) ?_ ?_ ?_ ?_ ?_ ?_ ?_ ?_ ?_); rotate_left 2; rfl; rfl; rfl; rfl; rfl; rfl; rfl; rfl)
    | ((with_reducible refine op_add_str ?_ ?_); (first | omega | (simp only [List.length_take, List.length_drop, List.length_append, List.length_replicate, List.length_cons, List.length_nil]; omega)))
    | ((with_reducible refine op_len_str ?_ ?_); (first | assumption | omega))
    | ((with_reducible refine op_len_lst ?_ ?_); (first | assumption | omega))
    | ((with_reducible refine s_find (pl := ?_) ?_ ?_ ?_); rotate_left; rotate_left; rfl; rfl)
    | ((with_reducible refine s_bool ?_ ?_); (intro _; rfl))
    | ((with_reducible refine And.intro ?_ ?_); (first | rfl | assumption | (with_reducible omega) | (simp only [List.length_take, List.length_drop, List.length_append, List.length_replicate, List.length_cons, List.length_nil]; omega))))
  | `(tactic| walk_at "s") => `(tactic| first | with_reducible refine ex_if ?_ | walk_at "n")
section
set_option maxRecDepth 10000

section
variable {c : Cx} {k : Nat}
abbrev lit (s : String) : List Nat := (Str.ofString s).cps.toList
noncomputable def cap (x : List Nat) : List Nat := match x with
  | [a] => if 97 ≤ a ∧ a ≤ 122 then [a - 32] else x
  | _ => x
theorem lt_lit (a : Nat) (y : List Nat) (n : Nat) (h : y = [n]) : decide (y < [a]) = decide (n < a) := by
  subst h
  rw [StrLaws.lt_cons_cons, StrLaws.lt_nil_nil]; simp
theorem capital_fn (G : Good c) (x : List Nat) (hx : x.length ≤ 1) : Fn c (k + 1) 177 [.str x] (fun d => d = .str (cap x)) := by
  refine fn_own (fd := fd_capital) (body := bodyOf (stAt 23)) G ["sign"] (fun _ => rfl) (fun _ => rfl) rfl rfl rfl rfl (bind1 fun v => rfl) (by decide) (by decide) (fun L => ?_)
  conv => arg 6; whnf
  have ea : (Str.ofString "a").cps.toList = [97] := rfl
  have ez : (Str.ofString "z").cps.toList = [122] := rfl
  match x, hx with
  | [], _ =>
    repeat walk_at "s"
    refine ⟨fun _ => ⟨(fun e => nomatch e), fun _ => ?_⟩, fun e => ?_⟩
    · repeat walk_at "s"
      rfl
    · rw [ea] at e; simp at e
  | [a], _ =>
    repeat walk_at "s"
    rw [ea, lt_lit 97 [a] a rfl]
    refine ⟨fun e => ⟨(fun e => nomatch e), fun _ => ?_⟩, fun e => ?_⟩
    · repeat walk_at "s"
      have : ¬ (97 ≤ a ∧ a ≤ 122) := by simp at e; omega
      simp only [cap, if_neg this]
    · simp at e
      repeat walk_at "s"
      rw [ez, StrLaws.lt_cons_cons, StrLaws.lt_nil_nil]
      refine ⟨fun h => ?_, fun h => ?_⟩
      · simp at h
        repeat walk_at "s"
        refine op_chr (by omega) (by omega) ?_
        show D.str _ = _
        simp only [cap, if_pos (And.intro e h)]
        congr 2; omega
      · simp at h
        repeat walk_at "s"
        have : ¬ (97 ≤ a ∧ a ≤ 122) := by omega
        simp only [cap, if_neg this]

/-! without_blanks -/
abbrev wb (x : List Nat) : List Nat := x.filter (fun a => decide (a ≠ 32))
theorem wb_join (c : Nat) : ∀ parts : List Str, (∀ p ∈ parts, c ∉ p.cps.toList) → ((Str.join ⟨#[c]⟩ parts).cps.toList).filter (fun a => decide (a ≠ c)) = (Str.join ⟨#[]⟩ parts).cps.toList
  | [], _ => rfl
  | [p], h => by
    show p.cps.toList.filter _ = p.cps.toList
    rw [List.filter_eq_self]
    intro a m
    have := h p (List.mem_singleton.mpr rfl)
    simp only [decide_eq_true_eq]
    rintro rfl; exact this m
  | p :: q :: r, h => by
    have ih := wb_join c (q :: r) fun a ha => h a (List.mem_cons_of_mem _ ha)
    show ((p ++ ⟨#[c]⟩ ++ Str.join ⟨#[c]⟩ (q :: r)).cps.toList).filter _ = (p ++ ⟨#[]⟩ ++ Str.join ⟨#[]⟩ (q :: r)).cps.toList
    simp only [Str.cps_append, Array.toList_append, List.filter_append]
    rw [ih]
    have hp : p.cps.toList.filter (fun a => decide (a ≠ c)) = p.cps.toList := by
      rw [List.filter_eq_self]
      intro a m
      have := h p (List.mem_cons_self ..)
      simp only [decide_eq_true_eq]
      rintro rfl; exact this m
    rw [hp]
    simp
theorem replace_drop (x : Str) (c : Nat) : (Txt.replace x ⟨#[c]⟩ ⟨#[]⟩).cps.toList = x.cps.toList.filter (fun a => decide (a ≠ c)) := by
  rw [StrLaws.replace_one, ← wb_join c _ (StrLaws.split_free x c), StrLaws.join_split]
theorem wb_fn (G : Good c) (x : List Nat) (hx : x.length ≤ 1000000) : Fn c (k + 1) 107 [.str x] (fun d => d = .str (wb x)) := by
  refine fn_own (fd := fd_without_blanks) (body := bodyOf (stAt 10)) G ["text"] (fun _ => rfl) (fun _ => rfl) rfl rfl rfl rfl (bind1 fun v => rfl) (by decide) (by decide) (fun L => ?_)
  conv => arg 6; whnf
  repeat walk_at "s"
  refine ev_replace (by decide) (by decide) ?_
  repeat walk_at "s"
  exact congrArg D.str (replace_drop ⟨x.toArray⟩ 32)

theorem sl_u1 {α : Type} (l : List α) : sl l none (some 1) = l.take 1 := sl_upto l 1
/-! is_comment -/
noncomputable def isCm (row : List Nat) (n : Nat) : Bool := decide (row.take 1 = [67]) || decide (row.take 1 = [99]) || decide (row.take 1 = [42]) || decide (wb (row.take n) = [])
theorem isCm_fn (G : Good c) (row : List Nat) (n : Nat) (hx : row.length ≤ 1000000) : Fn c (k + 2) 114 [.str row, .int n] (fun d => d = .bool (isCm row n)) := by
  refine fn_own (fd := fd_is_comment) (body := bodyOf (stAt 11)) G ["row", "columns"] (fun _ => rfl) (fun _ => rfl) rfl rfl rfl rfl (bind2 fun v u => rfl) (by decide) (by decide) (fun L => ?_)
  conv => arg 6; whnf
  have e1 : (Str.ofString "C").cps.toList = [67] := rfl
  have e2 : (Str.ofString "c").cps.toList = [99] := rfl
  have e3 : (Str.ofString "*").cps.toList = [42] := rfl
  have e4 : (Str.ofString "").cps.toList = [] := rfl
  repeat walk_at "s"
  rw [sl_u1, e1]
  refine ⟨fun h => ?_, fun h1 => ?_⟩
  · repeat walk_at "s"
    rw [isCm, h]; rfl
  repeat walk_at "s"
  rw [sl_u1, e2]
  refine ⟨fun h => ?_, fun h2 => ?_⟩
  · repeat walk_at "s"
    rw [isCm, h, h1]; rfl
  repeat walk_at "s"
  rw [sl_u1, e3]
  refine ⟨fun h => ?_, fun h3 => ?_⟩
  · repeat walk_at "s"
    rw [isCm, h, h1, h2]; rfl
  repeat walk_at "s"
  rw [sl_upto]
  refine (wb_fn G _ (by simp only [List.length_take]; omega)).to ?_
  repeat walk_at "s"
  rw [isCm, h1, h2, h3, e4]; rfl
end
end
section
set_option maxRecDepth 10000
theorem SubL.nil {σ : Loc} : SubL [] σ := fun x d e => nomatch e
theorem SubL.cons {σ σ' : Loc} {n : Str} {d : D} (h : σ.lookup n = some d) (s : SubL σ' σ) : SubL ((n, d) :: σ') σ := fun x d' e => by
  rw [List.lookup_cons] at e
  split at e
  · rename_i q
    cases e
    rw [beq_iff_eq] at q
    rw [q]; exact h
  · exact s x d' e
theorem turnW_next {I : Nat → Loc → Own → Prop} {n m : Nat} {P : Out → Prop} {σ σ' : Loc} {ω : Own} (h : I m σ' ω) (lt : m < n) (sub : SubL σ' σ) : turnW I n P (.next σ ω) := ⟨m, lt, σ', sub, h⟩
theorem turnW_cont {I : Nat → Loc → Own → Prop} {n m : Nat} {P : Out → Prop} {σ σ' : Loc} {ω : Own} (h : I m σ' ω) (lt : m < n) (sub : SubL σ' σ) : turnW I n P (.cont σ ω) := ⟨m, lt, σ', sub, h⟩
theorem turnF_next {J : Loc → Own → Prop} {P : Out → Prop} {σ σ' : Loc} {ω : Own} (h : J σ' ω) (sub : SubL σ' σ) : turnF J P (.next σ ω) := ⟨σ', sub, h⟩
theorem turnF_cont {J : Loc → Own → Prop} {P : Out → Prop} {σ σ' : Loc} {ω : Own} (h : J σ' ω) (sub : SubL σ' σ) : turnF J P (.cont σ ω) := ⟨σ', sub, h⟩
theorem again_mk {J : Loc → Own → Prop} {σ σ' : Loc} {ω : Own} (h : J σ' ω) (sub : SubL σ' σ) : Again J σ ω := ⟨σ', sub, h⟩

abbrev V (n : Str) (d : D) : Str × D := (n, d)
end
local macro_rules
  | `(tactic| walk_at "sub") => `(tactic| repeat (first | exact SubL.nil | refine SubL.cons rfl ?_))
section
set_option maxRecDepth 10000

section
variable {c : Cx} {k : Nat}
theorem sl_one {α : Type} (l : List α) (i : Nat) (e e' : Int) (h : e = i) (h' : e' = ((i + 1 : Nat) : Int)) : sl l (some e) (some e') = (l.drop i).take 1 := by
  subst h; subst h'
  rw [sl_mid, Nat.add_sub_cancel_left]

/-- how far a character constant goes, from behind its first mark -/
noncomputable def cendL : List Nat → Option Nat
  | [] => none
  | [a] => if a = 39 then some 1 else none
  | a :: b :: r => if a = 39 then (if b = 39 then (cendL r).map (· + 2) else some 1) else (cendL (b :: r)).map (· + 1)
theorem cendL_other {a : Nat} {r : List Nat} (h : a ≠ 39) : cendL (a :: r) = (cendL r).map (· + 1) := by
  cases r with
  | nil => simp [cendL, h]
  | cons b r => rw [cendL, if_neg h]
theorem cendL_stop {r : List Nat} (h : r.take 1 ≠ [39]) : cendL (39 :: r) = some 1 := by
  cases r with
  | nil => rfl
  | cons b r => rw [cendL, if_pos rfl, if_neg (by simpa using h)]
theorem cendL_two {r : List Nat} : cendL (39 :: 39 :: r) = (cendL r).map (· + 2) := by rw [cendL, if_pos rfl, if_pos rfl]
theorem cend_fn (G : Good c) (x : List Nat) (i : Nat) (m : Nat) (hx : x.length ≤ 1000000) (hm : cendL (x.drop (i + 1)) = some m) :
    Fn c (k + 1) 184 [.str x, .int i] (fun d => d = .int ((i + 1 + m : Nat) : Int)) := by
  refine fn_own (fd := fd_constant_end) (body := bodyOf (stAt 24)) G ["text", "at"] (fun _ => rfl) (fun _ => rfl) rfl rfl rfl rfl (bind2 fun v u => rfl) (by decide) (by decide) (fun L => ?_)
  conv => arg 6; whnf
  have eq1 : (Str.ofString "'").cps.toList = [39] := rfl
  repeat walk_at "s"
  refine ex_while (fun (n : Nat) (σ : Loc) (ω : Own) => ∃ (j : Nat) (e : Int) (q : Nat), σ = [V "end" (.int e), V "text" (.str x), V "at" (.int i)] ∧ ω = [] ∧ e = j ∧ n = x.length - j ∧ cendL (x.drop j) = some q ∧ i + 1 + m = j + q) (x.length - (i + 1))
    (again_mk ⟨i + 1, (i : Int) + 1, m, rfl, rfl, by omega, rfl, hm, rfl⟩ (by walk_at "sub")) ?_
  rintro n σ ω ⟨j, e, q, rfl, rfl, he, hn, hq, hr⟩
  have hj : j < x.length := by
    rcases Nat.lt_or_ge j x.length with h | h
    · exact h
    · rw [List.drop_of_length_le h] at hq; cases hq
  repeat walk_at "s"
  refine ⟨fun h => ?_, fun h => ?_⟩
  rotate_left
  · simp at h; omega
  obtain ⟨a, ha⟩ : ∃ a, x[j]? = some a := ⟨x[j], by simp [hj]⟩
  have hd : x.drop j = a :: x.drop (j + 1) := by
    rw [List.drop_eq_getElem_cons hj]; congr 1
    rw [List.getElem?_eq_getElem hj] at ha; cases ha; rfl
  rw [hd] at hq
  repeat walk_at "s"
  refine op_item_str (a := a) ⟨by omega, by omega⟩ (by omega) (by rw [he]; simpa using ha) ?_
  repeat walk_at "s"
  rw [eq1]
  refine ⟨fun h => ?_, fun h => ?_⟩
  · have h : a = 39 := by simpa using h
    subst h
    repeat walk_at "s"
    rw [sl_one x (j + 1) (e + 1) (e + 2) (by omega) (by omega), eq1]
    refine ⟨fun h => ?_, fun h => ?_⟩
    · have h : (x.drop (j + 1)).take 1 ≠ [39] := by simpa using h
      rw [cendL_stop h] at hq
      repeat walk_at "s"
      congr 1; cases hq; omega
    · have h : (x.drop (j + 1)).take 1 = [39] := by simpa using h
      have h2 : x.drop (j + 1) = 39 :: x.drop (j + 2) := by
        have e3 : x.drop (j + 2) = (x.drop (j + 1)).drop 1 := by rw [List.drop_drop]
        have e4 := List.take_append_drop 1 (x.drop (j + 1))
        rw [h] at e4
        rw [e3]; exact e4.symm
      rw [h2, cendL_two] at hq
      obtain ⟨q', hq', e2⟩ := Option.map_eq_some_iff.mp hq
      repeat walk_at "s"
      exact turnW_next ⟨j + 2, e + 1 + 1, q', rfl, rfl, by omega, rfl, hq', by omega⟩ (by omega) (by walk_at "sub")
  · have h : a ≠ 39 := by simpa using h
    rw [cendL_other h] at hq
    obtain ⟨q', hq', e2⟩ := Option.map_eq_some_iff.mp hq
    repeat walk_at "s"
    exact turnW_next ⟨j + 1, e + 1, q', rfl, rfl, by omega, rfl, hq', by omega⟩ (by omega) (by walk_at "sub")
end
end
section
set_option maxRecDepth 10000
set_option maxHeartbeats 1000000

section
variable {c : Cx} {k : Nat}
noncomputable def dgt (a : Nat) : Bool := decide (48 ≤ a ∧ a ≤ 57)
theorem dig_in (a : Nat) : inStr [a] (lit "0123456789") = dgt a := by
  rw [inStr_one]
  have h1 : ∀ e ∈ lit "0123456789", 48 ≤ e ∧ e ≤ 57 := by decide +kernel
  have h2 : ∀ i, i < 10 → (lit "0123456789").contains (48 + i) = true := by decide +kernel
  cases h : dgt a with
  | true =>
    have h := of_decide_eq_true h
    have := h2 (a - 48) (by omega)
    rwa [show 48 + (a - 48) = a by omega] at this
  | false =>
    have h := of_decide_eq_false h
    cases q : (lit "0123456789").contains a with
    | false => rfl
    | true => exact absurd (h1 a (by simpa using q)) h
theorem dig_find (a : Nat) (h : dgt a = true) : Txt.find ⟨(lit "0123456789").toArray⟩ ⟨[a].toArray⟩ = (a : Int) - 48 := by
  have h2 : ∀ i, i < 10 → Txt.find ⟨(lit "0123456789").toArray⟩ ⟨[48 + i].toArray⟩ = ((48 + i : Nat) : Int) - 48 := by decide +kernel
  have h := of_decide_eq_true h
  have := h2 (a - 48) (by omega)
  rwa [show 48 + (a - 48) = a by omega] at this
noncomputable def cntL : List Nat → Int → Int × Nat
  | [], n => (n, 0)
  | a :: r, n => if a = 32 then ((cntL r n).1, (cntL r n).2 + 1) else if dgt a = true then ((cntL r ((if 0 > n then 0 else n) * 10 + ((a : Int) - 48))).1, (cntL r ((if 0 > n then 0 else n) * 10 + ((a : Int) - 48))).2 + 1) else (n, 0)
noncomputable def cntEnd (x : List Nat) (i : Nat) : Int × Nat := let p := cntL (x.drop i) (-1); if p.1 < 0 ∨ cap ((x.drop (i + p.2)).take 1) ≠ [72] then (-1, i) else (p.1, i + p.2 + 1)
theorem drop_cons {x : List Nat} {j a : Nat} (h : x[j]? = some a) : x.drop j = a :: x.drop (j + 1) := by
  have hj : j < x.length := by
    rcases Nat.lt_or_ge j x.length with h' | h'
    · exact h'
    · rw [List.getElem?_eq_none h'] at h; cases h
  rw [List.drop_eq_getElem_cons hj]; congr 1
  rw [List.getElem?_eq_getElem hj] at h; cases h; rfl
theorem get_some {x : List Nat} {j : Nat} (hj : j < x.length) : ∃ a, x[j]? = some a := ⟨x[j], by simp [hj]⟩

theorem cntEnd_fn (G : Good c) (x : List Nat) (i : Nat) (hi : i ≤ x.length) (hx : x.length ≤ 1000000) (hdg : (x.filter dgt).length ≤ 15) :
    Fn c (k + 2) 191 [.str x, .int i] (fun d => d = .tup [.int (cntEnd x i).1, .int ((cntEnd x i).2 : Int)]) := by
  refine fn_own (fd := fd_count_end) (body := bodyOf (stAt 25)) G ["text", "at"] (fun _ => rfl) (fun _ => rfl) rfl rfl rfl rfl (bind2 fun v u => rfl) (by decide) (by decide) (fun L => ?_)
  conv => arg 6; whnf
  have eq1 : (Str.ofString " ").cps.toList = [32] := rfl
  repeat walk_at "s"
  refine ex_while (fun (n : Nat) (σ : Loc) (ω : Own) => ∃ (j dd : Nat) (e m : Int), σ = [V "end" (.int e), V "count" (.int m), V "text" (.str x), V "at" (.int i)] ∧ ω = [] ∧ e = j ∧ n = x.length - j ∧ j ≤ x.length ∧ i ≤ j ∧
      (cntL (x.drop i) (-1)).1 = (cntL (x.drop j) m).1 ∧ i + (cntL (x.drop i) (-1)).2 = j + (cntL (x.drop j) m).2 ∧ -1 ≤ m ∧ m < ((10 ^ dd : Nat) : Int) ∧ dd + ((x.drop j).filter dgt).length ≤ 15) (x.length - i)
    (again_mk ⟨i, 0, i, -1, rfl, rfl, rfl, rfl, hi, Nat.le_refl _, rfl, rfl, by omega, by omega, by
      have : ((x.drop i).filter dgt).length ≤ (x.filter dgt).length := ((List.drop_sublist i x).filter dgt).length_le
      omega⟩ (by walk_at "sub")) ?_
  rintro n σ ω ⟨j, dd, e, m, rfl, rfl, he, hn, hj, hij, hc1, hc2, hm0, hm, hdd⟩
  -- what stands behind the loop
  have fin : cntL (x.drop j) m = (m, 0) → Ex c (k + 1) (callEnv fd_count_end L 191) [V "end" (.int e), V "count" (.int m), V "text" (.str x), V "at" (.int i)] [] ((bodyOf (stAt 25)).drop 3) (retP fun d => d = .tup [.int (cntEnd x i).1, .int ((cntEnd x i).2 : Int)]) := by
    intro h0
    rw [h0] at hc1 hc2
    have e2 : j = i + (cntL (x.drop i) (-1)).2 := by simp at hc2; omega
    have e1 : (cntL (x.drop i) (-1)).1 = m := hc1
    have hcnt : cntEnd x i = if m < 0 ∨ cap ((x.drop j).take 1) ≠ [72] then (-1, i) else (m, j + 1) := by
      unfold cntEnd
      dsimp only
      rw [e1, ← e2]
    conv => arg 6; whnf
    repeat walk_at "s"
    refine ⟨fun h => ?_, fun h => ?_⟩
    · have h : m < 0 := by simpa using h
      rw [if_pos (Or.inl h)] at hcnt
      repeat walk_at "s"
      rw [hcnt]
    · have h : ¬ m < 0 := by simpa using h
      repeat walk_at "s"
      rw [sl_one x j e (e + 1) he (by omega)]
      refine (capital_fn G _ (by rw [List.length_take]; omega)).to ?_
      repeat walk_at "s"
      rw [show (Str.ofString "H").cps.toList = [72] from rfl]
      refine ⟨fun h => ?_, fun h => ?_⟩
      · have h : cap ((x.drop j).take 1) ≠ [72] := by simpa using h
        rw [if_pos (Or.inr h)] at hcnt
        repeat walk_at "s"
        rw [hcnt]
      · have h' : ¬ cap ((x.drop j).take 1) ≠ [72] := by simpa using h
        rw [if_neg (by simp only [not_or]; exact ⟨‹_›, h'⟩)] at hcnt
        repeat walk_at "s"
        rw [hcnt, he]; rfl
  repeat walk_at "s"
  refine ⟨fun h => ?_, fun h => tf_false ?_⟩
  rotate_left
  · have : ¬ e < x.length := by simpa using h
    have hj' : j = x.length := by omega
    have : x.drop j = [] := by rw [hj', List.drop_length]
    exact after_next (fin (by rw [this]; rfl))
  have hjl : j < x.length := by have : e < x.length := by simpa using h
                                omega
  obtain ⟨a, ha⟩ := get_some hjl
  have hd := drop_cons ha
  have hitem : x[e.toNat]? = some a := by rw [he]; simpa using ha
  have hit : 0 ≤ e ∧ e < x.length := by omega
  have hx' : x.length ≤ 10000000 := by omega
  have hle : ((x.drop (j + 1)).filter dgt).length ≤ ((x.drop j).filter dgt).length := by
    rw [hd, List.filter_cons]; split <;> simp
  repeat walk_at "s"
  refine op_item_str hit hx' hitem ?_
  repeat walk_at "s"
  rw [eq1]
  refine ⟨fun h => ?_, fun h => ?_⟩
  · have h : a = 32 := by simpa using h
    subst h
    rw [hd] at hc1 hc2
    repeat walk_at "s"
    refine op_item_str hit hx' hitem ?_
    repeat walk_at "s"
    refine ⟨fun h => ?_, fun h => ?_⟩
    · exact absurd eq1.symm (by simpa using h)
    repeat walk_at "s"
    exact turnW_next ⟨j + 1, dd, e + 1, m, rfl, rfl, by omega, rfl, by omega, by omega, by rw [hc1, cntL, if_pos rfl], by rw [hc2, cntL, if_pos rfl]; omega, hm0, hm, by omega⟩ (by omega) (by walk_at "sub")
  · have h32 : a ≠ 32 := by simpa using h
    repeat walk_at "s"
    refine op_item_str hit hx' hitem ?_
    repeat walk_at "s"
    rw [dig_in]
    refine ⟨fun h => ?_, fun h => ?_⟩
    · rw [hd] at hc1 hc2
      have hdg' : ((x.drop j).filter dgt).length = ((x.drop (j + 1)).filter dgt).length + 1 := by rw [hd, List.filter_cons, if_pos h]; simp
      have hp1 : 10 ^ dd ≤ 10 ^ 15 := Nat.pow_le_pow_right (by omega) (by omega)
      have hp2 : 10 ^ (dd + 1) = 10 ^ dd * 10 := Nat.pow_succ ..
      have hp3 : 0 < 10 ^ dd := Nat.pow_pos (by omega)
      have ha' : 48 ≤ a ∧ a ≤ 57 := by simpa [dgt] using h
      repeat walk_at "s"
      refine op_item_str hit hx' hitem ?_
      repeat walk_at "s"
      rw [eq1]
      refine ⟨fun _ => ?_, fun h => ?_⟩
      rotate_left
      · exact absurd (by simpa using h) h32
      repeat walk_at "s"
      refine op_mul_int ⟨by split <;> omega, by omega⟩ ?_
      repeat walk_at "s"
      refine op_item_str hit hx' hitem ?_
      repeat walk_at "s"
      rw [dig_find a h]
      repeat walk_at "s"
      exact turnW_next ⟨j + 1, dd + 1, e + 1, (if 0 > m then 0 else m) * 10 + ((a : Int) - 48), rfl, rfl, by omega, rfl, by omega, by omega, by rw [hc1, cntL, if_neg h32, if_pos h], by rw [hc2, cntL, if_neg h32, if_pos h]; omega, by split <;> omega, by rw [hp2]; generalize 10 ^ dd = T at *; split <;> omega, by omega⟩ (by omega) (by walk_at "sub")
    · exact tr_or_nil (tf_false (tf_false (after_next (fin (by rw [hd, cntL, if_neg h32, if_neg (by simp [h])])))))
end
end
section
set_option maxRecDepth 10000
set_option maxHeartbeats 1000000

section
variable {c : Cx} {k : Nat}
noncomputable def holl (x : List Nat) (i : Nat) : List Nat × Nat := if (cntEnd x i).1 < 0 then ([], i) else ([39] ++ StrLaws.dbl 39 ((x.drop (cntEnd x i).2).take (cntEnd x i).1.toNat) ++ [39], (cntEnd x i).2 + (cntEnd x i).1.toNat)
theorem dbl_length (c : Nat) (l : List Nat) : (StrLaws.dbl c l).length ≤ 2 * l.length := by
  induction l with
  | nil => simp [StrLaws.dbl]
  | cons a r ih => unfold StrLaws.dbl; split <;> simp <;> omega
theorem holl_fn (G : Good c) (x : List Nat) (i : Nat) (hi : i ≤ x.length) (hx : x.length ≤ 1000000) (hdg : (x.filter dgt).length ≤ 15) (hok : (cntEnd x i).1 < 0 ∨ (0 < (cntEnd x i).1 ∧ (cntEnd x i).1 ≤ (x.length : Int) - (cntEnd x i).2)) :
    Fn c (k + 3) 198 [.str x, .int i] (fun d => d = .tup [.str (holl x i).1, .int ((holl x i).2 : Int)]) := by
  refine fn_own (fd := fd_hollerith) (body := bodyOf (stAt 26)) G ["text", "at"] (fun _ => rfl) (fun _ => rfl) rfl rfl rfl rfl (bind2 fun v u => rfl) (by decide) (by decide) (fun L => ?_)
  conv => arg 6; whnf
  have eq1 : (Str.ofString "'").cps.toList = [39] := rfl
  repeat walk_at "s"
  refine (cntEnd_fn G x i hi hx hdg).to ?_
  repeat walk_at "s"
  generalize hq : cntEnd x i = q at hok ⊢
  obtain ⟨n, b⟩ := q
  have hh : holl x i = if n < 0 then ([], i) else ([39] ++ StrLaws.dbl 39 ((x.drop b).take n.toNat) ++ [39], b + n.toNat) := by unfold holl; rw [hq]
  refine ⟨fun h => ?_, fun h => ?_⟩
  · have h : n < 0 := by simpa using h
    repeat walk_at "s"
    rw [hh, if_pos h]; rfl
  · have h : ¬ n < 0 := by simpa using h
    have hok : 0 < n ∧ n ≤ (x.length : Int) - b := hok.resolve_left h
    rw [if_neg h] at hh
    repeat walk_at "s"
    refine ⟨fun h => ?_, fun h1 => ?_⟩
    · have : n = 0 := by simpa using h
      omega
    repeat walk_at "s"
    refine ⟨fun h => ?_, fun h2 => ?_⟩
    · have : n > (x.length : Int) - b := by simpa using h
      omega
    repeat walk_at "s"
    have es : sl x (some (b : Int)) (some ((b : Int) + n)) = (x.drop b).take n.toNat := by
      have : (b : Int) + n = ((b + n.toNat : Nat) : Int) := by omega
      rw [this, sl_mid, Nat.add_sub_cancel_left]
    rw [es]
    refine ev_replace (by decide) (by decide) ?_
    repeat walk_at "s"
    have er : (Txt.replace ⟨((x.drop b).take n.toNat).toArray⟩ (Str.ofString "'") (Str.ofString "''")).cps.toList = StrLaws.dbl 39 ((x.drop b).take n.toNat) := StrLaws.replace_double _ 39
    have hl := dbl_length 39 ((x.drop b).take n.toNat)
    have hl2 : ((x.drop b).take n.toNat).length ≤ 1000000 := by simp only [List.length_take, List.length_drop]; omega
    rw [er, eq1]
    refine op_add_str (by simp only [List.length_cons, List.length_nil]; omega) ?_
    repeat walk_at "s"
    rw [eq1]
    refine op_add_str (by simp only [List.length_append, List.length_cons, List.length_nil]; omega) ?_
    repeat walk_at "s"
    rw [hh]
    have : (b : Int) + n = ((b + n.toNat : Nat) : Int) := by omega
    rw [this]
end
end
section
set_option maxRecDepth 10000
set_option maxHeartbeats 2000000

abbrev W (n : Str) (l : List D) : Str × List D := (n, l)
section
variable {c : Cx} {k : Nat}
noncomputable def capN (a : Nat) : Nat := if 97 ≤ a ∧ a ≤ 122 then a - 32 else a
theorem cap_one (a : Nat) : cap [a] = [capN a] := by show (if 97 ≤ a ∧ a ≤ 122 then [a - 32] else [a]) = _; unfold capN; split <;> rfl
noncomputable def ahead (l : List Nat) : Bool := decide (l ≠ []) && inStr l (lit "(,/:")
noncomputable def sqzF (x : List Nat) : Nat → Nat → List Nat → Option (List (Nat × Bool))
  | 0, _, _ => none
  | f + 1, i, last => match x[i]? with
    | none => some []
    | some a =>
      if a = 32 then sqzF x f (i + 1) last
      else if a = 39 then (cendL (x.drop (i + 1))).bind fun m => (sqzF x f (i + 1 + m) [39]).map (((x.drop i).take (m + 1)).map (fun b => (b, true)) ++ ·)
      else if dgt a = true ∧ ahead last = true ∧ ¬ (cntEnd x i).1 < 0 then
        (if 0 < (cntEnd x i).1 ∧ (cntEnd x i).1 ≤ (x.length : Int) - (cntEnd x i).2 then (sqzF x f (holl x i).2 [a]).map ((holl x i).1.map (fun b => (b, true)) ++ ·) else none)
      else (sqzF x f (i + 1) [a]).map ((capN a, false) :: ·)
noncomputable def toD (p : Nat × Bool) : D := .tup [.str [p.1], .bool p.2]

theorem sqz_fn (G : Good c) (x : List Nat) (r : List (Nat × Bool)) (f : Nat) (hx : x.length ≤ 100000) (hdg : (x.filter dgt).length ≤ 15) (hr : sqzF x f 0 [] = some r) (hl : r.length ≤ 100000) :
    Fn c (k + 4) 205 [.str x] (fun d => d = .lst (r.map toD)) := by
  refine fn_own (fd := fd_squeeze) (body := bodyOf (stAt 27)) G ["text"] (fun _ => rfl) (fun _ => rfl) rfl rfl rfl rfl (bind1 fun v => rfl) (by decide) (by decide) (fun L => ?_)
  conv => arg 6; whnf
  have eq1 : (Str.ofString "'").cps.toList = [39] := rfl
  have eq2 : (Str.ofString " ").cps.toList = [32] := rfl
  have eq3 : (Str.ofString "").cps.toList = [] := rfl
  refine ex_cons (s_assignN rfl rfl (evn_list ?_))
  repeat walk_at "s"
  refine ex_while (fun (n : Nat) (σ : Loc) (ω : Own) => ∃ (j f : Nat) (e : Int) (l q : List (Nat × Bool)) (la : List Nat), σ = [V "at" (.int e), V "last" (.str la), V "text" (.str x)] ∧ ω = [W "out" (l.map toD)] ∧ e = j ∧ n = f ∧
      sqzF x f j la = some q ∧ l ++ q = r ∧ la.length ≤ 1) f
    (again_mk ⟨0, f, 0, [], r, [], rfl, rfl, rfl, rfl, hr, rfl, by simp⟩ (by walk_at "sub")) ?_
  rintro n σ ω ⟨j, f, e, l, q, la, rfl, rfl, rfl, rfl, hq, hlq, hla⟩
  have hll : (l.map toD).length ≤ 100000 := by
    have : l.length ≤ r.length := by rw [← hlq]; simp
    simp; omega
  have hx' : x.length ≤ 10000000 := by omega
  cases n with
  | zero => cases hq
  | succ f =>
  repeat walk_at "s"
  refine ⟨fun h => ?_, fun h => ?_⟩
  rotate_left
  · have h : ¬ (j : Int) < x.length := by simpa using h
    have hj : x[j]? = none := List.getElem?_eq_none (by omega)
    rw [sqzF, hj] at hq
    cases hq
    repeat walk_at "s"
    rw [← hlq, List.append_nil]
  have h : (j : Int) < x.length := by simpa using h
  have hj : j < x.length := by omega
  obtain ⟨a, ha⟩ := get_some hj
  have hd := drop_cons ha
  have hitem : x[(j : Int).toNat]? = some a := ha
  have hit : 0 ≤ (j : Int) ∧ (j : Int) < x.length := by omega
  rw [sqzF, ha] at hq
  dsimp only at hq
  -- the tail, where there is no constant
  have tailA : ∀ (PO : Out → Prop), (∀ σ, SubL [V "at" (.int ((j : Int) + 1)), V "last" (.str [a]), V "text" (.str x)] σ → PO (.next σ [W "out" (l.map toD ++ [toD (capN a, false)])])) →
      ∀ σ, SubL [V "constant" (.str []), V "sign" (.str [a]), V "at" (.int j), V "text" (.str x)] σ → Ex c (k + 3) (callEnv fd_squeeze L 205) σ [W "out" (l.map toD)] ((loopBody (stmtAt (bodyOf (stAt 27)) 3)).drop 5) PO := by
    intro PO hPO σ hσ
    refine ex_weaken hσ ?_
    conv => arg 6; whnf
    repeat walk_at "s"
    rw [eq3]
    refine ⟨fun _ => ?_, fun h => ?_⟩
    rotate_left
    · simp at h
    repeat walk_at "s"
    refine (capital_fn G _ (by simp)).to ?_
    rw [cap_one]
    repeat walk_at "s"
    refine hPO _ ?_
    walk_at "sub"
  -- the tail, where there is one
  have tailB : ∀ (PO : Out → Prop) (e2 : Int) (cst : List Nat), cst ≠ [] → l.length + cst.length ≤ 100000 →
      (∀ σ, SubL [V "at" (.int e2), V "last" (.str [a]), V "text" (.str x)] σ → PO (.next σ [W "out" ((l ++ cst.map (fun b => (b, true))).map toD)])) →
      ∀ σ, SubL [V "end" (.int e2), V "constant" (.str cst), V "sign" (.str [a]), V "at" (.int j), V "text" (.str x)] σ → Ex c (k + 3) (callEnv fd_squeeze L 205) σ [W "out" (l.map toD)] ((loopBody (stmtAt (bodyOf (stAt 27)) 3)).drop 5) PO := by
    intro PO e2 cst hne hlen hPO σ hσ
    refine ex_weaken hσ ?_
    conv => arg 6; whnf
    repeat walk_at "s"
    rw [eq3]
    refine ⟨fun h => ?_, fun h => ?_⟩
    · exact absurd (by simpa using h) hne
    refine ex_cons (ex_for (PI := fun items => items = cst.map fun b => .str [b]) (itera_str ?_).iterP ?_)
    · repeat walk_at "s"
      rfl
    rintro _ rfl
    refine ⟨fun (i : Nat) (σ : Loc) (ω : Own) => ∃ lo, σ = [V "end" (.int e2), V "sign" (.str [a]), V "text" (.str x)] ∧ ω = [W "out" lo] ∧ lo = (l ++ (cst.take i).map (fun b => (b, true))).map toD, again_mk ⟨l.map toD, rfl, rfl, by simp⟩ (by walk_at "sub"), ?_, ?_⟩
    · rintro i d σ ω hd ⟨lo, rfl, rfl, hlo⟩
      rw [List.getElem?_map] at hd
      obtain ⟨p, hp, rfl⟩ := Option.map_eq_some_iff.mp hd
      have hll : lo.length ≤ 100000 := by rw [hlo]; simp; omega
      repeat walk_at "s"
      exact turnF_next ⟨lo ++ [toD (p, true)], rfl, rfl, by rw [List.take_add_one, hp, hlo]; simp⟩ (by walk_at "sub")
    · rintro σ ω ⟨lo, rfl, rfl, hlo⟩
      repeat walk_at "s"
      have hlo : lo = (l ++ cst.map (fun b => (b, true))).map toD := by rw [hlo]; simp
      subst hlo
      refine hPO _ ?_
      walk_at "sub"
  repeat walk_at "s"
  refine op_item_str hit hx' hitem ?_
  repeat walk_at "n"
  refine ex_if ?_
  repeat walk_at "s"
  rw [eq2]
  refine ⟨fun h => ?_, fun h => ?_⟩
  · have h : a = 32 := by simpa using h
    rw [if_pos h] at hq
    repeat walk_at "s"
    exact turnW_cont (I := _) ⟨j + 1, f, (j : Int) + 1, l, q, la, rfl, rfl, by omega, rfl, hq, hlq, hla⟩ (by omega) (by walk_at "sub")
  have h32 : a ≠ 32 := by simpa using h
  rw [if_neg h32] at hq
  repeat walk_at "n"
  refine ex1_cut fun PT hPT => ?_
  have doneA : ∀ q', sqzF x f (j + 1) [a] = some q' → l ++ (capN a, false) :: q' = r → ∀ σ, SubL [V "constant" (.str []), V "sign" (.str [a]), V "at" (.int j), V "text" (.str x)] σ → PT (.next σ [W "out" (l.map toD)]) := fun q' h1 h2 σ hσ =>
    hPT _ (after_next (tailA _ (fun σ' h' => turnW_next (I := _) ⟨j + 1, f, (j : Int) + 1, l ++ [(capN a, false)], q', [a], rfl, by rw [List.map_append]; rfl, by omega, rfl, h1, by rw [← h2]; simp, by simp⟩ (by omega) h') σ hσ))
  have doneB : ∀ (j2 : Nat) cst q', cst ≠ [] → sqzF x f j2 [a] = some q' → l ++ (cst.map (fun b => (b, true)) ++ q') = r → ∀ σ, SubL [V "end" (.int j2), V "constant" (.str cst), V "sign" (.str [a]), V "at" (.int j), V "text" (.str x)] σ → PT (.next σ [W "out" (l.map toD)]) := fun j2 cst q' h0 h1 h2 σ hσ =>
    hPT _ (after_next (tailB _ (j2 : Int) cst h0 (by
      have : (l ++ (cst.map (fun b => (b, true)) ++ q')).length = r.length := by rw [h2]
      simp at this; omega) (fun σ' h' => turnW_next (I := _) ⟨j2, f, (j2 : Int), l ++ cst.map (fun b => (b, true)), q', [a], rfl, rfl, rfl, rfl, h1, by rw [← h2]; simp, by simp⟩ (by omega) h') σ hσ))
  clear tailA tailB hPT
  refine ex_if ?_
  repeat walk_at "s"
  rw [eq1]
  refine ⟨fun h => ?_, fun h => ?_⟩
  · have h : a = 39 := by simpa using h
    subst h
    rw [if_pos rfl] at hq
    obtain ⟨m, hm, hq⟩ := Option.bind_eq_some_iff.mp hq
    obtain ⟨q', hq', rfl⟩ := Option.map_eq_some_iff.mp hq
    repeat walk_at "s"
    refine (cend_fn G x j m (by omega) hm).to ?_
    repeat walk_at "s"
    have es : sl x (some (j : Int)) (some ((j + 1 + m : Nat) : Int)) = (x.drop j).take (m + 1) := by
      rw [sl_mid]; congr 1; omega
    rw [es]
    refine doneB (j + 1 + m) _ q' (by rw [hd]; simp) hq' hlq _ ?_
    walk_at "sub"
  have h39 : a ≠ 39 := by simpa using h
  rw [if_neg h39] at hq
  have noC : ¬ (dgt a = true ∧ ahead la = true ∧ ¬ (cntEnd x j).1 < 0) → ∀ σ, SubL [V "constant" (.str []), V "sign" (.str [a]), V "at" (.int j), V "text" (.str x)] σ → PT (.next σ [W "out" (l.map toD)]) := fun h0 σ hσ => by
    rw [if_neg h0] at hq
    obtain ⟨q', hq', rfl⟩ := Option.map_eq_some_iff.mp hq
    exact doneA q' hq' hlq σ hσ
  repeat walk_at "s"
  rw [dig_in]
  refine ⟨fun h => ?_, fun h => ?_⟩
  rotate_left
  · repeat walk_at "s"
    refine noC (by simp [h]) _ ?_
    walk_at "sub"
  have hdig : dgt a = true := h
  repeat walk_at "s"
  rw [eq3]
  refine ⟨fun h => ?_, fun h => ?_⟩
  rotate_left
  · repeat walk_at "s"
    have h : la = [] := by simpa using h
    refine noC (by simp [h, ahead]) _ ?_
    walk_at "sub"
  have hne : la ≠ [] := by simpa using h
  repeat walk_at "s"
  refine ⟨fun h => ?_, fun h => ?_⟩
  rotate_left
  · repeat walk_at "s"
    refine noC (by simp [h, ahead]) _ ?_
    walk_at "sub"
  have hah : ahead la = true := by simp [ahead, hne, h]
  by_cases h0 : (cntEnd x j).1 < 0
  · repeat walk_at "s"
    refine (holl_fn G x j (by omega) (by omega) hdg (.inl h0)).to ?_
    have e0 : holl x j = ([], j) := by unfold holl; rw [if_pos h0]
    rw [e0]
    repeat walk_at "s"
    refine noC (by simp [h0]) _ ?_
    walk_at "sub"
  · rw [if_pos ⟨hdig, hah, h0⟩] at hq
    split at hq
    · rename_i hok
      obtain ⟨q', hq', rfl⟩ := Option.map_eq_some_iff.mp hq
      repeat walk_at "s"
      refine (holl_fn G x j (by omega) (by omega) hdg (.inr hok)).to ?_
      repeat walk_at "s"
      refine doneB (holl x j).2 _ q' (by unfold holl; rw [if_neg h0]; simp) hq' hlq _ ?_
      walk_at "sub"
    · cases hq
theorem sqd_fn (G : Good c) (x : List Nat) (r : List (Nat × Bool)) (f : Nat) (hx : x.length ≤ 100000) (hdg : (x.filter dgt).length ≤ 15) (hr : sqzF x f 0 [] = some r) (hl : r.length ≤ 100000) :
    Fn c (k + 5) 212 [.str x] (fun d => d = .str (r.map (·.1))) := by
  refine fn_own (fd := fd_squeezed) (body := bodyOf (stAt 28)) G ["text"] (fun _ => rfl) (fun _ => rfl) rfl rfl rfl rfl (bind1 fun v => rfl) (by decide) (by decide) (fun L => ?_)
  conv => arg 6; whnf
  repeat walk_at "s"
  refine ex_for (PI := fun items => items = r.map toD) (itera_list ?_).iterP ?_
  · repeat walk_at "s"
    refine (sqz_fn G x r f hx hdg hr hl).to ?_
    exact ⟨_, .inl rfl, rfl⟩
  rintro _ rfl
  refine ⟨fun (j : Nat) (σ : Loc) (ω : Own) => ∃ y, σ = [V "row" (.str y)] ∧ ω = [] ∧ y = (r.take j).map (·.1), again_mk ⟨[], rfl, rfl, rfl⟩ (by walk_at "sub"), ?_, ?_⟩
  · rintro j d σ ω hd ⟨y, rfl, rfl, hy⟩
    rw [List.getElem?_map] at hd
    obtain ⟨p, hp, rfl⟩ := Option.map_eq_some_iff.mp hd
    unfold toD
    have hj : j < r.length := (List.getElem?_eq_some_iff.mp hp).1
    have hyl : y.length ≤ 100000 := by rw [hy]; simp; omega
    repeat walk_at "s"
    refine op_iadd_str (by simp; omega) ?_
    repeat walk_at "s"
    exact turnF_next ⟨y ++ [p.1], rfl, rfl, by rw [List.take_add_one, hp, hy]; simp⟩ (by walk_at "sub")
  · rintro σ ω ⟨y, rfl, rfl, hy⟩
    repeat walk_at "s"
    rw [hy]; simp
end
end
section
set_option maxRecDepth 10000
set_option maxHeartbeats 2000000

section
variable {c : Cx} {k : Nat}
/-! depths -/
noncomputable def depS (st : Int × Bool) (a : Nat) : Int × Bool × Int :=
  if a = 39 then (st.1, !st.2, -1) else if st.2 = true then (st.1, st.2, -1)
  else if a = 40 ∧ 0 ≤ st.1 then (st.1 + 1, st.2, st.1)
  else if a = 41 ∧ 0 < st.1 then (st.1 - 1, st.2, st.1 - 1)
  else if a = 41 then (-2, st.2, -2) else (st.1, st.2, st.1)
noncomputable def depL : List Nat → Int × Bool → List Int
  | [], _ => []
  | a :: r, st => (depS st a).2.2 :: depL r ((depS st a).1, (depS st a).2.1)
noncomputable def dep (x : List Nat) : List Int := depL x (0, false)
theorem depL_length : ∀ (x : List Nat) (st : Int × Bool), (depL x st).length = x.length
  | [], _ => rfl
  | a :: r, st => by rw [depL, List.length_cons, depL_length r, List.length_cons]
theorem dep_fn (G : Good c) (x : List Nat) (hx : x.length ≤ 100000) : Fn c (k + 1) 219 [.str x] (fun d => d = .lst ((dep x).map .int)) := by
  refine fn_own (fd := fd_depths) (body := bodyOf (stAt 29)) G ["row"] (fun _ => rfl) (fun _ => rfl) rfl rfl rfl rfl (bind1 fun v => rfl) (by decide) (by decide) (fun L => ?_)
  conv => arg 6; whnf
  have eq1 : (Str.ofString "'").cps.toList = [39] := rfl
  have eq2 : (Str.ofString "(").cps.toList = [40] := rfl
  have eq3 : (Str.ofString ")").cps.toList = [41] := rfl
  refine ex_cons (s_assignN rfl rfl (evn_list ?_))
  repeat walk_at "s"
  refine ex_for (PI := fun items => items = x.map fun b => .str [b]) (itera_str ?_).iterP ?_
  · repeat walk_at "s"
    rfl
  rintro _ rfl
  refine ⟨fun (j : Nat) (σ : Loc) (ω : Own) => ∃ (d : Int) (b : Bool) (l : List Int), σ = [V "is_inside" (.bool b), V "depth" (.int d)] ∧ ω = [W "out" (l.map .int)] ∧ l ++ depL (x.drop j) (d, b) = dep x, again_mk ⟨0, false, [], rfl, rfl, rfl⟩ (by walk_at "sub"), ?_, ?_⟩
  rotate_left
  · rintro σ ω ⟨d, b, l, rfl, rfl, hl⟩
    rw [List.length_map, List.drop_length, depL, List.append_nil] at hl
    repeat walk_at "s"
    rw [hl]
  rintro j d0 σ ω hd ⟨d, b, l, rfl, rfl, hl⟩
  rw [List.getElem?_map] at hd
  obtain ⟨a, ha, rfl⟩ := Option.map_eq_some_iff.mp hd
  have hdr := drop_cons ha
  rw [hdr, depL] at hl
  have hll : (l.map D.int).length ≤ 100000 := by
    have := congrArg List.length hl
    unfold dep at this
    simp [depL_length] at this
    simp
    have := (List.getElem?_eq_some_iff.mp ha).1
    omega
  have done : ∀ (v : Int) (d' : Int) (b' : Bool), depS (d, b) a = (d', b', v) → ∀ (σ : Loc) (PO : Out → Prop), SubL [V "is_inside" (.bool b'), V "depth" (.int d')] σ →
      turnF ((fun (j : Nat) (σ : Loc) (ω : Own) => ∃ (d : Int) (b : Bool) (l : List Int), σ = [V "is_inside" (.bool b), V "depth" (.int d)] ∧ ω = [W "out" (l.map .int)] ∧ l ++ depL (x.drop j) (d, b) = dep x) (j + 1)) PO (.next σ [W "out" (l.map D.int ++ [D.int v])]) := by
    intro v d' b' h σ PO hσ
    rw [h] at hl
    exact turnF_next ⟨d', b', l ++ [v], rfl, by simp, by rw [← hl]; simp⟩ hσ
  repeat walk_at "s"
  rw [eq1]
  refine ⟨fun h => ?_, fun h => ?_⟩
  · have h : a = 39 := by simpa using h
    repeat walk_at "s"
    refine done (-1) d (!b) (by simp [depS, h]) _ _ ?_
    walk_at "sub"
  have h39 : a ≠ 39 := by simpa using h
  repeat walk_at "s"
  refine ⟨fun h => ?_, fun h => ?_⟩
  · subst h
    repeat walk_at "s"
    refine done (-1) d true (by simp [depS, h39]) _ _ ?_
    walk_at "sub"
  subst h
  repeat walk_at "s"
  rw [eq2]
  refine ⟨fun h => ?_, fun h => ?_⟩
  · have h40 : a = 40 := by simpa using h
    repeat walk_at "s"
    refine ⟨fun h => ?_, fun h => ?_⟩
    · have h0 : 0 ≤ d := by simpa using h
      repeat walk_at "s"
      refine done d (d + 1) false (by simp [depS, h40, h0]) _ _ ?_
      walk_at "sub"
    · have h0 : ¬ 0 ≤ d := by simpa using h
      repeat walk_at "s"
      rw [eq3]
      refine ⟨fun h => ?_, fun h => ?_⟩
      · rw [h40] at h; simp at h
      repeat walk_at "s"
      rw [eq3]
      refine ⟨fun h => ?_, fun h => ?_⟩
      · rw [h40] at h; simp at h
      repeat walk_at "s"
      refine done d d false (by simp [depS, h40, h0]) _ _ ?_
      walk_at "sub"
  have h40 : a ≠ 40 := by simpa using h
  repeat walk_at "s"
  rw [eq3]
  refine ⟨fun h => ?_, fun h => ?_⟩
  · have h41 : a = 41 := by simpa using h
    repeat walk_at "s"
    refine ⟨fun h => ?_, fun h => ?_⟩
    · have h0 : 0 < d := by simpa using h
      repeat walk_at "s"
      refine done (d - 1) (d - 1) false (by simp [depS, h41, h0]) _ _ ?_
      walk_at "sub"
    · have h0 : ¬ 0 < d := by simpa using h
      repeat walk_at "s"
      rw [eq3]
      refine ⟨fun h => ?_, fun h => ?_⟩
      rotate_left
      · rw [h41] at h; simp at h
      repeat walk_at "s"
      refine done (-2) (-2) false (by simp [depS, h41, h0]) _ _ ?_
      walk_at "sub"
  have h41 : a ≠ 41 := by simpa using h
  repeat walk_at "s"
  rw [eq3]
  refine ⟨fun h => ?_, fun h => ?_⟩
  · exact absurd (by simpa using h) h41
  repeat walk_at "s"
  refine done d d false (by simp [depS, h39, h40, h41]) _ _ ?_
  walk_at "sub"
end
end
section
set_option maxRecDepth 10000
set_option maxHeartbeats 2000000

section
variable {c : Cx} {k : Nat}
theorem idx_nat (j n : Nat) : idx (j : Int) n = j := by unfold idx; rw [if_neg (by omega)]; rfl
theorem range_item {n j t : Nat} (h : (List.range n)[j]? = some t) : j < n ∧ t = j := by
  obtain ⟨hj, e⟩ := List.getElem?_eq_some_iff.mp h
  simp at hj e
  exact ⟨hj, e.symm⟩
/-! closing -/
noncomputable def cloP (x : List Nat) (i t : Nat) : Bool := decide (x[i + 1 + t]? = some 41) && decide ((dep x)[i + 1 + t]? = (dep x)[i]?)
noncomputable def clo (x : List Nat) (i : Nat) : Int := match (List.range (x.length - (i + 1))).find? (cloP x i) with | some t => ((i + 1 + t : Nat) : Int) | none => -1
theorem clo_bound (x : List Nat) (i : Nat) : -1 ≤ clo x i ∧ clo x i < x.length := by
  unfold clo
  split
  · rename_i t h
    have := List.mem_of_find?_eq_some h
    simp at this
    omega
  · omega
theorem dep_get (x : List Nat) (j : Nat) (h : j < x.length) : ∃ v, (dep x)[j]? = some v := ⟨_, List.getElem?_eq_getElem (by unfold dep; rw [depL_length]; exact h)⟩
theorem clo_fn (G : Good c) (x : List Nat) (i : Nat) (hx : x.length ≤ 100000) (hi : i ≤ 100000) : Fn c (k + 2) 226 [.str x, .int i] (fun d => d = .int (clo x i)) := by
  refine fn_own (fd := fd_closing) (body := bodyOf (stAt 30)) G ["row", "at"] (fun _ => rfl) (fun _ => rfl) rfl rfl rfl rfl (bind2 fun v u => rfl) (by decide) (by decide) (fun L => ?_)
  conv => arg 6; whnf
  have eq1 : (Str.ofString ")").cps.toList = [41] := rfl
  have hdl : (dep x).length = x.length := by unfold dep; rw [depL_length]
  refine ex_cons (s_assignL rfl rfl ?_)
  repeat walk_at "s"
  refine (dep_fn G x hx).to ?_
  refine after_next (ex_cons (ex_for (PI := fun items => items = rngs ((i + 1 : Nat) : Int) x.length 1) (itera_rng ?_).iterP ?_))
  · repeat walk_at "s"
    refine op_range2 ?_
    have := small_of (a := (i : Int) + 1) (b := x.length) (c := 1) (by omega)
    exact ⟨_, _, _, rfl, this.1, this.2, rfl⟩
  rintro _ rfl
  rw [rngs_from]
  refine ⟨fun (j : Nat) (σ : Loc) (ω : Own) => σ = [V "levels" (.lst ((dep x).map .int)), V "row" (.str x), V "at" (.int i)] ∧ ω = [] ∧ ∀ t < j, cloP x i t = false, again_mk ⟨rfl, rfl, fun t h => absurd h (Nat.not_lt_zero t)⟩ (by walk_at "sub"), ?_, ?_⟩
  · rintro j d σ ω hd ⟨rfl, rfl, hn⟩
    rw [List.getElem?_map] at hd
    obtain ⟨t, ht, rfl⟩ := Option.map_eq_some_iff.mp hd
    obtain ⟨hj, rfl⟩ := range_item ht
    obtain ⟨a, ha⟩ := get_some (x := x) (j := i + 1 + t) (by omega)
    obtain ⟨v, hv⟩ := dep_get x (i + 1 + t) (by omega)
    obtain ⟨u, hu⟩ := dep_get x i (by omega)
    have hcond : cloP x i t = (decide (a = 41) && decide (v = u)) := by unfold cloP; rw [ha, hv, hu]; simp
    repeat walk_at "s"
    refine op_item_str (a := a) ⟨by omega, by omega⟩ (by omega) ha ?_
    repeat walk_at "s"
    rw [eq1]
    have next : cloP x i t = false → ∀ t' < t + 1, cloP x i t' = false := fun h t' h' => by
      rcases Nat.lt_or_ge t' t with q | q
      · exact hn t' q
      · have : t' = t := by omega
        subst this; exact h
    refine ⟨fun h => ?_, fun h => ?_⟩
    rotate_left
    · repeat walk_at "s"
      refine turnF_next ⟨rfl, rfl, next ?_⟩ (by walk_at "sub")
      rw [hcond]
      have : a ≠ 41 := by simpa using h
      simp [this]
    have h41 : a = 41 := by simpa using h
    repeat walk_at "s"
    refine op_item_lst (d := .int v) ⟨by omega, by simp [hdl]; omega⟩ (by simp [hdl]; omega) (by rw [idx_nat]; simp [hv]) ?_
    repeat walk_at "s"
    refine op_item_lst (d := .int u) ⟨by omega, by simp [hdl]; omega⟩ (by simp [hdl]; omega) (by rw [idx_nat]; simp [hu]) ?_
    repeat walk_at "s"
    refine ⟨fun h => ?_, fun h => ?_⟩
    · repeat walk_at "s"
      have hf : (List.range (x.length - (i + 1))).find? (cloP x i) = some t := by
        rw [List.find?_range_eq_some]
        refine ⟨by rw [hcond, h41, h]; rfl, by simp; omega, fun j hj => by rw [hn j hj]; rfl⟩
      unfold clo; rw [hf]
    · repeat walk_at "s"
      refine turnF_next ⟨rfl, rfl, next ?_⟩ (by walk_at "sub")
      rw [hcond, h]; simp
  · rintro σ ω ⟨rfl, rfl, hn⟩
    repeat walk_at "s"
    have hf : (List.range (x.length - (i + 1))).find? (cloP x i) = none := by
      rw [List.find?_range_eq_none]
      intro t ht
      rw [hn t (by simpa using ht)]; rfl
    unfold clo; rw [hf]

/-! name_end, digits_end -/
noncomputable def ltr (a : Nat) : Bool := decide (65 ≤ a ∧ a ≤ 90)
theorem ltr_in (a : Nat) : inStr [a] (lit "ABCDEFGHIJKLMNOPQRSTUVWXYZ") = ltr a := by
  rw [inStr_one]
  have h1 : ∀ e ∈ lit "ABCDEFGHIJKLMNOPQRSTUVWXYZ", 65 ≤ e ∧ e ≤ 90 := by decide +kernel
  have h2 : ∀ i, i < 26 → (lit "ABCDEFGHIJKLMNOPQRSTUVWXYZ").contains (65 + i) = true := by decide +kernel
  cases h : ltr a with
  | true =>
    have h := of_decide_eq_true h
    have := h2 (a - 65) (by omega)
    rwa [show 65 + (a - 65) = a by omega] at this
  | false =>
    have h := of_decide_eq_false h
    cases q : (lit "ABCDEFGHIJKLMNOPQRSTUVWXYZ").contains a with
    | false => rfl
    | true => exact absurd (h1 a (by simpa using q)) h
noncomputable def nmEnd (x : List Nat) (i : Nat) : Nat := match x[i]? with
  | none => i
  | some a => if ltr a = true then i + ((x.drop i).takeWhile fun b => ltr b || dgt b).length else i
theorem tw_le {p : Nat → Bool} (l : List Nat) : (l.takeWhile p).length ≤ l.length := (List.takeWhile_sublist p).length_le
theorem nmEnd_bound (x : List Nat) (i : Nat) (h : i ≤ x.length) : i ≤ nmEnd x i ∧ nmEnd x i ≤ x.length := by
  unfold nmEnd
  split
  · omega
  · split
    · have := tw_le (p := fun b => ltr b || dgt b) (x.drop i)
      simp only [List.length_drop] at this
      omega
    · omega
theorem nmEnd_fn (G : Good c) (x : List Nat) (i : Nat) (hx : x.length ≤ 100000) : Fn c (k + 1) 274 [.str x, .int i] (fun d => d = .int (nmEnd x i)) := by
  refine fn_own (fd := fd_name_end) (body := bodyOf (stAt 37)) G ["row", "at"] (fun _ => rfl) (fun _ => rfl) rfl rfl rfl rfl (bind2 fun v u => rfl) (by decide) (by decide) (fun L => ?_)
  conv => arg 6; whnf
  have eq1 : (Str.ofString "").cps.toList = [] := rfl
  have hx' : x.length ≤ 10000000 := by omega
  repeat walk_at "s"
  rw [sl_one x i i ((i : Int) + 1) rfl (by omega), eq1]
  refine ⟨fun h => ?_, fun h => ?_⟩
  · have h : (x.drop i).take 1 = [] := by simpa using h
    have : x[i]? = none := by
      cases e : x[i]? with
      | none => rfl
      | some a => rw [drop_cons e] at h; cases h
    repeat walk_at "s"
    unfold nmEnd; rw [this]
  have h : (x.drop i).take 1 ≠ [] := by simpa using h
  have hi : i < x.length := by
    rcases Nat.lt_or_ge i x.length with q | q
    · exact q
    · rw [List.drop_of_length_le q] at h; exact absurd rfl h
  obtain ⟨a, ha⟩ := get_some hi
  repeat walk_at "s"
  refine op_item_str (a := a) ⟨by omega, by omega⟩ (by omega) ha ?_
  repeat walk_at "s"
  rw [ltr_in]
  refine ⟨fun h => ?_, fun h => ?_⟩
  · repeat walk_at "s"
    have : ltr a = false := by simpa using h
    unfold nmEnd; rw [ha]; simp [this]
  have hla : ltr a = true := by simpa using h
  have hres : nmEnd x i = i + ((x.drop i).takeWhile fun b => ltr b || dgt b).length := by unfold nmEnd; rw [ha]; simp [hla]
  repeat walk_at "s"
  refine ex_while (fun (n : Nat) (σ : Loc) (ω : Own) => ∃ (j : Nat) (e : Int), σ = [V "end" (.int e), V "row" (.str x)] ∧ ω = [] ∧ e = j ∧ n = x.length - j ∧ nmEnd x i = j + ((x.drop j).takeWhile fun b => ltr b || dgt b).length) (x.length - i)
    (again_mk ⟨i, i, rfl, rfl, rfl, rfl, hres⟩ (by walk_at "sub")) ?_
  rintro n σ ω ⟨j, e, rfl, rfl, rfl, hn, hr⟩
  have fin : ((x.drop j).takeWhile fun b => ltr b || dgt b) = [] → after c k (callEnv fd_name_end L 274) ((bodyOf (stAt 37)).drop 3) (retP fun d => d = .int (nmEnd x i)) (.next [V "end" (.int j), V "row" (.str x)] []) := by
    intro h0
    refine after_next ?_
    conv => arg 6; whnf
    repeat walk_at "s"
    rw [hr, h0]; rfl
  repeat walk_at "s"
  refine ⟨fun h => ?_, fun h => ?_⟩
  rotate_left
  · have h : ¬ (j : Int) < x.length := by simpa using h
    exact tf_false (fin (by rw [List.drop_of_length_le (by omega)]; rfl))
  have h : (j : Int) < x.length := by simpa using h
  obtain ⟨b, hb⟩ := get_some (x := x) (j := j) (by omega)
  have hd := drop_cons hb
  repeat walk_at "s"
  refine op_item_str (a := b) ⟨by omega, by omega⟩ (by omega) hb ?_
  repeat walk_at "s"
  rw [ltr_in]
  refine ⟨fun h => ?_, fun h => ?_⟩
  · repeat walk_at "s"
    refine turnW_next ⟨j + 1, (j : Int) + 1, rfl, rfl, by omega, rfl, ?_⟩ (by omega) (by walk_at "sub")
    rw [hr, hd, List.takeWhile_cons, if_pos (by simp [h])]; simp; omega
  have h1 : ltr b = false := by simpa using h
  repeat walk_at "s"
  refine op_item_str (a := b) ⟨by omega, by omega⟩ (by omega) hb ?_
  repeat walk_at "s"
  rw [dig_in]
  refine ⟨fun h => ?_, fun h => ?_⟩
  · repeat walk_at "s"
    refine turnW_next ⟨j + 1, (j : Int) + 1, rfl, rfl, by omega, rfl, ?_⟩ (by omega) (by walk_at "sub")
    rw [hr, hd, List.takeWhile_cons, if_pos (by simp [h])]; simp; omega
  · have h2 : dgt b = false := by simpa using h
    exact tr_or_nil (tf_false (tf_false (fin (by rw [hd, List.takeWhile_cons, if_neg (by simp [h1, h2])]))))

noncomputable def dgEnd (x : List Nat) (i : Nat) : Nat := i + ((x.drop i).takeWhile dgt).length
theorem dgEnd_fn (G : Good c) (x : List Nat) (i : Nat) (hx : x.length ≤ 100000) : Fn c (k + 1) 281 [.str x, .int i] (fun d => d = .int (dgEnd x i)) := by
  refine fn_own (fd := fd_digits_end) (body := bodyOf (stAt 38)) G ["row", "at"] (fun _ => rfl) (fun _ => rfl) rfl rfl rfl rfl (bind2 fun v u => rfl) (by decide) (by decide) (fun L => ?_)
  conv => arg 6; whnf
  have hx' : x.length ≤ 10000000 := by omega
  repeat walk_at "s"
  refine ex_while (fun (n : Nat) (σ : Loc) (ω : Own) => ∃ (j : Nat) (e : Int), σ = [V "end" (.int e), V "row" (.str x)] ∧ ω = [] ∧ e = j ∧ n = x.length - j ∧ dgEnd x i = j + ((x.drop j).takeWhile dgt).length) (x.length - i)
    (again_mk ⟨i, i, rfl, rfl, rfl, rfl, rfl⟩ (by walk_at "sub")) ?_
  rintro n σ ω ⟨j, e, rfl, rfl, rfl, hn, hr⟩
  have fin : ((x.drop j).takeWhile dgt) = [] → after c k (callEnv fd_digits_end L 281) ((bodyOf (stAt 38)).drop 2) (retP fun d => d = .int (dgEnd x i)) (.next [V "end" (.int j), V "row" (.str x)] []) := by
    intro h0
    refine after_next ?_
    conv => arg 6; whnf
    repeat walk_at "s"
    rw [hr, h0]; rfl
  repeat walk_at "s"
  refine ⟨fun h => ?_, fun h => ?_⟩
  rotate_left
  · have h : ¬ (j : Int) < x.length := by simpa using h
    exact tf_false (fin (by rw [List.drop_of_length_le (by omega)]; rfl))
  have h : (j : Int) < x.length := by simpa using h
  obtain ⟨b, hb⟩ := get_some (x := x) (j := j) (by omega)
  have hd := drop_cons hb
  repeat walk_at "s"
  refine op_item_str (a := b) ⟨by omega, by omega⟩ (by omega) hb ?_
  repeat walk_at "s"
  rw [dig_in]
  refine ⟨fun h => ?_, fun h => ?_⟩
  · repeat walk_at "s"
    refine turnW_next ⟨j + 1, (j : Int) + 1, rfl, rfl, by omega, rfl, ?_⟩ (by omega) (by walk_at "sub")
    rw [hr, hd, List.takeWhile_cons, if_pos (by simp [h])]; simp; omega
  · have h2 : dgt b = false := by simpa using h
    exact tf_false (fin (by rw [hd, List.takeWhile_cons, if_neg (by simp [h2])]))
end
end
section
set_option maxRecDepth 10000
set_option maxHeartbeats 2000000

section
variable {c : Cx} {k : Nat}
theorem bool_dec (p : Prop) [Decidable p] (q : Bool) (h : (q = true) ↔ p) : decide p = q := by
  rw [Bool.eq_iff_iff]; simp [h]
/-! is_target -/
noncomputable def tgtS (x : List Nat) (i : Nat) : Option Nat := if (x.drop i).take 1 = [40] then (if clo x i + 1 = 0 then none else some (clo x i + 1).toNat) else some i
noncomputable def tgtN (x : List Nat) : Nat → Option Nat
  | 0 => some (nmEnd x 0)
  | j + 1 => (tgtN x j).bind (tgtS x)
noncomputable def isTgt (x : List Nat) : Bool := if nmEnd x 0 = 0 then false else match tgtN x 2 with | none => false | some i => decide (i = x.length)
theorem tgtN_bound (x : List Nat) : ∀ j i, tgtN x j = some i → i ≤ x.length
  | 0, i, h => by cases h; exact (nmEnd_bound x 0 (Nat.zero_le _)).2
  | j + 1, i, h => by
    rw [tgtN] at h
    obtain ⟨i0, h0, h1⟩ := Option.bind_eq_some_iff.mp h
    have := tgtN_bound x j i0 h0
    unfold tgtS at h1
    split at h1
    · split at h1
      · cases h1
      · cases h1
        have := clo_bound x i0
        omega
    · cases h1; exact this
theorem isTgt_fn (G : Good c) (x : List Nat) (hx : x.length ≤ 100000) : Fn c (k + 3) 288 [.str x] (fun d => d = .bool (isTgt x)) := by
  refine fn_own (fd := fd_is_target) (body := bodyOf (stAt 39)) G ["text"] (fun _ => rfl) (fun _ => rfl) rfl rfl rfl rfl (bind1 fun v => rfl) (by decide) (by decide) (fun L => ?_)
  conv => arg 6; whnf
  have eq1 : (Str.ofString "(").cps.toList = [40] := rfl
  have hx' : x.length ≤ 10000000 := by omega
  repeat walk_at "s"
  refine (nmEnd_fn G x 0 hx).to ?_
  repeat walk_at "s"
  refine ⟨fun h => ?_, fun h => ?_⟩
  · have h : nmEnd x 0 = 0 := by simp at h; omega
    repeat walk_at "s"
    unfold isTgt; rw [if_pos h]
  have h0 : ¬ nmEnd x 0 = 0 := by simp at h; omega
  repeat walk_at "s"
  refine ex_for (PI := fun items => items = rngs 0 ((2 : Nat) : Int) 1) (itera_rng ?_).iterP ?_
  · repeat walk_at "s"
    refine op_range1 ?_
    have := small_of (a := 0) (b := 2) (c := 1) (by omega)
    exact ⟨_, _, _, rfl, this.1, this.2, rfl⟩
  rintro _ rfl
  rw [rngs_one]
  refine ⟨fun (j : Nat) (σ : Loc) (ω : Own) => ∃ i : Nat, σ = [V "at" (.int i), V "text" (.str x)] ∧ ω = [] ∧ tgtN x j = some i ∧ j ≤ 2, again_mk ⟨nmEnd x 0, rfl, rfl, rfl, by omega⟩ (by walk_at "sub"), ?_, ?_⟩
  rotate_left
  · rintro σ ω ⟨i, rfl, rfl, hi, _⟩
    repeat walk_at "s"
    have hi : tgtN x 2 = some i := by simpa using hi
    unfold isTgt; rw [if_neg h0, hi]
    dsimp only
    congr 1
    exact bool_dec _ _ (by simp; omega)
  rintro j d σ ω hd ⟨i, rfl, rfl, hi, hj2⟩
  rw [List.getElem?_map] at hd
  obtain ⟨t, ht, rfl⟩ := Option.map_eq_some_iff.mp hd
  obtain ⟨hj, rfl⟩ := range_item ht
  have hil := tgtN_bound x t i hi
  have hn : tgtN x (t + 1) = tgtS x i := by rw [tgtN, hi]; rfl
  repeat walk_at "s"
  rw [sl_one x i i ((i : Int) + 1) rfl (by omega), eq1]
  refine ⟨fun h => ?_, fun h => ?_⟩
  rotate_left
  · have h : (x.drop i).take 1 ≠ [40] := by simpa using h
    repeat walk_at "s"
    exact turnF_next ⟨i, rfl, rfl, by rw [hn]; unfold tgtS; rw [if_neg h], by omega⟩ (by walk_at "sub")
  have h : (x.drop i).take 1 = [40] := by simpa using h
  repeat walk_at "s"
  refine (clo_fn G x i hx (by omega)).to ?_
  repeat walk_at "s"
  refine ⟨fun h2 => ?_, fun h2 => ?_⟩
  · have h2 : clo x i + 1 = 0 := by simpa using h2
    repeat walk_at "s"
    have h3 : tgtN x (t + 1) = none := by rw [hn]; unfold tgtS; rw [if_pos h, if_pos h2]
    have h4 : tgtN x 2 = none := by
      have : t = 0 ∨ t = 1 := by omega
      rcases this with rfl | rfl
      · rw [tgtN, h3]; rfl
      · exact h3
    unfold isTgt; rw [if_neg h0, h4]
  · have h2 : ¬ clo x i + 1 = 0 := by simpa using h2
    have := clo_bound x i
    have e : clo x i + 1 = ((clo x i + 1).toNat : Int) := by omega
    rw [e]
    repeat walk_at "s"
    exact turnF_next ⟨_, rfl, rfl, by rw [hn]; unfold tgtS; rw [if_pos h, if_neg h2], by omega⟩ (by walk_at "sub")

/-! is_balanced -/
noncomputable def balL : List (Nat × Int) → Int → Bool
  | [], d => decide (d = 0)
  | p :: r, d => if p.2 = -2 then false else balL r ((if 0 ≤ p.2 ∧ p.1 = 40 then d + 1 else d) - (if 0 ≤ p.2 ∧ p.1 = 41 then 1 else 0))
noncomputable def isBal (x : List Nat) : Bool := balL (x.zip (dep x)) 0
theorem zip_drop {x : List Nat} {l : List Int} {j a : Nat} {v : Int} (h : x[j]? = some a) (h' : l[j]? = some v) : (x.zip l).drop j = (a, v) :: (x.zip l).drop (j + 1) := by
  have : (x.zip l)[j]? = some (a, v) := by rw [List.getElem?_zip_eq_some]; exact ⟨h, h'⟩
  obtain ⟨hj, e⟩ := List.getElem?_eq_some_iff.mp this
  rw [List.drop_eq_getElem_cons hj, e]
theorem isBal_fn (G : Good c) (x : List Nat) (hx : x.length ≤ 100000) : Fn c (k + 1) 295 [.str x, .lst ((dep x).map .int)] (fun d => d = .bool (isBal x)) := by
  refine fn_own (fd := fd_is_balanced) (body := bodyOf (stAt 40)) G ["row", "levels"] (fun _ => rfl) (fun _ => rfl) rfl rfl rfl rfl (bind2 fun v u => rfl) (by decide) (by decide) (fun L => ?_)
  conv => arg 6; whnf
  have eq1 : (Str.ofString "(").cps.toList = [40] := rfl
  have eq2 : (Str.ofString ")").cps.toList = [41] := rfl
  have hx' : x.length ≤ 10000000 := by omega
  have hdl : (dep x).length = x.length := by unfold dep; rw [depL_length]
  repeat walk_at "s"
  refine ex_for (PI := fun items => items = rngs 0 x.length 1) (itera_rng ?_).iterP ?_
  · repeat walk_at "s"
    refine op_range1 ?_
    have := small_of (a := 0) (b := x.length) (c := 1) (by omega)
    exact ⟨_, _, _, rfl, this.1, this.2, rfl⟩
  rintro _ rfl
  rw [rngs_one]
  refine ⟨fun (j : Nat) (σ : Loc) (ω : Own) => ∃ d : Int, σ = [V "depth" (.int d), V "row" (.str x), V "levels" (.lst ((dep x).map .int))] ∧ ω = [] ∧ balL ((x.zip (dep x)).drop j) d = isBal x, again_mk ⟨0, rfl, rfl, rfl⟩ (by walk_at "sub"), ?_, ?_⟩
  rotate_left
  · rintro σ ω ⟨d, rfl, rfl, hi⟩
    repeat walk_at "s"
    rw [← hi, List.drop_of_length_le (by simp [hdl]), balL]
  rintro j d σ ω hd ⟨dp, rfl, rfl, hi⟩
  rw [List.getElem?_map] at hd
  obtain ⟨t, ht, rfl⟩ := Option.map_eq_some_iff.mp hd
  obtain ⟨hj, rfl⟩ := range_item ht
  obtain ⟨a, ha⟩ := get_some (x := x) (j := t) (by omega)
  obtain ⟨v, hv⟩ := dep_get x t (by omega)
  rw [zip_drop ha hv, balL] at hi
  have lev : ∀ {k : Nat} {env : Env} {σ : Loc} {P : D → Prop} {sl' : Expr}, P (.int v) → (∀ o j, subscripted sl' false o j = operate [o, j] (getItem o j)) → Op c (fun vs => subscriptTail (.Name "levels" default) sl' (vs.getD 0 .none) (vs.getD 1 .none)) [.lst ((dep x).map .int), .int t] P := fun hp hs =>
    op_item_lst (d := .int v) ⟨by omega, by simp [hdl]; omega⟩ (by simp [hdl]; omega) (by rw [idx_nat]; simp [hv]) hp hs
  have l1 : -(((dep x).map D.int).length : Int) ≤ t ∧ (t : Int) < ((dep x).map D.int).length := ⟨by omega, by simp [hdl]; omega⟩
  have l2 : ((dep x).map D.int).length ≤ 10000000 := by simp [hdl]; omega
  have l3 : ((dep x).map D.int)[idx t ((dep x).map D.int).length]? = some (.int v) := by rw [idx_nat]; simp [hv]
  have s1 : 0 ≤ (t : Int) ∧ (t : Int) < x.length := by omega
  repeat walk_at "s"
  refine op_item_lst l1 l2 l3 ?_
  repeat walk_at "s"
  refine ⟨fun h => ?_, fun h => ?_⟩
  · have h : v = -2 := by simpa using h
    rw [if_pos h] at hi
    repeat walk_at "s"
    rw [← hi]
  have h : ¬ v = -2 := by simpa using h
  rw [if_neg h] at hi
  -- the second test, whatever the depth
  have second : ∀ (d1 : Int), balL ((x.zip (dep x)).drop (t + 1)) (d1 - (if 0 ≤ v ∧ a = 41 then 1 else 0)) = isBal x → ∀ (PO : Out → Prop),
      (∀ σ d2, SubL [V "depth" (.int d2), V "row" (.str x), V "levels" (.lst ((dep x).map .int))] σ → balL ((x.zip (dep x)).drop (t + 1)) d2 = isBal x → PO (.next σ [])) →
      ∀ σ, SubL [V "place" (.int t), V "depth" (.int d1), V "row" (.str x), V "levels" (.lst ((dep x).map .int))] σ → Ex c k (callEnv fd_is_balanced L 295) σ [] ((loopBody (stmtAt (bodyOf (stAt 40)) 1)).drop 2) PO := by
    intro d1 h1 PO hPO σ hσ
    refine ex_weaken hσ ?_
    conv => arg 6; whnf
    repeat walk_at "s"
    refine op_item_lst l1 l2 l3 ?_
    repeat walk_at "s"
    refine ⟨fun h => ?_, fun h => ?_⟩
    rotate_left
    · have h : ¬ 0 ≤ v := by simpa using h
      repeat walk_at "s"
      refine hPO _ d1 (by walk_at "sub") ?_
      rw [if_neg (by omega)] at h1; simpa using h1
    have h0 : 0 ≤ v := by simpa using h
    repeat walk_at "s"
    refine op_item_str s1 hx' ha ?_
    repeat walk_at "s"
    rw [eq2]
    refine ⟨fun h => ?_, fun h => ?_⟩
    · have h : a = 41 := by simpa using h
      repeat walk_at "s"
      refine hPO _ (d1 - 1) (by walk_at "sub") ?_
      rw [if_pos ⟨h0, h⟩] at h1; exact h1
    · have h : ¬ a = 41 := by simpa using h
      repeat walk_at "s"
      refine hPO _ d1 (by walk_at "sub") ?_
      rw [if_neg (fun q => h q.2)] at h1; simpa using h1
  repeat walk_at "n"
  refine ex1_cut fun PT hPT => ?_
  have done : ∀ d1, balL ((x.zip (dep x)).drop (t + 1)) (d1 - (if 0 ≤ v ∧ a = 41 then 1 else 0)) = isBal x → ∀ σ, SubL [V "place" (.int t), V "depth" (.int d1), V "row" (.str x), V "levels" (.lst ((dep x).map .int))] σ → PT (.next σ []) := fun d1 h1 σ hσ =>
    hPT _ (after_next (second d1 h1 _ (fun σ d2 h2 h3 => turnF_next ⟨d2, rfl, rfl, h3⟩ h2) σ hσ))
  clear second hPT
  refine ex_if ?_
  repeat walk_at "s"
  refine op_item_lst l1 l2 l3 ?_
  repeat walk_at "s"
  refine ⟨fun h => ?_, fun h => ?_⟩
  rotate_left
  · have h : ¬ 0 ≤ v := by simpa using h
    repeat walk_at "s"
    refine done dp ?_ _ (by walk_at "sub")
    rw [if_neg (by omega : ¬ (0 ≤ v ∧ a = 40))] at hi; exact hi
  have h0 : 0 ≤ v := by simpa using h
  repeat walk_at "s"
  refine op_item_str s1 hx' ha ?_
  repeat walk_at "s"
  rw [eq1]
  refine ⟨fun h => ?_, fun h => ?_⟩
  · have h : a = 40 := by simpa using h
    repeat walk_at "s"
    refine done (dp + 1) ?_ _ (by walk_at "sub")
    rw [if_pos (⟨h0, h⟩ : 0 ≤ v ∧ a = 40)] at hi; exact hi
  · have h : ¬ a = 40 := by simpa using h
    repeat walk_at "s"
    refine done dp ?_ _ (by walk_at "sub")
    rw [if_neg (fun q : 0 ≤ v ∧ a = 40 => h q.2)] at hi; exact hi
end
end
section
set_option maxRecDepth 10000
set_option maxHeartbeats 2000000

section
variable {c : Cx} {k : Nat}
/-! equals_at -/
noncomputable def eqL : List (Nat × Int) → Nat → Int → Int × Bool
  | [], _, f => (f, false)
  | p :: r, j, f => if p.2 = 0 ∧ p.1 = 44 ∧ 0 ≤ (if p.2 = 0 ∧ p.1 = 61 ∧ f < 0 then (j : Int) else f) then ((if p.2 = 0 ∧ p.1 = 61 ∧ f < 0 then (j : Int) else f), true)
      else eqL r (j + 1) (if p.2 = 0 ∧ p.1 = 61 ∧ f < 0 then (j : Int) else f)
noncomputable def eqAt (x : List Nat) : Int × Bool := eqL (x.zip (dep x)) 0 (-1)
theorem eqL_bound : ∀ (l : List (Nat × Int)) (j : Nat) (f : Int), -1 ≤ f → -1 ≤ (eqL l j f).1 ∧ ((eqL l j f).1 ≤ j + l.length ∨ (eqL l j f).1 = f)
  | [], j, f, h => ⟨h, .inr rfl⟩
  | p :: r, j, f, h => by
    rw [eqL]
    have hg : (if p.2 = 0 ∧ p.1 = 61 ∧ f < 0 then (j : Int) else f) = j ∨ (if p.2 = 0 ∧ p.1 = 61 ∧ f < 0 then (j : Int) else f) = f := by split <;> simp
    generalize (if p.2 = 0 ∧ p.1 = 61 ∧ f < 0 then (j : Int) else f) = g at hg
    have key : -1 ≤ g := by omega
    rw [List.length_cons]
    split
    · refine ⟨key, ?_⟩
      rcases hg with hg | hg
      · left; show g ≤ _; omega
      · right; exact hg
    · obtain ⟨h1, h2⟩ := eqL_bound r (j + 1) g key
      refine ⟨h1, ?_⟩
      rcases h2 with h2 | h2
      · left; omega
      · rw [h2]
        rcases hg with hg | hg
        · left; omega
        · right; exact hg
theorem eqAt_bound (x : List Nat) : -1 ≤ (eqAt x).1 ∧ (eqAt x).1 ≤ x.length := by
  obtain ⟨h1, h2⟩ := eqL_bound (x.zip (dep x)) 0 (-1) (by omega)
  refine ⟨h1, ?_⟩
  unfold eqAt
  rcases h2 with h2 | h2
  · have : (x.zip (dep x)).length ≤ x.length := by rw [List.length_zip]; omega
    omega
  · rw [h2]; omega
theorem eqAt_fn (G : Good c) (x : List Nat) (hx : x.length ≤ 100000) : Fn c (k + 1) 302 [.str x, .lst ((dep x).map .int)] (fun d => d = .tup [.int (eqAt x).1, .bool (eqAt x).2]) := by
  refine fn_own (fd := fd_equals_at) (body := bodyOf (stAt 41)) G ["row", "levels"] (fun _ => rfl) (fun _ => rfl) rfl rfl rfl rfl (bind2 fun v u => rfl) (by decide) (by decide) (fun L => ?_)
  conv => arg 6; whnf
  have eq1 : (Str.ofString "=").cps.toList = [61] := rfl
  have eq2 : (Str.ofString ",").cps.toList = [44] := rfl
  have hx' : x.length ≤ 10000000 := by omega
  have hdl : (dep x).length = x.length := by unfold dep; rw [depL_length]
  repeat walk_at "s"
  refine ex_for (PI := fun items => items = rngs 0 x.length 1) (itera_rng ?_).iterP ?_
  · repeat walk_at "s"
    refine op_range1 ?_
    have := small_of (a := 0) (b := x.length) (c := 1) (by omega)
    exact ⟨_, _, _, rfl, this.1, this.2, rfl⟩
  rintro _ rfl
  rw [rngs_one]
  refine ⟨fun (j : Nat) (σ : Loc) (ω : Own) => ∃ d : Int, σ = [V "found" (.int d), V "row" (.str x), V "levels" (.lst ((dep x).map .int))] ∧ ω = [] ∧ eqL ((x.zip (dep x)).drop j) j d = eqAt x, again_mk ⟨-1, rfl, rfl, rfl⟩ (by walk_at "sub"), ?_, ?_⟩
  rotate_left
  · rintro σ ω ⟨d, rfl, rfl, hi⟩
    repeat walk_at "s"
    rw [← hi, List.drop_of_length_le (by simp [hdl]), eqL]
  rintro j d σ ω hd ⟨f, rfl, rfl, hi⟩
  rw [List.getElem?_map] at hd
  obtain ⟨t, ht, rfl⟩ := Option.map_eq_some_iff.mp hd
  obtain ⟨hj, rfl⟩ := range_item ht
  obtain ⟨a, ha⟩ := get_some (x := x) (j := t) (by omega)
  obtain ⟨v, hv⟩ := dep_get x t (by omega)
  rw [zip_drop ha hv, eqL] at hi
  have l1 : -(((dep x).map D.int).length : Int) ≤ t ∧ (t : Int) < ((dep x).map D.int).length := ⟨by omega, by simp [hdl]; omega⟩
  have l2 : ((dep x).map D.int).length ≤ 10000000 := by simp [hdl]; omega
  have l3 : ((dep x).map D.int)[idx t ((dep x).map D.int).length]? = some (.int v) := by rw [idx_nat]; simp [hv]
  have s1 : 0 ≤ (t : Int) ∧ (t : Int) < x.length := by omega
  -- the second test
  have second : ∀ (f1 : Int), (if v = 0 ∧ a = 61 ∧ f < 0 then (t : Int) else f) = f1 → ∀ (PO : Out → Prop),
      (∀ σ, SubL [V "found" (.int f1), V "row" (.str x), V "levels" (.lst ((dep x).map .int))] σ → eqL ((x.zip (dep x)).drop (t + 1)) (t + 1) f1 = eqAt x → PO (.next σ [])) → (PO (.ret (.tup [.int (eqAt x).1, .bool (eqAt x).2]))) →
      ∀ σ, SubL [V "place" (.int t), V "found" (.int f1), V "row" (.str x), V "levels" (.lst ((dep x).map .int))] σ → Ex c k (callEnv fd_equals_at L 302) σ [] ((loopBody (stmtAt (bodyOf (stAt 41)) 1)).drop 1) PO := by
    intro f1 h1 PO hPO hret σ hσ
    dsimp only at hi
    rw [h1] at hi
    have more : ¬ (v = 0 ∧ a = 44 ∧ 0 ≤ f1) → ∀ σ, SubL [V "found" (.int f1), V "row" (.str x), V "levels" (.lst ((dep x).map .int))] σ → PO (.next σ []) := fun h σ hσ => hPO σ hσ (by rw [if_neg h] at hi; exact hi)
    refine ex_weaken hσ ?_
    conv => arg 6; whnf
    repeat walk_at "s"
    refine op_item_lst l1 l2 l3 ?_
    repeat walk_at "s"
    refine ⟨fun h => ?_, fun h => ?_⟩
    rotate_left
    · have h : ¬ v = 0 := by simpa using h
      repeat walk_at "s"
      exact more (fun q => h q.1) _ (by walk_at "sub")
    have h0 : v = 0 := by simpa using h
    repeat walk_at "s"
    refine op_item_str s1 hx' ha ?_
    repeat walk_at "s"
    rw [eq2]
    refine ⟨fun h => ?_, fun h => ?_⟩
    rotate_left
    · have h : ¬ a = 44 := by simpa using h
      repeat walk_at "s"
      exact more (fun q => h q.2.1) _ (by walk_at "sub")
    have ha44 : a = 44 := by simpa using h
    repeat walk_at "s"
    refine ⟨fun h => ?_, fun h => ?_⟩
    rotate_left
    · have h : ¬ 0 ≤ f1 := by simpa using h
      repeat walk_at "s"
      exact more (fun q => h q.2.2) _ (by walk_at "sub")
    have h2 : 0 ≤ f1 := by simpa using h
    rw [if_pos ⟨h0, ha44, h2⟩] at hi
    repeat walk_at "s"
    rw [← hi] at hret
    exact hret
  repeat walk_at "n"
  refine ex1_cut fun PT hPT => ?_
  have done : ∀ f1, (if v = 0 ∧ a = 61 ∧ f < 0 then (t : Int) else f) = f1 → ∀ σ, SubL [V "place" (.int t), V "found" (.int f1), V "row" (.str x), V "levels" (.lst ((dep x).map .int))] σ → PT (.next σ []) := fun f1 h1 σ hσ =>
    hPT _ (after_next (second f1 h1 _ (fun σ h2 h3 => turnF_next ⟨f1, rfl, rfl, h3⟩ h2) (by refine turnF_ret (after_ret (retP_ret ?_)); rfl) σ hσ))
  clear second hPT
  refine ex_if ?_
  repeat walk_at "s"
  refine op_item_lst l1 l2 l3 ?_
  repeat walk_at "s"
  refine ⟨fun h => ?_, fun h => ?_⟩
  rotate_left
  · have h : ¬ v = 0 := by simpa using h
    repeat walk_at "s"
    refine done f (if_neg fun q => h q.1) _ (by walk_at "sub")
  have h0 : v = 0 := by simpa using h
  repeat walk_at "s"
  refine op_item_str s1 hx' ha ?_
  repeat walk_at "s"
  rw [eq1]
  refine ⟨fun h => ?_, fun h => ?_⟩
  rotate_left
  · have h : ¬ a = 61 := by simpa using h
    repeat walk_at "s"
    refine done f (if_neg fun q => h q.2.1) _ (by walk_at "sub")
  have ha61 : a = 61 := by simpa using h
  repeat walk_at "s"
  refine ⟨fun h => ?_, fun h => ?_⟩
  · have h : f < 0 := by simpa using h
    repeat walk_at "s"
    refine done t (if_pos ⟨h0, ha61, h⟩) _ (by walk_at "sub")
  · have h : ¬ f < 0 := by simpa using h
    repeat walk_at "s"
    refine done f (if_neg fun q => h q.2.2) _ (by walk_at "sub")

/-! is_do_head -/
theorem sl_u2 {α : Type} (l : List α) : sl l none (some 2) = l.take 2 := sl_upto l 2
noncomputable def doEnd (h : List Nat) : Nat := if (h.drop (dgEnd h 2)).take 1 = [44] then dgEnd h 2 + 1 else dgEnd h 2
noncomputable def isDo (h : List Nat) : Bool := if h.take 2 ≠ [68, 79] ∨ dgEnd h 2 = 2 then false else decide (nmEnd h (doEnd h) = h.length ∧ doEnd h < h.length)
theorem isDo_fn (G : Good c) (x : List Nat) (hx : x.length ≤ 100000) : Fn c (k + 2) 309 [.str x] (fun d => d = .bool (isDo x)) := by
  refine fn_own (fd := fd_is_do_head) (body := bodyOf (stAt 42)) G ["head"] (fun _ => rfl) (fun _ => rfl) rfl rfl rfl rfl (bind1 fun v => rfl) (by decide) (by decide) (fun L => ?_)
  conv => arg 6; whnf
  have eq1 : (Str.ofString "DO").cps.toList = [68, 79] := rfl
  have eq2 : (Str.ofString ",").cps.toList = [44] := rfl
  have hx' : x.length ≤ 10000000 := by omega
  repeat walk_at "s"
  refine (dgEnd_fn G x 2 hx).to ?_
  repeat walk_at "n"
  refine ex_if ?_
  repeat walk_at "s"
  rw [sl_u2, eq1]
  refine ⟨fun h => ?_, fun h => ?_⟩
  · have h : x.take 2 ≠ [68, 79] := by simpa using h
    repeat walk_at "s"
    unfold isDo; rw [if_pos (.inl h)]
  have h1 : ¬ x.take 2 ≠ [68, 79] := by simpa using h
  repeat walk_at "s"
  refine ⟨fun h => ?_, fun h => ?_⟩
  · have h : dgEnd x 2 = 2 := by have : (dgEnd x 2 : Int) = 2 := by simpa using h
                                 omega
    repeat walk_at "s"
    unfold isDo; rw [if_pos (.inr h)]
  have h2 : ¬ dgEnd x 2 = 2 := by
    have : ¬ (dgEnd x 2 : Int) = 2 := by simpa using h
    omega
  have hdo : isDo x = decide (nmEnd x (doEnd x) = x.length ∧ doEnd x < x.length) := by unfold isDo; rw [if_neg (by simp only [not_or]; exact ⟨h1, h2⟩)]
  have tail : ∀ σ, SubL [V "end" (.int (doEnd x)), V "head" (.str x)] σ → Ex c (k + 1) (callEnv fd_is_do_head L 309) σ [] ((bodyOf (stAt 42)).drop 3) (retP fun d => d = .bool (isDo x)) := by
    intro σ hσ
    refine ex_weaken hσ ?_
    conv => arg 6; whnf
    repeat walk_at "s"
    refine (nmEnd_fn G x (doEnd x) hx).to ?_
    repeat walk_at "s"
    refine ⟨fun h => ?_, fun h => ?_⟩
    · have h : nmEnd x (doEnd x) = x.length := by have : (nmEnd x (doEnd x) : Int) = x.length := by simpa using h
                                                  omega
      repeat walk_at "s"
      rw [hdo]; simp [h]
    · have h : ¬ nmEnd x (doEnd x) = x.length := by
        have : ¬ (nmEnd x (doEnd x) : Int) = x.length := by simpa using h
        omega
      repeat walk_at "s"
      rw [hdo]; simp [h]
  repeat walk_at "n"
  refine ex1_cut fun PT hPT => ?_
  have done : ∀ σ, SubL [V "end" (.int (doEnd x)), V "head" (.str x)] σ → PT (.next σ []) := fun σ hσ => hPT _ (after_next (tail σ hσ))
  clear tail hPT
  refine ex_if ?_
  repeat walk_at "s"
  rw [sl_one x (dgEnd x 2) (dgEnd x 2) ((dgEnd x 2 : Int) + 1) rfl (by omega), eq2]
  refine ⟨fun h => ?_, fun h => ?_⟩
  · have h : (x.drop (dgEnd x 2)).take 1 = [44] := by simpa using h
    have e : ((doEnd x : Nat) : Int) = (dgEnd x 2 : Int) + 1 := by unfold doEnd; rw [if_pos h]; omega
    rw [e] at done
    repeat walk_at "s"
    exact done _ (by walk_at "sub")
  · have h : ¬ (x.drop (dgEnd x 2)).take 1 = [44] := by simpa using h
    have e : ((doEnd x : Nat) : Int) = (dgEnd x 2 : Int) := by unfold doEnd; rw [if_neg h]
    rw [e] at done
    repeat walk_at "s"
    exact done _ (by walk_at "sub")
end
end
section
set_option maxRecDepth 10000
set_option maxHeartbeats 2000000

section
variable {c : Cx} {k : Nat} {env : Env} {σ : Loc}
theorem s_gval (G : Good c) {f : Str} {pos : Pos} {d : D} {v : Value} {P : D → Prop} (hk : env.kindOf f = some .globalImplicit) (hg : nsIn (KW c.w.params) mainGlobals f = some (some v)) (hd : (f == ("__debug__" : Str)) = false) (hr : Rep (fun a => (KW c.w.params).lookup a) d v) (hp : P d) : Ev c k env σ (.Name f pos) P :=
  ev_gval hk (G.gm _ _ hg) (by rw [G.k]; exact hr) hp hd
theorem rep_pair {g : Mem} {a : Addr} {s1 s2 : Str} {t1 t2 : Tok} (h : g a = some { cls := .type "tuple", data := .seq #[.str s1 t1, .str s2 t2] 0 }) : Rep g (.tup [.str s1.cps.toList, .str s2.cps.toList]) (.ref a) := by
  simp only [Rep]
  exact ⟨a, _, [.str s1 t1, .str s2 t2], 0, rfl, h, rfl, rfl, RepL.cons (repS rfl) (RepL.cons (repS rfl) RepL.nil)⟩
noncomputable def pairD (p : String × String) : D := .tup [.str (lit p.1), .str (lit p.2)]
noncomputable def wholeL : List (String × String) := [("ELSE", "else"), ("ENDIF", "endif"), ("END", "end"), ("CONTINUE", "continue")]
noncomputable def typesL : List (String × String) := [("INTEGER", "integer"), ("REAL", "real"), ("DOUBLEPRECISION", "doubleprecision"), ("COMPLEX", "complex"), ("LOGICAL", "logical"), ("CHARACTER", "character")]
noncomputable def beginsL : List (String × String) := [("FORMAT(", "format"), ("CALL", "call"), ("RETURN", "return"), ("STOP", "stop"), ("PAUSE", "pause"), ("READ", "read"), ("WRITE(", "write"), ("PRINT", "print"), ("OPEN(", "open"), ("CLOSE(", "close"), ("INQUIRE(", "inquire"), ("BACKSPACE", "backspace"), ("REWIND", "rewind"), ("ENDFILE", "endfile"), ("IMPLICIT", "implicit"), ("PARAMETER(", "parameter"), ("DIMENSION", "dimension"), ("COMMON", "common"), ("EQUIVALENCE(", "equivalence"), ("EXTERNAL", "external"), ("INTRINSIC", "intrinsic"), ("SAVE", "save"), ("DATA", "data"), ("PROGRAM", "program"), ("SUBROUTINE", "subroutine"), ("FUNCTION", "function"), ("BLOCKDATA", "blockdata"), ("ENTRY", "entry")]
theorem rep_whole (P : Params) : Rep (fun a => (KW P).lookup a) (.lst (wholeL.map pairD)) (.ref 231) := by
  simp only [Rep]
  refine ⟨231, [.ref 227, .ref 228, .ref 229, .ref 230], 0, rfl, rfl, ?_⟩
  repeat (first | exact RepL.nil | refine RepL.cons (rep_pair rfl) ?_)
theorem rep_types (P : Params) : Rep (fun a => (KW P).lookup a) (.lst (typesL.map pairD)) (.ref 238) := by
  simp only [Rep]
  refine ⟨238, [.ref 232, .ref 233, .ref 234, .ref 235, .ref 236, .ref 237], 0, rfl, rfl, ?_⟩
  repeat (first | exact RepL.nil | refine RepL.cons (rep_pair rfl) ?_)
theorem rep_begins (P : Params) : Rep (fun a => (KW P).lookup a) (.lst (beginsL.map pairD)) (.ref 267) := by
  simp only [Rep]
  refine ⟨267, [.ref 239, .ref 240, .ref 241, .ref 242, .ref 243, .ref 244, .ref 245, .ref 246, .ref 247, .ref 248, .ref 249, .ref 250, .ref 251, .ref 252, .ref 253, .ref 254, .ref 255, .ref 256, .ref 257, .ref 258, .ref 259, .ref 260, .ref 261, .ref 262, .ref 263, .ref 264, .ref 265, .ref 266], 0, rfl, rfl, ?_⟩
  repeat (first | exact RepL.nil | refine RepL.cons (rep_pair rfl) ?_)

theorem drop_cons' {α : Type} {x : List α} {j : Nat} {a : α} (h : x[j]? = some a) : x.drop j = a :: x.drop (j + 1) := by
  obtain ⟨hj, e⟩ := List.getElem?_eq_some_iff.mp h
  rw [List.drop_eq_getElem_cons hj, e]
theorem sl_fromI {α : Type} (l : List α) (e : Int) (h : 0 ≤ e) : sl l (some e) none = l.drop e.toNat := by
  have : e = (e.toNat : Int) := by omega
  rw [this, sl_from]; rfl
theorem sl_litto {α : Type} (l : List α) (n : Nat) : sl l none (some (OfNat.ofNat n)) = l.take n := sl_upto l n

noncomputable def stmtBody (s : Stmt) : List Stmt := match s with | .If _ b _ _ => b | _ => []
/-! word_of_if -/
noncomputable def restIf (x : List Nat) (i : Nat) : List Nat := x.drop (clo x i + 1).toNat
noncomputable def wIf (x : List Nat) : List Nat := if restIf x 2 = lit "THEN" then lit "if" else match restIf x 2 with | [] => lit "" | a :: _ => if dgt a = true then lit "aif" else lit "lif"
theorem wIf_fn (G : Good c) (x : List Nat) (hx : x.length ≤ 100000) : Fn c (k + 3) 316 [.str x] (fun d => d = .str (wIf x)) := by
  refine fn_own (fd := fd_word_of_if) (body := bodyOf (stAt 43)) G ["row"] (fun _ => rfl) (fun _ => rfl) rfl rfl rfl rfl (bind1 fun v => rfl) (by decide) (by decide) (fun L => ?_)
  conv => arg 6; whnf
  have hx' : x.length ≤ 10000000 := by omega
  have hb := clo_bound x 2
  have hrl : (restIf x 2).length ≤ 10000000 := by unfold restIf; simp; omega
  repeat walk_at "s"
  refine (clo_fn G x 2 hx (by omega)).to ?_
  repeat walk_at "s"
  rw [sl_fromI _ _ (by omega), show x.drop (clo x 2 + 1).toNat = restIf x 2 from rfl]
  refine ⟨fun h => ?_, fun h => ?_⟩
  · repeat walk_at "s"
    unfold wIf; rw [if_pos (of_decide_eq_true h)]
  have h1 := of_decide_eq_false h
  repeat walk_at "s"
  have hw : wIf x = match restIf x 2 with | [] => lit "" | a :: _ => if dgt a = true then lit "aif" else lit "lif" := by unfold wIf; rw [if_neg h1]
  generalize restIf x 2 = r at *
  cases r with
  | nil =>
    refine ⟨fun h => ?_, fun h => ?_⟩
    · repeat walk_at "s"
      rw [hw]
    · exact absurd rfl (of_decide_eq_false h)
  | cons a r =>
    refine ⟨fun h => ?_, fun h => ?_⟩
    · exact absurd (of_decide_eq_true h) (List.cons_ne_nil _ _)
    repeat walk_at "s"
    refine op_item_str (a := a) ⟨by omega, by simp⟩ hrl rfl ?_
    repeat walk_at "s"
    rw [dig_in]
    refine ⟨fun h => ?_, fun h => ?_⟩
    · repeat walk_at "s"
      rw [hw]; dsimp only; rw [if_pos h]
    · repeat walk_at "s"
      rw [hw]; dsimp only; rw [if_neg (by simp [h])]

/-! word_of_goto -/
noncomputable def wGoto (x : List Nat) : List Nat := if (x.drop 4).take 1 = lit "(" then lit "cgoto" else if (x.drop 4).take 1 ≠ lit "" ∧ dgEnd x 4 = x.length then lit "goto" else if nmEnd x 4 > 4 then lit "agoto" else lit ""
theorem wGoto_fn (G : Good c) (x : List Nat) (hx : x.length ≤ 100000) : Fn c (k + 3) 323 [.str x] (fun d => d = .str (wGoto x)) := by
  refine fn_own (fd := fd_word_of_goto) (body := bodyOf (stAt 44)) G ["row"] (fun _ => rfl) (fun _ => rfl) rfl rfl rfl rfl (bind1 fun v => rfl) (by decide) (by decide) (fun L => ?_)
  conv => arg 6; whnf
  have hx' : x.length ≤ 10000000 := by omega
  have e45 : sl x (some 4) (some 5) = (x.drop 4).take 1 := sl_one x 4 4 5 rfl rfl
  have last : ¬ (x.drop 4).take 1 = lit "(" → ¬ ((x.drop 4).take 1 ≠ lit "" ∧ dgEnd x 4 = x.length) → ∀ σ, SubL [V "row" (.str x)] σ → Ex c (k + 2) (callEnv fd_word_of_goto L 323) σ [] ((bodyOf (stAt 44)).drop 2) (retP fun d => d = .str (wGoto x)) := by
    intro h1 h2 σ hσ
    refine ex_weaken hσ ?_
    conv => arg 6; whnf
    repeat walk_at "s"
    refine (nmEnd_fn G x 4 hx).to ?_
    repeat walk_at "s"
    refine ⟨fun h => ?_, fun h => ?_⟩
    · have h : nmEnd x 4 > 4 := by have : (nmEnd x 4 : Int) > 4 := by simpa using h
                                   omega
      repeat walk_at "s"
      unfold wGoto; rw [if_neg h1, if_neg h2, if_pos h]
    · have h : ¬ nmEnd x 4 > 4 := by
        have : ¬ (nmEnd x 4 : Int) > 4 := by simpa using h
        omega
      repeat walk_at "s"
      unfold wGoto; rw [if_neg h1, if_neg h2, if_neg h]
  repeat walk_at "s"
  rw [e45]
  refine ⟨fun h => ?_, fun h => ?_⟩
  · repeat walk_at "s"
    unfold wGoto; rw [if_pos (of_decide_eq_true h)]
  have h1 := of_decide_eq_false h
  repeat walk_at "s"
  rw [e45]
  refine ⟨fun h => ?_, fun h => ?_⟩
  rotate_left
  · exact tf_false (ex_nil (after_next (last h1 (fun q => by have := of_decide_eq_false h; exact this q.1) _ (by walk_at "sub"))))
  have h2 := of_decide_eq_true h
  repeat walk_at "s"
  refine (dgEnd_fn G x 4 hx).to ?_
  repeat walk_at "s"
  refine ⟨fun h => ?_, fun h => ?_⟩
  · have h : dgEnd x 4 = x.length := by have : (dgEnd x 4 : Int) = x.length := by simpa using h
                                        omega
    repeat walk_at "s"
    unfold wGoto; rw [if_neg h1, if_pos ⟨h2, h⟩]
  · have h : ¬ dgEnd x 4 = x.length := by
      have : ¬ (dgEnd x 4 : Int) = x.length := by simpa using h
      omega
    exact tf_false (ex_nil (after_next (last h1 (fun q => h q.2) _ (by walk_at "sub"))))
end
end
section
set_option maxRecDepth 10000
set_option maxHeartbeats 4000000

section
variable {c : Cx} {k : Nat} {env : Env} {σ : Loc}
/-- the first of a list that fits -/
noncomputable def fwd (q : String × String → Bool) (f : String × String → List Nat) (z : List Nat) : List (String × String) → List Nat
  | [] => z
  | p :: r => if q p = true then f p else fwd q f z r
/-! word_of_type -/
noncomputable def wtAt (x : List Nat) (p : String × String) : Nat :=
  if lit p.2 = lit "character" ∧ (x.drop (lit p.1).length).take 1 = lit "*" then
    (if (x.drop (dgEnd x ((lit p.1).length + 1))).take 1 = lit "(" then (clo x (dgEnd x ((lit p.1).length + 1)) + 1).toNat else dgEnd x ((lit p.1).length + 1))
  else (lit p.1).length
noncomputable def wtF (x : List Nat) (p : String × String) : List Nat :=
  if (x.drop (wtAt x p)).take 8 = lit "FUNCTION" then
    (if nmEnd x (wtAt x p + 8) > wtAt x p + 8 ∧ (x.drop (nmEnd x (wtAt x p + 8))).take 1 = lit "(" then lit "function" else lit p.2)
  else lit p.2
noncomputable def wType (x : List Nat) : List Nat := fwd (fun p => decide (x.take (lit p.1).length = lit p.1)) (wtF x) (lit "") typesL
theorem types_short : ∀ p ∈ typesL, (lit p.1).length ≤ 100 := by decide
theorem dgEnd_le (x : List Nat) (i : Nat) (h : i ≤ x.length + 1) : dgEnd x i ≤ x.length + 1 := by
  unfold dgEnd
  have := tw_le (p := dgt) (x.drop i)
  simp only [List.length_drop] at this
  omega
theorem sl_off {α : Type} (l : List α) (a b : Int) (i n : Nat) (h : a = i) (h' : b = ((i + n : Nat) : Int)) : sl l (some a) (some b) = (l.drop i).take n := by
  subst h; subst h'
  rw [sl_mid, Nat.add_sub_cancel_left]
theorem wType_fn (G : Good c) (x : List Nat) (hx : x.length ≤ 10000) : Fn c (k + 3) 330 [.str x] (fun d => d = .str (wType x)) := by
  refine fn_own (fd := fd_word_of_type) (body := bodyOf (stAt 45)) G ["row"] (fun _ => rfl) (fun _ => rfl) rfl rfl rfl rfl (bind1 fun v => rfl) (by decide) (by decide) (fun L => ?_)
  conv => arg 6; whnf
  have hx' : x.length ≤ 10000000 := by omega
  have hx'' : x.length ≤ 100000 := by omega
  repeat walk_at "s"
  refine ex_for (PI := fun items => items = typesL.map pairD) (itera_list ?_).iterP ?_
  · exact s_gval G rfl rfl rfl (rep_types _) ⟨_, .inl rfl, rfl⟩
  rintro _ rfl
  refine ⟨fun (j : Nat) (σ : Loc) (ω : Own) => σ = [V "row" (.str x)] ∧ ω = [] ∧ fwd (fun p => decide (x.take (lit p.1).length = lit p.1)) (wtF x) (lit "") (typesL.drop j) = wType x, again_mk ⟨rfl, rfl, rfl⟩ (by walk_at "sub"), ?_, ?_⟩
  rotate_left
  · rintro σ ω ⟨rfl, rfl, h⟩
    rw [List.length_map, List.drop_length] at h
    repeat walk_at "s"
    rw [← h]; rfl
  rintro j d σ ω hd ⟨rfl, rfl, h0⟩
  rw [List.getElem?_map] at hd
  obtain ⟨p, hp, rfl⟩ := Option.map_eq_some_iff.mp hd
  have hpl := types_short p (List.mem_of_getElem? hp)
  rw [drop_cons' hp, fwd] at h0
  have hpl' : (lit p.1).length ≤ 10000000 := by omega
  unfold pairD
  repeat walk_at "s"
  rw [sl_upto]
  refine ⟨fun h => ?_, fun h => ?_⟩
  rotate_left
  · rw [if_neg (by rw [h]; decide)] at h0
    repeat walk_at "s"
    exact turnF_next ⟨rfl, rfl, h0⟩ (by walk_at "sub")
  rw [if_pos h] at h0
  -- behind the length
  have tail : ∀ σ (PO : Out → Prop), PO (.ret (.str (wtF x p))) → SubL [V "at" (.int (wtAt x p)), V "word" (.str (lit p.2)), V "row" (.str x)] σ → Ex c (k + 2) (callEnv fd_word_of_type L 330) σ [] ((stmtBody (stmtAt (loopBody (stmtAt (bodyOf (stAt 45)) 0)) 0)).drop 2) PO := by
    intro σ PO hPO hσ
    refine ex_weaken hσ ?_
    conv => arg 6; whnf
    have lastR : ¬ ((x.drop (wtAt x p)).take 8 = lit "FUNCTION" ∧ nmEnd x (wtAt x p + 8) > wtAt x p + 8 ∧ (x.drop (nmEnd x (wtAt x p + 8))).take 1 = lit "(") → PO (.ret (.str (lit p.2))) := fun q => by
      unfold wtF at hPO
      split at hPO
      · rename_i q1
        rw [if_neg (fun q2 => q ⟨q1, q2⟩)] at hPO; exact hPO
      · exact hPO
    repeat walk_at "s"
    rw [sl_off x (wtAt x p) ((wtAt x p : Int) + 8) (wtAt x p) 8 rfl (by omega)]
    refine ⟨fun h => ?_, fun h => ?_⟩
    rotate_left
    · repeat walk_at "s"
      exact lastR fun q => of_decide_eq_false h q.1
    have h1 := of_decide_eq_true h
    repeat walk_at "s"
    have e8 : (wtAt x p : Int) + 8 = ((wtAt x p + 8 : Nat) : Int) := by omega
    rw [e8]
    refine (nmEnd_fn G x (wtAt x p + 8) hx'').to ?_
    repeat walk_at "s"
    refine ⟨fun h => ?_, fun h => ?_⟩
    rotate_left
    · repeat walk_at "s"
      exact lastR fun q => by
        have := of_decide_eq_false h
        omega
    have h2 : nmEnd x (wtAt x p + 8) > wtAt x p + 8 := by have := of_decide_eq_true h; omega
    repeat walk_at "s"
    rw [sl_one x _ (nmEnd x (wtAt x p + 8)) ((nmEnd x (wtAt x p + 8) : Int) + 1) rfl (by omega)]
    refine ⟨fun h => ?_, fun h => ?_⟩
    · repeat walk_at "s"
      have h3 := of_decide_eq_true h
      unfold wtF at hPO
      rw [if_pos h1, if_pos ⟨h2, h3⟩] at hPO
      exact hPO
    · repeat walk_at "s"
      exact lastR fun q => of_decide_eq_false h q.2.2
  repeat walk_at "n"
  refine ex1_cut fun PT hPT => ?_
  have done : ∀ (n : Nat), wtAt x p = n → ∀ σ, SubL [V "at" (.int n), V "word" (.str (lit p.2)), V "row" (.str x)] σ → PT (.next σ []) := fun n e σ hσ => by
    subst e
    refine hPT _ (after_next (tail σ _ (after_ret (turnF_ret (after_ret (retP_ret ?_)))) hσ))
    rw [h0]
  clear tail hPT
  refine ex_if ?_
  repeat walk_at "s"
  refine ⟨fun h => ?_, fun h => ?_⟩
  rotate_left
  · repeat walk_at "s"
    refine done _ (by unfold wtAt; rw [if_neg fun q => of_decide_eq_false h q.1]) _ (by walk_at "sub")
  have h1 := of_decide_eq_true h
  repeat walk_at "s"
  rw [sl_one x (lit p.1).length (lit p.1).length (((lit p.1).length : Int) + 1) rfl (by omega)]
  refine ⟨fun h => ?_, fun h => ?_⟩
  rotate_left
  · repeat walk_at "s"
    refine done _ (by unfold wtAt; rw [if_neg fun q => of_decide_eq_false h q.2]) _ (by walk_at "sub")
  have h2 := of_decide_eq_true h
  repeat walk_at "s"
  have e1 : ((lit p.1).length : Int) + 1 = (((lit p.1).length + 1 : Nat) : Int) := by omega
  rw [e1]
  refine (dgEnd_fn G x _ hx'').to ?_
  repeat walk_at "s"
  rw [sl_one x _ (dgEnd x ((lit p.1).length + 1)) ((dgEnd x ((lit p.1).length + 1) : Int) + 1) rfl (by omega)]
  have hw : wtAt x p = if (x.drop (dgEnd x ((lit p.1).length + 1))).take 1 = lit "(" then (clo x (dgEnd x ((lit p.1).length + 1)) + 1).toNat else dgEnd x ((lit p.1).length + 1) := by unfold wtAt; rw [if_pos ⟨h1, h2⟩]
  refine ⟨fun h => ?_, fun h => ?_⟩
  rotate_left
  · repeat walk_at "s"
    refine done _ (by rw [hw, if_neg (of_decide_eq_false h)]) _ (by walk_at "sub")
  repeat walk_at "s"
  have hdl : dgEnd x ((lit p.1).length + 1) ≤ 100000 := by
    unfold dgEnd
    have := tw_le (p := dgt) (x.drop ((lit p.1).length + 1))
    simp only [List.length_drop] at this
    omega
  refine (clo_fn G x _ hx'' hdl).to ?_
  repeat walk_at "s"
  have hc := clo_bound x (dgEnd x ((lit p.1).length + 1))
  have e2 : clo x (dgEnd x ((lit p.1).length + 1)) + 1 = ((clo x (dgEnd x ((lit p.1).length + 1)) + 1).toNat : Int) := by omega
  rw [e2]
  refine done _ (by rw [hw, if_pos (of_decide_eq_true h)]) _ (by walk_at "sub")
end
end
section
set_option maxRecDepth 10000
set_option maxHeartbeats 4000000

section
variable {c : Cx} {k : Nat} {env : Env} {σ : Loc}
noncomputable def preB (x : List Nat) (p : String × String) : Bool := decide (x.take (lit p.1).length = lit p.1)
noncomputable def wBeg3 (x : List Nat) : List Nat := fwd (preB x) (fun p => lit p.2) (wType x) beginsL
noncomputable def wBeg2 (x : List Nat) : List Nat :=
  if x.take 3 = lit "IF(" then wIf x
  else if x.take 7 = lit "ELSEIF(" then (if restIf x 6 = lit "THEN" then lit "elseif" else lit "")
  else if x.take 4 = lit "GOTO" then wGoto x
  else if x.take 6 = lit "ASSIGN" ∧ dgEnd x 6 > 6 then lit "setlabel"
  else wBeg3 x
noncomputable def wBeg (x : List Nat) : List Nat := fwd (fun p => decide (x = lit p.1)) (fun p => lit p.2) (wBeg2 x) wholeL
theorem begins_short : ∀ p ∈ beginsL, (lit p.1).length ≤ 100 := by decide
theorem sl_u3 {α : Type} (l : List α) : sl l none (some 3) = l.take 3 := sl_upto l 3
theorem sl_u4 {α : Type} (l : List α) : sl l none (some 4) = l.take 4 := sl_upto l 4
theorem sl_u6 {α : Type} (l : List α) : sl l none (some 6) = l.take 6 := sl_upto l 6
theorem sl_u7 {α : Type} (l : List α) : sl l none (some 7) = l.take 7 := sl_upto l 7
theorem wBeg_fn (G : Good c) (x : List Nat) (hx : x.length ≤ 10000) : Fn c (k + 4) 337 [.str x] (fun d => d = .str (wBeg x)) := by
  refine fn_own (fd := fd_word_by_begin) (body := bodyOf (stAt 46)) G ["row"] (fun _ => rfl) (fun _ => rfl) rfl rfl rfl rfl (bind1 fun v => rfl) (by decide) (by decide) (fun L => ?_)
  conv => arg 6; whnf
  have hx' : x.length ≤ 10000000 := by omega
  have hx'' : x.length ≤ 100000 := by omega
  -- the last loop
  have three : wBeg3 x = wBeg x → ∀ σ, SubL [V "row" (.str x)] σ → Ex c (k + 3) (callEnv fd_word_by_begin L 337) σ [] ((bodyOf (stAt 46)).drop 5) (retP fun d => d = .str (wBeg x)) := by
    intro hz σ hσ
    refine ex_weaken hσ ?_
    conv => arg 6; whnf
    refine ex_cons (ex_for (PI := fun items => items = beginsL.map pairD) (itera_list ?_).iterP ?_)
    · exact s_gval G rfl rfl rfl (rep_begins _) ⟨_, .inl rfl, rfl⟩
    rintro _ rfl
    refine ⟨fun (j : Nat) (σ : Loc) (ω : Own) => σ = [V "row" (.str x)] ∧ ω = [] ∧ fwd (preB x) (fun p => lit p.2) (wType x) (beginsL.drop j) = wBeg x, again_mk ⟨rfl, rfl, hz⟩ (by walk_at "sub"), ?_, ?_⟩
    · rintro j d σ ω hd ⟨rfl, rfl, h0⟩
      rw [List.getElem?_map] at hd
      obtain ⟨p, hp, rfl⟩ := Option.map_eq_some_iff.mp hd
      have hpl := begins_short p (List.mem_of_getElem? hp)
      have hpl' : (lit p.1).length ≤ 10000000 := by omega
      rw [drop_cons' hp, fwd] at h0
      unfold pairD
      repeat walk_at "s"
      rw [sl_upto]
      refine ⟨fun h => ?_, fun h => ?_⟩
      · rw [if_pos (show preB x p = true from h)] at h0
        repeat walk_at "s"
        rw [h0]
      · rw [if_neg (by unfold preB; rw [h]; decide)] at h0
        repeat walk_at "s"
        exact turnF_next ⟨rfl, rfl, h0⟩ (by walk_at "sub")
    · rintro σ ω ⟨rfl, rfl, h⟩
      rw [List.length_map, List.drop_length, fwd] at h
      repeat walk_at "s"
      refine (wType_fn G x hx).to ?_
      repeat walk_at "s"
      rw [h]
  -- the middle
  have two : wBeg2 x = wBeg x → ∀ σ, SubL [V "row" (.str x)] σ → Ex c (k + 3) (callEnv fd_word_by_begin L 337) σ [] ((bodyOf (stAt 46)).drop 1) (retP fun d => d = .str (wBeg x)) := by
    intro hz σ hσ
    refine ex_weaken hσ ?_
    unfold wBeg2 at hz
    conv => arg 6; whnf
    repeat walk_at "s"
    rw [sl_u3]
    refine ⟨fun h => ?_, fun h => ?_⟩
    · rw [if_pos (of_decide_eq_true h)] at hz
      repeat walk_at "s"
      refine (wIf_fn G x hx'').to ?_
      repeat walk_at "s"
      rw [hz]
    rw [if_neg (of_decide_eq_false h)] at hz
    repeat walk_at "s"
    rw [sl_u7]
    refine ⟨fun h => ?_, fun h => ?_⟩
    · rw [if_pos (of_decide_eq_true h)] at hz
      have hb := clo_bound x 6
      repeat walk_at "s"
      refine (clo_fn G x 6 hx'' (by omega)).to ?_
      repeat walk_at "s"
      rw [sl_fromI _ _ (by omega), show x.drop (clo x 6 + 1).toNat = restIf x 6 from rfl]
      refine ⟨fun h => ?_, fun h => ?_⟩
      · rw [if_pos (of_decide_eq_true h)] at hz
        repeat walk_at "s"
        rw [← hz]
      · rw [if_neg (of_decide_eq_false h)] at hz
        repeat walk_at "s"
        rw [← hz]
    rw [if_neg (of_decide_eq_false h)] at hz
    repeat walk_at "s"
    rw [sl_u4]
    refine ⟨fun h => ?_, fun h => ?_⟩
    · rw [if_pos (of_decide_eq_true h)] at hz
      repeat walk_at "s"
      refine (wGoto_fn G x hx'').to ?_
      repeat walk_at "s"
      rw [hz]
    rw [if_neg (of_decide_eq_false h)] at hz
    repeat walk_at "s"
    rw [sl_u6]
    refine ⟨fun h => ?_, fun h => ?_⟩
    rotate_left
    · rw [if_neg fun q => of_decide_eq_false h q.1] at hz
      exact tf_false (ex_nil (after_next (three hz _ (by walk_at "sub"))))
    have h1 := of_decide_eq_true h
    repeat walk_at "s"
    refine (dgEnd_fn G x 6 hx'').to ?_
    repeat walk_at "s"
    refine ⟨fun h => ?_, fun h => ?_⟩
    · have h2 : dgEnd x 6 > 6 := by have := of_decide_eq_true h; omega
      rw [if_pos ⟨h1, h2⟩] at hz
      repeat walk_at "s"
      rw [← hz]
    · have h2 : ¬ dgEnd x 6 > 6 := by have := of_decide_eq_false h; omega
      rw [if_neg fun q => h2 q.2] at hz
      exact tf_false (ex_nil (after_next (three hz _ (by walk_at "sub"))))
  refine ex_cons (ex_for (PI := fun items => items = wholeL.map pairD) (itera_list ?_).iterP ?_)
  · exact s_gval G rfl rfl rfl (rep_whole _) ⟨_, .inl rfl, rfl⟩
  rintro _ rfl
  refine ⟨fun (j : Nat) (σ : Loc) (ω : Own) => σ = [V "row" (.str x)] ∧ ω = [] ∧ fwd (fun p => decide (x = lit p.1)) (fun p => lit p.2) (wBeg2 x) (wholeL.drop j) = wBeg x, again_mk ⟨rfl, rfl, rfl⟩ (by walk_at "sub"), ?_, ?_⟩
  · rintro j d σ ω hd ⟨rfl, rfl, h0⟩
    rw [List.getElem?_map] at hd
    obtain ⟨p, hp, rfl⟩ := Option.map_eq_some_iff.mp hd
    rw [drop_cons' hp, fwd] at h0
    unfold pairD
    repeat walk_at "s"
    refine ⟨fun h => ?_, fun h => ?_⟩
    · rw [if_pos h] at h0
      repeat walk_at "s"
      rw [h0]
    · rw [if_neg (by rw [h]; decide)] at h0
      repeat walk_at "s"
      exact turnF_next ⟨rfl, rfl, h0⟩ (by walk_at "sub")
  · rintro σ ω ⟨rfl, rfl, h⟩
    rw [List.length_map, List.drop_length, fwd] at h
    exact after_next (two h _ (by walk_at "sub"))

/-! classify -/
noncomputable def clsf (x : List Nat) : List Nat :=
  if isBal x = false then lit ""
  else if (eqAt x).1 < 0 then wBeg x
  else if (eqAt x).2 = true then (if isDo (x.take (eqAt x).1.toNat) = true then lit "do" else lit "")
  else if isTgt (x.take (eqAt x).1.toNat) = true then lit "assign"
  else if x.take 3 = lit "IF(" ∧ isTgt ((x.drop (clo x 2 + 1).toNat).take ((eqAt x).1.toNat - (clo x 2 + 1).toNat)) = true then lit "lif"
  else lit ""
theorem clsf_fn (G : Good c) (x : List Nat) (hx : x.length ≤ 10000) : Fn c (k + 5) 344 [.str x] (fun d => d = .str (clsf x)) := by
  refine fn_own (fd := fd_classify) (body := bodyOf (stAt 47)) G ["row"] (fun _ => rfl) (fun _ => rfl) rfl rfl rfl rfl (bind1 fun v => rfl) (by decide) (by decide) (fun L => ?_)
  conv => arg 6; whnf
  have hx' : x.length ≤ 10000000 := by omega
  have hx'' : x.length ≤ 100000 := by omega
  have hc : clsf x = clsf x := rfl
  conv at hc => lhs; unfold clsf
  refine ex_cons (s_assignL rfl rfl ?_)
  repeat walk_at "s"
  refine (dep_fn G x hx'').to (after_next ?_)
  repeat walk_at "s"
  refine (isBal_fn G x hx'').to ?_
  repeat walk_at "s"
  refine ⟨fun h => ?_, fun h => ?_⟩
  · rw [if_pos (by simpa using h)] at hc
    repeat walk_at "s"
    rw [← hc]
  rw [if_neg (by simpa using h)] at hc
  repeat walk_at "s"
  refine (eqAt_fn G x hx'').to ?_
  repeat walk_at "s"
  have he := eqAt_bound x
  refine ⟨fun h => ?_, fun h => ?_⟩
  · rw [if_pos (of_decide_eq_true h)] at hc
    repeat walk_at "s"
    refine (wBeg_fn G x hx).to ?_
    repeat walk_at "s"
    rw [hc]
  have h0 := of_decide_eq_false h
  rw [if_neg h0] at hc
  have en : (eqAt x).1 = ((eqAt x).1.toNat : Int) := by omega
  generalize (eqAt x).1.toNat = n at en hc
  rw [en]
  have htl : (x.take n).length ≤ 100000 := by simp; omega
  repeat walk_at "s"
  refine ⟨fun h => ?_, fun h => ?_⟩
  · rw [if_pos h] at hc
    repeat walk_at "s"
    rw [sl_upto]
    refine (isDo_fn G (x.take n) htl).to ?_
    repeat walk_at "s"
    refine ⟨fun h => ?_, fun h => ?_⟩
    · rw [if_pos h] at hc
      repeat walk_at "s"
      rw [← hc]
    · rw [if_neg (by simp [h])] at hc
      repeat walk_at "s"
      rw [← hc]
  rw [if_neg (by simp [h])] at hc
  repeat walk_at "s"
  rw [sl_upto]
  refine (isTgt_fn G (x.take n) htl).to ?_
  repeat walk_at "s"
  refine ⟨fun h => ?_, fun h => ?_⟩
  · rw [if_pos h] at hc
    repeat walk_at "s"
    rw [← hc]
  rw [if_neg (by simp [h])] at hc
  repeat walk_at "s"
  rw [sl_u3]
  refine ⟨fun h => ?_, fun h => ?_⟩
  rotate_left
  · rw [if_neg fun q => of_decide_eq_false h q.1] at hc
    repeat walk_at "s"
    rw [← hc]
  have h3 := of_decide_eq_true h
  have hb := clo_bound x 2
  repeat walk_at "s"
  refine (clo_fn G x 2 hx'' (by omega)).to ?_
  repeat walk_at "s"
  rw [show clo x 2 + 1 = ((clo x 2 + 1).toNat : Int) by omega, sl_mid]
  refine (isTgt_fn G _ (by simp; omega)).to ?_
  repeat walk_at "s"
  refine ⟨fun h => ?_, fun h => ?_⟩
  · rw [if_pos ⟨h3, h⟩] at hc
    repeat walk_at "s"
    rw [← hc]
  · rw [if_neg fun q => by rw [h] at q; exact Bool.false_ne_true q.2] at hc
    repeat walk_at "s"
    rw [← hc]
end
end
section
set_option maxRecDepth 10000
set_option maxHeartbeats 4000000
section
variable {c : Cx} {k : Nat} {env : Env} {σ : Loc}
/-! objects -/
theorem RepF.find {g : Mem} {name : Str} {d' : D} : ∀ {l : List D} {xs : List Str} {es : List DictEntry}, RepF g l xs es → (xs.zip l).lookup name = some d' → ∃ e, es.find? (·.key.isStr name) = some e ∧ Rep g d' e.val
  | [], _, _, h, q => by
    simp only [RepF] at h
    obtain ⟨rfl, rfl⟩ := h
    cases q
  | d :: l, _, _, h, q => by
    simp only [RepF] at h
    obtain ⟨x, xr, e, er, rfl, rfl, ⟨t, hk⟩, hd, hr⟩ := h
    rw [List.zip_cons_cons, List.lookup_cons] at q
    by_cases hx : (name == x) = true
    · simp only [hx] at q
      cases q
      refine ⟨e, ?_, hd⟩
      have : e.key.isStr name = true := by
        rw [hk]
        show (x == name) = true
        rw [beq_iff_eq] at hx ⊢
        exact hx.symm
      rw [List.find?_cons, this]
    · simp only [hx] at q
      obtain ⟨e', h1, h2⟩ := hr.find q
      refine ⟨e', ?_, h2⟩
      have : e.key.isStr name = false := by
        rw [hk]
        show (x == name) = false
        rw [beq_eq_false_iff_ne]
        rintro rfl
        exact hx (by simp)
      rw [List.find?_cons, this]; exact h1
noncomputable def readsOwn (K : Frag) (C : Addr) (name : Str) : Bool := plainGet K C name && hasDictIn K C && (match findIn K (.ref C) name with | some a => noGet K a | none => false)
theorem card_line (P : Params) : readsOwn (KW P) 89 "line" = true := by kernel_rfl
theorem card_label (P : Params) : readsOwn (KW P) 89 "label" = true := by kernel_rfl
theorem card_mark (P : Params) : readsOwn (KW P) 89 "mark" = true := by kernel_rfl
theorem card_body (P : Params) : readsOwn (KW P) 89 "body" = true := by kernel_rfl
theorem lim_columns (P : Params) : readsOwn (KW P) 362 "columns" = true := by kernel_rfl
theorem lim_continuations (P : Params) : readsOwn (KW P) 362 "continuations" = true := by kernel_rfl
theorem s_attr (G : Good c) {value : Expr} {attr : Str} {pos : Pos} {C : Addr} {P : D → Prop} (hC : ∀ P, readsOwn (KW P) C attr = true)
    (he : eval (.Attribute value attr pos) env = (do
      let o ← eval value env
      standAt pos.atName
      let r ← holding [o] (getAttr o attr true)
      letTemporaryGo value o r
      pure r))
    (h : Ev c k env σ value fun d => ∃ xs l d', d = .obj C xs l ∧ (xs.zip l).lookup attr = some d' ∧ ((∃ x, d' = .str x) ∨ ∃ i, d' = .int i) ∧ P d') : Ev c k env σ (.Attribute value attr pos) P := by
  intro A s H E Q a hq
  refine Attribute_any_ (h A s H E _ a fun d v s₁ hr e hv => ?_) he
  obtain ⟨xs, l, d', rfl, hl, hd', hp⟩ := hr
  simp only [Rep] at hv
  obtain ⟨b, dd, es, n, rfl, h1, h2, h3⟩ := hv
  obtain ⟨en, hf, hre⟩ := h3.find hl
  have hc := hC c.w.params
  rw [← G.k] at hc
  unfold readsOwn at hc
  simp only [Bool.and_eq_true] at hc
  obtain ⟨⟨c1, c2⟩, c3⟩ := hc
  split at c3
  · rename_i at' c4
    have I : InstAt s₁.heap b (instObj C dd) C (some (dictOf es n)) := ⟨hid_old h1, rfl, rfl, hid_old h2⟩
    refine get_value (a.ext e).gl.k I (plainGet_of c1).1 (findObj_own (v := en.val) c2 c4 c3 ?_) ?_ (hq d' _ _ hp (e.trans Ext.tok) (hre.mono (Ext.hid Ext.tok H)))
    · show getL attr es = _
      unfold getL
      rw [hf]
    · rcases hd' with ⟨x, rfl⟩ | ⟨i, rfl⟩
      · simp only [Rep] at hre; obtain ⟨t, e'⟩ := hre; rw [e']; rfl
      · simp only [Rep] at hre; obtain ⟨t, e'⟩ := hre; rw [e']; rfl
  · cases c3
end
end
section
set_option maxRecDepth 10000
set_option maxHeartbeats 4000000
/-- entries named xs that hold vs -/
inductive Ents : List Str → List Value → List DictEntry → Prop
  | nil : Ents [] [] []
  | cons {x : Str} {xs : List Str} {v : Value} {vs : List Value} {e : DictEntry} {es : List DictEntry} : (∃ t, e.key = .str x t) → e.val = v → Ents xs vs es → Ents (x :: xs) (v :: vs) (e :: es)
theorem Ents.add {x : Str} {v : Value} {e : DictEntry} (hk : ∃ t, e.key = .str x t) (hv : e.val = v) {xs : List Str} {vs : List Value} {es : List DictEntry} (h : Ents xs vs es) : Ents (xs ++ [x]) (vs ++ [v]) (es ++ [e]) := by
  induction h with
  | nil => exact .cons hk hv .nil
  | cons a b _ ih => exact .cons a b ih
theorem Ents.put {x : Str} {hs : Int} {key v : Value} {xs : List Str} {vs : List Value} {es : List DictEntry} (h : Ents xs vs es) : x ∉ xs → putL x hs key v es = es ++ [⟨hs, key, v⟩] := by
  induction h with
  | nil => intro _; rfl
  | @cons y xs w vs e es hk hv _ ih =>
    intro n
    obtain ⟨t, hk⟩ := hk
    have hne : y ≠ x := fun q => n (q ▸ .head _)
    have hb : e.key.isStr x = false := by rw [hk]; show (y == x) = false; rw [beq_eq_false_iff_ne]; exact hne
    rw [putL, if_neg (by rw [hb]; decide), ih fun q => n (.tail _ q)]; rfl
theorem Ents.noRef {xs : List Str} {vs : List Value} {es : List DictEntry} (h : Ents xs vs es) : es.any (·.refKey) = false := by
  induction h with
  | nil => rfl
  | @cons y xs w vs e es hk hv _ ih =>
    obtain ⟨t, hk⟩ := hk
    rw [List.any_cons, ih]
    have : e.refKey = false := by unfold DictEntry.refKey; rw [hk]
    rw [this]; rfl
theorem Ents.look {x : Str} {xs : List Str} {vs : List Value} {es : List DictEntry} (h : Ents xs vs es) : (getL x es).isSome = true := by
  unfold getL
  split
  · rfl
  · rw [h.noRef]; rfl
theorem Ents.len {xs : List Str} {vs : List Value} {es : List DictEntry} (h : Ents xs vs es) : es.length = xs.length := by
  induction h with
  | nil => rfl
  | cons _ _ _ ih => simp [ih]
theorem Ents.rep {g : Mem} {xs : List Str} {vs : List Value} {es : List DictEntry} (h : Ents xs vs es) : ∀ {l : List D}, RepL g l vs → RepF g l xs es := by
  induction h with
  | nil =>
    intro l r
    cases l with
    | nil => simp only [RepF]; exact ⟨trivial, trivial⟩
    | cons d l => simp only [RepL] at r; obtain ⟨_, _, q, _⟩ := r; cases q
  | @cons x xs v vs e es hk hv _ ih =>
    intro l r
    cases l with
    | nil => simp only [RepL] at r; cases r
    | cons d l =>
      simp only [RepL] at r
      obtain ⟨v', vs', q, hd, hr⟩ := r
      cases q
      subst hv
      simp only [RepF]
      exact ⟨x, xs, e, es, rfl, rfl, hk, hd, ih hr⟩

noncomputable def setsOwn (K : Frag) (C : Addr) (name : Str) : Bool := plainOver K C && takerIn K C name == some none && hasDictIn K C && findIn K (.ref C) "__setattr__" == some (some (.builtin "object.__setattr__"))
noncomputable def Sets (x : Str) (st : Stmt) : Prop := ∃ p1 p2 p3 p4, st = .Assign [.Attribute (.Name "self" p1) x p2] (.Name x p3) p4
noncomputable def SetsL : List Str → List Stmt → Prop
  | [], [] => True
  | x :: xs, st :: sts => Sets x st ∧ SetsL xs sts
  | _, _ => False

section
variable {c : Cx} {k : Nat} {A : Around} {E : Value → Shared → Prop} {hh : Heap} {L x C dx : Addr} {m : Str → Option Value} {env : Env}
theorem init_run (hK : c.K.In hh) (hxd : x ≠ dx) (hfr : env.scope.kind = .function) (hL : env.locals = L) (hself : env.kindOf "self" = some .local) (hms : m "self" = some (.ref x))
    (hsw : ∀ y p q l, swapsWith (.Name y p) (some (.Attribute (.Name "self" q) y l)) (Pos.line p) env = pure false) :
    ∀ {xs : List Str} {vs : List Value} {sts : List Stmt} {ds : List Str} {us : List Value} {es : List DictEntry} {n : Nat} {s : Shared} {Q : Flow → Shared → Prop}, SetsL xs sts → (∀ y ∈ xs, env.kindOf y = some .local ∧ setsOwn c.K C y = true ∧ (y == ("__debug__" : Str)) = false) →
      xs.length = vs.length → (∀ p ∈ xs.zip vs, m p.1 = some p.2) → (ds ++ xs).Nodup → ds.length + xs.length ≤ 500 → Ents ds us es → Fr hh L s.heap m → News hh L s.heap [(x, instObj C dx), (dx, dictOf es n)] →
      (∀ h' tk es' n', Ents (ds ++ xs) (us ++ vs) es' → Fr hh L h' m → News hh L h' [(x, instObj C dx), (dx, dictOf es' n')] → s.toks ≤ tk → Q .next { s with heap := h', toks := tk }) →
      wpAny (model c.prog c.w) A (execs sts env) Q E s
  | [], [], [], ds, us, es, n, s, Q, _, _, _, _, _, _, he, F, N, hq => by
    refine wpAny_execs_nil ?_
    have := hq s.heap s.toks es n (by simpa using he) F N (Nat.le_refl _)
    exact this
  | y :: xs, v :: vs, st :: sts, ds, us, es, n, s, Q, hs, hy, hlen, hm, hnd, hsz, he, F, N, hq => by
    obtain ⟨⟨p1, p2, p3, p4, rfl⟩, hs⟩ := hs
    obtain ⟨hk, hown, hdb⟩ := hy y (.head _)
    have hmy : m y = some v := hm (y, v) (.head _)
    have nd : y ∉ ds := by
      intro q
      exact (List.nodup_append.mp hnd).2.2 y q y (.head _) rfl
    unfold setsOwn at hown
    simp only [Bool.and_eq_true, beq_iff_eq] at hown
    obtain ⟨⟨⟨w1, w2⟩, w3⟩, w4⟩ := hown
    refine wpAny_execs_cons (plainObj_wpAny_Assign_Attribute (wpAny_Name (wpAny_loadName_local hfr hk (hL ▸ F.ns) hmy (wpAny_Name (wpAny_loadName_local hfr hself (hL ▸ F.ns) hms ?_) rfl)) hdb) ?_)
    · have I : InstAt s.heap x (instObj C dx) C (some (dictOf es n)) := ⟨(N _ (.head _)).1, rfl, rfl, (N _ (.tail _ (.head _))).1⟩
      refine set_dict (es' := es ++ [⟨PyData.keyHash c.w.params y, .str y (s.toks + 1), v⟩]) (n' := putN y es n) F hK N I rfl w4 w1 w2 w3 he.look (by rw [he.put nd]) (.tail hxd (.head (by simp))) (by rw [List.length_append, he.len]; simp at hsz ⊢; omega) fun h' F' N' => ?_
      refine init_run hK hxd hfr hL hself hms hsw (ds := ds ++ [y]) (us := us ++ [v]) hs (fun z hz => hy z (.tail _ hz)) (by simpa using hlen) (fun p hp => hm p (.tail _ hp)) (by simpa using hnd) (by simp at hsz ⊢; omega) (Ents.add (e := ⟨PyData.keyHash c.w.params y, .str y (s.toks + 1), v⟩) ⟨_, rfl⟩ rfl he) F' N' fun h'' tk es' n' e1 F'' N'' htk => ?_
      have := hq h'' tk es' n' (by simpa using e1) F'' N'' (by have : s.toks + 2 ≤ tk := htk; omega)
      exact this
    · exact hsw y p3 p1 p2
  | [], _ :: _, _, _, _, _, _, _, _, _, _, hlen, _, _, _, _, _, _, _ => by simp at hlen
  | _ :: _, [], _, _, _, _, _, _, _, _, _, hlen, _, _, _, _, _, _, _ => by simp at hlen
  | [], [], _ :: _, _, _, _, _, _, _, hs, _, _, _, _, _, _, _, _, _ => hs.elim
  | _ :: _, _ :: _, [], _, _, _, _, _, _, hs, _, _, _, _, _, _, _, _, _ => hs.elim

theorem look_zip {x : Str} {v : Value} : ∀ {xs : List Str} {vs : List Value} {aV : List (Str × Value)}, xs.Nodup → (x, v) ∈ xs.zip vs → ((xs.zip vs).reverseAux aV).lookup x = some v
  | [], _, _, _, h => by simp at h
  | _ :: _, [], _, _, h => by simp at h
  | y :: xs, u :: vs, aV, nd, h => by
    obtain ⟨n1, n2⟩ := List.nodup_cons.mp nd
    show ((xs.zip vs).reverseAux ((y, u) :: aV)).lookup x = some v
    rw [List.zip_cons_cons] at h
    rcases List.mem_cons.mp h with h | h
    · cases h
      have key : ∀ {xs : List Str} {vs : List Value} {aV : List (Str × Value)}, x ∉ xs → aV.lookup x = some v → ((xs.zip vs).reverseAux aV).lookup x = some v := by
        intro xs
        induction xs with
        | nil => intro vs aV _ e; exact e
        | cons z zs ih =>
          intro vs aV hn e
          cases vs with
          | nil => exact e
          | cons w ws =>
            refine ih (vs := ws) (aV := (z, w) :: aV) (fun q => hn (.tail _ q)) ?_
            rw [List.lookup_cons]
            have : (x == z) = false := by rw [beq_eq_false_iff_ne]; exact fun q => hn (q ▸ .head _)
            rw [this]; exact e
      exact key n1 (by rw [List.lookup_cons, beq_self_eq_true])
    · exact look_zip n2 h

/-- an own class, made of values -/
theorem make_fn (G : Good c) {C fI : Addr} {fd : FuncData} {body : List Stmt} {args : List D} {vals : List D} {xs : List Str} {kw : List (Str × Value)} (hm : ∀ P, makesIn (KW P) C = true)
    (hi : ∀ P, findIn (KW P) (.ref C) "__init__" = some (some (.ref fI))) (hf : ∀ P, typeIn (KW P) (.ref fI) = some (.type "function")) (ho : ∀ P, (KW P).lookup fI = some (fnObj fd)) (hcd : ∀ P, codeIn (KW P) fd.code fd.qualname = true)
    (hbody : fd.body = .stmts body) (hg : fd.globals = mainGlobals) (hb : fd.builtins = builtinsNs) (hclo : fd.closure = [])
    (hw : ∀ vs, (Code.builtin "type.__call__" ⟨.ref C :: vs, kw⟩).weight ≤ 2)
    (hbind : ∀ (s : Shared) (self : Value) (vs : List Value), (KW c.w.params).In s.heap → vs.length = args.length → ∃ us : List Value, us.length = xs.length ∧ (∀ g : Mem, RepL g args vs → RepL g vals us) ∧ BindsTo s fd ⟨self :: vs, kw⟩ ((("self" : Str), self) :: xs.zip us))
    (hcell : ∀ x ∈ fd.scope.names, x.2 ≠ .cell) (hloc : ∀ x ∈ ("self" : Str) :: xs, fd.scope.names.lookup x = some .local)
    (hset : ∀ P, ∀ y ∈ xs, setsOwn (KW P) C y = true) (hdb : ∀ y ∈ xs, (y == ("__debug__" : Str)) = false) (hsts : SetsL xs body) (hnd : (("self" : Str) :: xs).Nodup) (hsz : xs.length ≤ 500)
    (hsw : ∀ (env : Env) y p q l, swapsWith (.Name y p) (some (.Attribute (.Name "self" q) y l)) (Pos.line p) env = pure false)
    (hco : fd.scope.isCoroutine = false := by rfl) (hgen : fd.scope.isGenerator = false := by rfl) (hk : fd.scope.kind = .function := by rfl) :
    ∀ (A : Around) (s : Shared) (H : List Addr) (R : Result → Shared → Prop) (vs : List Value), Ok (k + 1) A → 0 < s.toks → Gl c s.heap → HOk H s.heap → (∀ a ∈ H, c.K.lookup a = none) → RepL (hid H s.heap) args vs →
      (∀ v s', Ext s s' → Rep (hid H s'.heap) (.obj C xs vals) v → R (.ok (.ret v)) s') → codeAny (model c.prog c.w) A (.call (.ref C) ⟨vs, kw⟩) R s := by
  intro A s H R vs ok tk gl ho' kx hr hq
  obtain ⟨hh, g, d, t, os⟩ := s
  have gk : (KW c.w.params).In hh := by have := gl.k; rw [G.k] at this; exact this
  refine make_core (makes_of gk (hm _)) (looks_findIn gk (hi _)) (fun self => bind_fn gk self (hf _)) (.inl rfl) ?_
  have k0 : ∀ b o, hh.get? b = some o → ((hh.push emptyDict).push (instObj C hh.objs.size)).get? b = some o := fun b o e => Heap.get?_push_of_some _ (Heap.get?_push_of_some _ e)
  have hx : ((hh.push emptyDict).push (instObj C hh.objs.size)).get? (hh.objs.size + 1) = some (instObj C hh.objs.size) := by heap_get
  have hd : ((hh.push emptyDict).push (instObj C hh.objs.size)).get? hh.objs.size = some emptyDict := by heap_get
  have hsize : ((hh.push emptyDict).push (instObj C hh.objs.size)).objs.size = hh.objs.size + 2 := by rw [Heap.size_push, Heap.size_push]
  have gk1 : (KW c.w.params).In ((hh.push emptyDict).push (instObj C hh.objs.size)) := fun b o e => k0 b o (gk b o e)
  obtain ⟨us, hul, hu, hbt⟩ := hbind ⟨(hh.push emptyDict).push (instObj C hh.objs.size), g, d, t, os⟩ (.ref (hh.objs.size + 1)) vs gk1 hr.length
  refine codeAny_call_def (binds := (("self" : Str), Value.ref (hh.objs.size + 1)) :: xs.zip us) ?_ (k0 _ _ (gk _ _ (ho _))) rfl (gl.nl.keeps k0) (codeRec_of gk1 (hcd _)) hbody hbt hcell (fun x m => ?_) (fun h₀ hn hkk => ?_) hco hgen hk
  · have := ok.d
    have := hw vs
    show A.depth + _ < recursionLimit
    unfold recursionLimit; omega
  · rcases List.mem_cons.mp m with rfl | m
    · exact hloc _ (.head _)
    · exact hloc _ (.tail _ (List.of_mem_zip m).1)
  rw [hsize] at hn
  have hns : ∀ b, hh.objs.size ≤ b → hh.get? b = none := fun b e => Heap.get?_none_of_le e
  rw [hsize]
  have keep0 : ∀ b o, hh.get? b = some o → h₀.get? b = some o := fun b o e => hkk b o (k0 b o e)
  refine init_run (m := fun x => ((("self" : Str), Value.ref (hh.objs.size + 1)) :: xs.zip us).reverse.lookup x) (env := callEnv fd (hh.objs.size + 2) fI) (L := hh.objs.size + 2) (hh := hh) (x := hh.objs.size + 1) (C := C) (dx := hh.objs.size) (c := c) gl.k (Nat.succ_ne_self _) hk rfl (hloc _ (.head _)) ?_ (hsw _) (ds := []) (us := []) (es := []) (n := 0) hsts (fun y hy => ⟨hloc y (.tail _ hy), by rw [G.k]; exact hset _ y hy, hdb y hy⟩) hul.symm (fun p hp => ?_) (by simpa using (List.nodup_cons.mp hnd).2) (by simpa using hsz) .nil ⟨hn, keep0, Nat.le_add_right _ _⟩ (fun p hp => ?_) fun h' tk es' n' he F' N' htk => ?_
  · have := look_zip (x := "self") (v := .ref (hh.objs.size + 1)) (xs := "self" :: xs) (vs := .ref (hh.objs.size + 1) :: us) (aV := []) hnd (.head _)
    exact this
  · have := look_zip (x := p.1) (v := p.2) (xs := "self" :: xs) (vs := .ref (hh.objs.size + 1) :: us) (aV := []) hnd (.tail _ hp)
    exact this
  · rcases List.mem_cons.mp hp with rfl | hp
    · exact ⟨hkk _ _ hx, by show hh.objs.size + 1 ≠ hh.objs.size + 2; omega, hns _ (Nat.le_succ _)⟩
    · rcases List.mem_cons.mp hp with rfl | hp
      · exact ⟨hkk _ _ hd, by show hh.objs.size ≠ hh.objs.size + 2; omega, hns _ (Nat.le_refl _)⟩
      · cases hp
  · refine ⟨rfl, hq _ _ ⟨⟨h', tk, rfl, F'.keep⟩, Nat.le_trans (Nat.le_add_right _ _) htk⟩ ?_⟩
    simp only [Rep]
    refine ⟨_, _, es', n', rfl, hid_new ho' (hns _ (Nat.le_succ _)) (N' _ (.head _)).1, hid_new ho' (hns _ (Nat.le_refl _)) (N' _ (.tail _ (.head _))).1, ?_⟩
    have he' : Ents xs us es' := by simpa using he
    refine he'.rep ?_
    exact hu _ (hr.mono (hid_mono fun b o _ e => F'.keep b o e))
end
end
section
set_option maxRecDepth 10000
set_option maxHeartbeats 4000000
section
variable {c : Cx} {k : Nat} {env : Env} {σ : Loc}
theorem bind5 {fd : FuncData} {x y z u w : Str} (h : ∀ a b c d e, bindArgs fd ⟨[a, b, c, d, e], []⟩ = pure [(x, a), (y, b), (z, c), (u, d), (w, e)]) : ∀ (self : Value) (vs : List Value), vs.length = 4 → bindArgs fd ⟨self :: vs, []⟩ = pure ((x, self) :: [y, z, u, w].zip vs) := fun self vs e => by
  match vs, e with
  | [p, q, r, t], _ => exact h self p q r t
noncomputable def cardN : List Str := ["line", "label", "mark", "body"]
noncomputable def cardD (line : Int) (label mark body : List Nat) : D := .obj 89 cardN [.int line, .str label, .str mark, .str body]
theorem card_fn (G : Good c) {a b d e : D} : Fn c (k + 1) 89 [a, b, d, e] (fun x => x = .obj 89 cardN [a, b, d, e]) := by
  intro A s H R vs ok tk gl ho kx hr hq
  refine make_fn (k := k) (fI := 86) (fd := fd_CardInit) (body := bodyOf (inCls (stAt 8))) (args := [a, b, d, e]) (vals := [a, b, d, e]) (xs := cardN) G (fun P => by kernel_rfl) (fun P => by kernel_rfl) (fun P => by kernel_rfl) (fun _ => rfl) (fun _ => rfl) rfl rfl rfl rfl (fun vs => of_decide_eq_true (by kernel_rfl)) (fun s self vs _ hl => ⟨vs, hl, fun g r => r, BindsTo.of_eq (bind5 (fun _ _ _ _ _ => rfl) self vs hl)⟩) (by decide) (by decide) (fun P y hy => ?_) (by decide) ?_ (by decide) (by decide) (fun env y p q l => rfl) rfl rfl rfl A s H R vs ok tk gl ho kx hr fun v s' e hv => hq _ v s' rfl e hv
  · simp only [cardN, List.mem_cons, List.not_mem_nil, or_false] at hy
    rcases hy with rfl | rfl | rfl | rfl <;> kernel_rfl
  · exact ⟨⟨_, _, _, _, rfl⟩, ⟨_, _, _, _, rfl⟩, ⟨_, _, _, _, rfl⟩, ⟨_, _, _, _, rfl⟩, trivial⟩

noncomputable def limN : List Str := ["width", "real_digits", "double_digits", "top_exponent", "steps", "continuations", "columns", "depth"]
noncomputable def limD (w : Int) : D := .obj 362 limN [.int 32, .int 7, .int 15, .int 38, .int 1000000, .int 2, .int w, .int 40]
theorem lim_make (G : Good c) {w : Int} {t1 t2 : Tok} : ∀ (A : Around) (s : Shared) (H : List Addr) (R : Result → Shared → Prop) (vs : List Value), Ok (k + 1) A → 0 < s.toks → Gl c s.heap → HOk H s.heap → (∀ a ∈ H, c.K.lookup a = none) → RepL (hid H s.heap) [] vs →
      (∀ v s', Ext s s' → Rep (hid H s'.heap) (limD w) v → R (.ok (.ret v)) s') → codeAny (model c.prog c.w) A (.call (.ref 362) ⟨vs, [("columns", .int w t1), ("continuations", .int 2 t2)]⟩) R s := by
  refine make_fn (k := k) (fI := 359) (fd := fd_LimitsInit) (body := bodyOf (inCls (stAt 49))) (args := []) (xs := limN) G (fun P => by kernel_rfl) (fun P => by kernel_rfl) (fun P => by kernel_rfl) (fun _ => rfl) (fun _ => rfl) rfl rfl rfl rfl (fun vs => of_decide_eq_true (by kernel_rfl)) (fun s self vs hK hl => ?_) (by decide) (by decide) (fun P y hy => ?_) (by decide) ?_ (by decide) (by decide) (fun env y p q l => rfl) rfl rfl rfl
  · match vs, hl with
    | [], _ =>
      refine ⟨[.int 32 703, .int 7 704, .int 15 705, .int 38 706, .int 1000000 707, .int 2 t2, .int w t1, .int 40 710], rfl, fun g _ => ?_, BindsTo.of_defaults (T := 352) rfl (hK _ _ rfl) rfl rfl rfl⟩
      exact RepL.cons repI (RepL.cons repI (RepL.cons repI (RepL.cons repI (RepL.cons repI (RepL.cons repI (RepL.cons repI (RepL.cons repI RepL.nil)))))))
  · simp only [limN, List.mem_cons, List.not_mem_nil, or_false] at hy
    rcases hy with rfl | rfl | rfl | rfl | rfl | rfl | rfl | rfl <;> kernel_rfl
  · exact ⟨⟨_, _, _, _, rfl⟩, ⟨_, _, _, _, rfl⟩, ⟨_, _, _, _, rfl⟩, ⟨_, _, _, _, rfl⟩, ⟨_, _, _, _, rfl⟩, ⟨_, _, _, _, rfl⟩, ⟨_, _, _, _, rfl⟩, ⟨_, _, _, _, rfl⟩, trivial⟩

/-! the classes are called -/
theorem s_cls (G : Good c) {f : Str} {C : Addr} {fp pos : Pos} {e : Expr} {rest : List Expr} {P : D → Prop} (hk : env.kindOf f = some .globalImplicit) (hg : nsIn (KW c.w.params) mainGlobals f = some (some (.ref C))) (hkp : keepIn (KW c.w.params) (.ref C) = true)
    (he : starEach (e :: rest) env = (false, eval e env) :: starEach rest env) (hplain : (backTo pos (starEach rest env)).any (·.1) = false) (hdb : (f == ("__debug__" : Str)) = false)
    (hev : eval (.Call (.Name f fp) (e :: rest) [] pos) env = (do callWith pos (← eval (.Name f fp) env) [] (backTo pos (starEach (e :: rest) env)) (backToKw pos (keywordEach [] env))))
    (h : Evs c k env σ (e :: rest) fun ds => Fn c k C ds P) :
    Ev c k env σ (.Call (.Name f fp) (e :: rest) [] pos) P := fun A s H E Q x hq =>
  Call_ (Name_function_global x.eo.k hk (loadGlobal_global (by rw [x.eo.g]; exact x.gl.g) (G.gm _ _ hg) (callWith_K (K := KW c.w.params) (h₀ := s.heap) (by have := x.gl.k; rw [G.k] at this; exact this) hkp (h A s H pos E _ x fun ds vs s₁ hf e hvs =>
    ⟨by have := (x.ext e).gl.k; rw [G.k] at this; exact this, wpAny_call (hf A s₁ H _ vs x.ok (x.ext e).tk (x.ext e).gl (x.ext e).ho x.kx hvs fun d v s₂ hp e' hv => hq d v s₂ hp (e.trans e') hv)⟩) he hplain)) hdb) hev
theorem s_lim (G : Good c) {fp pos kp1 kp2 : Pos} {e1 e2 : Expr} {P : D → Prop} (hk : env.kindOf "Limits" = some .globalImplicit)
    (hev : eval (.Call (.Name "Limits" fp) [] [⟨some "columns", e1, kp1⟩, ⟨some "continuations", e2, kp2⟩] pos) env = (do callWith pos (← eval (.Name "Limits" fp) env) [] (backTo pos (starEach [] env)) (backToKw pos (keywordEach [⟨some "columns", e1, kp1⟩, ⟨some "continuations", e2, kp2⟩] env))))
    (h : Ev c (k + 1) env σ e1 fun d1 => ∃ w, d1 = .int w ∧ Ev c (k + 1) env σ e2 fun d2 => d2 = .int 2 ∧ P (limD w)) :
    Ev c (k + 1) env σ (.Call (.Name "Limits" fp) [] [⟨some "columns", e1, kp1⟩, ⟨some "continuations", e2, kp2⟩] pos) P := by
  intro A s H E Q x hq
  have gk : ∀ {s' : Shared}, Ext s s' → (KW c.w.params).In s'.heap := fun e => by have := (x.ext e).gl.k; rw [G.k] at this; exact this
  rw [hev]
  refine wpAny_bind (Name_function_global x.eo.k hk (loadGlobal_global (by rw [x.eo.g]; exact x.gl.g) (G.gm "Limits" (some (.ref 362)) rfl) ?_) (by decide))
  refine callWith_of (P := (KW c.w.params).In) rfl (keeps_K (by kernel_rfl)) (evalArgs_kw_nil rfl (wpAny_evalAll_cons (wpAny_bind (h A s H E _ x fun d v s₁ hr e hv => wpAny_bind (wpAny_standAt (wpAny_pure ?_))))))
  obtain ⟨w, rfl, hr⟩ := hr
  simp only [Rep] at hv
  obtain ⟨t1, rfl⟩ := hv
  refine wpAny_evalAll_cons (wpAny_bind (hr A s₁ H E _ (x.ext e) fun d v s₂ hr e' hv => wpAny_bind (wpAny_standAt (wpAny_pure ?_))))
  obtain ⟨rfl, hp⟩ := hr
  simp only [Rep] at hv
  obtain ⟨t2, rfl⟩ := hv
  have ee := e.trans e'
  refine wpAny_evalAll_nil ⟨gk ee, wpAny_call (lim_make G A s₂ H _ [] x.ok (x.ext ee).tk (x.ext ee).gl (x.ext ee).ho x.kx RepL.nil fun v s₃ e3 hv => hq _ _ _ hp (ee.trans e3) hv)⟩
end
end
section
set_option maxRecDepth 10000
set_option maxHeartbeats 4000000
section
variable {c : Cx} {k : Nat} {env : Env} {σ : Loc}
noncomputable def joinN : List (List Nat) → List Nat
  | [] => []
  | [p] => p
  | p :: q :: r => p ++ 10 :: joinN (q :: r)
noncomputable def sparts (ps : List (List Nat)) : List Str := ps.map fun p => ⟨p.toArray⟩
theorem join_sparts : ∀ ps : List (List Nat), (Str.join ⟨#[10]⟩ (sparts ps)).cps.toList = joinN ps
  | [] => rfl
  | [p] => by show (p.toArray).toList = p; simp
  | p :: q :: r => by
    show ((⟨p.toArray⟩ : Str) ++ ⟨#[10]⟩ ++ Str.join ⟨#[10]⟩ (sparts (q :: r))).cps.toList = _
    simp only [Str.cps_append, Array.toList_append]
    rw [join_sparts (q :: r), joinN]; simp
theorem tw_join {p : List Nat} {r : List (List Nat)} (h : 10 ∉ p) : (joinN (p :: r)).takeWhile (fun a => decide (a ≠ 10)) = p := by
  have hp : ∀ l : List Nat, (p ++ 10 :: l).takeWhile (fun a => decide (a ≠ 10)) = p := by
    intro l
    induction p with
    | nil => simp
    | cons a t ih =>
      have : a ≠ 10 := fun q => h (q ▸ .head _)
      rw [List.cons_append, List.takeWhile_cons, if_pos (by simpa using this), ih fun q => h (.tail _ q)]
  cases r with
  | nil =>
    show p.takeWhile _ = p
    clear hp
    induction p with
    | nil => rfl
    | cons a t ih =>
      have : a ≠ 10 := fun q => h (q ▸ .head _)
      rw [List.takeWhile_cons, if_pos (by simpa using this), ih fun q => h (.tail _ q)]
  | cons q r => exact hp _
theorem joinN_inj : ∀ {ps qs : List (List Nat)}, ps ≠ [] → qs ≠ [] → (∀ p ∈ ps, 10 ∉ p) → (∀ p ∈ qs, 10 ∉ p) → joinN ps = joinN qs → ps = qs
  | [], _, h, _, _, _, _ => absurd rfl h
  | _ :: _, [], _, h, _, _, _ => absurd rfl h
  | p :: ps, q :: qs, _, _, hp, hq, e => by
    have e1 : p = q := by rw [← tw_join (r := ps) (hp p (.head _)), e, tw_join (hq q (.head _))]
    subst e1
    cases ps with
    | nil =>
      cases qs with
      | nil => rfl
      | cons q' r =>
        have : p.length = (p ++ 10 :: joinN (q' :: r)).length := congrArg List.length e
        simp at this
    | cons p' r =>
      cases qs with
      | nil =>
        have : (p ++ 10 :: joinN (p' :: r)).length = p.length := congrArg List.length e
        simp at this
      | cons q' r' =>
        have e2 : p ++ 10 :: joinN (p' :: r) = p ++ 10 :: joinN (q' :: r') := e
        have e3 := List.append_cancel_left e2
        injection e3 with _ e3
        rw [joinN_inj (List.cons_ne_nil _ _) (List.cons_ne_nil _ _) (fun x m => hp x (.tail _ m)) (fun x m => hq x (.tail _ m)) e3]

/-! split -/
theorem split_parts {ps : List (List Nat)} (h0 : ps ≠ []) (hp : ∀ p ∈ ps, 10 ∉ p) : (Txt.split ⟨(joinN ps).toArray⟩ ⟨#[10]⟩).map (fun p => p.cps.toList) = ps := by
  have h1 : ∀ qs : List Str, sparts (qs.map fun p => p.cps.toList) = qs := fun qs => by
    unfold sparts
    rw [List.map_map]
    conv => rhs; rw [← List.map_id qs]
    apply List.map_congr_left
    intro p _
    rfl
  have h2 := join_sparts ((Txt.split ⟨(joinN ps).toArray⟩ ⟨#[10]⟩).map fun p => p.cps.toList)
  rw [h1, StrLaws.join_split] at h2
  have h3 : Txt.split ⟨(joinN ps).toArray⟩ ⟨#[10]⟩ ≠ [] := by
    intro q
    have : joinN ps = [] := by rw [q] at h2; exact h2
    unfold Txt.split at q
    split at q
    · cases q
    · split at q
      · cases q
      · rw [StrLaws.partsBetween_eq] at q
        cases hq : Builtin.Str.occurrences (⟨(joinN ps).toArray⟩ : Str) ⟨#[10]⟩ 0 (⟨(joinN ps).toArray⟩ : Str).length ((⟨(joinN ps).toArray⟩ : Str).length + 1) with
        | nil => rename_i hh; rw [hq] at hh; exact hh rfl
        | cons a r => rw [hq] at q; cases q
  refine joinN_inj (by simpa using h3) h0 (fun p m => ?_) hp ?_
  · obtain ⟨q, hq, rfl⟩ := List.mem_map.mp m
    exact StrLaws.split_free _ 10 q hq
  · rw [← h2]
theorem split_count (x : Str) : (Txt.split x ⟨#[10]⟩).length ≤ x.length + 1 := by
  have key : ∀ qs : List Str, qs.length ≤ (Str.join ⟨#[10]⟩ qs).length + 1 := by
    intro qs
    induction qs with
    | nil => exact Nat.zero_le _
    | cons p r ih =>
      cases r with
      | nil => simp
      | cons q r =>
        show (q :: r).length + 1 ≤ (p ++ ⟨#[10]⟩ ++ Str.join ⟨#[10]⟩ (q :: r)).length + 1
        rw [Str.length_append, Str.length_append]
        have : (⟨#[10]⟩ : Str).length = 1 := rfl
        omega
  have := key (Txt.split x ⟨#[10]⟩)
  rwa [StrLaws.join_split] at this
theorem split_call {A : Around} {E : Value → Shared → Prop} {s : Shared} {x : Str} {t u : Tok} {Q : Value → Shared → Prop} (hsz : x.length ≤ 1000000)
    (hq : ∀ (l : List (Str × Tok)) tk, l.map (·.1) = Txt.split x ⟨#[10]⟩ → Q (.ref s.heap.objs.size) { s with toks := tk, heap := s.heap.push { cls := .type "list", data := .seq (strValues l).toArray } }) :
    wpAny (model c.prog c.w) A (call (.builtin "str.split") [.str x t, .str ⟨#[10]⟩ u]) Q E s := by
  have hy : ((⟨#[10]⟩ : Str).length == 0) = false := rfl
  cases h1 : (decide (x.length < (⟨#[10]⟩ : Str).length) || decide (Builtin.Str.strKind x < Builtin.Str.strKind ⟨#[10]⟩))
  · cases hf : (Builtin.Str.occurrences x ⟨#[10]⟩ 0 x.length (x.length + 1)).isEmpty
    · have es : Txt.split x ⟨#[10]⟩ = Builtin.Str.partsBetween x (Builtin.Str.occurrences x ⟨#[10]⟩ 0 x.length (x.length + 1)) (⟨#[10]⟩ : Str).length := by
        unfold Txt.split
        rw [if_neg (ne_true_of_eq_false h1), if_neg (ne_true_of_eq_false hf)]
      have hc := split_count x
      rw [es] at hc
      refine call_meets F.slot_str_split (typeIs_str _ _ _) F.entry_str_split (F.args_str_split_2 _ _) (meets_str_split_sep x ⟨#[10]⟩ t u h1 hy hf (by rw [sizeLine_eq]; omega) (by rw [sizeLine_eq]; omega)) ?_
      show wants Q E _ { s with toks := _, heap := s.heap.push { cls := .type "list", data := .seq (strsFrom s.toks (Builtin.Str.partsBetween x (Builtin.Str.occurrences x ⟨#[10]⟩ 0 x.length (x.length + 1)) (⟨#[10]⟩ : Str).length)).toArray } }
      rw [strsFrom_eq]
      exact hq (numbered s.toks _) _ ((numbered_texts _ _).trans es.symm)
    · exact call_meets F.slot_str_split (typeIs_str _ _ _) F.entry_str_split (F.args_str_split_2 _ _) (meets_str_split_not_found x ⟨#[10]⟩ t u h1 hy hf)
        (hq [(x, t)] s.toks ((if_neg (ne_true_of_eq_false h1)).trans (if_pos hf)).symm)
  · exact call_meets F.slot_str_split (typeIs_str _ _ _) F.entry_str_split (F.args_str_split_2 _ _) (meets_str_split_cannot_occur x ⟨#[10]⟩ t u h1)
      (hq [(x, t)] s.toks (if_pos h1).symm)
theorem rep_strValues {g : Mem} : ∀ {l : List (Str × Tok)}, RepL g (l.map fun p => .str p.1.cps.toList) (strValues l)
  | [] => RepL.nil
  | p :: r => RepL.cons (repS rfl) rep_strValues

/-- a method of a text, whatever it gives -/
theorem meth_raw {o : Expr} {name : Str} {id : String} {ap pos : Pos} {e : Expr} {rest : List Expr} {T : List Nat → List D → Prop}
    (slot : Slot "str" name id) (ty : typeOf (.builtin id) = pure (.type "method_descriptor"))
    (h : Ev c k env σ o fun d => ∃ x, d = .str x ∧ Evs c k env σ (e :: rest) fun ds => T x ds)
    (he : starEach (e :: rest) env = (false, eval e env) :: starEach rest env) (hplain : (backTo pos (starEach rest env)).any (·.1) = false)
    {pl : Sem Bool}
    (hev : eval (.Call (.Attribute o name ap) (e :: rest) [] pos) env = (do
      let ov ← eval o env
      standAt ap.atName
      let (f, first) ← holding [ov] (getMethod ov name pl)
      callWith pos f first (backTo pos (starEach (e :: rest) env)) []))
    {A : Around} {s : Shared} {H : List Addr} {E : Value → Shared → Prop} {Q : Value → Shared → Prop} (x : At c k env σ H A s)
    (hq : ∀ x ds t vs s', T x ds → Ext s s' → RepL (hid H s'.heap) ds vs → wpAny (model c.prog c.w) A (call (.builtin id) (.str ⟨x.toArray⟩ t :: vs)) Q E s') :
    wpAny (model c.prog c.w) A (eval (.Call (.Attribute o name ap) (e :: rest) [] pos) env) Q E s := by
  refine MethodCall_ (pl := pl) (h A s H E _ x fun d v s₁ hr ee hv => ?_) hev
  obtain ⟨y, rfl, hr⟩ := hr
  have hv' := hv
  simp only [Rep] at hv'
  obtain ⟨t, rfl⟩ := hv'
  have q : wpAny (model c.prog c.w) A (callWith pos (.builtin id) [.str ⟨y.toArray⟩ t] (backTo pos (starEach (e :: rest) env)) []) Q E s₁ := by
    refine callWith_method1 (hr A s₁ H pos E _ (x.ext ee) fun ds vs s₂ hf e' hvs => ?_) he hplain
    exact hq y ds t vs s₂ hf (ee.trans e') hvs
  have hT : s₁.TypeIs (.str ⟨y.toArray⟩ t) "str" := typeIs_str s₁ _ t
  have z := @getMethod_builtin (model c.prog c.w) A E s₁ (.str ⟨y.toArray⟩ t) "str" name id pl (fun fx s₂ => wpAny (model c.prog c.w) A (callWith pos fx.1 fx.2 (backTo pos (starEach (e :: rest) env)) []) Q E s₂) hT F.plainAttrs_str slot ty GM.noRef q
  with_reducible exact z

/-- x.split("\n") -/
theorem evn_split {o : Expr} {n : Nat} {p1 ap pos : Pos} {P : List D → Prop} {Y : Str} (hY : Y = ⟨#[10]⟩)
    (h : Ev c k env σ o fun d => ∃ x, d = .str x ∧ x.length ≤ 1000000 ∧ P ((Txt.split ⟨x.toArray⟩ ⟨#[10]⟩).map fun p => .str p.cps.toList))
    {pl : Sem Bool}
    (he : starEach [.Constant (.str Y) n p1] env = (false, eval (.Constant (.str Y) n p1) env) :: starEach [] env)
    (hev : eval (.Call (.Attribute o "split" ap) [.Constant (.str Y) n p1] [] pos) env = (do
      let ov ← eval o env
      standAt ap.atName
      let (f, first) ← holding [ov] (getMethod ov "split" pl)
      callWith pos f first (backTo pos (starEach [.Constant (.str Y) n p1] env)) [])) :
    EvN c k env σ (.Call (.Attribute o "split" ap) [.Constant (.str Y) n p1] [] pos) P := by
  subst hY
  intro A s H E Q a hq
  refine meth_raw (T := fun x ds => ds = [.str [10]] ∧ x.length ≤ 1000000 ∧ P ((Txt.split ⟨x.toArray⟩ ⟨#[10]⟩).map fun p => .str p.cps.toList)) F.slot_str_split F.type_str_split
    (fun A s H E Q a hq => h A s H E Q a fun d v s' hp e hv => hq d v s' (by
      obtain ⟨x, rfl, h1, h2⟩ := hp
      exact ⟨x, rfl, evs_cons (ev_str (evs_nil ⟨rfl, h1, h2⟩)) he⟩) e hv) he rfl hev a fun x ds t vs s' hT e hr => ?_
  obtain ⟨rfl, h1, h2⟩ := hT
  obtain ⟨u, rfl⟩ := rep1_str hr
  have hsz : (⟨x.toArray⟩ : Str).length ≤ 1000000 := by simpa [Str.length] using h1
  refine wpAny_with_toks (Nat.le_refl _) (split_call hsz fun l tk hl => fun htk => ?_)
  have e2 : Ext s' { s' with toks := tk, heap := s'.heap.push { cls := .type "list", data := .seq (strValues l).toArray } } := ⟨Ext0.push, htk⟩
  refine hq _ _ (strValues l) 0 _ h2 (e.trans e2) (e.fresh (Nat.le_refl _)) (Heap.get?_push_size _ rfl) ?_
  rw [← hl, List.map_map]
  exact rep_strValues
end
end
section
set_option maxRecDepth 10000
set_option maxHeartbeats 4000000
theorem s_expr {c : Cx} {k : Nat} {env : Env} {σ : Loc} {ω : Own} {e : Expr} {pos : Pos} {PO : Out → Prop} (hi : interactive env = false) (hs : swapsWith e none pos.line env = pure false) (h : Ev c k env (bor σ ω) e fun d => (d = .none ∨ ∃ i, d = .int i) ∧ PO (.next σ ω)) : Ex1 c k env σ ω (.Expr e pos) PO :=
  fun A s Ho Hx E Q ok z hq => wpAny_Expr (h A s _ E _ (z.bor ok) fun d v s₁ hp e hv => by
    have q := hq _ .next s₁ Ho hp.2 (Keep.ofExt e) ⟨rfl, z.ext e⟩
    rcases hp.1 with rfl | ⟨i, rfl⟩
    · simp only [Rep] at hv; subst hv; exact q
    · simp only [Rep] at hv; obtain ⟨t, rfl⟩ := hv; exact q) hi hs
theorem noLsts_str : ∀ l : List (List Nat), noLsts (l.map D.str) = true
  | [] => rfl
  | a :: r => by rw [List.map_cons, noLsts, noLst, noLsts_str r]; rfl
end
local macro_rules
  | `(tactic| walk_at "n") => `(tactic| first
    | ((with_reducible refine s_append (l := ?_) (pl := ?_) ?_ ?_ ?_ ?_ ?_ ?_ ?_ ?_ ?_); rotate_left 2; rfl; rfl; rfl; rfl; rfl; rfl; rfl; rfl)
    | ((with_reducible refine s_cls (by assumption) (C := ?_) ?_ ?_ ?_ ?_ ?_ ?_ ?_ ?_); rotate_left; rfl; rfl; kernel_rfl; rfl; rfl; rfl; rfl)
    | ((with_reducible refine s_attr (by assumption) (C := ?_) ?_ ?_ ?_); rotate_left; with_reducible (first | exact card_line | exact card_label | exact card_mark | exact card_body | exact lim_columns | exact lim_continuations); with_unfolding_all rfl)
    | ((with_reducible refine s_expr ?_ ?_ ?_); rfl; rfl))
section
set_option maxRecDepth 10000
set_option maxHeartbeats 4000000

section
variable {c : Cx} {k : Nat} {env : Env} {σ : Loc}
/-! cards_of -/
noncomputable def enumD : Nat → List (List Nat) → List D
  | _, [] => []
  | n, p :: r => .tup [.int ((n + 1 : Nat) : Int), .str p] :: enumD (n + 1) r
theorem cardsOf_fn (G : Good c) (x : List Nat) (ps parts : List (List Nat)) (hx : x = joinN parts) (hl : x.length ≤ 1000000) (h0 : ps ≠ []) (hn : ∀ p ∈ ps, 10 ∉ p) (hlen : ps.length ≤ 1000)
    (hp : (parts = ps ∧ ps.getLast? ≠ some []) ∨ parts = ps ++ [[]]) : Fn c (k + 1) 100 [.str x] (fun d => d = .lst (enumD 0 ps)) := by
  refine fn_own (fd := fd_cards_of) (body := bodyOf (stAt 9)) G ["text"] (fun _ => rfl) (fun _ => rfl) rfl rfl rfl rfl (bind1 fun v => rfl) (by decide) (by decide) (fun L => ?_)
  conv => arg 6; whnf
  have hpn : parts ≠ [] := by rcases hp with ⟨rfl, _⟩ | rfl; exact h0; simp
  have hpl : ∀ p ∈ parts, 10 ∉ p := by
    rcases hp with ⟨rfl, _⟩ | rfl
    · exact hn
    · intro p m
      rcases List.mem_append.mp m with m | m
      · exact hn p m
      · rw [List.mem_singleton.mp m]; simp
  have hsp : ((Txt.split ⟨x.toArray⟩ ⟨#[10]⟩).map fun p => D.str p.cps.toList) = parts.map .str := by
    have := split_parts hpn hpl
    rw [hx, ← this, List.map_map]; 
    rw [this]; rfl
  have hpz : parts.length ≤ 2000 := by rcases hp with ⟨rfl, _⟩ | rfl; omega; simp; omega
  have hpz' : (parts.map D.str).length ≤ 10000000 := by simp; omega
  have h1 : 1 ≤ parts.length := by cases parts with | nil => exact absurd rfl hpn | cons => simp
  obtain ⟨la, hla⟩ : ∃ la, parts[parts.length - 1]? = some la := ⟨parts[parts.length - 1]'(by omega), by simp⟩
  refine ex_cons (s_assignN rfl rfl (evn_split rfl ?_ (pl := _) rfl rfl))
  repeat walk_at "s"
  rw [hsp]
  refine ⟨noLsts_str _, ?_⟩
  -- behind the test
  have rest : ∀ σ, Ex c k (callEnv fd_cards_of L 100) σ [W "rows" (ps.map .str)] ((bodyOf (stAt 9)).drop 2) (retP fun d => d = .lst (enumD 0 ps)) := by
    intro σ
    conv => arg 6; whnf
    refine ex_freeze "rows" rfl ?_
    refine ex_cons (s_assignN rfl rfl (evn_list ?_))
    repeat walk_at "s"
    refine ex_for (PI := fun items => items = ps.map .str) (itera_list ?_).iterP ?_
    · repeat walk_at "s"
      exact ⟨_, .inl rfl, rfl⟩
    rintro _ rfl
    refine ⟨fun (j : Nat) (σ : Loc) (ω : Own) => ∃ lo, σ = [] ∧ ω = [W "out" lo] ∧ lo ++ enumD j (ps.drop j) = enumD 0 ps ∧ lo.length = j ∧ j ≤ ps.length, again_mk ⟨[], rfl, rfl, rfl, rfl, Nat.zero_le _⟩ (by walk_at "sub"), ?_, ?_⟩
    · rintro j d σ ω hd ⟨lo, rfl, rfl, hlo, hj, _⟩
      rw [List.getElem?_map] at hd
      obtain ⟨p, hp, rfl⟩ := Option.map_eq_some_iff.mp hd
      have hjl := (List.getElem?_eq_some_iff.mp hp).1
      have hz : lo.length ≤ 10000000 := by omega
      rw [drop_cons' hp, enumD] at hlo
      repeat walk_at "s"
      exact turnF_next ⟨lo ++ [.tup [.int ((lo.length : Int) + 1), .str p]], rfl, rfl, by rw [← hlo, hj]; simp, by simp [hj], by omega⟩ (by walk_at "sub")
    · rintro σ ω ⟨lo, rfl, rfl, hlo, _, _⟩
      rw [List.length_map, List.drop_length, enumD, List.append_nil] at hlo
      repeat walk_at "s"
      rw [hlo]
  refine after_next ?_
  repeat walk_at "s"
  have hi : idx ((((parts.map D.str).length : Nat) : Int) - 1) (parts.map D.str).length = parts.length - 1 := by
    have : (((parts.map D.str).length : Nat) : Int) - 1 = ((parts.length - 1 : Nat) : Int) := by simp; omega
    rw [this, idx_nat]
  refine op_item_lst (d := .str la) ⟨by simp; omega, by simp; omega⟩ hpz' (by rw [hi]; simp [hla]) ?_
  repeat walk_at "s"
  rw [show (Str.ofString "").cps.toList = [] from rfl]
  rcases hp with ⟨rfl, hne⟩ | rfl
  · refine ⟨fun h => ?_, fun h => ?_⟩
    · exact absurd (show parts.getLast? = some [] by rw [List.getLast?_eq_getElem?, hla]; exact congrArg some (of_decide_eq_true h)) hne
    · exact ex_nil (after_next (rest _))
  · have : la = [] := by
      have e : (ps ++ [[]]).length - 1 = ps.length := by simp
      rw [e] at hla; simpa using hla.symm
    subst this
    refine ⟨fun h => ?_, fun h => absurd rfl (of_decide_eq_false h)⟩
    rw [List.map_append]
    refine ex_cons (ex_pop (y := []) (l := ps.map .str) rfl rfl (by simp; omega) ?_ (pl := _) rfl)
    refine after_next (ex_nil (after_next ?_))
    exact rest _
end
end
section
set_option maxRecDepth 10000
set_option maxHeartbeats 4000000
structure Crd where
  line : Nat
  label : List Nat
  mark : List Nat
  body : List Nat
noncomputable def Crd.d (x : Crd) : D := cardD x.line x.label x.mark x.body
theorem lim_col {w : Int} {P : D → Prop} (h : P (.int w)) : ∃ xs l d', limD w = .obj 362 xs l ∧ (xs.zip l).lookup ("columns" : Str) = some d' ∧ ((∃ x, d' = .str x) ∨ ∃ i, d' = .int i) ∧ P d' := ⟨limN, [.int 32, .int 7, .int 15, .int 38, .int 1000000, .int 2, .int w, .int 40], .int w, rfl, rfl, .inr ⟨_, rfl⟩, h⟩
theorem lim_con {w : Int} {P : D → Prop} (h : P (.int 2)) : ∃ xs l d', limD w = .obj 362 xs l ∧ (xs.zip l).lookup ("continuations" : Str) = some d' ∧ ((∃ x, d' = .str x) ∨ ∃ i, d' = .int i) ∧ P d' := ⟨limN, [.int 32, .int 7, .int 15, .int 38, .int 1000000, .int 2, .int w, .int 40], .int 2, rfl, rfl, .inr ⟨_, rfl⟩, h⟩
theorem crd_line {x : Crd} {P : D → Prop} (h : P (.int x.line)) : ∃ xs l d', x.d = .obj 89 xs l ∧ (xs.zip l).lookup ("line" : Str) = some d' ∧ ((∃ x, d' = .str x) ∨ ∃ i, d' = .int i) ∧ P d' := ⟨cardN, [.int x.line, .str x.label, .str x.mark, .str x.body], .int x.line, rfl, rfl, .inr ⟨_, rfl⟩, h⟩
theorem crd_label {x : Crd} {P : D → Prop} (h : P (.str x.label)) : ∃ xs l d', x.d = .obj 89 xs l ∧ (xs.zip l).lookup ("label" : Str) = some d' ∧ ((∃ x, d' = .str x) ∨ ∃ i, d' = .int i) ∧ P d' := ⟨cardN, [.int x.line, .str x.label, .str x.mark, .str x.body], .str x.label, rfl, rfl, .inl ⟨_, rfl⟩, h⟩
theorem crd_mark {x : Crd} {P : D → Prop} (h : P (.str x.mark)) : ∃ xs l d', x.d = .obj 89 xs l ∧ (xs.zip l).lookup ("mark" : Str) = some d' ∧ ((∃ x, d' = .str x) ∨ ∃ i, d' = .int i) ∧ P d' := ⟨cardN, [.int x.line, .str x.label, .str x.mark, .str x.body], .str x.mark, rfl, rfl, .inl ⟨_, rfl⟩, h⟩
theorem crd_body {x : Crd} {P : D → Prop} (h : P (.str x.body)) : ∃ xs l d', x.d = .obj 89 xs l ∧ (xs.zip l).lookup ("body" : Str) = some d' ∧ ((∃ x, d' = .str x) ∨ ∃ i, d' = .int i) ∧ P d' := ⟨cardN, [.int x.line, .str x.label, .str x.mark, .str x.body], .str x.body, rfl, rfl, .inl ⟨_, rfl⟩, h⟩
end
local macro_rules
  | `(tactic| walk_at "n") => `(tactic| with_reducible (first | refine lim_col ?_ | refine lim_con ?_ | refine crd_line ?_ | refine crd_label ?_ | refine crd_mark ?_ | refine crd_body ?_))
section
set_option maxRecDepth 10000
set_option maxHeartbeats 4000000

section
variable {c : Cx} {k : Nat} {env : Env} {σ : Loc}
/-! read_cards -/
noncomputable def seenOf (w : Nat) (row : List Nat) : List Nat := if (row.take w).length < 6 then row.take w ++ List.replicate (6 - (row.take w).length) 32 else row.take w
noncomputable def crdOf (w line : Nat) (row : List Nat) : Crd := ⟨line, (seenOf w row).take 5, ((seenOf w row).drop 5).take 1, (seenOf w row).drop 6⟩
noncomputable def rdCards (w : Nat) : Nat → List (List Nat) → List Crd
  | _, [] => []
  | n, p :: r => if isCm p w = true then rdCards w (n + 1) r else crdOf w (n + 1) p :: rdCards w (n + 1) r
theorem rdCards_len (w : Nat) : ∀ (n : Nat) (ps : List (List Nat)), (rdCards w n ps).length ≤ ps.length
  | _, [] => Nat.le_refl _
  | n, p :: r => by
    have := rdCards_len w (n + 1) r
    rw [rdCards]; split <;> simp <;> omega
theorem enumD_get : ∀ (n : Nat) (ps : List (List Nat)) (j : Nat) (d : D), (enumD n ps)[j]? = some d → ∃ p, ps[j]? = some p ∧ d = .tup [.int ((n + j + 1 : Nat) : Int), .str p]
  | _, [], j, d, h => by simp [enumD] at h
  | n, p :: r, 0, d, h => by simp [enumD] at h; exact ⟨p, by simp, h.symm⟩
  | n, p :: r, j + 1, d, h => by
    simp [enumD] at h
    obtain ⟨q, h1, h2⟩ := enumD_get (n + 1) r j d h
    refine ⟨q, by simpa using h1, ?_⟩
    rw [h2]; congr 3; omega
theorem enumD_len : ∀ (n : Nat) (ps : List (List Nat)), (enumD n ps).length = ps.length
  | _, [] => rfl
  | n, p :: r => by simp [enumD, enumD_len (n + 1) r]
theorem noLst_crd (x : Crd) : noLst x.d = true := rfl
theorem sl_u5 {α : Type} (l : List α) : sl l none (some 5) = l.take 5 := sl_upto l 5
theorem rdCards_fn (G : Good c) (x : List Nat) (ps parts : List (List Nat)) (w : Nat) (hw : w ≤ 1000) (hx : x = joinN parts) (hl : x.length ≤ 1000000) (h0 : ps ≠ []) (hn : ∀ p ∈ ps, 10 ∉ p) (hlen : ps.length ≤ 1000) (hrow : ∀ p ∈ ps, p.length ≤ 100000)
    (hp : (parts = ps ∧ ps.getLast? ≠ some []) ∨ parts = ps ++ [[]]) : Fn c (k + 3) 121 [.str x, limD w] (fun d => d = .lst ((rdCards w 0 ps).map Crd.d)) := by
  refine fn_own (fd := fd_read_cards) (body := bodyOf (stAt 12)) G ["text", "limits"] (fun _ => rfl) (fun _ => rfl) rfl rfl rfl rfl (bind2 fun v u => rfl) (by decide) (by decide) (fun L => ?_)
  conv => arg 6; whnf
  refine ex_cons (s_assignN rfl rfl (evn_list ?_))
  repeat walk_at "s"
  refine ex_for (PI := fun items => items = enumD 0 ps) (itera_list ?_).iterP ?_
  · repeat walk_at "s"
    refine (cardsOf_fn G x ps parts hx hl h0 hn hlen hp).to ?_
    exact ⟨_, .inl rfl, rfl⟩
  rintro _ rfl
  refine ⟨fun (j : Nat) (σ : Loc) (ω : Own) => ∃ lo : List Crd, σ = [V "limits" (limD w)] ∧ ω = [W "cards" (lo.map Crd.d)] ∧ lo ++ rdCards w j (ps.drop j) = rdCards w 0 ps, again_mk ⟨[], rfl, rfl, rfl⟩ (by walk_at "sub"), ?_, ?_⟩
  rotate_left
  · rintro σ ω ⟨lo, rfl, rfl, hlo⟩
    rw [enumD_len, List.drop_length, rdCards, List.append_nil] at hlo
    repeat walk_at "s"
    rw [hlo]
  rintro j d σ ω hd ⟨lo, rfl, rfl, hlo⟩
  obtain ⟨p, hp, rfl⟩ := enumD_get 0 ps j d hd
  rw [show 0 + j + 1 = j + 1 by omega]
  have hpl := hrow p (List.mem_of_getElem? hp)
  have hz : (lo.map Crd.d).length ≤ 1000000 := by
    have h1 := congrArg List.length hlo
    have h2 := rdCards_len w 0 ps
    simp at h1 ⊢; omega
  rw [drop_cons' hp, rdCards] at hlo
  have hpl' : p.length ≤ 10000000 := by omega
  repeat walk_at "s"
  refine (isCm_fn G p w (by omega)).to ?_
  repeat walk_at "s"
  refine ⟨fun h => ?_, fun h => ?_⟩
  · rw [if_pos h] at hlo
    repeat walk_at "s"
    exact turnF_cont ⟨lo, rfl, rfl, hlo⟩ (by walk_at "sub")
  rw [if_neg (by simp [h])] at hlo
  -- behind the padding
  have tail : ∀ (PO : Out → Prop), (∀ σ, SubL [V "limits" (limD w)] σ → PO (.next σ [W "cards" ((lo ++ [crdOf w (j + 1) p]).map Crd.d)])) → ∀ σ, SubL [V "seen" (.str (seenOf w p)), V "line" (.int ((j + 1 : Nat) : Int)), V "limits" (limD w)] σ →
      Ex c (k + 2) (callEnv fd_read_cards L 121) σ [W "cards" (lo.map Crd.d)] ((loopBody (stmtAt (bodyOf (stAt 12)) 1)).drop 3) PO := by
    intro PO hPO σ hσ
    refine ex_weaken hσ ?_
    have hs : 6 ≤ (seenOf w p).length ∧ (seenOf w p).length ≤ 100000 := by
      unfold seenOf; split
      · simp; omega
      · simp at *; omega
    have hs' : (seenOf w p).length ≤ 10000000 := by omega
    obtain ⟨a, ha⟩ := get_some (x := seenOf w p) (j := 5) (by omega)
    conv => arg 6; whnf
    repeat walk_at "s"
    refine op_item_str (a := a) ⟨by omega, by omega⟩ hs' ha ?_
    repeat walk_at "s"
    rw [sl_u5, sl_fromI _ 6 (by omega)]
    refine (card_fn G).to ?_
    refine ⟨rfl, hz, after_next (ex_nil ?_)⟩
    have hq := hPO [V "seen" (.str (seenOf w p)), V "line" (.int ((j + 1 : Nat) : Int)), V "limits" (limD w)] (by walk_at "sub")
    have e : crdOf w (j + 1) p = ⟨j + 1, (seenOf w p).take 5, [a], (seenOf w p).drop 6⟩ := by
      unfold crdOf
      rw [drop_cons ha]; rfl
    rw [List.map_append, e] at hq
    exact hq
  repeat walk_at "n"
  rw [sl_upto]
  refine ex1_cut fun PT hPT => ?_
  have done : ∀ s, seenOf w p = s → ∀ σ, SubL [V "seen" (.str s), V "line" (.int ((j + 1 : Nat) : Int)), V "limits" (limD w)] σ → PT (.next σ [W "cards" (lo.map Crd.d)]) := fun s e σ hσ =>
    hPT _ (after_next (tail _ (fun σ h => turnF_next ⟨lo ++ [crdOf w (j + 1) p], rfl, rfl, by rw [← hlo]; simp⟩ h) σ (by rw [e]; exact hσ)))
  clear tail hPT
  have htl : (p.take w).length ≤ 10000000 := by simp; omega
  have e32 : (Str.ofString " ").cps.toList = [32] := rfl
  refine ex_if ?_
  repeat walk_at "s"
  refine ⟨fun h => ?_, fun h => ?_⟩
  · have h : (p.take w).length < 6 := by have := of_decide_eq_true h; omega
    repeat walk_at "s"
    rw [e32]
    refine op_mul_blank (by omega) ?_
    have e6 : ((6 : Int) - ((p.take w).length : Int)).toNat = 6 - (p.take w).length := by omega
    rw [e6]
    refine op_add_str (by rw [List.length_replicate]; omega) ?_
    repeat walk_at "s"
    refine done _ (by unfold seenOf; rw [if_pos h]) _ (by walk_at "sub")
  · have h : ¬ (p.take w).length < 6 := by have := of_decide_eq_false h; omega
    repeat walk_at "s"
    refine done _ (by unfold seenOf; rw [if_neg h]) _ (by walk_at "sub")
end
end
section
set_option maxRecDepth 10000
set_option maxHeartbeats 4000000

section
variable {c : Cx} {k : Nat} {env : Env} {σ : Loc}
noncomputable def isCont (x : Crd) : Bool := decide (x.mark ≠ [32]) && decide (x.mark ≠ [48])
theorem isCont_fn (G : Good c) (x : Crd) : Fn c (k + 1) 128 [x.d] (fun d => d = .bool (isCont x)) := by
  refine fn_own (fd := fd_is_continuation) (body := bodyOf (stAt 13)) G ["card"] (fun _ => rfl) (fun _ => rfl) rfl rfl rfl rfl (bind1 fun v => rfl) (by decide) (by decide) (fun L => ?_)
  conv => arg 6; whnf
  have e1 : (Str.ofString " ").cps.toList = [32] := rfl
  have e2 : (Str.ofString "0").cps.toList = [48] := rfl
  repeat walk_at "s"
  rw [e1]
  refine ⟨fun h => ?_, fun h => ?_⟩
  · repeat walk_at "s"
    rw [e2]
    unfold isCont; rw [h]; rfl
  · repeat walk_at "s"
    unfold isCont; rw [h]; rfl

/-! read_label -/
noncomputable def labV (ds : List Nat) (a : Nat) : Nat := ds.foldl (fun a b => a * 10 + (b - 48)) a
noncomputable def rdLab (lab : List Nat) : Nat := if wb lab = [] then 0 else labV (wb lab) 0
noncomputable def LabOk (lab : List Nat) : Prop := lab.length ≤ 15 ∧ (∀ a ∈ wb lab, dgt a = true) ∧ (wb lab = [] ∨ labV (wb lab) 0 ≠ 0)
theorem labV_bound : ∀ (ds : List Nat) (a n : Nat), (∀ b ∈ ds, dgt b = true) → a < 10 ^ n → labV ds a < 10 ^ (n + ds.length)
  | [], a, n, _, h => by simpa [labV] using h
  | b :: r, a, n, hd, h => by
    have h1 := hd b (.head _)
    simp [dgt] at h1
    have h2 := labV_bound r (a * 10 + (b - 48)) (n + 1) (fun x m => hd x (.tail _ m)) (by rw [Nat.pow_succ]; omega)
    show labV r (a * 10 + (b - 48)) < _
    rw [List.length_cons, show n + (r.length + 1) = n + 1 + r.length by omega]; exact h2
theorem rdLab_fn (G : Good c) (x : Crd) (hok : LabOk x.label) : Fn c (k + 2) 135 [x.d] (fun d => d = .int (rdLab x.label)) := by
  refine fn_own (fd := fd_read_label) (body := bodyOf (stAt 14)) G ["card"] (fun _ => rfl) (fun _ => rfl) rfl rfl rfl rfl (bind1 fun v => rfl) (by decide) (by decide) (fun L => ?_)
  conv => arg 6; whnf
  obtain ⟨hl, hd, hz⟩ := hok
  have e1 : (Str.ofString "").cps.toList = [] := rfl
  have hwl : (wb x.label).length ≤ 15 := Nat.le_trans (List.length_filter_le _ _) hl
  repeat walk_at "s"
  refine (wb_fn G x.label (by omega)).to ?_
  repeat walk_at "s"
  rw [e1]
  generalize hq : wb x.label = q at *
  have hr : rdLab x.label = if q = [] then 0 else labV q 0 := by unfold rdLab; rw [hq]
  refine ⟨fun h => ?_, fun h => ?_⟩
  · repeat walk_at "s"
    rw [hr, if_pos (of_decide_eq_true h)]; rfl
  have hne := of_decide_eq_false h
  rw [if_neg hne] at hr
  have hnz := hz.resolve_left hne
  repeat walk_at "s"
  refine ex_for (PI := fun items => items = q.map fun b => .str [b]) (itera_str ?_).iterP ?_
  · repeat walk_at "s"
    rfl
  rintro _ rfl
  refine ⟨fun (j : Nat) (σ : Loc) (ω : Own) => ∃ v : Nat, σ = [V "label" (.int v)] ∧ ω = [] ∧ labV (q.drop j) v = labV q 0 ∧ v < 10 ^ j ∧ j ≤ q.length, again_mk ⟨0, rfl, rfl, rfl, by simp, Nat.zero_le _⟩ (by walk_at "sub"), ?_, ?_⟩
  · rintro j d σ ω hd' ⟨v, rfl, rfl, hv, hvb, _⟩
    rw [List.getElem?_map] at hd'
    obtain ⟨a, ha, rfl⟩ := Option.map_eq_some_iff.mp hd'
    have had := hd a (List.mem_of_getElem? ha)
    have hja := (List.getElem?_eq_some_iff.mp ha).1
    rw [drop_cons' ha] at hv
    have hv' : labV (q.drop (j + 1)) (v * 10 + (a - 48)) = labV q 0 := hv
    have ha' : 48 ≤ a ∧ a ≤ 57 := by simpa [dgt] using had
    have hp : 10 ^ j ≤ 10 ^ 15 := Nat.pow_le_pow_right (by omega) (by omega)
    have hp2 : 10 ^ (j + 1) = 10 ^ j * 10 := Nat.pow_succ ..
    repeat walk_at "s"
    rw [dig_find a had]
    repeat walk_at "s"
    refine ⟨fun h => ?_, fun h => ?_⟩
    · have := of_decide_eq_true h; omega
    repeat walk_at "s"
    refine op_mul_int ⟨by omega, by omega⟩ ?_
    repeat walk_at "s"
    have e : (v : Int) * 10 + ((a : Int) - 48) = ((v * 10 + (a - 48) : Nat) : Int) := by omega
    rw [e]
    exact turnF_next ⟨_, rfl, rfl, hv', by omega, hja⟩ (by walk_at "sub")
  · rintro σ ω ⟨v, rfl, rfl, hv, _, _⟩
    rw [List.length_map, List.drop_length] at hv
    have hv : v = labV q 0 := hv
    subst hv
    repeat walk_at "s"
    refine ⟨fun h => ?_, fun h => ?_⟩
    · have := of_decide_eq_true h; omega
    repeat walk_at "s"
    rw [hr]

/-! padded -/
noncomputable def pad (w : Nat) (b : List Nat) : List Nat := b ++ List.replicate (w - b.length) 32
theorem pad_fn (G : Good c) (b : List Nat) (w : Nat) (hw : w ≤ 1000) (hb : b.length ≤ 100000) : Fn c (k + 1) 142 [.str b, .int w] (fun d => d = .str (pad w b)) := by
  refine fn_own (fd := fd_padded) (body := bodyOf (stAt 15)) G ["body", "width"] (fun _ => rfl) (fun _ => rfl) rfl rfl rfl rfl (bind2 fun v u => rfl) (by decide) (by decide) (fun L => ?_)
  conv => arg 6; whnf
  have hb' : b.length ≤ 10000000 := by omega
  repeat walk_at "s"
  refine ⟨fun h => ?_, fun h => ?_⟩
  · have h := of_decide_eq_true h
    repeat walk_at "s"
    rw [show (Str.ofString " ").cps.toList = [32] from rfl]
    refine op_mul_blank (by omega) ?_
    have e : ((w : Int) - (b.length : Int)).toNat = w - b.length := by omega
    rw [e]
    refine op_add_str (by rw [List.length_replicate]; omega) ?_
    repeat walk_at "s"
    rfl
  · have h := of_decide_eq_false h
    repeat walk_at "s"
    unfold pad
    rw [show w - b.length = 0 by omega]; simp

/-! joined -/
noncomputable def jText (w : Nat) : List Crd → List Nat
  | [] => []
  | [r] => r.body
  | r :: q :: s => pad w r.body ++ jText w (q :: s)
theorem jText_len (w : Nat) : ∀ l : List Crd, (∀ r ∈ l, r.body.length ≤ 1000) → w ≤ 1000 → (jText w l).length ≤ l.length * 2000
  | [], _, _ => Nat.zero_le _
  | [r], h, _ => by have := h r (.head _); simp [jText]; omega
  | r :: q :: s, h, hw => by
    have h1 := h r (.head _)
    have h2 := jText_len w (q :: s) (fun x m => h x (.tail _ m)) hw
    simp only [jText, List.length_append, pad, List.length_replicate, List.length_cons] at h2 ⊢
    omega
structure JOk (w : Nat) (f : Crd) (r : List Crd) : Prop where
  n : r.length ≤ 100
  b : ∀ x ∈ f :: r, x.body.length ≤ 1000
  t : wb (jText w (f :: r)) ≠ []
  l : LabOk f.label
theorem joined_fn (G : Good c) (w : Nat) (f : Crd) (r : List Crd) (hw : w ≤ 1000) (ok : JOk w f r) :
    Fn c (k + 3) 149 [.lst ((f :: r).map Crd.d), .int w] (fun d => d = .tup [.int f.line, .int (rdLab f.label), .str (jText w (f :: r))]) := by
  refine fn_own (fd := fd_joined) (body := bodyOf (stAt 16)) G ["rows", "width"] (fun _ => rfl) (fun _ => rfl) rfl rfl rfl rfl (bind2 fun v u => rfl) (by decide) (by decide) (fun L => ?_)
  conv => arg 6; whnf
  have hjl := jText_len w (f :: r) ok.b hw
  have hn := ok.n
  have hz : ((f :: r).map Crd.d).length ≤ 10000000 := by simp; omega
  have okb := ok.b
  have okt := ok.t
  have okl := ok.l
  clear ok
  generalize hR : (f :: r) = R at *
  have hRl : R.length ≤ 101 ∧ 1 ≤ R.length := by rw [← hR]; simp; omega
  repeat walk_at "s"
  refine op_item_lst (d := f.d) ⟨by simp, by simp; omega⟩ hz (by rw [← hR]; rfl) ?_
  repeat walk_at "s"
  refine ex_for (PI := fun items => items = rngs 0 R.length 1) (itera_rng ?_).iterP ?_
  · repeat walk_at "s"
    refine op_range1 ?_
    have := small_of (a := 0) (b := R.length) (c := 1) (by omega)
    exact ⟨_, _, _, rfl, by simpa using this.1, by simpa using this.2, by simp⟩
  rintro _ rfl
  rw [rngs_one]
  refine ⟨fun (j : Nat) (σ : Loc) (ω : Own) => ∃ t : List Nat, σ = [V "text" (.str t), V "first" f.d, V "rows" (.lst (R.map Crd.d)), V "width" (.int w)] ∧ ω = [] ∧ t ++ jText w (R.drop j) = jText w R, again_mk ⟨[], rfl, rfl, rfl⟩ (by walk_at "sub"), ?_, ?_⟩
  rotate_left
  · rintro σ ω ⟨t, rfl, rfl, ht⟩
    have ht : t = jText w R := by
      rw [List.length_map, List.length_range, List.drop_length] at ht
      simpa [jText] using ht
    subst ht
    repeat walk_at "s"
    refine (wb_fn G _ (by omega)).to ?_
    repeat walk_at "s"
    refine ⟨fun h => ?_, fun h => ?_⟩
    · exact absurd (of_decide_eq_true h) okt
    repeat walk_at "s"
    refine (rdLab_fn G f okl).to ?_
    repeat walk_at "s"
    rfl
  rintro j d σ ω hd ⟨t, rfl, rfl, ht⟩
  rw [List.getElem?_map] at hd
  obtain ⟨t', ht', rfl⟩ := Option.map_eq_some_iff.mp hd
  obtain ⟨hj, rfl⟩ := range_item ht'
  obtain ⟨x, hx⟩ : ∃ x, R[t']? = some x := ⟨R[t'], by simp [hj]⟩
  have hxb := okb x (List.mem_of_getElem? hx)
  have hitem : (R.map Crd.d)[idx t' (R.map Crd.d).length]? = some x.d := by rw [idx_nat]; simp [hx]
  have hi : -((R.map Crd.d).length : Int) ≤ t' ∧ (t' : Int) < (R.map Crd.d).length := ⟨by omega, by simp; omega⟩
  have htl : t.length ≤ 1000000 := by
    have := congrArg List.length ht
    simp at this; omega
  rw [drop_cons' hx] at ht
  repeat walk_at "s"
  refine ⟨fun h => ?_, fun h => ?_⟩
  · have h : t' + 1 < R.length := by have := of_decide_eq_true h; simp at this; omega
    obtain ⟨y, hy⟩ : ∃ y, R[t' + 1]? = some y := ⟨R[t' + 1], by simp [h]⟩
    rw [drop_cons' hy, jText, ← drop_cons' hy] at ht
    repeat walk_at "s"
    refine op_item_lst (d := x.d) hi hz hitem ?_
    repeat walk_at "s"
    refine (pad_fn G x.body w hw (by omega)).to ?_
    refine op_add_str (by unfold pad; simp; omega) ?_
    repeat walk_at "s"
    exact turnF_next ⟨t ++ pad w x.body, rfl, rfl, by rw [← ht]; simp⟩ (by walk_at "sub")
  · have h : t' + 1 = R.length := by have := of_decide_eq_false h; simp at this; omega
    rw [List.drop_of_length_le (by omega : R.length ≤ t' + 1), jText] at ht
    repeat walk_at "s"
    refine op_item_lst (d := x.d) hi hz hitem ?_
    repeat walk_at "s"
    exact turnF_next ⟨t ++ x.body, rfl, rfl, by rw [List.drop_of_length_le (by omega : R.length ≤ t' + 1), jText, List.append_nil]; exact ht⟩ (by walk_at "sub")
end
end
section
set_option maxRecDepth 10000
set_option maxHeartbeats 4000000

section
variable {c : Cx} {k : Nat} {env : Env} {σ : Loc}
/-! check_continuation -/
structure COk (x f : Crd) (r : List Crd) : Prop where
  l : wb x.label = []
  ll : x.label.length ≤ 1000
  n : r.length + 1 ≤ 2
  b : f.body.length ≤ 1000
  e : wb f.body ≠ lit "END"
theorem check_fn (G : Good c) (x f : Crd) (r : List Crd) (w : Int) (ok : COk x f r) : Fn c (k + 2) 156 [x.d, .lst ((f :: r).map Crd.d), limD w] (fun d => d = .none) := by
  refine fn_own (fd := fd_check_continuation) (body := bodyOf (stAt 17)) G ["card", "rows", "limits"] (fun _ => rfl) (fun _ => rfl) rfl rfl rfl rfl (bind3 fun v u w => rfl) (by decide) (by decide) (fun L => ?_)
  conv => arg 6; whnf
  have hn := ok.n
  have hz : ((f :: r).map Crd.d).length ≤ 10000000 := by simp; omega
  have e1 : (Str.ofString "").cps.toList = [] := rfl
  repeat walk_at "s"
  refine ⟨fun h => ?_, fun h => ?_⟩
  · have := of_decide_eq_true h; simp at this; omega
  repeat walk_at "s"
  refine (wb_fn G x.label (by have := ok.ll; omega)).to ?_
  repeat walk_at "s"
  rw [ok.l, e1]
  refine ⟨fun h => ?_, fun h => ?_⟩
  · exact absurd rfl (of_decide_eq_true h)
  repeat walk_at "s"
  refine ⟨fun h => ?_, fun h => ?_⟩
  · have := of_decide_eq_true h; simp at this; omega
  repeat walk_at "s"
  refine op_item_lst (d := f.d) ⟨by simp; omega, by simp⟩ hz rfl ?_
  repeat walk_at "s"
  refine (wb_fn G f.body (by have := ok.b; omega)).to ?_
  repeat walk_at "s"
  refine ⟨fun h => ?_, fun h => ?_⟩
  · exact absurd (of_decide_eq_true h) ok.e
  repeat walk_at "s"
  rfl

/-! statements_of -/
noncomputable def jD (w : Nat) (f : Crd) (r : List Crd) : Nat × Nat × List Nat := (f.line, rdLab f.label, jText w (f :: r))
noncomputable def lastS (w : Nat) : List Crd → List (Nat × Nat × List Nat)
  | [] => []
  | f :: r => [jD w f r]
noncomputable def stmts (w : Nat) : List Crd → List Crd → List (Nat × Nat × List Nat)
  | [], rows => lastS w rows
  | x :: r, rows => if isCont x = true then stmts w r (rows ++ [x]) else lastS w rows ++ stmts w r [x]
noncomputable def LastOk (w : Nat) : List Crd → Prop
  | [] => True
  | f :: r => JOk w f r
noncomputable def ContOk (x : Crd) : List Crd → Prop
  | [] => False
  | f :: r => COk x f r
noncomputable def StOk (w : Nat) : List Crd → List Crd → Prop
  | [], rows => LastOk w rows
  | x :: r, rows => if isCont x = true then ContOk x rows ∧ StOk w r (rows ++ [x]) else LastOk w rows ∧ LabOk x.label ∧ StOk w r [x]
noncomputable def stD (p : Nat × Nat × List Nat) : D := .tup [.int p.1, .int p.2.1, .str p.2.2]
theorem noLsts_crd : ∀ l : List Crd, noLsts (l.map Crd.d) = true
  | [] => rfl
  | a :: r => by rw [List.map_cons, noLsts, noLst_crd, noLsts_crd r]; rfl
theorem stmts_fn (G : Good c) (w : Nat) (cs : List Crd) (hw : w ≤ 1000) (hl : cs.length ≤ 1000) (ok : StOk w cs []) (hz : (stmts w cs []).length ≤ 1000) :
    Fn c (k + 4) 163 [.lst (cs.map Crd.d), limD ((w + 6 : Nat) : Int)] (fun d => d = .lst ((stmts w cs []).map stD)) := by
  refine fn_own (fd := fd_statements_of) (body := bodyOf (stAt 18)) G ["cards", "limits"] (fun _ => rfl) (fun _ => rfl) rfl rfl rfl rfl (bind2 fun v u => rfl) (by decide) (by decide) (fun L => ?_)
  conv => arg 6; whnf
  refine ex_cons (s_assignN rfl rfl (evn_list (evs_nil ⟨by simp, rfl, after_next ?_⟩)))
  refine ex_cons (s_assignN rfl rfl (evn_list (evs_nil ⟨by simp, rfl, after_next ?_⟩)))
  repeat walk_at "s"
  have ew : ((w + 6 : Nat) : Int) - 6 = (w : Int) := by omega
  rw [ew]
  refine ex_for (PI := fun items => items = cs.map Crd.d) (itera_list ?_).iterP ?_
  · repeat walk_at "s"
    exact ⟨_, .inl rfl, rfl⟩
  rintro _ rfl
  refine ⟨fun (j : Nat) (σ : Loc) (ω : Own) => ∃ (rows : List Crd) (out : List (Nat × Nat × List Nat)), σ = [V "width" (.int w), V "limits" (limD ((w + 6 : Nat) : Int))] ∧ ω = [W "rows" (rows.map Crd.d), W "out" (out.map stD)] ∧ out ++ stmts w (cs.drop j) rows = stmts w cs [] ∧ StOk w (cs.drop j) rows ∧ rows.length ≤ j,
    again_mk ⟨[], [], rfl, rfl, rfl, ok, Nat.le_refl _⟩ (by walk_at "sub"), ?_, ?_⟩
  rotate_left
  · rintro σ ω ⟨rows, out, rfl, rfl, ho, hok, hrl⟩
    rw [List.length_map, List.drop_length] at ho hok
    have hrl' : (rows.map Crd.d).length ≤ 10000000 := by simp at hrl ⊢; omega
    have hol : (out.map stD).length ≤ 1000000 := by
      have := congrArg List.length ho
      simp at this ⊢; omega
    repeat walk_at "s"
    cases rows with
    | nil =>
      refine ⟨fun h => ?_, fun h => ?_⟩
      · have := of_decide_eq_true h; simp at this
      repeat walk_at "s"
      rw [← ho]; simp [stmts, lastS]
    | cons f r =>
      refine ⟨fun h => ?_, fun h => ?_⟩
      rotate_left
      · have := of_decide_eq_false h; simp at this
      have hj : JOk w f r := hok
      repeat walk_at "s"
      refine (joined_fn G w f r hw hj).to ?_
      repeat walk_at "s"
      rw [← ho]; simp [stmts, lastS, jD, stD]
  rintro j d σ ω hd ⟨rows, out, rfl, rfl, ho, hok, hrl⟩
  rw [List.getElem?_map] at hd
  obtain ⟨x, hx, rfl⟩ := Option.map_eq_some_iff.mp hd
  have hjl := (List.getElem?_eq_some_iff.mp hx).1
  rw [drop_cons' hx] at ho hok
  rw [stmts] at ho
  rw [StOk] at hok
  have hrl' : (rows.map Crd.d).length ≤ 1000000 := by simp; omega
  have hrl'' : (rows.map Crd.d).length ≤ 10000000 := by omega
  have hol : (out.map stD).length ≤ 1000000 := by
    have := congrArg List.length ho
    simp at this ⊢
    have h2 := hz
    omega
  repeat walk_at "s"
  refine (isCont_fn G x).to ?_
  repeat walk_at "s"
  refine ⟨fun h => ?_, fun h => ?_⟩
  · rw [if_pos h] at ho hok
    cases rows with
    | nil => exact hok.1.elim
    | cons f r =>
      repeat walk_at "s"
      refine (check_fn G x f r _ hok.1).to ⟨.inl rfl, ?_⟩
      repeat walk_at "s"
      exact turnF_next ⟨(f :: r) ++ [x], out, rfl, by simp [setO, delL, W]; rfl, ho, hok.2, by simp at hrl ⊢; omega⟩ (by walk_at "sub")
  · rw [if_neg (by simp [h])] at ho hok
    obtain ⟨hlast, hlab, hnext⟩ := hok
    repeat walk_at "n"
    refine ex1_cut fun PT hPT => ?_
    have fin : ∀ out', out ++ lastS w rows = out' → ∀ σ, SubL [V "card" x.d, V "width" (.int w), V "limits" (limD ((w + 6 : Nat) : Int))] σ → PT (.next σ [W "rows" (rows.map Crd.d), W "out" (out'.map stD)]) := by
      intro out' ho' σ hσ
      refine hPT _ (after_next (ex_weaken hσ ?_))
      refine ex_cons (s_expr rfl rfl ?_)
      repeat walk_at "s"
      refine (rdLab_fn G x hlab).to ⟨.inr ⟨_, rfl⟩, after_next ?_⟩
      refine ex_cons (s_assignN rfl rfl (evn_list (evs_nil ⟨by simp, rfl, after_next (ex_nil (after_next ?_))⟩)))
      repeat walk_at "s"
      exact turnF_next ⟨[x], out', rfl, rfl, by rw [← ho, ← ho']; simp, hnext, by simp⟩ (by walk_at "sub")
    clear hPT
    refine ex_if ?_
    repeat walk_at "s"
    cases rows with
    | nil =>
      refine ⟨fun h => ?_, fun h => ?_⟩
      · have := of_decide_eq_true h; simp at this
      refine ex_nil ?_
      exact fin out (by simp [lastS]) _ (by walk_at "sub")
    | cons f r =>
      refine ⟨fun h => ?_, fun h => ?_⟩
      rotate_left
      · have := of_decide_eq_false h; simp at this
      have hj : JOk w f r := hlast
      repeat walk_at "s"
      refine (joined_fn G w f r hw hj).to ?_
      repeat walk_at "s"
      have := fin (out ++ lastS w (f :: r)) rfl [V "card" x.d, V "width" (.int w), V "limits" (limD ((w + 6 : Nat) : Int))] (by walk_at "sub")
      rw [List.map_append] at this
      exact this
end
end
section
set_option maxRecDepth 10000
set_option maxHeartbeats 1000000

section
variable {c : Cx} {k : Nat} {env : Env} {σ : Loc}
/-! read_statements -/
noncomputable def rdSt (w : Nat) (ps : List (List Nat)) : List (Nat × Nat × List Nat) := stmts w (rdCards (w + 6) 0 ps) []
theorem read_fn (G : Good c) (x : List Nat) (ps parts : List (List Nat)) (w : Nat) (hw : w ≤ 900) (hx : x = joinN parts) (hl : x.length ≤ 1000000) (h0 : ps ≠ []) (hn : ∀ p ∈ ps, 10 ∉ p) (hlen : ps.length ≤ 1000) (hrow : ∀ p ∈ ps, p.length ≤ 100000)
    (hp : (parts = ps ∧ ps.getLast? ≠ some []) ∨ parts = ps ++ [[]]) (ok : StOk w (rdCards (w + 6) 0 ps) []) (hz : (rdSt w ps).length ≤ 1000) :
    Fn c (k + 5) 170 [.str x, limD ((w + 6 : Nat) : Int)] (fun d => d = .lst ((rdSt w ps).map stD)) := by
  refine fn_own (fd := fd_read_statements) (body := bodyOf (stAt 19)) G ["text", "limits"] (fun _ => rfl) (fun _ => rfl) rfl rfl rfl rfl (bind2 fun v u => rfl) (by decide) (by decide) (fun L => ?_)
  conv => arg 6; whnf
  repeat walk_at "s"
  refine (rdCards_fn G x ps parts (w + 6) (by omega) hx hl h0 hn hlen hrow hp).to ?_
  repeat walk_at "s"
  refine (stmts_fn G w _ (by omega) (Nat.le_trans (rdCards_len _ _ _) hlen) ok hz).to ?_
  repeat walk_at "s"
  rfl

/-! _law_stock -/
noncomputable def stockL : List (List Nat) := [lit "A=B+1", lit "DO 10 I=1,10", lit "WRITE(6,'(A B)')X", lit "CONTINUE", lit "IF(L)GO TO 5", lit "CALL S('IT''S',*9)", lit "REAL X(3),Y", lit "FORMAT(3HA B,I5)", lit "STOP 'C  D'", lit "END IF", lit "GO TO(1,2),K", lit "X(1:2)='  '"]
theorem stock_fn (G : Good c) : Fn c (k + 1) 373 [] (fun d => d = .lst (stockL.map .str)) := by
  refine fn_own (fd := fd_law_stock) (body := bodyOf (stAt 51)) G [] (fun _ => rfl) (fun _ => rfl) rfl rfl rfl rfl (bind0 rfl) (by decide) (by decide) (fun L => ?_)
  conv => arg 6; whnf
  with_reducible refine ex_cons ?_
  with_reducible refine ex_return ?_
  with_reducible refine ev_fresh ?_
  with_reducible refine evn_list ?_
  iterate 12
    with_reducible refine s_evs ?_ ?_
    · rfl
    with_reducible refine ev_str ?_
  with_reducible refine evs_nil ?_
  with_reducible refine And.intro ?_ ?_
  · exact Nat.le_of_ble_eq_true (by decide +kernel)
  with_reducible refine after_ret ?_
  with_reducible refine retP_ret ?_
  exact congrArg D.lst (by unfold stockL; simp only [List.map_cons, List.map_nil])

/-! _law_breaks -/
noncomputable def quo (x : List Nat) (j : Nat) : Bool := decide (((x.take j).filter fun a => decide (a = 39)).length % 2 = 1)
noncomputable def has3 (x : List Nat) : Bool := inStr (lit "3HA") x
noncomputable def brkP (x : List Nat) (j : Nat) : Bool := !quo x j && decide (4 < j) && !has3 x && decide (x[j - 1]? ≠ some 39)
noncomputable def brk (x : List Nat) : List Nat := (List.range x.length).filter (brkP x)
theorem quo_succ {x : List Nat} {j a : Nat} (h : x[j]? = some a) : quo x (j + 1) = if a = 39 then !quo x j else quo x j := by
  unfold quo
  rw [List.take_add_one, h]
  simp only [Option.toList, List.filter_append, List.length_append]
  by_cases ha : a = 39
  · rw [if_pos ha]
    simp only [ha, List.filter_cons, decide_true, if_pos, List.filter_nil, List.length_cons, List.length_nil]
    rw [Bool.eq_iff_iff]; simp; omega
  · rw [if_neg ha]
    simp [ha]
theorem brk_fn (G : Good c) (x : List Nat) (hx : x.length ≤ 10000) : Fn c (k + 1) 380 [.str x] (fun d => d = .lst ((brk x).map fun i : Nat => D.int (i : Int))) := by
  refine fn_own (fd := fd_law_breaks) (body := bodyOf (stAt 53)) G ["text"] (fun _ => rfl) (fun _ => rfl) rfl rfl rfl rfl (bind1 fun v => rfl) (by decide) (by decide) (fun L => ?_)
  conv => arg 6; whnf
  have hx' : x.length ≤ 10000000 := by omega
  have e1 : (Str.ofString "'").cps.toList = [39] := rfl
  refine ex_cons (s_assignN rfl rfl (evn_list (evs_nil ⟨by simp, rfl, after_next ?_⟩)))
  repeat walk_at "s"
  refine ex_for (PI := fun items => items = rngs 0 x.length 1) (itera_rng ?_).iterP ?_
  · repeat walk_at "s"
    refine op_range1 ?_
    have := small_of (a := 0) (b := x.length) (c := 1) (by omega)
    exact ⟨_, _, _, rfl, this.1, this.2, rfl⟩
  rintro _ rfl
  rw [rngs_one]
  refine ⟨fun (j : Nat) (σ : Loc) (ω : Own) => ∃ (b : Bool) (l : List Nat), σ = [V "quoted" (.bool b), V "text" (.str x)] ∧ ω = [W "places" (l.map fun i : Nat => D.int (i : Int))] ∧ b = quo x j ∧ l = (List.range j).filter (brkP x) ∧ j ≤ x.length, again_mk ⟨false, [], rfl, rfl, rfl, rfl, Nat.zero_le _⟩ (by walk_at "sub"), ?_, ?_⟩
  rotate_left
  · rintro σ ω ⟨b, l, rfl, rfl, hb, hl, _⟩
    rw [List.length_map, List.length_range] at hl
    repeat walk_at "s"
    rw [hl]; rfl
  rintro j d σ ω hd ⟨b, l, rfl, rfl, hb, hl, hjx⟩
  rw [List.getElem?_map] at hd
  obtain ⟨t, ht, rfl⟩ := Option.map_eq_some_iff.mp hd
  obtain ⟨hj, rfl⟩ := range_item ht
  obtain ⟨a, ha⟩ := get_some (x := x) (j := t) hj
  have hll : (l.map fun i : Nat => D.int (i : Int)).length ≤ 1000000 := by
    rw [hl]
    have := List.length_filter_le (brkP x) (List.range t)
    simp at this ⊢; omega
  have hq := quo_succ ha
  rw [← hb] at hq
  -- the second test
  have second : ∀ l', (List.range (t + 1)).filter (brkP x) = l' → ∀ PO : Out → Prop, (∀ σ, SubL [V "quoted" (.bool (quo x (t + 1))), V "text" (.str x)] σ → PO (.next σ [W "places" (l'.map fun i : Nat => D.int (i : Int))])) →
      ∀ σ, SubL [V "at" (.int t), V "quoted" (.bool b), V "text" (.str x)] σ → Ex c k (callEnv fd_law_breaks L 380) σ [W "places" (l'.map fun i : Nat => D.int (i : Int))] ((loopBody (stmtAt (bodyOf (stAt 53)) 2)).drop 1) PO := by
    intro l' hl' PO hPO σ hσ
    refine ex_weaken hσ ?_
    conv => arg 6; whnf
    repeat walk_at "s"
    refine op_item_str (a := a) ⟨by omega, by omega⟩ hx' ha ?_
    repeat walk_at "s"
    rw [e1]
    refine ⟨fun h => ?_, fun h => ?_⟩
    · have h : a = 39 := by simpa using h
      rw [if_pos h] at hq
      rw [hq] at hPO
      repeat walk_at "s"
      exact hPO _ (by walk_at "sub")
    · have h : ¬ a = 39 := by simpa using h
      rw [if_neg h] at hq
      rw [hq] at hPO
      repeat walk_at "s"
      exact hPO _ (by walk_at "sub")
  repeat walk_at "n"
  refine ex1_cut fun PT hPT => ?_
  have done : ∀ l', (List.range (t + 1)).filter (brkP x) = l' → ∀ σ, SubL [V "at" (.int t), V "quoted" (.bool b), V "text" (.str x)] σ → PT (.next σ [W "places" (l'.map fun i : Nat => D.int (i : Int))]) := fun l' h' σ hσ =>
    hPT _ (after_next (second l' h' _ (fun σ h2 => turnF_next ⟨_, l', rfl, rfl, rfl, h'.symm, hj⟩ h2) σ hσ))
  clear second hPT
  have hr : (List.range (t + 1)).filter (brkP x) = l ++ (if brkP x t = true then [t] else []) := by
    rw [List.range_succ, List.filter_append, ← hl]
    by_cases h : brkP x t = true <;> simp [h]
  have hbp : brkP x t = (!b && decide (4 < t) && !has3 x && decide (x[t - 1]? ≠ some 39)) := by unfold brkP; rw [← hb]
  have no : brkP x t = false → ∀ σ, SubL [V "at" (.int t), V "quoted" (.bool b), V "text" (.str x)] σ → PT (.next σ [W "places" (l.map fun i : Nat => D.int (i : Int))]) := fun h => done l (by rw [hr, h]; simp)
  refine ex_if ?_
  repeat walk_at "s"
  refine ⟨fun h => ?_, fun h => ?_⟩
  rotate_left
  · repeat walk_at "s"
    exact no (by rw [hbp, h]; rfl) _ (by walk_at "sub")
  have h1 := h
  repeat walk_at "s"
  refine ⟨fun h => ?_, fun h => ?_⟩
  rotate_left
  · have h := of_decide_eq_false h
    repeat walk_at "s"
    exact no (by rw [hbp, decide_eq_false (by omega : ¬ 4 < t)]; simp) _ (by walk_at "sub")
  have h2 : 4 < t := by have := of_decide_eq_true h; omega
  repeat walk_at "s"
  refine ⟨fun h => ?_, fun h => ?_⟩
  rotate_left
  · repeat walk_at "s"
    exact no (by rw [hbp, show (!has3 x) = false from h]; simp) _ (by walk_at "sub")
  have h3 : (!has3 x) = true := h
  obtain ⟨p, hp⟩ := get_some (x := x) (j := t - 1) (by omega)
  have ht1 : ((t : Int) - 1) = ((t - 1 : Nat) : Int) := by omega
  repeat walk_at "s"
  rw [ht1]
  refine op_item_str (a := p) ⟨by omega, by omega⟩ hx' hp ?_
  repeat walk_at "s"
  rw [e1]
  refine ⟨fun h => ?_, fun h => ?_⟩
  rotate_left
  · have h : p = 39 := by simpa using h
    repeat walk_at "s"
    exact no (by rw [hbp, hp, h]; simp) _ (by walk_at "sub")
  have h4 : ¬ p = 39 := by simpa using h
  repeat walk_at "s"
  have := done (l ++ [t]) (by rw [hr, hbp, h1, h3, hp, decide_eq_true h2]; simp [h4]) [V "at" (.int t), V "quoted" (.bool b), V "text" (.str x)] (by walk_at "sub")
  rw [List.map_append] at this
  exact this
end
end
section
set_option maxRecDepth 10000
set_option maxHeartbeats 1000000

section
variable {c : Cx} {k : Nat} {env : Env} {σ : Loc}
theorem fmod_nat (a b : Nat) : Int.fmod (a : Int) (b : Int) = ((a % b : Nat) : Int) := by
  rw [Int.fmod_eq_emod_of_nonneg _ (Int.natCast_nonneg b)]; rfl
theorem fdiv_nat (a b : Nat) : Int.fdiv (a : Int) (b : Int) = ((a / b : Nat) : Int) := by
  rw [Int.fdiv_eq_ediv_of_nonneg _ (Int.natCast_nonneg b)]; rfl
noncomputable def stepN (n : Nat) : Nat := if n * 7 / 5 + 3 > 1000000 then (n * 7 / 5 + 3) % 991 else n * 7 / 5 + 3
theorem stepN_le (n : Nat) (h : n ≤ 2000000000) : stepN n ≤ 2000000000 := by unfold stepN; split <;> omega
noncomputable def bend (n a : Nat) : Nat := if n % 3 = 1 ∧ 65 ≤ a ∧ a ≤ 90 then a + 32 else a
noncomputable def bentL (b3 : Bool) : List Nat → Nat → Bool → List Nat
  | [], _, _ => []
  | a :: r, n, q => ((if q = false ∧ b3 = false ∧ n % 5 = 1 then [32] else []) ++ [if q = false ∧ b3 = false then bend n a else a]) ++ bentL b3 r (stepN n) (if a = 39 then !q else q)
noncomputable def bent (x : List Nat) (n : Nat) : List Nat := bentL (has3 x) x n false
theorem bentL_len (b3 : Bool) : ∀ (x : List Nat) (n : Nat) (q : Bool), (bentL b3 x n q).length ≤ 2 * x.length
  | [], _, _ => Nat.zero_le _
  | a :: r, n, q => by
    have := bentL_len b3 r (stepN n) (if a = 39 then !q else q)
    rw [bentL]
    simp only [List.length_append, List.length_cons, List.length_nil]
    split <;> simp <;> omega
theorem bend_q (n a : Nat) : bend n a = 39 ↔ a = 39 := by unfold bend; split <;> omega
theorem bent_fn (G : Good c) (x : List Nat) (n : Nat) (hx : x.length ≤ 10000) (hn : n ≤ 2000000000) : Fn c (k + 1) 387 [.str x, .int n] (fun d => d = .str (bent x n)) := by
  refine fn_own (fd := fd_law_bent) (body := bodyOf (stAt 54)) G ["text", "n"] (fun _ => rfl) (fun _ => rfl) rfl rfl rfl rfl (bind2 fun v u => rfl) (by decide) (by decide) (fun L => ?_)
  conv => arg 6; whnf
  have eq1 : (Str.ofString "'").cps.toList = [39] := rfl
  have eq2 : (Str.ofString " ").cps.toList = [32] := rfl
  have eqA : (Str.ofString "A").cps.toList = [65] := rfl
  have eqZ : (Str.ofString "Z").cps.toList = [90] := rfl
  repeat walk_at "s"
  refine ex_for (PI := fun items => items = x.map fun b => .str [b]) (itera_str ?_).iterP ?_
  · repeat walk_at "s"
    rfl
  rintro _ rfl
  refine ⟨fun (j : Nat) (σ : Loc) (ω : Own) => ∃ (o : List Nat) (q : Bool) (m : Nat), σ = [V "out" (.str o), V "quoted" (.bool q), V "n" (.int m), V "text" (.str x)] ∧ ω = [] ∧ o ++ bentL (has3 x) (x.drop j) m q = bent x n ∧ m ≤ 2000000000, again_mk ⟨[], false, n, rfl, rfl, rfl, hn⟩ (by walk_at "sub"), ?_, ?_⟩
  rotate_left
  · rintro σ ω ⟨o, q, m, rfl, rfl, ho, _⟩
    rw [List.length_map, List.drop_length, bentL, List.append_nil] at ho
    repeat walk_at "s"
    rw [ho]
  rintro j d σ ω hd ⟨o, q, m, rfl, rfl, ho, hm⟩
  rw [List.getElem?_map] at hd
  obtain ⟨a, ha, rfl⟩ := Option.map_eq_some_iff.mp hd
  rw [drop_cons ha, bentL] at ho
  have hol : o.length ≤ 20000 := by
    have h1 := congrArg List.length ho
    have h2 := bentL_len (has3 x) x n false
    unfold bent at h1
    simp only [List.length_append] at h1
    omega
  have hstep := stepN_le m hm
  -- the end of a turn
  have last : ∀ (a' : Nat) (o' : List Nat), o' ++ [a'] = o ++ ((if q = false ∧ has3 x = false ∧ m % 5 = 1 then [32] else []) ++ [if q = false ∧ has3 x = false then bend m a else a]) → (a' = 39 ↔ a = 39) → o'.length ≤ 30000 → ∀ PO : Out → Prop,
      (∀ σ, SubL [V "out" (.str (o' ++ [a'])), V "quoted" (.bool (if a = 39 then !q else q)), V "n" (.int (stepN m)), V "text" (.str x)] σ → PO (.next σ [])) →
      ∀ σ, SubL [V "sign" (.str [a']), V "out" (.str o'), V "quoted" (.bool q), V "n" (.int m), V "text" (.str x)] σ → Ex c k (callEnv fd_law_bent L 387) σ [] ((loopBody (stmtAt (bodyOf (stAt 54)) 2)).drop 1) PO := by
    intro a' o' he hq ho' PO hPO σ hσ
    have fin : ∀ σ, SubL [V "sign" (.str [a']), V "out" (.str o'), V "quoted" (.bool (if a = 39 then !q else q)), V "n" (.int m), V "text" (.str x)] σ → Ex c k (callEnv fd_law_bent L 387) σ [] ((loopBody (stmtAt (bodyOf (stAt 54)) 2)).drop 2) PO := by
      intro σ hσ
      refine ex_weaken hσ ?_
      conv => arg 6; whnf
      repeat walk_at "s"
      refine op_iadd_str (by simp; omega) ?_
      repeat walk_at "s"
      refine op_mul_int ⟨by omega, by omega⟩ ?_
      repeat walk_at "s"
      refine op_div_int (by decide) ⟨by omega, by decide⟩ ?_
      repeat walk_at "s"
      refine op_pow_int ⟨by decide, by decide⟩ (by decide) ?_
      repeat walk_at "s"
      have e7 : Int.fdiv ((m : Int) * 7) 5 + 3 = ((m * 7 / 5 + 3 : Nat) : Int) := by
        have : (m : Int) * 7 = ((m * 7 : Nat) : Int) := by omega
        rw [this, show (5 : Int) = ((5 : Nat) : Int) from rfl, fdiv_nat]; rfl
      rw [e7]
      refine ⟨fun h => ?_, fun h => ?_⟩
      · have h := of_decide_eq_true h
        rw [show ((10 : Int) ^ (Int.toNat 6)) = 1000000 by decide] at h
        have h : m * 7 / 5 + 3 > 1000000 := by omega
        have es : stepN m = (m * 7 / 5 + 3) % 991 := by unfold stepN; rw [if_pos h]
        rw [es] at hPO
        repeat walk_at "s"
        refine op_imod_int (by decide) ?_
        rw [show (991 : Int) = ((991 : Nat) : Int) from rfl, fmod_nat]
        repeat walk_at "s"
        exact hPO _ (by walk_at "sub")
      · have h := of_decide_eq_false h
        rw [show ((10 : Int) ^ (Int.toNat 6)) = 1000000 by decide] at h
        have h : ¬ m * 7 / 5 + 3 > 1000000 := by omega
        have es : stepN m = m * 7 / 5 + 3 := by unfold stepN; rw [if_neg h]
        rw [es] at hPO
        repeat walk_at "s"
        exact hPO _ (by walk_at "sub")
    refine ex_weaken hσ ?_
    conv => arg 6; whnf
    refine ex_cons (ex1_cut fun P0 hP0 => ?_)
    have fin2 : ∀ σ, SubL [V "sign" (.str [a']), V "out" (.str o'), V "quoted" (.bool (if a = 39 then !q else q)), V "n" (.int m), V "text" (.str x)] σ → P0 (.next σ []) := fun σ hσ => hP0 _ (after_next (fin σ hσ))
    clear fin hP0
    repeat walk_at "s"
    rw [eq1]
    refine ⟨fun h => ?_, fun h => ?_⟩
    · have h : a = 39 := hq.mp (by simpa using h)
      rw [if_pos h] at fin2
      repeat walk_at "s"
      exact fin2 _ (by walk_at "sub")
    · have h : ¬ a = 39 := fun e => by have := hq.mpr e; simp at h; exact h this
      rw [if_neg h] at fin2
      repeat walk_at "s"
      exact fin2 _ (by walk_at "sub")
  repeat walk_at "n"
  refine ex1_cut fun PT hPT => ?_
  have done : ∀ (a' : Nat) (o' : List Nat), o' ++ [a'] = o ++ ((if q = false ∧ has3 x = false ∧ m % 5 = 1 then [32] else []) ++ [if q = false ∧ has3 x = false then bend m a else a]) → (a' = 39 ↔ a = 39) → o'.length ≤ 30000 →
      ∀ σ, SubL [V "sign" (.str [a']), V "out" (.str o'), V "quoted" (.bool q), V "n" (.int m), V "text" (.str x)] σ → PT (.next σ []) := fun a' o' h1 h2 h3 σ hσ =>
    hPT _ (after_next (last a' o' h1 h2 h3 _ (fun σ h => turnF_next ⟨o' ++ [a'], _, stepN m, rfl, rfl, by rw [h1, ← ho]; simp, hstep⟩ h) σ hσ))
  clear last hPT
  refine ex_if ?_
  repeat walk_at "s"
  refine ⟨fun h => ?_, fun h => ?_⟩
  rotate_left
  · have hq : q = true := by simpa using h
    repeat walk_at "s"
    refine done a o ?_ Iff.rfl (by omega) _ (by walk_at "sub")
    rw [if_neg (by simp [hq]), if_neg (by simp [hq])]; rfl
  have hq : q = false := by simpa using h
  repeat walk_at "s"
  refine ⟨fun h => ?_, fun h => ?_⟩
  rotate_left
  · have h3 : has3 x = true := by have : (!has3 x) = false := h
                                  simpa using this
    repeat walk_at "s"
    refine done a o ?_ Iff.rfl (by omega) _ (by walk_at "sub")
    rw [if_neg (by simp [h3]), if_neg (by simp [h3])]; rfl
  have h3 : has3 x = false := by have : (!has3 x) = true := h
                                 simpa using this
  rw [show (if q = false ∧ has3 x = false then bend m a else a) = bend m a from if_pos ⟨hq, h3⟩] at done
  have e5 : (if q = false ∧ has3 x = false ∧ m % 5 = 1 then [32] else ([] : List Nat)) = if m % 5 = 1 then [32] else [] := by
    by_cases h : m % 5 = 1
    · rw [if_pos ⟨hq, h3, h⟩, if_pos h]
    · rw [if_neg (fun w => h w.2.2), if_neg h]
  rw [e5] at done
  repeat walk_at "n"
  refine ex1_cut fun P2 hP2 => ?_
  have done2 : ∀ o1, o1 = o ++ (if m % 5 = 1 then [32] else []) → ∀ σ, SubL [V "sign" (.str [a]), V "out" (.str o1), V "quoted" (.bool q), V "n" (.int m), V "text" (.str x)] σ → P2 (.next σ []) := by
    intro o1 h1 σ hσ
    have ho1 : o1.length ≤ 30000 := by rw [h1]; simp; split <;> simp <;> omega
    have stay : bend m a = a → ∀ σ, SubL [V "sign" (.str [a]), V "out" (.str o1), V "quoted" (.bool q), V "n" (.int m), V "text" (.str x)] σ → PT (.next σ []) := fun hb => done a o1 (by rw [hb, h1]; simp) Iff.rfl ho1
    refine hP2 _ (after_next (ex_weaken hσ ?_))
    repeat walk_at "s"
    refine op_mod_int (by decide) ?_
    repeat walk_at "s"
    rw [show (3 : Int) = ((3 : Nat) : Int) from rfl, fmod_nat]
    refine ⟨fun h => ?_, fun h => ?_⟩
    rotate_left
    · have h := of_decide_eq_false h
      repeat walk_at "s"
      refine stay (by unfold bend; rw [if_neg (fun w => h (by omega))]) _ (by walk_at "sub")
    have hm3 : m % 3 = 1 := by have := of_decide_eq_true h; omega
    repeat walk_at "s"
    rw [eqA, lt_lit 65 [a] a rfl]
    refine ⟨fun h => tf_false (tf_false ?_), fun h => ?_⟩
    · have h : ¬ 65 ≤ a := by simp at h; omega
      refine ex_nil (after_next (ex_nil ?_))
      refine stay (by unfold bend; rw [if_neg (fun w => h w.2.1)]) _ (by walk_at "sub")
    have h65 : 65 ≤ a := by simp at h; omega
    repeat walk_at "s"
    rw [eqZ, StrLaws.lt_cons_cons, StrLaws.lt_nil_nil]
    refine ⟨fun h => ?_, fun h => ?_⟩
    rotate_left
    · have h : ¬ a ≤ 90 := by simp at h; omega
      refine tf_false (ex_nil (after_next (ex_nil ?_)))
      refine stay (by unfold bend; rw [if_neg (fun w => h w.2.2)]) _ (by walk_at "sub")
    have h90 : a ≤ 90 := by simp at h; omega
    repeat walk_at "s"
    refine op_chr (by omega) (by omega) ?_
    repeat walk_at "s"
    have hb : bend m a = a + 32 := by unfold bend; rw [if_pos ⟨hm3, h65, h90⟩]
    have en : ((a : Int) + 32).toNat = a + 32 := by omega
    rw [en]
    exact done (a + 32) o1 (by rw [hb, h1]; simp) (by omega) ho1 _ (by walk_at "sub")
  clear hP2
  refine ex_if ?_
  repeat walk_at "s"
  refine op_mod_int (by decide) ?_
  repeat walk_at "s"
  rw [show (5 : Int) = ((5 : Nat) : Int) from rfl, fmod_nat]
  refine ⟨fun h => ?_, fun h => ?_⟩
  · have h : m % 5 = 1 := by have := of_decide_eq_true h; omega
    repeat walk_at "s"
    rw [eq2]
    refine op_iadd_str (by simp; omega) ?_
    repeat walk_at "s"
    exact done2 _ (by rw [if_pos h]) _ (by walk_at "sub")
  · have h : ¬ m % 5 = 1 := by have := of_decide_eq_false h; omega
    repeat walk_at "s"
    exact done2 o (by rw [if_neg h]; simp) _ (by walk_at "sub")
end
end
section
set_option maxRecDepth 10000
set_option maxHeartbeats 1000000

section
variable {c : Cx} {k : Nat} {env : Env} {σ : Loc}
noncomputable def headL (label ahead : Nat) : List Nat := if label = 0 then List.replicate 5 32 else List.replicate ahead 32 ++ decNat label ++ List.replicate (5 - ahead - (decNat label).length) 32
theorem head_fn (G : Good c) (label ahead : Nat) (hl : label < 1000000) (ha : ahead ≤ 100) (hd : (decNat label).length ≤ 100) : Fn c (k + 1) 394 [.int label, .int ahead] (fun d => d = .str (headL label ahead)) := by
  refine fn_own (fd := fd_law_head) (body := bodyOf (stAt 55)) G ["label", "ahead"] (fun _ => rfl) (fun _ => rfl) rfl rfl rfl rfl (bind2 fun v u => rfl) (by decide) (by decide) (fun L => ?_)
  conv => arg 6; whnf
  have e32 : (Str.ofString " ").cps.toList = [32] := rfl
  have hd' : (decNat label).length ≤ 10000000 := by omega
  repeat walk_at "s"
  refine ⟨fun h => ?_, fun h => ?_⟩
  · have h : label = 0 := by have := of_decide_eq_true h; omega
    repeat walk_at "s"
    unfold headL; rw [if_pos h]; rfl
  have h : ¬ label = 0 := by have := of_decide_eq_false h; omega
  repeat walk_at "s"
  rw [e32]
  refine op_mul_blank (by omega) ?_
  repeat walk_at "s"
  refine op_str (by omega) (by omega) ?_
  repeat walk_at "s"
  refine op_str (by omega) (by omega) ?_
  repeat walk_at "s"
  rw [e32]
  refine op_mul_blank (by omega) ?_
  refine op_add_str (by rw [List.length_append, List.length_replicate, List.length_replicate]; omega) ?_
  repeat walk_at "s"
  unfold headL; rw [if_neg h]
  have e : ((5 : Int) - (ahead : Int) - ((decNat label).length : Int)).toNat = 5 - ahead - (decNat label).length := by omega
  rw [e, Int.toNat_natCast]
end
end
section
set_option maxRecDepth 10000
set_option maxHeartbeats 1000000
section
variable {c : Cx} {k : Nat} {env : Env} {σ σc : Loc} {H : List Addr} {A : Around} {s s₂ : Shared}

/-- one turn of a comprehension -/
noncomputable def CElt (c : Cx) (k : Nat) (cenv : Env) (σc : Loc) (target : Expr) (d : D) (elt : Expr) (P : D → Prop) : Prop :=
  Asg c k cenv target d σc [] fun σ' ω' => ω' = [] ∧ Ev c k cenv σ' elt P

theorem comp_block {elt target iter : Expr} {scope : Scope} {cl : List (Str × Addr)} {pos : Pos} {it : Addr} {items : List D} {fp wr : List Addr} {Pv : Nat → Value → Prop} {W : Nat → Heap → Prop} {G : Nat → List D → Prop} {E : Value → Shared → Prop}
    {RR : Value → Addr → Result → Shared → Prop}
    (a : At c k env σ H A s) (ee : Ext s s₂) (X : WA c A H s s₂ it items fp wr Pv W) (hcell : ∀ y ∈ scope.names, y.2 ≠ .cell) (hkind : scope.kind = .function) (hsz : items.length ≤ 100000)
    (hσ : ∀ x d, σc.lookup x = some d → σ.lookup x = some d ∧ env.kindOf x = some .cell ∧ (relabel scope env).names.lookup x = some .cell ∧ cl.lookup x = env.cells.lookup x)
    (hcl : ∀ x b, cl.lookup x = some b → ∃ d, σc.lookup x = some d)
    (G0 : G 0 []) (hG : ∀ j d l, items[j]? = some d → G j l → ∀ C, CElt c k (compEnvC scope cl C env) σc target d elt fun r => G (j + 1) (l ++ [r]))
    (hGl : ∀ j l, G j l → l.length = j)
    (hRR : ∀ D C h' tk m' l vs n, s.heap.get? D = none → s.heap.get? C = none → D ≠ C → h'.Ns C m' → h'.get? D = some (listOf (List.toArray vs) n) → RepL (hid (C :: D :: (wr ++ H)) h') l vs → G items.length l →
      (∀ b o, s.heap.get? b = some o → h'.get? b = some o) → s.toks ≤ tk → RR (.ref D) C (.ok .next) { s with heap := h', toks := tk }) :
    wpAny (model c.prog c.w) A (newList []) (fun acc s₃ => wpAny (model c.prog c.w) A (newFunctionEnv scope env.globals cl [] env.qual none .none (some env)) (fun cenv s₄ =>
      codeAny (model c.prog c.w) A (.compStart (.ListComp elt [⟨target, iter, [], 0⟩] scope pos) 0 (.ref it) acc { cenv with scope := relabel scope env }) (RR acc cenv.locals) s₄) E s₃) E s₂ := by
  obtain ⟨⟨h2, t2, rfl, k2⟩, tk2⟩ := ee
  refine wpAny_newObj_type (wpAny_newFunctionEnv hcell (by intro y hy; simp at hy) (fun h₁ hns₁ hsb₁ => ?_) hkind)
  dsimp only at hns₁ hsb₁ ⊢
  generalize hH2 : h2.push { cls := .type "list", dict := none, data := .seq ([] : List Value).toArray } = H2 at hns₁ hsb₁ ⊢
  have hC : H2.objs.size = h2.objs.size + 1 := by rw [← hH2, Heap.size_push]
  have hDC : h2.objs.size ≠ H2.objs.size := by rw [hC]; exact Nat.ne_of_lt (Nat.lt_succ_self _)
  have old2 : ∀ b o, h2.get? b = some o → h₁.get? b = some o := fun b o e => hsb₁.extBut b o (by rw [hC]; exact Nat.ne_of_lt (Nat.lt_succ_of_lt (Heap.lt_size e))) (Heap.get?_push_of_some _ (hH2 ▸ Heap.get?_push_of_some _ e))
  have old : ∀ b o, s.heap.get? b = some o → h₁.get? b = some o := fun b o e => old2 b o (k2 b o e)
  have hacc : h₁.get? h2.objs.size = some (listOf #[] 0) := hsb₁.extBut _ _ hDC (Heap.get?_push_of_some _ (hH2 ▸ Heap.get?_push_size _ rfl))
  have fresh : ∀ b, h2.objs.size ≤ b → s.heap.get? b = none := fun b hb => by
    cases e : s.heap.get? b with
    | none => rfl
    | some o' => exact absurd (Heap.lt_size (k2 b o' e)) (Nat.not_lt.mpr hb)
  generalize hDe : h2.objs.size = D at *
  generalize hCe : H2.objs.size = C at *
  have fD : s.heap.get? D = none := fresh _ (Nat.le_refl _)
  have fC : s.heap.get? C = none := fresh _ (by rw [hC]; exact Nat.le_succ _)
  have ne2 : ∀ b o, h2.get? b = some o → b ≠ C ∧ b ≠ D := fun b o e => by
    have := Heap.lt_size e
    rw [hDe] at this
    exact ⟨by rw [hC]; exact Nat.ne_of_lt (Nat.lt_succ_of_lt this), Nat.ne_of_lt this⟩
  have fpn : ∀ b ∈ fp, b ≠ C ∧ b ≠ D := fun b m => let ⟨o, e⟩ := X.ex 0 _ X.st b m; ne2 b o e
  have wrn : ∀ b ∈ wr, b ≠ C ∧ b ≠ D := fun b m => fpn b (X.w.sub b m)
  -- the frame's state, wherever the loop stands
  have mk : ∀ h' tk, (∀ b o, s.heap.get? b = some o → h'.get? b = some o) → (∃ m, h'.Ns C m) → (∃ o, h'.get? D = some o) → (∀ b ∈ wr, ∃ o, h'.get? b = some o) → s.toks ≤ tk →
      St c (compEnvC scope cl C env) σc [] [] (D :: (wr ++ H)) { s with heap := h', toks := tk } := by
    intro h' tk kk hn hD hw ht
    have sg : Sub (hid H s.heap) (hid (C :: ([] ++ (D :: (wr ++ H)))) h') := fun b o e => by
      have e0 := hid_old e
      unfold hid at e ⊢
      split at e
      · cases e
      · rename_i n
        rw [if_neg]; exact kk _ _ e0
        intro m
        simp only [List.nil_append, List.mem_cons, List.mem_append] at m
        rcases m with rfl | rfl | m | m
        · rw [fC] at e0; cases e0
        · rw [fD] at e0; cases e0
        · rw [X.fr b m] at e0; cases e0
        · exact n m
    have cells : ∀ x d, σc.lookup x = some d → ∃ b o v, (compEnvC scope cl C env).cells.lookup x = some b ∧ s.heap.get? b = some o ∧ o.data = .cell (some v) ∧ Rep (hid H s.heap) d v := fun x d e => by
      obtain ⟨q1, q2, q3, q4⟩ := hσ x d e
      obtain ⟨v, hv, hr⟩ := a.loc x d q1
      rcases hv with ⟨w, _⟩ | ⟨_, b, o, w1, w2, w3⟩
      · rw [q2] at w; cases w
      · exact ⟨b, o, v, q4.trans w1, w2, w3, hr⟩
    refine ⟨⟨s.heap, a.gl, fun b o e => ⟨kk b o e, (fun (q : b = C) => by rw [q, fC] at e; cases e), by simp⟩⟩, hn, fun b m => ?_, fun x d e => ?_, by simp only [OwnR], .nil, (fun b m => nomatch m), fun x b e => ?_, Nat.lt_of_lt_of_le a.tk ht, ⟨a.eo.g, a.eo.b, hkind⟩, fun b m => ?_⟩
    · simp only [List.nil_append, List.mem_cons, List.mem_append] at m
      rcases m with rfl | m | m
      · exact hD
      · exact hw b m
      · obtain ⟨o, e⟩ := a.ho b m; exact ⟨o, kk b o e⟩
    · obtain ⟨b, o, v, q1, q2, q3, q4⟩ := cells x d e
      exact ⟨v, .inr ⟨.inl (hσ x d e).2.2.1, b, o, q1, kk _ _ q2, q3⟩, q4.mono sg⟩
    · obtain ⟨d, hd⟩ := hcl x b e
      obtain ⟨b', o, v, q1, q2, q3, _⟩ := cells x d hd
      have : b' = b := by
        have q1' : cl.lookup x = some b' := q1
        have e' : cl.lookup x = some b := e
        rw [q1'] at e'; cases e'; rfl
      subst this
      exact ⟨(fun (q : b' = C) => by rw [q, fC] at q2; cases q2), o, some v, kk _ _ q2, q3⟩
    · simp only [List.mem_cons, List.mem_append] at m
      have nw : s.heap.get? b = none → c.K.lookup b = none := fun w => by
        cases q : c.K.lookup b with
        | none => rfl
        | some o => have := a.gl.k _ _ q; rw [w] at this; cases this
      rcases m with rfl | m | m
      · exact nw fD
      · exact nw (X.fr b m)
      · exact a.kx b m
  have loop : ∀ s₃ : Shared, s₃ = { s with heap := h₁, toks := t2 + ([] : List (Str × Value)).length } →
      codeAny (model c.prog c.w) A (.compLoop (.ListComp elt [⟨target, iter, [], 0⟩] scope pos) 0 (.ref it) (.ref D) (compEnvC scope cl C env)) (RR (.ref D) C) s₃ := by
    rintro s₃ rfl
    refine codeAny_loop rfl (fun n s' => ∃ (j : Nat) (l : List Mine.D) (vs : List Value) (e : Nat) (h' : Heap) (tk : Nat), s' = { s with heap := h', toks := tk } ∧ n = items.length - j ∧ j ≤ items.length ∧ G j l ∧ W j h' ∧ (∃ m, h'.Ns C m) ∧ h'.get? D = some (listOf (List.toArray vs) e) ∧
      RepL (hid (C :: D :: (wr ++ H)) h') l vs ∧ (∀ b o, b ≠ C → b ≠ D → b ∉ wr → h₁.get? b = some o → h'.get? b = some o) ∧ t2 ≤ tk) (fun n s' hI => ?_) items.length
      ⟨0, [], [], 0, h₁, _, rfl, by simp, Nat.zero_le _, G0, X.w.frame _ _ _ X.st fun b _ o e => old2 b o e, ⟨_, hns₁⟩, hacc, RepL.nil, fun b o _ _ _ e => e, Nat.le_refl _⟩
    obtain ⟨j, l, vs, e, h', tk, rfl, rfl, hj, hg, hW, hn, hDv, hR, hk, htk⟩ := hI
    show wpAny _ _ ((compTurn (.ListComp elt [⟨target, iter, [], 0⟩] scope pos) 0 (.ref it) (.ref D) (compEnvC scope cl C env)).onRaise (fun x => do noteFrame x (compEnvC scope cl C env); theTreesLotGoes x)) _ _ _
    refine wpAny_noted ?_
    rw [compTurn_list1]
    have kk' : ∀ b o, s.heap.get? b = some o → h'.get? b = some o := fun b o q => hk b o (fun w => by rw [w, fC] at q; cases q) (fun w => by rw [w, fD] at q; cases q) (fun w => by rw [X.fr b w] at q; cases q) (old b o q)
    refine wpAny_bind (wpAny_standAt (wpAny_bind ?_))
    by_cases hlt : j < items.length
    · refine wpAny_with_toks (Nat.le_refl tk) (X.w.item j _ _ _ hlt hW fun v h3 tk3 hPv hW3 hk3 => fun htk3 => ?_)
      have htk3 : tk ≤ tk3 := htk3
      have tk2 : s.toks ≤ t2 := tk2
      obtain ⟨d, hd, hrd⟩ := X.ri j v hlt hPv
      obtain ⟨o, vs', T, w1, w2, w3, w4⟩ := X.cls (j + 1) _ hW3
      have hCw : C ∉ wr := fun q => (wrn C q).1 rfl
      have hDw : D ∉ wr := fun q => (wrn D q).2 rfl
      have k3 : ∀ b o, s.heap.get? b = some o → h3.get? b = some o := fun b o q => hk3 b o (fun w => by rw [X.fr b w] at q; cases q) (kk' b o q)
      obtain ⟨m, hn⟩ := hn
      have hn3 : h3.Ns C m := hn.at fun o q => hk3 _ o hCw q
      have hD3 : h3.get? D = some (listOf (List.toArray vs) e) := hk3 _ _ hDw hDv
      have z := mk h3 tk3 k3 ⟨_, hn3⟩ ⟨_, hD3⟩ (fun b m => X.ex (j + 1) _ hW3 b (X.w.sub b m)) (by omega)
      have sg : Sub (hid (wr ++ H) h2) (hid (C :: ([] ++ (D :: (wr ++ H)))) h3) := fun b o q => by
        have q0 := hid_old q
        unfold hid at q ⊢
        split at q
        · cases q
        · rename_i nb
          obtain ⟨n1, n2⟩ := ne2 b o q0
          have n3 : b ∉ wr := fun w => nb (List.mem_append_left _ w)
          rw [if_neg]; exact hk3 b o n3 (hk b o n1 n2 n3 (old2 b o q0))
          intro m
          simp only [List.nil_append, List.mem_cons] at m
          rcases m with m | m | m
          · exact n1 m
          · exact n2 m
          · exact nb m
      refine wpAny_bind (letOwned w1 w2 w3 w4 (wpAny_bind ?_))
      refine hG j d l hd hg C A _ [] _ _ _ v a.ok z (hrd.mono sg) fun σ' ω' s5 Ho5 hp kp5 z5 => ?_
      obtain ⟨rfl, hev⟩ := hp
      have hH5 : Ho5 = [] := by have := z5.own; simpa only [OwnR] using this
      subst hH5
      refine wpAny_bind (wpAny_bind (hev A s5 _ _ _ (z5.at a.ok) fun r y s6 hr e6 hy => wpAny_bind ?_))
      obtain ⟨⟨h5, t5, rfl⟩, tk5, kk5⟩ := kp5
      obtain ⟨⟨h6, t6, rfl, kk6⟩, tk6⟩ := e6
      have tk5 : tk3 ≤ t5 := tk5
      have tk6 : t5 ≤ t6 := tk6
      have up : ∀ b o, b ≠ C → h3.get? b = some o → h6.get? b = some o := fun b o n q => kk6 b o (kk5 b o n (by simp) q).1
      have hlen := hR.length
      have hgl := hGl j l hg
      refine wpAny_list_append_plain (items := List.toArray vs) ⟨e, up D _ hDC hD3⟩ (fun h7 hp7 hs7 => ?_) (by simp only [List.size_toArray]; rw [sizeLine_eq]; omega)
      refine wpAny_pure (wpAny_pure ⟨rfl, items.length - (j + 1), by omega, j + 1, l ++ [r], vs ++ [y], ?_⟩)
      obtain ⟨n7, hp7⟩ := hp7
      have up7 : ∀ b o, b ≠ C → b ≠ D → h3.get? b = some o → h7.get? b = some o := fun b o n1 n2 q => (hs7.2 b n2).trans (up b o n1 q)
      have sub6 : Sub (hid (C :: ([] ++ (D :: (wr ++ H)))) h6) (hid (C :: D :: (wr ++ H)) h7) := hid_mono fun b o nb q => (hs7.2 b (fun w => nb (by rw [w]; exact .tail _ (.head _)))).trans q
      have sub3 : Sub (hid (C :: D :: (wr ++ H)) h') (hid (C :: D :: (wr ++ H)) h7) := hid_mono fun b o nb q =>
        up7 b o (fun w => nb (by rw [w]; exact .head _)) (fun w => nb (by rw [w]; exact .tail _ (.head _))) (hk3 b o (fun w => nb (.tail _ (.tail _ (List.mem_append_left _ w)))) q)
      refine ⟨n7, h7, t6, rfl, rfl, by omega, hr, X.w.frame _ _ _ hW3 fun b mb o q => up7 b o (fpn b mb).1 (fpn b mb).2 q, ?_, by rw [hp7]; simp, (hR.mono sub3).append (RepL.single (hy.mono sub6)), fun b o n1 n2 n3 q => up7 b o n1 n2 (hk3 b o n3 (hk b o n1 n2 n3 q)), by omega⟩
      obtain ⟨m5, hn5⟩ := z5.ns
      have hn6 : h6.Ns C m5 := hn5.at fun o q => kk6 _ o q
      exact ⟨m5, hn6.at fun o q => (hs7.2 C (fun w => hDC w.symm)).trans q⟩
    · obtain rfl : j = items.length := by omega
      refine wpAny_with_toks (Nat.le_refl tk) (X.w.done _ _ _ hW fun h3 tk3 hk3 => fun htk3 => wpAny_pure ?_)
      obtain ⟨m, hn⟩ := hn
      have hCw : C ∉ wr := fun q => (wrn C q).1 rfl
      have hDw : D ∉ wr := fun q => (wrn D q).2 rfl
      refine hRR D C h3 tk3 m l vs e fD fC hDC (hn.at fun o q => hk3 _ o hCw q) (hk3 _ _ hDw hDv) (hR.mono (hid_mono fun b o nb q => hk3 b o (fun w => nb (.tail _ (.tail _ (List.mem_append_left _ w)))) q)) hg (fun b o q => hk3 b o (fun w => by rw [X.fr b w] at q; cases q) (kk' b o q)) (by have : tk ≤ tk3 := htk3; have : s.toks ≤ t2 := tk2; omega)
  exact codeAny_compStart_list (loop _ rfl) (X.w.self 0 _ _ _ (X.w.frame _ _ _ X.st fun b _ o e => old2 b o e) (loop _ rfl))
end
end
section
set_option maxRecDepth 10000
set_option maxHeartbeats 1000000
section
variable {c : Cx} {k : Nat} {env : Env} {σ σc : Loc} {ω : Own} {Ho Hx : List Addr} {s s' : Shared} {A : Around}
/-- what a comprehension asks of its items -/
structure CompOk (c : Cx) (k : Nat) (env : Env) (σ σc : Loc) (elt target : Expr) (scope : Scope) (cl : List (Str × Addr)) (PI : List D → Prop) (P : List D → Prop) : Prop where
  cell : ∀ y ∈ scope.names, y.2 ≠ .cell
  kind : scope.kind = .function
  names : ∀ y ∈ scope.names, y.2 = .local → scope.names.lookup y.1 = some .local
  clos : closureFor scope env = pure cl
  sc : ∀ x d, σc.lookup x = some d → σ.lookup x = some d ∧ env.kindOf x = some .cell ∧ (relabel scope env).names.lookup x = some .cell ∧ cl.lookup x = env.cells.lookup x
  clk : ∀ x b, cl.lookup x = some b → ∃ d, σc.lookup x = some d
  turn : ∀ items, PI items → items.length ≤ 100000 ∧ ∃ G : Nat → List D → Prop, G 0 [] ∧ (∀ j d l, items[j]? = some d → G j l → ∀ C, CElt c k (compEnvC scope cl C env) σc target d elt fun r => G (j + 1) (l ++ [r])) ∧ (∀ j l, G j l → l.length = j) ∧ ∀ l, G items.length l → P l

theorem evn_comp {elt target iter : Expr} {scope : Scope} {cl : List (Str × Addr)} {pos : Pos} {PI : List D → Prop} {P : List D → Prop} (hI : IterA c k env σ iter PI) (ok : CompOk c k env σ σc elt target scope cl PI P)
    (hs : ∀ x, foldedSetIterable iter env x = pure x := by intro _; rfl) : EvN c k env σ (.ListComp elt [⟨target, iter, [], 0⟩] scope pos) P := by
  intro A s H E Q a hq
  rw [eval_ListComp]
  refine wpAny_comprehension_free (use := none) rfl hs ok.clos ok.kind ok.names (hI A s H E _ a fun items s₁ it fp wr Pv W hp e X => ?_)
  obtain ⟨hz, G, g0, hG, hGl, hP⟩ := ok.turn items hp
  refine comp_block (σc := σc) (G := G) (RR := fun acc C => compPost (model c.prog c.w) A E none Q acc C) a e X ok.cell ok.kind hz ok.sc ok.clk g0 hG hGl ?_
  intro D C h' tk m' l vs n fD fC hDC hn hD hR hg kk htk
  refine ⟨m', hn, fun h'' hs'' => ?_⟩
  have k2 : ∀ b o, b ≠ C → h'.get? b = some o → h''.get? b = some o := fun b o nb q => (hs''.2 b nb).trans q
  refine hq l D vs n _ (hP l hg) ⟨⟨h'', tk, rfl, fun b o q => k2 b o (fun w => by rw [w, fC] at q; cases q) (kk b o q)⟩, htk⟩ fD (k2 _ _ hDC hD) (hR.mono fun b o q => ?_)
  have q0 := hid_old q
  unfold hid at q ⊢
  split at q
  · cases q
  · rename_i nb
    rw [if_neg]; exact k2 b o (fun w => nb (w ▸ .head _)) q0
    intro m
    rcases List.mem_cons.mp m with rfl | m
    · exact nb (.tail _ (.head _))
    · exact nb (.tail _ (.tail _ (List.mem_append_right _ m)))

/-- an address that is new is hidden -/
theorem St.hide {C : Addr} (z : St c env σ ω Ho Hx s) (e : Ext s s') (fC : s.heap.get? C = none) (hC : ∃ o, s'.heap.get? C = some o) : St c env σ ω Ho (C :: Hx) s' := by
  have z1 := z.ext e
  have sg : Sub (hid (env.locals :: (Ho ++ Hx)) s.heap) (hid (env.locals :: (Ho ++ (C :: Hx))) s'.heap) := fun b o q => by
    have q0 := hid_old q
    unfold hid at q ⊢
    split at q
    · cases q
    · rename_i n
      rw [if_neg]; exact e.keeps _ _ q0
      intro m
      simp only [List.mem_cons, List.mem_append] at m n
      rcases m with m | m | m | m
      · exact n (.inl m)
      · exact n (.inr (.inl m))
      · rw [m, fC] at q0; cases q0
      · exact n (.inr (.inr m))
  refine ⟨z1.gb, z1.ns, fun a m => ?_, z.loc.mono sg e.keeps, z.own.mono sg (fun a _ o q => e.keeps a o q) (fun y v q => q.mono e.keeps), z.nd, fun a m q => ?_, z1.cl, z1.tk, z.eo, fun a m => ?_⟩
  · rcases List.mem_append.mp m with m | m
    · exact z1.ok a (List.mem_append_left _ m)
    · rcases List.mem_cons.mp m with rfl | m
      · exact hC
      · exact z1.ok a (List.mem_append_right _ m)
  · rcases List.mem_cons.mp q with rfl | q
    · obtain ⟨o, w⟩ := z.ok a (List.mem_append_left _ m)
      rw [fC] at w; cases w
    · exact z.ap a m q
  · rcases List.mem_cons.mp m with rfl | m
    · cases q : c.K.lookup a with
      | none => rfl
      | some o => have := z.gl.k _ _ q; rw [fC] at this; cases this
    · exact z.kx a m
/-- what is hidden is written, and let go -/
theorem St.drop {C : Addr} {h' : Heap} {g0 : Heap} (z : St c env σ ω Ho (C :: Hx) s) (hs : Heap.SameBut C s.heap h') (hL : env.locals ≠ C) (hg : Gl c g0 ∧ ∀ b o, g0.get? b = some o → s.heap.get? b = some o ∧ b ≠ env.locals ∧ b ∉ Ho ∧ b ≠ C)
    (hcl : ∀ x b, env.cells.lookup x = some b → b ≠ C) (hHx : C ∉ Hx) : St c env σ ω Ho Hx { s with heap := h' } := by
  have hO : C ∉ Ho := fun m => z.ap C m (.head _)
  have kk : ∀ b o, b ≠ C → s.heap.get? b = some o → h'.get? b = some o := fun b o n q => (hs.2 b n).trans q
  have sg : Sub (hid (env.locals :: (Ho ++ (C :: Hx))) s.heap) (hid (env.locals :: (Ho ++ Hx)) h') := fun b o q => by
    have q0 := hid_old q
    unfold hid at q ⊢
    split at q
    · cases q
    · rename_i n
      simp only [List.mem_cons, List.mem_append] at n
      rw [if_neg]; exact kk b o (fun w => n (.inr (.inr (.inl w)))) q0
      intro m
      simp only [List.mem_cons, List.mem_append] at m
      rcases m with m | m | m
      · exact n (.inl m)
      · exact n (.inr (.inl m))
      · exact n (.inr (.inr (.inr m)))
  have hh : ∀ y v, Has env s.heap y v → Has env h' y v := fun y v q => by
    rcases q with ⟨w, m, b, d⟩ | ⟨w, b, o', d, e, f'⟩
    · exact .inl ⟨w, m, b.at fun o q => kk _ _ hL q, d⟩
    · exact .inr ⟨w, b, o', d, kk _ _ (hcl y b d) e, f'⟩
  obtain ⟨m, hn⟩ := z.ns
  refine ⟨⟨g0, hg.1, fun b o q => let ⟨w1, w2, w3, w4⟩ := hg.2 b o q; ⟨kk b o w4 w1, w2, w3⟩⟩, ⟨m, hn.at fun o q => kk _ _ hL q⟩, fun a m => ?_, fun y d hy => ?_, z.own.mono sg (fun a m o q => kk a o (fun w => hO (w ▸ m)) q) hh, z.nd, fun a m q => z.ap a m (.tail _ q), fun y b q => ?_, z.tk, z.eo, fun a m => z.kx a (.tail _ m)⟩
  · rcases List.mem_append.mp m with m | m
    · obtain ⟨o, q⟩ := z.ok a (List.mem_append_left _ m)
      exact ⟨o, kk a o (fun w => hO (w ▸ m)) q⟩
    · obtain ⟨o, q⟩ := z.ok a (List.mem_append_right _ (.tail _ m))
      exact ⟨o, kk a o (fun w => hHx (w ▸ m)) q⟩
  · obtain ⟨v, w1, w2⟩ := z.loc y d hy
    exact ⟨v, hh _ _ w1, w2.mono sg⟩
  · obtain ⟨q1, o, v, q2, q3⟩ := z.cl y b q
    exact ⟨q1, o, v, kk b o (hcl y b q) q2, q3⟩

/-- x = [...], the list stands from then on -/
theorem ex_comp {x : Str} {p spos : Pos} {elt target iter : Expr} {scope : Scope} {cl : List (Str × Addr)} {pos : Pos} {PI : List D → Prop} {P : Out → Prop} (hk : env.kindOf x = some .local) (hI : IterA c k env σ iter PI)
    (ok : CompOk c k env σ σc elt target scope cl PI fun l => P (.next ((x, .lst l) :: σ) (delL x ω)))
    (hsw : swapsWith (.ListComp elt [⟨target, iter, [], 0⟩] scope pos) (some (.Name x p)) spos.line env = pure true := by rfl)
    (hs : ∀ x, foldedSetIterable iter env x = pure x := by intro _; rfl) : Ex1 c k env σ ω (.Assign [.Name x p] (.ListComp elt [⟨target, iter, [], 0⟩] scope pos) spos) P := by
  intro A s Ho Hx E Q oka z hq
  have a := z.at oka
  rw [exec_Assign_Name_used _ _ _ _ hsw]
  refine wpAny_bind (wpAny_standAt (wpAny_bind ?_))
  show wpAny _ A (do let _ ← comprehension (.ListComp elt [⟨target, iter, [], 0⟩] scope pos) scope env _ (newList []) false (eval iter env) (some (assign (.Name x p) env))) _ _ s
  refine wpAny_bind (wpAny_mono (wpAny_comprehension_free (use := some (assign (.Name x p) env)) (Q := fun _ s' => Q .next s') rfl hs ok.clos ok.kind ok.names
    (hI A s _ E _ a fun items s₁ it fp wr Pv W hp e X => ?_)) (fun _ s' hq => wpAny_pure (wpAny_pure hq)) fun _ _ e => e)
  obtain ⟨hz, G, g0, hG, hGl, hP⟩ := ok.turn items hp
  refine comp_block (σc := σc) (G := G) (RR := fun acc C => compPost (model c.prog c.w) A E (some (assign (.Name x p) env)) (fun _ s' => Q .next s') acc C) a e X ok.cell ok.kind hz ok.sc ok.clk g0 hG hGl ?_
  intro D C h' tk m' l vs n fD fC hDC hn hD hR hg kk htk
  have ee : Ext s { s with heap := h', toks := tk } := ⟨⟨h', tk, rfl, kk⟩, htk⟩
  obtain ⟨oC, _, _, hCo, _⟩ := id hn
  have z1 := z.hide ee fC ⟨oC, hCo⟩
  have nC : ∀ b o, s.heap.get? b = some o → b ≠ C := fun b o q w => by rw [w, fC] at q; cases q
  show wpAny _ A (assign (.Name x p) env (.ref D)) _ _ _
  have hrep : Rep (hid (env.locals :: (Ho ++ (C :: Hx))) h') (.lst l) (.ref D) := by
    simp only [Rep]
    refine ⟨D, vs, n, rfl, ?_, hR.mono (hid_weaken fun b m => ?_)⟩
    · unfold hid
      rw [if_neg]; exact hD
      intro m
      simp only [List.mem_cons, List.mem_append] at m
      rcases m with m | m | m | m
      · obtain ⟨mm, o, _, _, ho, _⟩ := z.ns; rw [← m, fD] at ho; cases ho
      · obtain ⟨o, q⟩ := z.ok D (List.mem_append_left _ m); rw [fD] at q; cases q
      · exact hDC m
      · obtain ⟨o, q⟩ := z.ok D (List.mem_append_right _ m); rw [fD] at q; cases q
    · simp only [List.mem_cons, List.mem_append] at m ⊢
      rcases m with m | m | m | m
      · exact .inr (.inr (.inr (.inl m)))
      · exact .inr (.inr (.inr (.inr (.inl m))))
      · exact .inl m
      · exact .inr (.inr (.inr (.inr (.inr m))))
  have hLC : env.locals ≠ C := fun w => by obtain ⟨mm, o, _, _, ho, _⟩ := z.ns; rw [w, fC] at ho; cases ho
  have hOC : C ∉ Ho := fun w => by obtain ⟨o, q⟩ := z.ok C (List.mem_append_left _ w); rw [fC] at q; cases q
  have hXC : C ∉ Hx := fun w => by obtain ⟨o, q⟩ := z.ok C (List.mem_append_right _ w); rw [fC] at q; cases q
  refine PyProof.Rows.assign_Name (store_val z1 hk hrep fun s2 Ho2 kp z2 => ?_)
  obtain ⟨⟨h2, t2, rfl⟩, kt, kk2⟩ := kp
  refine ⟨m', hn.at fun o q => (kk2 C o (fun w => hLC w.symm) hOC q).1, fun h3 hs3 => ?_⟩
  obtain ⟨gb, gl0, hg0⟩ := z.gb
  have z3 := z2.drop hs3 hLC (g0 := gb) ⟨gl0, fun b o q => by
    obtain ⟨w1, w2, w3⟩ := hg0 b o q
    obtain ⟨w4, w5⟩ := kk2 b o w2 w3 (kk b o w1)
    exact ⟨w4, w2, w5, nC b o w1⟩⟩ (fun y b q => by
    obtain ⟨_, o, v, q2, _⟩ := z.cl y b q
    exact nC b o q2) hXC
  refine hq _ .next _ Ho2 (hP l hg) ⟨⟨h3, t2, rfl⟩, Nat.le_trans htk kt, fun b o n1 n2 q => ?_⟩ ⟨rfl, z3⟩
  obtain ⟨w4, w5⟩ := kk2 b o n1 n2 (kk b o q)
  exact ⟨(hs3.2 b (nC b o q)).trans w4, w5⟩
end
end
section
set_option maxRecDepth 10000
set_option maxHeartbeats 1000000
section
variable {c : Cx} {k : Nat}
/-- the entry of _law_rows: its last argument lies in a cell -/
theorem fn_rows (G : Good c) {a b d e : D} {P : D → Prop} (h : ∀ L, Ex c k (callEnvC fd_law_rows L 399) [V "width" e, V "n" d, V "text" b, V "label" a] [] (bodyOf (stAt 56)) (retP P)) : Fn c (k + 1) 399 [a, b, d, e] P := by
  intro A s H R vs ok tk gl ho' kx hr hq
  obtain ⟨va, vb, vd, ve, rfl, ra, rb, rd, re⟩ : ∃ va vb vd ve, vs = [va, vb, vd, ve] ∧ Rep (hid H s.heap) a va ∧ Rep (hid H s.heap) b vb ∧ Rep (hid H s.heap) d vd ∧ Rep (hid H s.heap) e ve := by
    simp only [RepL] at hr
    obtain ⟨va, _, rfl, ra, vb, _, rfl, rb, vd, _, rfl, rd, ve, _, rfl, re, rfl⟩ := hr
    exact ⟨va, vb, vd, ve, rfl, ra, rb, rd, re⟩
  have gk : (KW c.w.params).In s.heap := by have := gl.k; rw [G.k] at this; exact this
  have hroom : A.depth < recursionLimit := by have := ok.d; unfold recursionLimit; omega
  refine codeAny_call_function (o := fnObj fd_law_rows) (fd := fd_law_rows) hroom (gk 399 _ rfl) rfl rfl rfl rfl (codeRec_of gk (by rfl)) ?_
  rw [show bindArgs fd_law_rows ⟨[va, vb, vd, ve], []⟩ = pure [(("label" : Str), va), (("text" : Str), vb), (("n" : Str), vd), (("width" : Str), ve)] by rfl, show fd_law_rows.closure = [] from rfl]
  refine wpAny_pure (wpAny_with_toks (Nat.le_refl s.toks) (wpAny_newFunctionEnv_cells rfl (fun x m => ?_) fun env he s₁ x => fun htk => ?_))
  · simp only [List.mem_cons, List.not_mem_nil, or_false] at m
    rcases m with rfl | rfl | rfl | rfl
    · exact .inl rfl
    · exact .inl rfl
    · exact .inl rfl
    · exact .inr ⟨rfl, rfl⟩
  subst he
  obtain ⟨h₁, t₁, rfl, keep⟩ := x.done
  have htk : s.toks ≤ t₁ := htk
  have hL : s.heap.get? s.heap.objs.size = none := Heap.get?_none_of_le (Nat.le_refl _)
  have hnL : ∀ b o, s.heap.get? b = some o → b ≠ s.heap.objs.size := fun b o e q => by rw [q, hL] at e; cases e
  have sg : Sub (hid H s.heap) (hid (s.heap.objs.size :: ([] ++ H)) h₁) := fun b o e => by
    have q0 := hid_old e
    unfold hid at e ⊢
    split at e
    · cases e
    · rename_i n
      rw [if_neg]; exact keep _ _ q0
      intro m
      rcases List.mem_cons.mp m with rfl | m
      · exact hnL _ _ q0 rfl
      · exact n m
  refine ⟨gl.nl.keeps keep, codeAny_func ?_⟩
  have hns : h₁.Ns s.heap.objs.size (fun y => if y = "n" then some vd else if y = "text" then some vb else if y = "label" then some va else none) := x.toInCall.ns
  have hcell : h₁.IsCell (s.heap.objs.size + 1) (some ve) := x.cell "width" (s.heap.objs.size + 1) rfl
  have z : St c (callEnvC fd_law_rows s.heap.objs.size 399) [V "width" e, V "n" d, V "text" b, V "label" a] [] [] H { s with heap := h₁, toks := t₁ } := by
    refine ⟨⟨s.heap, gl, fun b o e => ⟨keep b o e, hnL b o e, by simp⟩⟩, ⟨_, hns⟩, ho'.mono keep, fun x d' e' => ?_, by simp only [OwnR], .nil, (fun a m => nomatch m), fun x b e => ?_, Nat.lt_of_lt_of_le tk htk, ⟨rfl, rfl, rfl⟩, kx⟩
    · rw [List.lookup_cons] at e'
      split at e'
      · rename_i w
        rw [beq_iff_eq] at w
        subst w
        cases e'
        obtain ⟨o, q1, q2⟩ := hcell
        exact ⟨ve, .inr ⟨.inl rfl, s.heap.objs.size + 1, o, rfl, q1, q2⟩, re.mono sg⟩
      rw [List.lookup_cons] at e'
      split at e'
      · rename_i w
        rw [beq_iff_eq] at w
        subst w
        cases e'
        exact ⟨vd, .inl ⟨rfl, _, hns, rfl⟩, rd.mono sg⟩
      rw [List.lookup_cons] at e'
      split at e'
      · rename_i w
        rw [beq_iff_eq] at w
        subst w
        cases e'
        exact ⟨vb, .inl ⟨rfl, _, hns, rfl⟩, rb.mono sg⟩
      rw [List.lookup_cons] at e'
      split at e'
      · rename_i w
        rw [beq_iff_eq] at w
        subst w
        cases e'
        exact ⟨va, .inl ⟨rfl, _, hns, rfl⟩, ra.mono sg⟩
      cases e'
    · have e0 : ([(("width" : Str), s.heap.objs.size + 1)] : List (Str × Addr)).lookup x = some b := e
      rw [List.lookup_cons] at e0
      split at e0
      · cases e0
        obtain ⟨o, q1, q2⟩ := hcell
        exact ⟨Nat.succ_ne_self _, o, _, q1, q2⟩
      · cases e0
  refine h _ _ _ [] H _ _ ⟨ok.hn, ?_, ?_⟩ z fun o fl s' Ho' hp kp hr' => ?_
  · have := ok.d; show A.depth + 1 + 4 * k ≤ 900; omega
  · have := ok.u; show A.units + 3 + 20 * k ≤ 9000; omega
  · have ee : Ext s s' := by
      obtain ⟨⟨h', t', e0⟩, k2, k3⟩ := kp
      refine ⟨⟨h', t', by rw [e0], fun b o e => ?_⟩, Nat.le_trans htk k2⟩
      have := (k3 b o (hnL b o e) (by simp) (keep b o e)).1
      rw [e0] at this; exact this
    cases o with
    | next σ ω => obtain ⟨rfl, _⟩ := hr'; exact hq _ _ s' hp ee (by simp only [Rep])
    | ret d => obtain ⟨v, rfl, hv⟩ := hr'; exact hq _ _ s' hp ee hv
    | brk σ ω => exact hp.elim
    | cont σ ω => exact hp.elim
end
end
section
set_option maxRecDepth 10000
set_option maxHeartbeats 1000000
/-- whole numbers, texts, and tuples of these -/
noncomputable def flat : D → Bool
  | .int _ => true
  | .str _ => true
  | _ => false
noncomputable def plain1 : D → Bool
  | .int _ => true
  | .str _ => true
  | .tup l => l.all flat
  | _ => false
section
variable {c : Cx} {k : Nat} {A : Around} {s : Shared} {H : List Addr}
theorem eqAt_flat {d : D} {v u : Value} {g : Mem} (hd : flat d = true) (hv : Rep g d v) (hu : Rep g d u) : SeqAt.EqAt A s v u true := by
  cases d with
  | int i =>
    simp only [Rep] at hv hu
    obtain ⟨t, rfl⟩ := hv
    obtain ⟨t', rfl⟩ := hu
    have := SeqAt.EqAt.int_int (A := A) (s := s) i t i t'
    simpa using this
  | str x =>
    simp only [Rep] at hv hu
    obtain ⟨t, rfl⟩ := hv
    obtain ⟨t', rfl⟩ := hu
    have := SeqAt.EqAt.str_str (A := A) (s := s) ⟨x.toArray⟩ t ⟨x.toArray⟩ t'
    simpa using this
  | _ => cases hd
theorem eqAt_plain {d : D} {v u : Value} (hA : A.units ≤ 9500) (hd : plain1 d = true) (hv : Rep (hid H s.heap) d v) (hu : Rep (hid H s.heap) d u) : SeqAt.EqAt A s v u true := by
  cases d with
  | int i => exact eqAt_flat (d := .int i) rfl hv hu
  | str x => exact eqAt_flat (d := .str x) rfl hv hu
  | tup l =>
    simp only [Rep] at hv hu
    obtain ⟨a, o, vs, n, rfl, ha, hc, hdt, hr⟩ := hv
    obtain ⟨b, o', us, n', rfl, hb, hc', hdt', hr'⟩ := hu
    by_cases e : a = b
    · subst e; exact SeqAt.EqAt.same _
    · have ht : IsTup s.heap a vs.toArray := ⟨o, hid_old ha, hc, n, hdt⟩
      have ht' : IsTup s.heap b us.toArray := ⟨o', hid_old hb, hc', n', hdt'⟩
      have h1 := hr.length
      have h2 := hr'.length
      have := SeqAt.RcAt.tuples (A := A) (e := fun _ => true) ht ht' (by unfold cLine; omega) (fun j q1 q2 => by
        have hj : j < l.length := by simp only [List.size_toArray] at q1; omega
        obtain ⟨v1, e1, r1⟩ := hr.get (i := j) (d := l[j]) (by simp [hj])
        obtain ⟨v2, e2, r2⟩ := hr'.get (i := j) (d := l[j]) (by simp [hj])
        have f1 : (List.toArray vs)[j] = v1 := by
          have : vs[j]? = some vs.toArray[j] := by simp
          rw [e1] at this; cases this; rfl
        have f2 : (List.toArray us)[j] = v2 := by
          have : us[j]? = some us.toArray[j] := by simp
          rw [e2] at this; cases this; rfl
        rw [f1, f2]
        have hfl : flat l[j] = true := by
          have hd' : l.all flat = true := hd
          rw [List.all_eq_true] at hd'
          exact hd' _ (List.getElem_mem hj)
        exact eqAt_flat hfl r1 r2)
      refine SeqAt.EqAt.of_refs e ?_
      have hb : ((List.range (min vs.toArray.size us.toArray.size)).all (fun _ => true) && vs.toArray.size == us.toArray.size) = true := by
        simp [h1, h2]
      rwa [hb] at this
  | _ => cases hd
/-- two lists of the same things -/
theorem op_ne_same {l : List D} {P : D → Prop} (hl : l.all plain1 = true) (hp : P (.bool false)) : Op c (cmpop .NotEq) [.lst l, .lst l] P := Op.of fun A s H E Q vs hn hu _ hg ho hr hq => by
  simp only [RepL] at hr
  obtain ⟨v, _, rfl, hv, u, _, rfl, hw, rfl⟩ := hr
  simp only [Rep] at hv hw
  obtain ⟨a, vs, n, rfl, ha, hr⟩ := hv
  obtain ⟨b, us, n', rfl, hb, hr'⟩ := hw
  have h1 := hr.length
  have h2 := hr'.length
  have := SeqAt.RcNeAt.lists (A := A) (e := fun _ => true) (isList_of ha) (isList_of hb) (by simp [h1, h2]) (by unfold cLine; omega) (fun j q1 q2 => by
    have hj : j < l.length := by simp only [List.size_toArray] at q1; omega
    obtain ⟨v1, e1, r1⟩ := hr.get (i := j) (d := l[j]) (by simp [hj])
    obtain ⟨v2, e2, r2⟩ := hr'.get (i := j) (d := l[j]) (by simp [hj])
    have f1 : (List.toArray vs)[j] = v1 := by
      have : vs[j]? = some vs.toArray[j] := by simp
      rw [e1] at this; cases this; rfl
    have f2 : (List.toArray us)[j] = v2 := by
      have : us[j]? = some us.toArray[j] := by simp
      rw [e2] at this; cases this; rfl
    rw [f1, f2]
    rw [List.all_eq_true] at hl
    exact eqAt_plain (by show A.units + 1 ≤ 9500; omega) (hl _ (List.getElem_mem hj)) r1 r2)
  have hb : (!(List.range vs.toArray.size).all fun _ => true) = false := by simp
  rw [hb] at this
  exact this c.prog c.w E Q (hq _ _ s hp (Ext0.refl s) repB)
/-- two lists that are not of one length -/
theorem op_ne_len {l m : List D} {P : D → Prop} (hl : l.length ≠ m.length) (hp : P (.bool true)) : Op c (cmpop .NotEq) [.lst l, .lst m] P := Op.of fun A s H E Q vs hn hu _ hg ho hr hq => by
  simp only [RepL] at hr
  obtain ⟨v, _, rfl, hv, u, _, rfl, hw, rfl⟩ := hr
  simp only [Rep] at hv hw
  obtain ⟨a, vs, n, rfl, ha, hr⟩ := hv
  obtain ⟨b, us, n', rfl, hb, hr'⟩ := hw
  have h1 := hr.length
  have h2 := hr'.length
  exact SeqAt.RcNeAt.lists_lengths (isList_of ha) (isList_of hb) (by simp [h1, h2, hl]) (by unfold cLine; omega) c.prog c.w E Q (hq _ _ s hp (Ext0.refl s) repB)

/-- "\\n".join(list of texts) -/
theorem op_join {ps : List (List Nat)} {P : D → Prop} (hz : (ps.map List.length).sum + ps.length ≤ 1000000) (hp : P (.str (joinN ps))) : Op c (fun vs => call (.builtin "str.join") vs) [.str [10], .lst (ps.map .str)] P := Op.of fun A s H E Q vs hn hu _ hg ho hr hq => by
  simp only [RepL] at hr
  obtain ⟨v, _, rfl, hv, u, _, rfl, hw, rfl⟩ := hr
  simp only [Rep] at hv hw
  obtain ⟨t, rfl⟩ := hv
  obtain ⟨b, us, n', rfl, hb, hr'⟩ := hw
  have key : ∀ {ps : List (List Nat)} {us : List Value}, RepL (hid H s.heap) (ps.map .str) us → ∃ l : List (Str × Tok), us = strValues l ∧ l.map (·.1) = sparts ps := by
    intro ps
    induction ps with
    | nil => intro us h; simp only [List.map_nil, RepL] at h; subst h; exact ⟨[], rfl, rfl⟩
    | cons p r ih =>
      intro us h
      simp only [List.map_cons, RepL, Rep] at h
      obtain ⟨v, us', rfl, ⟨t, rfl⟩, h⟩ := h
      obtain ⟨l, rfl, h2⟩ := ih h
      exact ⟨(⟨p.toArray⟩, t) :: l, rfl, by rw [List.map_cons, h2]; rfl⟩
  obtain ⟨l, rfl, hl⟩ := key hr'
  have hsum : ((sparts ps).map (·.length)).sum = (ps.map List.length).sum := by
    unfold sparts
    rw [List.map_map]
    rfl
  have e1 : (Txt.join ⟨#[10]⟩ (sparts ps)).cps.toList = joinN ps := by
    show (Builtin.Str.glued ⟨#[10]⟩ (sparts ps)).cps.toList = _
    rw [StrLaws.glued_eq_join]; exact join_sparts ps
  refine SC.join (x := ⟨#[10]⟩) (isList_of hb) hl (joinOk_of_weight (by rw [hsum]; simp [sparts]; omega) (by decide)) fun t' k => hq _ _ _ hp Ext0.tok (repS e1)
end
end
section
set_option maxRecDepth 10000
set_option maxHeartbeats 1000000

section
variable {c : Cx} {k : Nat} {env : Env} {σ : Loc}
noncomputable def partsOf (x : List Nat) (n : Nat) : List (List Nat) := match (brk x)[n % (brk x).length]? with | none => [x] | some sp => [x.take sp, x.drop sp]
noncomputable def firstSign (n : Nat) : Nat := if n / 3 % 2 = 0 then 32 else 48
noncomputable def between (n : Nat) : List Nat := match n / 4 % 4 with | 0 => [] | 1 => lit "C END" | 2 => [42] | _ => [32, 32]
noncomputable def marks : List Nat := lit "+1*&9'C$"
noncomputable def contRow (n : Nat) (p : List Nat) : List Nat := List.replicate 5 32 ++ (marks.drop (n / 16 % 8)).take 1 ++ bent p (n / 7)
noncomputable def rows0 (label : Nat) (x : List Nat) (n : Nat) : List (List Nat) :=
  (headL label (n % 3) ++ [firstSign n] ++ bent ((partsOf x n).headD []) n) :: ((partsOf x n).drop 1).flatMap fun p => (if n / 4 % 3 > 0 then [between n] else []) ++ [contRow n p]
noncomputable def past (w : Nat) (r : List Nat) : List Nat := (r ++ List.replicate w 32).take w ++ lit "PAST"
noncomputable def rowsL (label : Nat) (x : List Nat) (n w : Nat) : List (List Nat) := if n / 5 % 2 = 1 then (rows0 label x n).map (past w) else rows0 label x n
theorem brk_lt (x : List Nat) : ∀ i ∈ brk x, i < x.length := fun i m => by
  have := (List.mem_filter.mp m).1
  simpa using this
theorem lawRows_fn (G : Good c) (label : Nat) (x : List Nat) (n w : Nat) (hx : x.length ≤ 1000) (hl : label < 1000000) (hd : (decNat label).length ≤ 100) (hn : n ≤ 1000000000) (hw : w ≤ 900) :
    Fn c (k + 2) 399 [.int label, .str x, .int n, .int w] (fun d => d = .lst ((rowsL label x n w).map .str)) := by
  refine fn_rows G fun L => ?_
  conv => arg 6; whnf
  have hx' : x.length ≤ 10000000 := by omega
  have e3 : Int.fmod (n : Int) 3 = ((n % 3 : Nat) : Int) := fmod_nat n 3
  have d3 : Int.fdiv (n : Int) 3 = ((n / 3 : Nat) : Int) := fdiv_nat n 3
  have d4 : Int.fdiv (n : Int) 4 = ((n / 4 : Nat) : Int) := fdiv_nat n 4
  have d5 : Int.fdiv (n : Int) 5 = ((n / 5 : Nat) : Int) := fdiv_nat n 5
  have d7 : Int.fdiv (n : Int) 7 = ((n / 7 : Nat) : Int) := fdiv_nat n 7
  have d16 : Int.fdiv (n : Int) 16 = ((n / 16 : Nat) : Int) := fdiv_nat n 16
  repeat walk_at "s"
  refine op_mod_int (by decide) ?_
  rw [e3]
  repeat walk_at "s"
  refine (head_fn G label (n % 3) hl (by omega) hd).to ?_
  refine ⟨rfl, after_next ?_⟩
  refine ex_cons (s_assignL rfl rfl ?_)
  repeat walk_at "s"
  refine (brk_fn G x (by omega)).to (after_next ?_)
  refine ex_cons (s_assignL rfl rfl ?_)
  with_reducible refine ev_fresh ?_
  with_reducible refine evn_list ?_
  repeat walk_at "n"
  have hbl : (brk x).length ≤ 1000 := by
    unfold brk
    have := List.length_filter_le (brkP x) (List.range x.length)
    simp at this; omega
  have hbz : ((brk x).map fun i : Nat => D.int (i : Int)).length ≤ 10000000 := by simp; omega
  have hps : ∀ p ∈ partsOf x n, p.length ≤ 1000 := by
    intro p m
    unfold partsOf at m
    split at m
    · simp at m; subst m; exact hx
    · simp at m; rcases m with rfl | rfl <;> simp <;> omega
  have hpn : (partsOf x n).length ≤ 2 ∧ 1 ≤ (partsOf x n).length := by unfold partsOf; split <;> simp
  -- behind the parts
  have tail : ∀ σ, SubL [V "parts" (.lst ((partsOf x n).map .str)), V "head" (.str (headL label (n % 3))), V "n" (.int n), V "width" (.int w)] σ → Ex c (k + 1) (callEnvC fd_law_rows L 399) σ [] ((bodyOf (stAt 56)).drop 4) (retP fun d => d = .lst ((rowsL label x n w).map .str)) := by
    intro σ hσ
    refine ex_weaken hσ ?_
    conv => arg 6; whnf
    have hpz : ((partsOf x n).map D.str).length ≤ 10000000 := by simp; omega
    obtain ⟨p0, hp0⟩ : ∃ p0, (partsOf x n)[0]? = some p0 := ⟨(partsOf x n)[0]'(by omega), by simp⟩
    have hp0l := hps p0 (List.mem_of_getElem? hp0)
    have hhead : (headL label (n % 3)).length ≤ 1000 := by unfold headL; split <;> simp <;> omega
    have hbent : ∀ p m, p.length ≤ 1000 → (bent p m).length ≤ 2000 := fun p m h => by
      have := bentL_len (has3 p) p m false
      unfold bent; omega
    refine ex_cons (s_assignN rfl rfl ?_)
    with_reducible refine evn_list ?_
    repeat walk_at "s"
    refine op_div_int (by decide) ⟨by omega, by decide⟩ ?_
    rw [d3]
    repeat walk_at "s"
    refine op_mod_int (by decide) ?_
    rw [show (2 : Int) = ((2 : Nat) : Int) from rfl, fmod_nat]
    refine op_item_str (a := firstSign n) ⟨by omega, by show _ < ((2 : Nat) : Int); omega⟩ (by decide) ?_ ?_
    · show ([32, 48] : List Nat)[(((n / 3 % 2 : Nat) : Int)).toNat]? = _
      rw [Int.toNat_natCast]
      have : n / 3 % 2 = 0 ∨ n / 3 % 2 = 1 := by omega
      unfold firstSign
      rcases this with h | h <;> rw [h] <;> rfl
    refine op_add_str (by simp; omega) ?_
    repeat walk_at "s"
    refine op_item_lst (d := .str p0) ⟨by omega, by simp; omega⟩ hpz (by show _ = _; simp [idx, hp0]) ?_
    repeat walk_at "s"
    refine (bent_fn G p0 n (by omega) (by omega)).to ?_
    have hb0 := hbent p0 n hp0l
    refine op_add_str (by simp; omega) ?_
    repeat walk_at "s"
    have eh : (partsOf x n).headD [] = p0 := by
      cases hq : partsOf x n with
      | nil => rw [hq] at hp0; cases hp0
      | cons a r => rw [hq] at hp0; simpa using hp0
    refine ex_for (PI := fun items => items = ((partsOf x n).drop 1).map .str) (itera_list ?_).iterP ?_
    · with_reducible refine ev_slice_lst ?_
      repeat walk_at "s"
      refine ⟨_, .inl rfl, hpz, ?_⟩
      repeat walk_at "s"
      refine ⟨_, .inl rfl, ?_⟩
      rw [List.map_drop]; exact sl_from _ 1
    rintro _ rfl
    have hd1 : ((partsOf x n).drop 1).length ≤ 1 := by simp; omega
    have hps1 : ∀ p ∈ (partsOf x n).drop 1, p.length ≤ 1000 := fun p m => hps p (List.mem_of_mem_drop m)
    refine ⟨fun (j : Nat) (σ : Loc) (ω : Own) => ∃ lo : List (List Nat), σ = [V "n" (.int n), V "width" (.int w)] ∧ ω = [W "rows" (lo.map .str)] ∧ lo ++ (((partsOf x n).drop 1).drop j).flatMap (fun p => (if n / 4 % 3 > 0 then [between n] else []) ++ [contRow n p]) = rows0 label x n ∧ lo.length ≤ 1 + 2 * j,
      again_mk ⟨[headL label (n % 3) ++ [firstSign n] ++ bent p0 n], rfl, rfl, by unfold rows0; rw [eh]; rfl, by simp⟩ (by walk_at "sub"), ?_, ?_⟩
    rotate_left
    · rintro σ ω ⟨lo, rfl, rfl, hlo, hll⟩
      have hlo : lo = rows0 label x n := by
        rw [List.length_map, List.drop_length] at hlo
        simpa using hlo
      subst hlo
      have hr0l : (rows0 label x n).length ≤ 10 := by simp at hll; omega
      have hr0 : ∀ r ∈ rows0 label x n, r.length ≤ 5000 := by
        intro r m
        unfold rows0 at m
        rw [eh] at m
        rcases List.mem_cons.mp m with rfl | m
        · have := hbent p0 n hp0l
          simp; omega
        · obtain ⟨p, hpm, hr⟩ := List.mem_flatMap.mp m
          have hpl := hps1 p hpm
          rcases List.mem_append.mp hr with hr | hr
          · split at hr
            · rw [List.mem_singleton.mp hr]; unfold between; split <;> decide
            · cases hr
          · rw [List.mem_singleton.mp hr]
            have := hbent p (n / 7) hpl
            unfold contRow
            simp; omega
      refine after_next (ex_freeze "rows" rfl ?_)
      repeat walk_at "s"
      refine op_div_int (by decide) ⟨by omega, by decide⟩ ?_
      rw [d5]
      repeat walk_at "s"
      refine op_mod_int (by decide) ?_
      rw [fmod_nat]
      repeat walk_at "s"
      refine ⟨fun h => ?_, fun h => ?_⟩
      rotate_left
      · have h : ¬ n / 5 % 2 = 1 := by have := of_decide_eq_false h; omega
        repeat walk_at "s"
        unfold rowsL; rw [if_neg h]
      have h : n / 5 % 2 = 1 := by have := of_decide_eq_true h; omega
      have hres : rowsL label x n w = (rows0 label x n).map (past w) := by unfold rowsL; rw [if_pos h]
      refine ex_cons (ex_comp (σc := [V "width" (.int w)]) (cl := [("width", L + 1)]) (PI := fun items => items = (rows0 label x n).map .str) rfl (itera_list ?_) ?_)
      · repeat walk_at "s"
        exact ⟨_, .inl rfl, rfl⟩
      refine ⟨by decide, rfl, by decide, rfl, fun y d hy => ?_, fun y b hy => ?_, fun items hi => ?_⟩
      · rw [List.lookup_cons] at hy
        split at hy
        · rename_i q
          rw [beq_iff_eq] at q
          subst q
          cases hy
          exact ⟨rfl, rfl, rfl, rfl⟩
        · cases hy
      · rw [List.lookup_cons] at hy
        split at hy
        · rename_i q
          rw [beq_iff_eq] at q
          subst q
          exact ⟨_, rfl⟩
        · cases hy
      subst hi
      refine ⟨by simp; omega, fun j l => l = (((rows0 label x n).take j).map (past w)).map .str ∧ j ≤ (rows0 label x n).length, ⟨rfl, Nat.zero_le _⟩, ?_, fun j l hl => by rw [hl.1]; simp; omega, ?_⟩
      · rintro j d l hd ⟨rfl, hjl⟩ C
        rw [List.getElem?_map] at hd
        obtain ⟨r, hr, rfl⟩ := Option.map_eq_some_iff.mp hd
        have hrl := hr0 r (List.mem_of_getElem? hr)
        have hjr := (List.getElem?_eq_some_iff.mp hr).1
        refine s_asgname rfl ⟨rfl, ?_⟩
        repeat walk_at "s"
        rw [show (Str.ofString " ").cps.toList = [32] from rfl]
        refine op_mul_blank (by omega) ?_
        rw [Int.toNat_natCast]
        refine op_add_str (by rw [List.length_replicate]; omega) ?_
        refine ⟨_, rfl, by rw [List.length_append, List.length_replicate]; omega, ?_⟩
        repeat walk_at "s"
        rw [sl_upto]
        refine op_add_str (by
          have h4 : (Str.ofString "PAST").cps.toList.length = 4 := by decide
          rw [h4, List.length_take, List.length_append, List.length_replicate]; omega) ?_
        refine ⟨?_, hjr⟩
        rw [List.take_add_one, hr]
        simp [past]
      · rintro l ⟨rfl, _⟩
        repeat walk_at "s"
        rw [hres]; simp
    rintro j d σ ω hd ⟨lo, rfl, rfl, hlo, hll⟩
    rw [List.getElem?_map] at hd
    obtain ⟨p, hp, rfl⟩ := Option.map_eq_some_iff.mp hd
    have hj := (List.getElem?_eq_some_iff.mp hp).1
    rw [drop_cons' hp, List.flatMap_cons] at hlo
    have hpl := hps1 p (List.mem_of_getElem? hp)
    have hll' : lo.length ≤ 100 := by omega
    -- the row itself
    have row : ∀ lo' : List (List Nat), lo' = lo ++ (if n / 4 % 3 > 0 then [between n] else []) → ∀ PO : Out → Prop, (∀ σ, SubL [V "n" (.int n), V "width" (.int w)] σ → PO (.next σ [W "rows" ((lo' ++ [contRow n p]).map .str)])) →
        ∀ σ, SubL [V "part" (.str p), V "n" (.int n), V "width" (.int w)] σ → Ex c (k + 1) (callEnvC fd_law_rows L 399) σ [W "rows" (lo'.map .str)] ((loopBody (stmtAt (bodyOf (stAt 56)) 5)).drop 1) PO := by
      intro lo' h' PO hPO σ hσ
      refine ex_weaken hσ ?_
      have hl3 : (lo'.map D.str).length ≤ 1000000 := by rw [h']; simp; split <;> simp <;> omega
      conv => arg 6; whnf
      repeat walk_at "s"
      refine op_div_int (by decide) ⟨by omega, by decide⟩ ?_
      rw [d16]
      repeat walk_at "s"
      refine op_mod_int (by decide) ?_
      rw [show (8 : Int) = ((8 : Nat) : Int) from rfl, fmod_nat]
      have hml : marks.length = 8 := by decide
      obtain ⟨mk, hmk⟩ : ∃ mk, marks[n / 16 % 8]? = some mk := ⟨marks[n / 16 % 8]'(by rw [hml]; omega), by simp⟩
      refine op_item_str (a := mk) ⟨by omega, by show _ < ((8 : Nat) : Int); omega⟩ (by decide) ?_ ?_
      · show marks[(((n / 16 % 8 : Nat) : Int)).toNat]? = _
        rw [Int.toNat_natCast]; exact hmk
      have h5 : (Str.ofString "     ").cps.toList.length = 5 := by decide
      refine op_add_str (by rw [h5]; simp) ?_
      repeat walk_at "s"
      refine op_div_int (by decide) ⟨by omega, by decide⟩ ?_
      rw [d7]
      repeat walk_at "s"
      refine (bent_fn G p (n / 7) (by omega) (by omega)).to ?_
      have hb1 := hbent p (n / 7) hpl
      refine op_add_str (by rw [List.length_append, h5]; simp only [List.length_cons, List.length_nil]; omega) ?_
      refine ⟨rfl, hl3, after_next (ex_nil ?_)⟩
      have hq := hPO [V "part" (.str p), V "n" (.int n), V "width" (.int w)] (by walk_at "sub")
      have e : contRow n p = lit "     " ++ [mk] ++ bent p (n / 7) := by
        unfold contRow
        rw [show (marks.drop (n / 16 % 8)).take 1 = [mk] by rw [drop_cons hmk]; rfl]
        rfl
      rw [List.map_append, e] at hq
      exact hq
    repeat walk_at "n"
    refine ex1_cut fun PT hPT => ?_
    have done : ∀ lo' : List (List Nat), lo' = lo ++ (if n / 4 % 3 > 0 then [between n] else []) → ∀ σ, SubL [V "part" (.str p), V "n" (.int n), V "width" (.int w)] σ → PT (.next σ [W "rows" (lo'.map .str)]) := fun lo' h' σ hσ =>
      hPT _ (after_next (row lo' h' _ (fun σ h2 => turnF_next ⟨lo' ++ [contRow n p], rfl, rfl, by rw [← hlo, h']; simp, by rw [h']; simp; split <;> simp <;> omega⟩ h2) σ hσ))
    clear row hPT
    refine ex_if ?_
    repeat walk_at "s"
    refine op_div_int (by decide) ⟨by omega, by decide⟩ ?_
    rw [d4]
    repeat walk_at "s"
    refine op_mod_int (by decide) ?_
    rw [show (3 : Int) = ((3 : Nat) : Int) from rfl, fmod_nat]
    repeat walk_at "s"
    refine ⟨fun h => ?_, fun h => ?_⟩
    rotate_left
    · have h : ¬ n / 4 % 3 > 0 := by have := of_decide_eq_false h; omega
      repeat walk_at "s"
      exact done lo (by rw [if_neg h]; simp) _ (by walk_at "sub")
    have h : n / 4 % 3 > 0 := by have := of_decide_eq_true h; omega
    repeat walk_at "s"
    with_reducible refine ev_fresh ?_
    with_reducible refine evn_list ?_
    repeat walk_at "s"
    refine op_div_int (by decide) ⟨by omega, by decide⟩ ?_
    rw [d4]
    repeat walk_at "s"
    refine op_mod_int (by decide) ?_
    rw [show (4 : Int) = ((4 : Nat) : Int) from rfl, fmod_nat]
    have hlz : (lo.map D.str).length ≤ 1000000 := by simp; omega
    refine op_item_lst (d := .str (between n)) ⟨by omega, by simp only [List.length_cons, List.length_nil]; omega⟩ (by simp) ?_ ?_
    · rw [idx_nat]
      have : n / 4 % 4 = 0 ∨ n / 4 % 4 = 1 ∨ n / 4 % 4 = 2 ∨ n / 4 % 4 = 3 := by omega
      unfold between
      rcases this with h | h | h | h <;> rw [h] <;> rfl
    refine ⟨rfl, hlz, after_next (ex_nil ?_)⟩
    have hq := done (lo ++ [between n]) (by rw [if_pos h]) [V "part" (.str p), V "n" (.int n), V "width" (.int w)] (by walk_at "sub")
    rw [List.map_append] at hq
    exact hq
  refine ex1_cut fun PT hPT => ?_
  have done : ∀ σ, SubL [V "parts" (.lst ((partsOf x n).map .str)), V "head" (.str (headL label (n % 3))), V "n" (.int n), V "width" (.int w)] σ → PT (.next σ []) := fun σ hσ => hPT _ (after_next (tail σ hσ))
  clear tail hPT
  refine ex_if ?_
  repeat walk_at "s"
  with_reducible refine ev_fresh ?_
  with_reducible refine evn_list ?_
  repeat walk_at "s"
  cases hb : brk x with
  | nil =>
    refine op_ne_same (by rfl) ?_
    repeat walk_at "s"
    have hp : partsOf x n = [x] := by unfold partsOf; rw [hb]; rfl
    rw [hp] at done
    exact done _ (by walk_at "sub")
  | cons b0 br =>
    have hlen : 1 ≤ (brk x).length := by rw [hb]; simp
    obtain ⟨sp, hsp⟩ : ∃ sp, (brk x)[n % (brk x).length]? = some sp := ⟨(brk x)[n % (brk x).length]'(Nat.mod_lt _ hlen), by simp⟩
    have hp : partsOf x n = [x.take sp, x.drop sp] := by unfold partsOf; rw [hsp]
    have hspl := brk_lt x sp (List.mem_of_getElem? hsp)
    rw [hp] at done
    rw [← hb]
    refine op_ne_len (by rw [List.length_map, List.length_nil]; omega) ?_
    repeat walk_at "s"
    refine op_mod_int (by rw [List.length_map]; omega) ?_
    have em : Int.fmod (n : Int) ((((brk x).map fun i : Nat => D.int (i : Int)).length : Nat) : Int) = ((n % (brk x).length : Nat) : Int) := by rw [fmod_nat]; simp
    rw [em]
    have hlt : n % (brk x).length < (brk x).length := Nat.mod_lt _ hlen
    refine op_item_lst (d := .int (sp : Int)) ⟨by omega, by simp; omega⟩ hbz (by rw [idx_nat]; simp [hsp]) ?_
    refine ⟨rfl, after_next ?_⟩
    refine ex_cons (s_assignL rfl rfl ?_)
    with_reducible refine ev_fresh ?_
    with_reducible refine evn_list ?_
    repeat walk_at "s"
    rw [sl_upto, sl_from]
    exact done _ (by walk_at "sub")
end
end
section
set_option maxRecDepth 10000
set_option maxHeartbeats 1000000

section
variable {c : Cx} {k : Nat} {env : Env} {σ : Loc}
/-- the law's numbers -/
noncomputable def cells0 (ns : List Int) : List Nat := (ns.take 13).map fun n => n.natAbs % 1000000000
noncomputable def cellsL (ns : List Int) : List Nat := if (cells0 ns).length < 2 then cells0 ns ++ [5, 4].drop (cells0 ns).length else cells0 ns
theorem law_cells (G : Good c) (L : Addr) (ns : List Int) (hz : ns.length ≤ 1000) {PO : Out → Prop} (hR : ∀ σ, SubL [V "cells" (.lst ((cellsL ns).map fun n : Nat => D.int (n : Int)))] σ → Ex c k (callEnv fd_law L 404) σ [] ((bodyOf (stAt 57)).drop 2) PO) :
    Ex c k (callEnv fd_law L 404) [V "script" (.lsx (ns.map .int))] [] (bodyOf (stAt 57)) PO := by
  conv => arg 6; whnf
  have hz' : (ns.map D.int).length ≤ 10000000 := by simp; omega
  have h0 : (cells0 ns).length ≤ 13 := by unfold cells0; simp; omega
  refine ex_cons (ex_comp (σc := []) (cl := []) (PI := fun items => items = (ns.take 13).map .int) rfl (itera_list ?_) ?_)
  · with_reducible refine ev_slice_lst ?_
    repeat walk_at "s"
    refine ⟨_, .inr rfl, hz', ?_⟩
    repeat walk_at "s"
    refine ⟨_, .inl rfl, ?_⟩
    rw [List.map_take]; exact sl_upto _ 13
  refine ⟨by decide, rfl, by decide, rfl, (fun y d hy => nomatch hy), (fun y b hy => nomatch hy), fun items hi => ?_⟩
  subst hi
  refine ⟨by simp; omega, fun j l => l = ((cells0 ns).take j).map (fun n : Nat => D.int (n : Int)) ∧ j ≤ (ns.take 13).length, ⟨rfl, Nat.zero_le _⟩, ?_, fun j l hl => by rw [hl.1]; unfold cells0; simp at *; omega, ?_⟩
  · rintro j d l hd ⟨rfl, hjl⟩ C
    rw [List.getElem?_map] at hd
    obtain ⟨r, hr, rfl⟩ := Option.map_eq_some_iff.mp hd
    have hjr := (List.getElem?_eq_some_iff.mp hr).1
    refine s_asgname rfl ⟨rfl, ?_⟩
    repeat walk_at "s"
    refine op_abs ?_
    repeat walk_at "s"
    refine op_pow_int ⟨by decide, by decide⟩ (by decide) ?_
    refine op_mod_int (by decide) ?_
    rw [show ((10 : Int) ^ (Int.toNat 9)) = ((1000000000 : Nat) : Int) by decide, fmod_nat]
    refine ⟨?_, hjr⟩
    rw [List.take_add_one]
    have : (cells0 ns)[j]? = some (r.natAbs % 1000000000) := by unfold cells0; rw [List.getElem?_map, hr]; rfl
    rw [this]; simp
  rintro l ⟨rfl, _⟩
  have e0 : ((cells0 ns).take ((ns.take 13).map D.int).length) = cells0 ns := by
    apply List.take_of_length_le
    unfold cells0; simp
  rw [e0]
  refine after_next ?_
  have hcl : ((cells0 ns).map fun n : Nat => D.int (n : Int)).length ≤ 10000000 := by simp; omega
  refine ex_cons ?_
  refine ex_if ?_
  repeat walk_at "s"
  refine ⟨fun h => ?_, fun h => ?_⟩
  · have h : (cells0 ns).length < 2 := by have := of_decide_eq_true h; simp at this; omega
    have hc : cellsL ns = cells0 ns ++ [5, 4].drop (cells0 ns).length := by unfold cellsL; rw [if_pos h]
    refine ex_cons (s_assignL rfl rfl ?_)
    with_reducible refine ev_fresh ?_
    with_reducible refine evn_add ?_
    refine s_name rfl rfl rfl ?_
    with_reducible refine ev_slice_lst ?_
    with_reducible refine ev_fresh ?_
    with_reducible refine evn_list ?_
    repeat walk_at "s"
    refine ⟨_, .inl rfl, by decide, ?_⟩
    repeat walk_at "s"
    rw [sl_fromI _ _ (by omega)]
    have eL : ((((cells0 ns).map fun n : Nat => D.int (n : Int)).length : Nat) : Int).toNat = (cells0 ns).length := by simp
    rw [eL]
    refine ⟨_, _, rfl, rfl, by simp; omega, after_next (ex_nil ?_)⟩
    refine after_next (hR _ ?_)
    rw [hc, List.map_append, List.map_drop]
    walk_at "sub"
  · have h' : ¬ (cells0 ns).length < 2 := by have := of_decide_eq_false h; simp at this; omega
    have hc : cellsL ns = cells0 ns := by unfold cellsL; rw [if_neg h']
    refine ex_nil (after_next (hR _ ?_))
    rw [hc]
    walk_at "sub"
end
end
section
set_option maxRecDepth 10000
set_option maxHeartbeats 1000000
section
variable {c : Cx} {k : Nat} {env : Env} {σ : Loc} {ω : Own} {Ho Hx : List Addr} {s : Shared} {A : Around} {x : Str}
theorem St.front {l : List D} (z : St c env σ ω Ho Hx s) (hl : ω.lookup x = some l) : ∃ Ho', Keep env.locals Ho s s Ho' ∧ St c env σ ((x, l) :: delL x ω) Ho' Hx s := by
  obtain ⟨a, vs, n, hm, hx, hb, hr⟩ := z.own.find hl
  obtain ⟨H', sb, na, q⟩ := z.own.drop (z.own.kind hl) hx z.nd
  have na := na ⟨l, hl⟩
  have sub : ∀ b, b ∈ a :: H' → b ∈ Ho := fun b m => by
    rcases List.mem_cons.mp m with rfl | m
    · exact hm
    · exact sb.subset m
  have sg : Sub (hid (env.locals :: (Ho ++ Hx)) s.heap) (hid (env.locals :: ((a :: H') ++ Hx)) s.heap) := hid_weaken fun b m => by
    rcases List.mem_cons.mp m with rfl | m
    · exact .head _
    · rcases List.mem_append.mp m with m | m
      · exact .tail _ (List.mem_append_left _ (sub b m))
      · exact .tail _ (List.mem_append_right _ m)
  refine ⟨a :: H', ⟨⟨s.heap, s.toks, rfl⟩, Nat.le_refl _, fun b o n n2 e => ⟨e, fun w => n2 (sub b w)⟩⟩, ?_, z.ns, fun b m => ?_, z.loc.mono sg (fun _ _ e => e), ?_, List.nodup_cons.mpr ⟨na, sb.nodup z.nd⟩, fun b m => z.ap b (sub b m), z.cl, z.tk, z.eo, z.kx⟩
  · obtain ⟨g, q1, q2⟩ := z.gb
    exact ⟨g, q1, fun b o w => let ⟨w1, w2, w3⟩ := q2 b o w; ⟨w1, w2, fun m => w3 (sub b m)⟩⟩
  · rcases List.mem_append.mp m with m | m
    · exact z.ok b (List.mem_append_left _ (sub b m))
    · exact z.ok b (List.mem_append_right _ m)
  · simp only [OwnR]
    exact ⟨a, H', vs, n, rfl, z.own.kind hl, hx, hb, hr.mono sg, q.mono sg (fun _ _ _ e => e) (fun _ _ e => e)⟩
theorem ex_front {b : List Stmt} {P : Out → Prop} {l : List D} (x : Str) (hl : ω.lookup x = some l) (h : Ex c k env σ ((x, l) :: delL x ω) b P) : Ex c k env σ ω b P := fun A s Ho Hx E Q ok z hq => by
  obtain ⟨Ho', kp, z'⟩ := z.front hl
  exact h A s Ho' Hx E Q ok z' fun o fl s' Ho'' hp kp' hr => hq o fl s' Ho'' hp (kp.trans kp') hr
end
end
section
set_option maxRecDepth 10000
set_option maxHeartbeats 1000000

section
variable {c : Cx} {k : Nat} {env : Env} {σ : Loc}
/-- the drawn numbers by two and two -/
noncomputable def itemsOf : List Nat → List (Nat × Nat)
  | a :: b :: r => (a, b) :: itemsOf r
  | _ => []
noncomputable def txtOf (a : Nat) : List Nat := stockL.getD (a % 12) []
noncomputable def labOf (a : Nat) : Nat := [0, 7, 10, 123].getD (a / 12 % 4) 0
noncomputable def preOf (a : Nat) : List (List Nat) := if a / 48 % 3 = 1 then [lit "c IF("] else []
noncomputable def plainRow (p : Nat × Nat) : List Nat := headL (labOf p.1) 0 ++ [32] ++ txtOf p.1
noncomputable def itemRows (p : Nat × Nat) : List (List Nat) := preOf p.1 ++ rowsL (labOf p.1) (txtOf p.1) p.2 60
noncomputable def laidL (it : List (Nat × Nat)) : List (List Nat) := it.flatMap itemRows
noncomputable def linesL : Nat → List (Nat × Nat) → List Nat
  | _, [] => []
  | n, p :: r => (n + (preOf p.1).length + 1) :: linesL (n + (itemRows p).length) r
noncomputable def sqOf (x : List Nat) : List Nat := match sqzF x (x.length + 1) 0 [] with | some r => r.map (·.1) | none => []
noncomputable def sqW (a : Nat) : List Nat := sqOf (txtOf a)
noncomputable def wantD (p : Nat × Nat) : D := .tup [.int (labOf p.1), .str (sqW p.1), .str (clsf (sqW p.1))]
theorem linesL_snoc (p : Nat × Nat) : ∀ (n : Nat) (l : List (Nat × Nat)), linesL n (l ++ [p]) = linesL n l ++ [n + (laidL l).length + (preOf p.1).length + 1]
  | n, [] => by simp [linesL, laidL]
  | n, q :: r => by
    rw [List.cons_append, linesL, linesL_snoc p _ r, linesL, List.cons_append]
    simp only [laidL, List.flatMap_cons, List.length_append]
    congr 4
    omega
theorem itemsOf_length : ∀ l : List Nat, (itemsOf l).length = l.length / 2
  | [] => rfl
  | [_] => by simp [itemsOf]
  | a :: b :: r => by simp only [itemsOf, List.length_cons]; rw [itemsOf_length r]; omega
theorem itemsOf_get : ∀ (l : List Nat) (j : Nat), j < l.length / 2 → ∃ p, (itemsOf l)[j]? = some p ∧ l[2 * j]? = some p.1 ∧ l[2 * j + 1]? = some p.2
  | [], j, h => by simp at h
  | [_], j, h => by simp at h
  | a :: b :: r, 0, _ => ⟨(a, b), rfl, rfl, rfl⟩
  | a :: b :: r, j + 1, h => by
    obtain ⟨p, h1, h2, h3⟩ := itemsOf_get r j (by simp at h; omega)
    exact ⟨p, by simpa [itemsOf] using h1, by rw [show 2 * (j + 1) = (2 * j) + 1 + 1 by omega]; simpa using h2, by rw [show 2 * (j + 1) + 1 = (2 * j + 1) + 1 + 1 by omega]; simpa using h3⟩
theorem stockL_len : stockL.length = 12 := by decide +kernel
theorem txtOf_get (a : Nat) : stockL[a % 12]? = some (txtOf a) := by
  unfold txtOf
  rw [List.getD_eq_getElem?_getD]
  have : a % 12 < stockL.length := by rw [stockL_len]; omega
  simp [List.getElem?_eq_getElem this]
theorem txtOf_mem (a : Nat) : txtOf a ∈ stockL := List.mem_of_getElem? (txtOf_get a)
/-- what of the stock can be told at once -/
theorem stock_facts : ∀ x ∈ stockL, x.length ≤ 20 ∧ (x.filter dgt).length ≤ 15 ∧ (∃ r, sqzF x (x.length + 1) 0 [] = some r) ∧ (sqOf x).length ≤ 40 := by
  have h : stockL.all (fun x => decide (x.length ≤ 20) && decide ((x.filter dgt).length ≤ 15) && (sqzF x (x.length + 1) 0 []).isSome && decide ((sqOf x).length ≤ 40)) = true := by decide +kernel
  intro x m
  have := List.all_eq_true.mp h x m
  simp only [Bool.and_eq_true, decide_eq_true_eq] at this
  obtain ⟨⟨⟨h1, h2⟩, h3⟩, h4⟩ := this
  exact ⟨h1, h2, Option.isSome_iff_exists.mp h3, h4⟩
theorem sqd_stock (G : Good c) (a : Nat) : Fn c (k + 5) 212 [.str (txtOf a)] (fun d => d = .str (sqW a)) := by
  obtain ⟨h1, h2, ⟨r, hr⟩, h4⟩ := stock_facts _ (txtOf_mem a)
  have e : sqW a = r.map (·.1) := by unfold sqW sqOf; rw [hr]
  rw [e]
  refine sqd_fn G _ r _ (by omega) h2 hr ?_
  have : (sqW a).length ≤ 40 := h4
  rw [e, List.length_map] at this
  omega
theorem labOf_mem (a : Nat) : labOf a = 0 ∨ labOf a = 7 ∨ labOf a = 10 ∨ labOf a = 123 := by
  unfold labOf
  have : a / 12 % 4 = 0 ∨ a / 12 % 4 = 1 ∨ a / 12 % 4 = 2 ∨ a / 12 % 4 = 3 := by omega
  rcases this with h | h | h | h <;> rw [h] <;> simp
theorem labOf_get (a : Nat) : ([.int 0, .int 7, .int 10, .int 123] : List D)[a / 12 % 4]? = some (.int (labOf a : Nat)) := by
  unfold labOf
  have : a / 12 % 4 = 0 ∨ a / 12 % 4 = 1 ∨ a / 12 % 4 = 2 ∨ a / 12 % 4 = 3 := by omega
  rcases this with h | h | h | h <;> rw [h] <;> rfl
theorem labOf_ok (a : Nat) : labOf a < 1000000 ∧ (decNat (labOf a)).length ≤ 3 := by
  rcases labOf_mem a with h | h | h | h <;> rw [h] <;> decide +kernel
theorem headL_len5 (a m : Nat) (hm : m ≤ 2) : (headL (labOf a) m).length = 5 := by
  have : m = 0 ∨ m = 1 ∨ m = 2 := by omega
  rcases labOf_mem a with h | h | h | h <;> rw [h] <;> rcases this with rfl | rfl | rfl <;> decide +kernel
theorem rows0_len (label : Nat) (x : List Nat) (n : Nat) : (rows0 label x n).length ≤ 3 := by
  unfold rows0 partsOf
  split
  · simp
  · simp only [List.drop_succ_cons, List.drop_zero, List.flatMap_cons, List.flatMap_nil, List.append_nil, List.length_cons, List.length_append, List.length_nil]
    split <;> simp
theorem itemRows_len (p : Nat × Nat) : (itemRows p).length ≤ 4 := by
  unfold itemRows
  have h1 : (preOf p.1).length ≤ 1 := by unfold preOf; split <;> simp
  have h2 : (rowsL (labOf p.1) (txtOf p.1) p.2 60).length ≤ 3 := by
    unfold rowsL
    have := rows0_len (labOf p.1) (txtOf p.1) p.2
    split <;> simp <;> omega
  rw [List.length_append]; omega
theorem laidL_len (it : List (Nat × Nat)) : (laidL it).length ≤ 4 * it.length := by
  induction it with
  | nil => simp [laidL]
  | cons p r ih =>
    have := itemRows_len p
    simp only [laidL, List.flatMap_cons, List.length_append, List.length_cons] at *
    omega
theorem cellsL_len (ns : List Int) : 2 ≤ (cellsL ns).length ∧ (cellsL ns).length ≤ 13 := by
  have h : (cells0 ns).length ≤ 13 := by unfold cells0; simp; omega
  unfold cellsL
  split
  · rw [List.length_append, List.length_drop]
    simp only [List.length_cons, List.length_nil]
    omega
  · omega
theorem cellsL_lt (ns : List Int) : ∀ n ∈ cellsL ns, n < 1000000000 := by
  have h : ∀ n ∈ cells0 ns, n < 1000000000 := fun n m => by
    unfold cells0 at m
    obtain ⟨i, _, rfl⟩ := List.mem_map.mp m
    exact Nat.mod_lt _ (by decide)
  intro n m
  unfold cellsL at m
  split at m
  · rcases List.mem_append.mp m with m | m
    · exact h n m
    · have := List.mem_of_mem_drop m
      simp at this; omega
  · exact h n m
theorem rngs_two (n : Nat) (h : 1 ≤ n) : rngs 0 ((n : Int) - 1) 2 = (List.range (n / 2)).map fun i : Nat => .int ((2 * i : Nat) : Int) := by
  have e : (Builtin.Range.rangeSize 0 ((n : Int) - 1) 2).toNat = n / 2 := by
    unfold Builtin.Range.rangeSize
    rw [if_pos (by decide)]
    split <;> omega
  unfold rngs
  rw [e]
  apply List.map_congr_left
  intro i _
  congr 1
  omega
end
end
section
set_option maxRecDepth 10000
set_option maxHeartbeats 1000000

section
variable {c : Cx} {k : Nat} {env : Env} {σ : Loc}
theorem law_loop (G : Good c) (L : Addr) (ns : List Int) {PO : Out → Prop}
    (hR : ∀ σ, SubL [V "width" (.int 60)] σ → Ex c (k + 5) (callEnv fd_law L 404) σ [W "laid" ((laidL (itemsOf (cellsL ns))).map .str), W "want" ((itemsOf (cellsL ns)).map wantD), W "lines" ((linesL 0 (itemsOf (cellsL ns))).map fun i : Nat => D.int (i : Int)), W "plain" (((itemsOf (cellsL ns)).map plainRow).map .str)] ((bodyOf (stAt 57)).drop 8) PO) :
    ∀ σ, SubL [V "cells" (.lst ((cellsL ns).map fun n : Nat => D.int (n : Int)))] σ → Ex c (k + 5) (callEnv fd_law L 404) σ [] ((bodyOf (stAt 57)).drop 2) PO := by
  intro σ hσ
  refine ex_weaken hσ ?_
  conv => arg 6; whnf
  obtain ⟨hc1, hc2⟩ := cellsL_len ns
  have hclt := cellsL_lt ns
  have hget := itemsOf_get (cellsL ns)
  have hil := itemsOf_length (cellsL ns)
  generalize cellsL ns = cs at *
  generalize hits : itemsOf cs = its at *
  have hcz : (cs.map fun n : Nat => D.int (n : Int)).length ≤ 10000000 := by simp; omega
  with_reducible refine ex_cons ?_
  refine s_assign rfl rfl ?_
  with_reducible refine ev_int ?_
  refine ⟨rfl, after_next ?_⟩
  with_reducible refine ex_cons ?_
  refine s_assignN rfl rfl ?_
  with_reducible refine evn_list ?_
  with_reducible refine evs_nil ?_
  refine ⟨by decide, rfl, after_next ?_⟩
  with_reducible refine ex_cons ?_
  refine s_assignN rfl rfl ?_
  with_reducible refine evn_list ?_
  with_reducible refine evs_nil ?_
  refine ⟨by decide, rfl, after_next ?_⟩
  with_reducible refine ex_cons ?_
  refine s_assignN rfl rfl ?_
  with_reducible refine evn_list ?_
  with_reducible refine evs_nil ?_
  refine ⟨by decide, rfl, after_next ?_⟩
  with_reducible refine ex_cons ?_
  refine s_assignN rfl rfl ?_
  with_reducible refine evn_list ?_
  with_reducible refine evs_nil ?_
  refine ⟨by decide, rfl, after_next ?_⟩
  refine ex_front "laid" rfl ?_
  with_reducible refine ex_cons ?_
  refine ex_for (PI := fun items => items = (List.range (cs.length / 2)).map fun i : Nat => D.int ((2 * i : Nat) : Int)) (itera_rng ?_).iterP ?_
  · repeat walk_at "s"
    rw [List.length_map]
    refine op_range3 (by decide) ⟨by omega, by decide⟩ ?_
    have := small_of (a := 0) (b := (cs.length : Int) - 1) (c := 2) (by omega)
    exact ⟨_, _, _, rfl, this.1, this.2, rngs_two _ (by omega)⟩
  rintro _ rfl
  refine ⟨fun (j : Nat) (σ : Loc) (ω : Own) => σ = [V "cells" (.lst (cs.map fun n : Nat => D.int (n : Int))), V "width" (.int 60)] ∧ ω = [W "laid" ((laidL (its.take j)).map .str), W "want" ((its.take j).map wantD), W "lines" ((linesL 0 (its.take j)).map fun i : Nat => D.int (i : Int)), W "plain" (((its.take j).map plainRow).map .str)],
    again_mk ⟨rfl, rfl⟩ (by walk_at "sub"), ?_, ?_⟩
  rotate_left
  · rintro σ ω ⟨rfl, rfl⟩
    rw [List.length_map, List.length_range, ← hil, List.take_length]
    exact after_next (hR _ (by walk_at "sub"))
  rintro j d σ ω hd ⟨rfl, rfl⟩
  rw [List.getElem?_map] at hd
  obtain ⟨i, hi, rfl⟩ := Option.map_eq_some_iff.mp hd
  obtain ⟨hj, rfl⟩ := range_item hi
  obtain ⟨p, hp, hp1, hp2⟩ := hget i hj
  have hl1 := hclt p.1 (List.mem_of_getElem? hp1)
  have hl2 := hclt p.2 (List.mem_of_getElem? hp2)
  have htk : its.take (i + 1) = its.take i ++ [p] := by rw [List.take_add_one, hp]; rfl
  dsimp only
  rw [htk]
  have hil : its.length ≤ 6 := by omega
  have htl : (its.take i).length ≤ 6 := by rw [List.length_take]; omega
  generalize its.take i = it at *
  have hlaid := laidL_len it
  have d12 : Int.fdiv (p.1 : Int) 12 = ((p.1 / 12 : Nat) : Int) := fdiv_nat p.1 12
  have d48 : Int.fdiv (p.1 : Int) 48 = ((p.1 / 48 : Nat) : Int) := fdiv_nat p.1 48
  have m12 : Int.fmod (p.1 : Int) 12 = ((p.1 % 12 : Nat) : Int) := fmod_nat p.1 12
  have m4 : Int.fmod ((p.1 / 12 : Nat) : Int) 4 = ((p.1 / 12 % 4 : Nat) : Int) := fmod_nat (p.1 / 12) 4
  have m3 : Int.fmod ((p.1 / 48 : Nat) : Int) 3 = ((p.1 / 48 % 3 : Nat) : Int) := fmod_nat (p.1 / 48) 3
  have hsf := stock_facts _ (txtOf_mem p.1)
  have hlab := labOf_ok p.1
  have hi2 : 2 * i + 1 < cs.length := by omega
  -- the end of the turn
  have tail : ∀ (PO' : Out → Prop) (lo : List (List Nat)), lo = laidL it ++ preOf p.1 → ∀ σ, SubL [V "text" (.str (txtOf p.1)), V "label" (.int (labOf p.1)), V "at" (.int ((2 * i : Nat) : Int)), V "cells" (.lst (cs.map fun n : Nat => D.int (n : Int))), V "width" (.int 60)] σ →
      Ex c (k + 5) (callEnv fd_law L 404) σ [W "laid" (lo.map .str), W "want" (it.map wantD), W "lines" ((linesL 0 it).map fun i : Nat => D.int (i : Int)), W "plain" (((it ++ [p]).map plainRow).map .str)] ((loopBody (stmtAt (bodyOf (stAt 57)) 7)).drop 4)
        (turnF (fun (σ : Loc) (ω : Own) => σ = [V "cells" (.lst (cs.map fun n : Nat => D.int (n : Int))), V "width" (.int 60)] ∧ ω = [W "laid" ((laidL (it ++ [p])).map .str), W "want" ((it ++ [p]).map wantD), W "lines" ((linesL 0 (it ++ [p])).map fun i : Nat => D.int (i : Int)), W "plain" (((it ++ [p]).map plainRow).map .str)]) PO') := by
    intro PO' lo hlo σ hσ
    refine ex_weaken hσ ?_
    conv => arg 6; whnf
    have hlol : lo.length ≤ 40 := by
      rw [hlo, List.length_append]
      have : (preOf p.1).length ≤ 1 := by unfold preOf; split <;> simp
      omega
    have hloz : (lo.map D.str).length ≤ 10000000 := by simp; omega
    have hlinl : (linesL 0 it).length ≤ 6 := by
      have : ∀ (n : Nat) l, (linesL n l).length = l.length := by
        intro n l
        induction l generalizing n with
        | nil => rfl
        | cons q r ih => simp [linesL, ih]
      rw [this]; omega
    have hlinz : ((linesL 0 it).map fun i : Nat => D.int (i : Int)).length ≤ 1000000 := by simp; omega
    have hwz : (it.map wantD).length ≤ 1000000 := by simp; omega
    with_reducible refine ex_cons ?_
    refine ex1_cut fun PT hPT => ?_
    repeat walk_at "s"
    refine hPT _ (after_next ?_)
    show Ex c (k + 5) (callEnv fd_law L 404) [V "text" (.str (txtOf p.1)), V "label" (.int (labOf p.1)), V "at" (.int ((2 * i : Nat) : Int)), V "cells" (.lst (cs.map fun n : Nat => D.int (n : Int))), V "width" (.int 60)] [W "laid" (lo.map .str), W "want" (it.map wantD), W "lines" (((linesL 0 it).map fun i : Nat => D.int (i : Int)) ++ [D.int (((lo.map D.str).length : Nat) + 1)]), W "plain" (((it ++ [p]).map plainRow).map .str)] _ _
    clear hPT
    refine ex_cons (s_assignN rfl rfl ?_)
    with_reducible refine evn_add ?_
    refine s_name rfl rfl rfl ?_
    repeat walk_at "s"
    rw [show (((2 * i : Nat) : Int) + 1) = ((2 * i + 1 : Nat) : Int) from rfl]
    refine op_item_lst (d := .int (p.2 : Nat)) ⟨by omega, by simp; omega⟩ hcz (by rw [idx_nat]; simp [hp2]) ?_
    repeat walk_at "s"
    refine (lawRows_fn G (labOf p.1) (txtOf p.1) p.2 60 (by omega) hlab.1 (by omega) (by omega) (by decide)).to ?_
    have hrl : (rowsL (labOf p.1) (txtOf p.1) p.2 60).length ≤ 4 := by
      have := itemRows_len p
      unfold itemRows at this
      rw [List.length_append] at this; omega
    refine ⟨_, _, rfl, rfl, by simp; omega, ?_⟩
    rw [← List.map_append]
    refine ⟨noLsts_str _, after_next ?_⟩
    show Ex c (k + 5) (callEnv fd_law L 404) [V "text" (.str (txtOf p.1)), V "label" (.int (labOf p.1)), V "at" (.int ((2 * i : Nat) : Int)), V "cells" (.lst (cs.map fun n : Nat => D.int (n : Int))), V "width" (.int 60)] [W "laid" ((lo ++ rowsL (labOf p.1) (txtOf p.1) p.2 60).map .str), W "want" (it.map wantD), W "lines" (((linesL 0 it).map fun i : Nat => D.int (i : Int)) ++ [D.int (((lo.map D.str).length : Nat) + 1)]), W "plain" (((it ++ [p]).map plainRow).map .str)] _ _
    with_reducible refine ex_cons ?_
    refine ex1_cut fun PT hPT => ?_
    repeat walk_at "s"
    refine (sqd_stock G p.1).to ?_
    repeat walk_at "s"
    refine (sqd_stock G p.1).to ?_
    repeat walk_at "s"
    refine (clsf_fn G (sqW p.1) (by have : (sqW p.1).length ≤ 40 := hsf.2.2.2; omega)).to ?_
    repeat walk_at "s"
    refine hPT _ (after_next (ex_nil ?_))
    refine turnF_next (show _ ∧ _ from ⟨rfl, ?_⟩) (by walk_at "sub")
    have e1 : laidL (it ++ [p]) = lo ++ rowsL (labOf p.1) (txtOf p.1) p.2 60 := by rw [hlo]; simp [laidL, itemRows]
    have e2 : (it ++ [p]).map wantD = it.map wantD ++ [wantD p] := by simp
    have e3 : linesL 0 (it ++ [p]) = linesL 0 it ++ [lo.length + 1] := by rw [linesL_snoc, hlo, List.length_append, Nat.zero_add]
    rw [e1, e2, e3, List.map_append (l₁ := linesL 0 it), List.length_map]
    rfl
  have hh5 := headL_len5 p.1 0 (by omega)
  refine s_asgname rfl ?_
  with_reducible refine ex_cons ?_
  refine s_assign rfl rfl ?_
  repeat walk_at "s"
  refine (stock_fn G).to ?_
  repeat walk_at "s"
  refine op_item_lst (d := .int (p.1 : Nat)) ⟨by omega, by simp; omega⟩ hcz (by rw [idx_nat]; simp [hp1]) ?_
  repeat walk_at "s"
  refine op_mod_int (by decide) ?_
  rw [m12]
  refine op_item_lst (d := .str (txtOf p.1)) ⟨by omega, by rw [List.length_map, stockL_len]; omega⟩ (by rw [List.length_map, stockL_len]; decide) (by rw [idx_nat]; simp [txtOf_get]) ?_
  refine ⟨rfl, after_next ?_⟩
  with_reducible refine ex_cons ?_
  refine s_assign rfl rfl ?_
  with_reducible refine ev_sub ?_
  with_reducible refine ev_fresh ?_
  with_reducible refine evn_list ?_
  repeat walk_at "s"
  refine op_item_lst (d := .int (p.1 : Nat)) ⟨by omega, by simp; omega⟩ hcz (by rw [idx_nat]; simp [hp1]) ?_
  repeat walk_at "s"
  refine op_div_int (by decide) ⟨by omega, by decide⟩ ?_
  rw [d12]
  repeat walk_at "s"
  refine op_mod_int (by decide) ?_
  rw [m4]
  refine op_item_lst (d := .int (labOf p.1)) ⟨by omega, by simp only [List.length_cons, List.length_nil]; omega⟩ (by simp) (by rw [idx_nat]; exact labOf_get p.1) ?_
  refine ⟨rfl, after_next ?_⟩
  with_reducible refine ex_cons ?_
  refine ex1_cut fun PT hPT => ?_
  have hpz : ((it.map plainRow).map D.str).length ≤ 1000000 := by simp; omega
  repeat walk_at "s"
  refine (head_fn G (labOf p.1) 0 hlab.1 (by omega) (by omega)).to ?_
  repeat walk_at "s"
  have e32 : (Str.ofString " ").cps.toList = [32] := rfl
  rw [e32]
  refine op_add_str (by rw [hh5]; decide) ?_
  repeat walk_at "s"
  refine hPT _ (after_next ?_)
  clear hPT
  have e1 : (it.map plainRow).map D.str ++ [D.str (headL (labOf p.1) 0 ++ [32] ++ txtOf p.1)] = ((it ++ [p]).map plainRow).map D.str := by simp [plainRow]
  show Ex c (k + 5) (callEnv fd_law L 404) [V "label" (.int (labOf p.1)), V "text" (.str (txtOf p.1)), V "at" (.int ((2 * i : Nat) : Int)), V "cells" (.lst (cs.map fun n : Nat => D.int (n : Int))), V "width" (.int 60)] [W "laid" ((laidL it).map .str), W "want" (it.map wantD), W "lines" ((linesL 0 it).map fun i : Nat => D.int (i : Int)), W "plain" ((it.map plainRow).map D.str ++ [D.str (headL (labOf p.1) 0 ++ [32] ++ txtOf p.1)])] _ _
  rw [e1]
  with_reducible refine ex_cons ?_
  refine ex1_cut fun PT hPT => ?_
  have done : ∀ lo : List (List Nat), lo = laidL it ++ preOf p.1 → PT (.next [V "label" (.int (labOf p.1)), V "text" (.str (txtOf p.1)), V "at" (.int ((2 * i : Nat) : Int)), V "cells" (.lst (cs.map fun n : Nat => D.int (n : Int))), V "width" (.int 60)] [W "laid" (lo.map .str), W "want" (it.map wantD), W "lines" ((linesL 0 it).map fun i : Nat => D.int (i : Int)), W "plain" (((it ++ [p]).map plainRow).map .str)]) := fun lo h => hPT _ (after_next (tail _ lo h [V "label" (.int (labOf p.1)), V "text" (.str (txtOf p.1)), V "at" (.int ((2 * i : Nat) : Int)), V "cells" (.lst (cs.map fun n : Nat => D.int (n : Int))), V "width" (.int 60)] (by walk_at "sub")))
  clear tail hPT
  refine ex_if ?_
  repeat walk_at "s"
  refine op_item_lst (d := .int (p.1 : Nat)) ⟨by omega, by simp; omega⟩ hcz (by rw [idx_nat]; simp [hp1]) ?_
  repeat walk_at "s"
  refine op_div_int (by decide) ⟨by omega, by decide⟩ ?_
  rw [d48]
  repeat walk_at "s"
  refine op_mod_int (by decide) ?_
  rw [m3]
  repeat walk_at "s"
  refine ⟨fun h => ?_, fun h => ?_⟩
  · have h : p.1 / 48 % 3 = 1 := by have := of_decide_eq_true h; omega
    have hlz : ((laidL it).map D.str).length ≤ 1000000 := by simp; omega
    repeat walk_at "s"
    have := done (laidL it ++ [lit "c IF("]) (by unfold preOf; rw [if_pos h])
    rw [List.map_append] at this
    exact this
  · have h : ¬ p.1 / 48 % 3 = 1 := by have := of_decide_eq_false h; omega
    exact ex_nil (done (laidL it) (by unfold preOf; rw [if_neg h, List.append_nil]))
end
end
section
set_option maxRecDepth 10000
set_option maxHeartbeats 1000000

/-- x is squeezed to y -/
structure Sq (x y : List Nat) : Prop where
  len : x.length ≤ 1000
  dg : (x.filter dgt).length ≤ 15
  r : ∃ r f, sqzF x f 0 [] = some r ∧ r.map (·.1) = y
/-- the rows can be read -/
structure RdOk (ps : List (List Nat)) : Prop where
  ne : ps ≠ []
  n10 : ∀ p ∈ ps, 10 ∉ p
  len : ps.length ≤ 100
  row : ∀ p ∈ ps, p.length ≤ 1000
  ok : StOk 54 (rdCards 60 0 ps) []
  z : (rdSt 54 ps).length ≤ 1000
structure Told (it : List (Nat × Nat)) (st : List (Nat × Nat × List Nat)) : Prop where
  len : st.length = it.length
  get : ∀ (j : Nat) p q, it[j]? = some p → st[j]? = some q → q.2.1 = labOf p.1 ∧ Sq q.2.2 (sqW p.1)
structure Told3 (it : List (Nat × Nat)) (st : List (Nat × Nat × List Nat)) : Prop where
  len : st.length = it.length
  get : ∀ (j : Nat) p q, j + 1 < it.length → it[j]? = some p → st[j]? = some q → Sq q.2.2 (sqW p.1)
  last : ∀ (j : Nat) p q, j + 1 = it.length → it[j]? = some p → st[j]? = some q → Sq q.2.2 (sqW p.1 ++ [90])
noncomputable def endRows : List (List Nat) := [[67], lit "     XZ"]
structure Facts (it : List (Nat × Nat)) : Prop where
  ok1 : RdOk (it.map plainRow)
  la1 : (it.map plainRow).getLast? ≠ some []
  t1 : Told it (rdSt 54 (it.map plainRow))
  ok2 : RdOk (laidL it)
  t2 : Told it (rdSt 54 (laidL it))
  l2 : (rdSt 54 (laidL it)).map (·.1) = linesL 0 it
  ok3 : RdOk (laidL it ++ endRows)
  t3 : Told3 it (rdSt 54 (laidL it ++ endRows))
theorem joinN_len : ∀ ps : List (List Nat), (∀ p ∈ ps, p.length ≤ 1000) → (joinN ps).length ≤ ps.length * 1001
  | [], _ => Nat.zero_le _
  | [p], h => by have := h p (.head _); simp [joinN]; omega
  | p :: q :: r, h => by
    have h1 := h p (.head _)
    have h2 := joinN_len (q :: r) (fun x m => h x (.tail _ m))
    simp only [joinN, List.length_append, List.length_cons] at h2 ⊢
    omega
theorem joinN_end : ∀ ps : List (List Nat), ps ≠ [] → joinN (ps ++ [[]]) = joinN ps ++ [10]
  | [], h => absurd rfl h
  | [p], _ => by simp [joinN]
  | p :: q :: r, _ => by
    have := joinN_end (q :: r) (by simp)
    simp only [List.cons_append, joinN] at this ⊢
    rw [this]; simp
theorem sum_len : ∀ ps : List (List Nat), (∀ p ∈ ps, p.length ≤ 1000) → (ps.map List.length).sum ≤ ps.length * 1000
  | [], _ => Nat.zero_le _
  | p :: r, h => by
    have h1 := h p (.head _)
    have h2 := sum_len r (fun x m => h x (.tail _ m))
    simp only [List.map_cons, List.sum_cons, List.length_cons]
    omega
section
variable {c : Cx} {k : Nat} {env : Env} {σ : Loc}
theorem s_join {o e : Expr} {pos ap : Pos} {pl : Sem Bool} {P : D → Prop} (he : starEach [e] env = (false, eval e env) :: starEach [] env)
    (hev : eval (.Call (.Attribute o "join" ap) [e] [] pos) env = (do
      let ov ← eval o env
      standAt ap.atName
      let (f, first) ← holding [ov] (getMethod ov "join" pl)
      callWith pos f first (backTo pos (starEach [e] env)) []))
    (h : Ev c k env σ o fun d => d = .str [10] ∧ Ev c k env σ e fun d => ∃ ps : List (List Nat), d = .lst (ps.map .str) ∧ (ps.map List.length).sum + ps.length ≤ 1000000 ∧ P (.str (joinN ps))) :
    Ev c k env σ (.Call (.Attribute o "join" ap) [e] [] pos) P :=
  ev_meth F.slot_str_join F.type_str_join (fun A s H E Q a hq => h A s H E Q a fun d v s' hp e1 hv => hq d v s' (by
    obtain ⟨rfl, hp⟩ := hp
    refine ⟨_, rfl, evs_cons (fun A s H E Q a hq => hp A s H E Q a fun d v s' hp e1 hv => hq d v s' (by
      obtain ⟨ps, rfl, hz, hp⟩ := hp
      exact evs_nil (op_join hz hp)) e1 hv) he⟩) e1 hv) he rfl hev
theorem sqd_of (G : Good c) {x y : List Nat} (h : Sq x y) (hy : y.length ≤ 100000) : Fn c (k + 5) 212 [.str x] (fun d => d = .str y) := by
  obtain ⟨r, f, h1, h2⟩ := h.r
  rw [← h2]
  refine sqd_fn G x r f (by have := h.len; omega) h.dg h1 ?_
  rw [← h2, List.length_map] at hy
  exact hy
theorem read_of (G : Good c) {x : List Nat} {ps : List (List Nat)} (h : RdOk ps) (hx : (x = joinN ps ∧ ps.getLast? ≠ some []) ∨ x = joinN ps ++ [10]) :
    Fn c (k + 5) 170 [.str x, limD 60] (fun d => d = .lst ((rdSt 54 ps).map stD)) := by
  have hj := joinN_len ps h.row
  have hn := h.len
  rcases hx with ⟨hx, hl⟩ | hx
  · exact read_fn G x ps ps 54 (by decide) hx (by rw [hx]; omega) h.ne h.n10 (by omega) (fun p m => Nat.le_trans (h.row p m) (by decide)) (.inl ⟨rfl, hl⟩) h.ok h.z
  · exact read_fn G x ps (ps ++ [[]]) 54 (by decide) (by rw [hx, joinN_end _ h.ne]) (by rw [hx, List.length_append, List.length_singleton]; omega) h.ne h.n10 (by omega) (fun p m => Nat.le_trans (h.row p m) (by decide)) (.inr rfl) h.ok h.z
theorem wantD_plain (it : List (Nat × Nat)) : (it.map wantD).all plain1 = true := by
  rw [List.all_eq_true]
  intro d m
  obtain ⟨p, _, rfl⟩ := List.mem_map.mp m
  rfl
theorem sqW_len (a : Nat) : (sqW a).length ≤ 40 := (stock_facts _ (txtOf_mem a)).2.2.2

theorem law_rest (G : Good c) (L : Addr) (it : List (Nat × Nat)) (hne : it ≠ []) (hil : it.length ≤ 6) (F : Facts it) :
    ∀ σ, SubL [V "width" (.int 60)] σ → Ex c (k + 5) (callEnv fd_law L 404) σ [W "laid" ((laidL it).map .str), W "want" (it.map wantD), W "lines" ((linesL 0 it).map fun i : Nat => D.int (i : Int)), W "plain" ((it.map plainRow).map .str)] ((bodyOf (stAt 57)).drop 8) (retP fun d => d = .bool true) := by
  intro σ hσ
  refine ex_weaken hσ ?_
  conv => arg 6; whnf
  refine ex_freeze "laid" rfl ?_
  refine ex_freeze "want" rfl ?_
  refine ex_freeze "lines" rfl ?_
  refine ex_freeze "plain" rfl ?_
  have hn10 : (Str.ofString "\n").cps.toList = [10] := rfl
  have hps := sum_len _ F.ok1.row
  have hpl := F.ok1.len
  have hls := sum_len _ F.ok2.row
  have hll := F.ok2.len
  generalize hst1 : rdSt 54 (it.map plainRow) = st1
  generalize hst2 : rdSt 54 (laidL it) = st2
  generalize hst3 : rdSt 54 (laidL it ++ endRows) = st3
  have h1 := F.t1
  rw [hst1] at h1
  have h2 := F.t2
  rw [hst2] at h2
  have hl2 := F.l2
  rw [hst2] at hl2
  have h3 := F.t3
  rw [hst3] at h3
  show Ex c (k + 5) (callEnv fd_law L 404) [V "plain" (.lst ((it.map plainRow).map .str)), V "lines" (.lst ((linesL 0 it).map fun i : Nat => D.int (i : Int))), V "want" (.lst (it.map wantD)), V "laid" (.lst ((laidL it).map .str)), V "width" (.int 60)] [] _ _
  refine ex_cons ?_
  refine ex1_cut fun PT hPT => ?_
  refine s_assign rfl rfl ?_
  refine s_lim G rfl rfl ?_
  repeat walk_at "s"
  refine hPT _ (after_next ?_)
  clear hPT
  show Ex c (k + 5) (callEnv fd_law L 404) [V "limits" (limD 60), V "plain" (.lst ((it.map plainRow).map .str)), V "lines" (.lst ((linesL 0 it).map fun i : Nat => D.int (i : Int))), V "want" (.lst (it.map wantD)), V "laid" (.lst ((laidL it).map .str)), V "width" (.int 60)] [] _ _
  refine ex_cons ?_
  refine s_assignL rfl rfl ?_
  repeat walk_at "s"
  refine s_join rfl rfl ?_
  repeat walk_at "s"
  refine (read_of G F.ok1 (.inl ⟨rfl, F.la1⟩)).to ?_
  rw [hst1]
  refine after_next ?_
  show Ex c (k + 5) (callEnv fd_law L 404) [V "told" (.lst (st1.map stD)), V "limits" (limD 60), V "plain" (.lst ((it.map plainRow).map .str)), V "lines" (.lst ((linesL 0 it).map fun i : Nat => D.int (i : Int))), V "want" (.lst (it.map wantD)), V "laid" (.lst ((laidL it).map .str)), V "width" (.int 60)] [] _ _
  refine ex_cons ?_
  refine ex_if ?_
  refine s_trcompare rfl ?_
  refine ev_fresh (evn_comp (σc := []) (cl := []) (PI := fun items => items = st1.map stD) (itera_list ?_) ?_)
  · repeat walk_at "s"
    exact ⟨_, .inl rfl, rfl⟩
  refine ⟨by decide, rfl, by decide, rfl, (fun y d hy => nomatch hy), (fun y b hy => nomatch hy), fun items hi => ?_⟩
  subst hi
  have h1l := h1.len
  refine ⟨by simp; omega, fun j l => l = (it.take j).map wantD ∧ j ≤ it.length, ⟨rfl, Nat.zero_le _⟩, ?_, fun j l hl => by rw [hl.1]; simp; omega, ?_⟩
  · rintro j d l hd ⟨rfl, hjl⟩ C
    rw [List.getElem?_map] at hd
    obtain ⟨q, hq, rfl⟩ := Option.map_eq_some_iff.mp hd
    have hjr := (List.getElem?_eq_some_iff.mp hq).1
    obtain ⟨p, hp⟩ : ∃ p, it[j]? = some p := ⟨it[j]'(by omega), by simp⟩
    obtain ⟨g1, g2⟩ := h1.get j p q hp hq
    have hw := sqW_len p.1
    refine s_asgtuple (ds := [.int q.1, .int q.2.1, .str q.2.2]) rfl rfl ?_
    repeat walk_at "s"
    refine (sqd_of G g2 (by omega)).to ?_
    repeat walk_at "s"
    refine (sqd_of G g2 (by omega)).to ?_
    repeat walk_at "s"
    refine (clsf_fn G (sqW p.1) (by omega)).to ?_
    repeat walk_at "s"
    refine ⟨?_, by omega⟩
    rw [List.take_add_one, hp, List.map_append, g1]
    rfl
  rintro l ⟨rfl, _⟩
  rw [List.length_map, h1l, List.take_length]
  repeat walk_at "s"
  refine op_ne_same (wantD_plain it) ?_
  refine ⟨_, rfl, ?_⟩
  refine tf_false (ex_nil (after_next ?_))
  refine ex_cons ?_
  refine s_assignL rfl rfl ?_
  repeat walk_at "s"
  refine s_join rfl rfl ?_
  repeat walk_at "s"
  rw [hn10]
  have hjl := joinN_len _ F.ok2.row
  refine op_add_str (by rw [List.length_singleton]; omega) ?_
  repeat walk_at "s"
  refine (read_of G F.ok2 (.inr rfl)).to ?_
  rw [hst2]
  refine after_next ?_
  refine ex_weaken (show SubL [V "told" (.lst (st2.map stD)), V "limits" (limD 60), V "plain" (.lst ((it.map plainRow).map .str)), V "lines" (.lst ((linesL 0 it).map fun i : Nat => D.int (i : Int))), V "want" (.lst (it.map wantD)), V "laid" (.lst ((laidL it).map .str)), V "width" (.int 60)] _ by walk_at "sub") ?_
  show Ex c (k + 5) (callEnv fd_law L 404) [V "told" (.lst (st2.map stD)), V "limits" (limD 60), V "plain" (.lst ((it.map plainRow).map .str)), V "lines" (.lst ((linesL 0 it).map fun i : Nat => D.int (i : Int))), V "want" (.lst (it.map wantD)), V "laid" (.lst ((laidL it).map .str)), V "width" (.int 60)] [] _ _
  refine ex_cons ?_
  refine ex_if ?_
  refine s_trcompare rfl ?_
  refine ev_fresh (evn_comp (σc := []) (cl := []) (PI := fun items => items = st2.map stD) (itera_list ?_) ?_)
  · repeat walk_at "s"
    exact ⟨_, .inl rfl, rfl⟩
  refine ⟨by decide, rfl, by decide, rfl, (fun y d hy => nomatch hy), (fun y b hy => nomatch hy), fun items hi => ?_⟩
  subst hi
  have h2l := h2.len
  refine ⟨by simp; omega, fun j l => l = (it.take j).map wantD ∧ j ≤ it.length, ⟨rfl, Nat.zero_le _⟩, ?_, fun j l hl => by rw [hl.1]; simp; omega, ?_⟩
  · rintro j d l hd ⟨rfl, hjl⟩ C
    rw [List.getElem?_map] at hd
    obtain ⟨q, hq, rfl⟩ := Option.map_eq_some_iff.mp hd
    have hjr := (List.getElem?_eq_some_iff.mp hq).1
    obtain ⟨p, hp⟩ : ∃ p, it[j]? = some p := ⟨it[j]'(by omega), by simp⟩
    obtain ⟨g1, g2⟩ := h2.get j p q hp hq
    have hw := sqW_len p.1
    refine s_asgtuple (ds := [.int q.1, .int q.2.1, .str q.2.2]) rfl rfl ?_
    repeat walk_at "s"
    refine (sqd_of G g2 (by omega)).to ?_
    repeat walk_at "s"
    refine (sqd_of G g2 (by omega)).to ?_
    repeat walk_at "s"
    refine (clsf_fn G (sqW p.1) (by omega)).to ?_
    repeat walk_at "s"
    refine ⟨?_, by omega⟩
    rw [List.take_add_one, hp, List.map_append, g1]
    rfl
  rintro l ⟨rfl, _⟩
  rw [List.length_map, h2l, List.take_length]
  repeat walk_at "s"
  refine op_ne_same (wantD_plain it) ?_
  refine ⟨_, rfl, ?_⟩
  refine tf_false (ex_nil (after_next ?_))
  show Ex c (k + 5) (callEnv fd_law L 404) [V "told" (.lst (st2.map stD)), V "limits" (limD 60), V "plain" (.lst ((it.map plainRow).map .str)), V "lines" (.lst ((linesL 0 it).map fun i : Nat => D.int (i : Int))), V "want" (.lst (it.map wantD)), V "laid" (.lst ((laidL it).map .str)), V "width" (.int 60)] [] _ _
  refine ex_cons ?_
  refine ex_if ?_
  refine s_trcompare rfl ?_
  refine ev_fresh (evn_comp (σc := []) (cl := []) (PI := fun items => items = st2.map stD) (itera_list ?_) ?_)
  · repeat walk_at "s"
    exact ⟨_, .inl rfl, rfl⟩
  refine ⟨by decide, rfl, by decide, rfl, (fun y d hy => nomatch hy), (fun y b hy => nomatch hy), fun items hi => ?_⟩
  subst hi
  refine ⟨by simp; omega, fun j l => l = ((linesL 0 it).take j).map (fun i : Nat => D.int (i : Int)) ∧ j ≤ (linesL 0 it).length, ⟨rfl, Nat.zero_le _⟩, ?_, fun j l hl => by rw [hl.1, List.length_map, List.length_take]; omega, ?_⟩
  · rintro j d l hd ⟨rfl, hjl⟩ C
    rw [List.getElem?_map] at hd
    obtain ⟨q, hq, rfl⟩ := Option.map_eq_some_iff.mp hd
    have hq' : (linesL 0 it)[j]? = some q.1 := by rw [← hl2, List.getElem?_map, hq]; rfl
    have hjr := (List.getElem?_eq_some_iff.mp hq').1
    refine s_asgtuple (ds := [.int q.1, .int q.2.1, .str q.2.2]) rfl rfl ?_
    repeat walk_at "s"
    refine ⟨?_, hjr⟩
    rw [List.take_add_one, hq', List.map_append]
    rfl
  rintro l ⟨rfl, _⟩
  rw [List.length_map, show st2.length = (linesL 0 it).length by rw [← hl2, List.length_map], List.take_length]
  repeat walk_at "s"
  refine op_ne_same ?_ ?_
  · rw [List.all_eq_true]
    intro d m
    obtain ⟨i, _, rfl⟩ := List.mem_map.mp m
    rfl
  refine ⟨_, rfl, ?_⟩
  refine tf_false (ex_nil (after_next ?_))
  show Ex c (k + 5) (callEnv fd_law L 404) [V "told" (.lst (st2.map stD)), V "limits" (limD 60), V "plain" (.lst ((it.map plainRow).map .str)), V "lines" (.lst ((linesL 0 it).map fun i : Nat => D.int (i : Int))), V "want" (.lst (it.map wantD)), V "laid" (.lst ((laidL it).map .str)), V "width" (.int 60)] [] _ _
  have hz3 := sum_len _ F.ok3.row
  have hn3 := F.ok3.len
  have h3l := h3.len
  refine ex_cons ?_
  refine s_assignL rfl rfl ?_
  repeat walk_at "s"
  refine s_join rfl rfl ?_
  with_reducible refine ev_str ?_
  refine ⟨rfl, ?_⟩
  with_reducible refine ev_fresh ?_
  with_reducible refine evn_add ?_
  refine s_name rfl rfl rfl ?_
  with_reducible refine ev_fresh ?_
  with_reducible refine evn_list ?_
  repeat walk_at "s"
  refine ⟨_, _, rfl, rfl, by rw [List.length_map]; simp only [List.length_cons, List.length_nil]; omega, ?_⟩
  refine ⟨laidL it ++ endRows, by rw [List.map_append]; rfl, by omega, ?_⟩
  repeat walk_at "s"
  refine (read_of G F.ok3 (.inl ⟨rfl, ?_⟩)).to ?_
  · rw [List.getLast?_append, show endRows.getLast? = some (lit "     XZ") from rfl, Option.some_or]; decide
  rw [hst3]
  refine after_next ?_
  refine ex_weaken (show SubL [V "told" (.lst (st3.map stD)), V "limits" (limD 60), V "plain" (.lst ((it.map plainRow).map .str)), V "lines" (.lst ((linesL 0 it).map fun i : Nat => D.int (i : Int))), V "want" (.lst (it.map wantD)), V "laid" (.lst ((laidL it).map .str)), V "width" (.int 60)] _ by walk_at "sub") ?_
  show Ex c (k + 5) (callEnv fd_law L 404) [V "told" (.lst (st3.map stD)), V "limits" (limD 60), V "plain" (.lst ((it.map plainRow).map .str)), V "lines" (.lst ((linesL 0 it).map fun i : Nat => D.int (i : Int))), V "want" (.lst (it.map wantD)), V "laid" (.lst ((laidL it).map .str)), V "width" (.int 60)] [] _ _
  have hs3z : (st3.map stD).length ≤ 10000000 := by simp; omega
  have hwz : (it.map wantD).length ≤ 10000000 := by simp; omega
  refine ex_cons ?_
  refine ex_if ?_
  repeat walk_at "s"
  refine ⟨fun h => absurd h ?_, fun _ => ?_⟩
  · rw [List.length_map, List.length_map, h3l]; simp
  refine tr_or ?_
  refine s_trcompare rfl ?_
  refine ev_fresh (evn_comp (σc := []) (cl := []) (PI := fun items => items = (st3.map stD).take ((st3.map stD).length - 1)) (itera_list ?_) ?_)
  · with_reducible refine ev_slice_lst ?_
    repeat walk_at "s"
    refine ⟨_, .inl rfl, hs3z, ?_⟩
    repeat walk_at "s"
    refine ⟨_, .inl rfl, ?_⟩
    exact sl_butlast _ 1 (by decide)
  refine ⟨by decide, rfl, by decide, rfl, (fun y d hy => nomatch hy), (fun y b hy => nomatch hy), fun items hi => ?_⟩
  subst hi
  have hpos : 1 ≤ it.length := by
    cases it with
    | nil => exact absurd rfl hne
    | cons a r => simp
  have htl : ((st3.map stD).take ((st3.map stD).length - 1)).length = it.length - 1 := by simp; omega
  refine ⟨by omega, fun j l => l = ((it.take j).map fun p => D.str (sqW p.1)) ∧ j ≤ it.length, ⟨rfl, Nat.zero_le _⟩, ?_, fun j l hl => by rw [hl.1]; simp; omega, ?_⟩
  · rintro j d l hd ⟨rfl, hjl⟩ C
    have hj1 := (List.getElem?_eq_some_iff.mp hd).1
    rw [htl] at hj1
    rw [List.getElem?_take_of_lt (by rw [List.length_map, h3l]; omega), List.getElem?_map] at hd
    obtain ⟨q, hq, rfl⟩ := Option.map_eq_some_iff.mp hd
    obtain ⟨p, hp⟩ : ∃ p, it[j]? = some p := ⟨it[j]'(by omega), by simp⟩
    have g2 := h3.get j p q (by omega) hp hq
    have hw := sqW_len p.1
    refine s_asgtuple (ds := [.int q.1, .int q.2.1, .str q.2.2]) rfl rfl ?_
    repeat walk_at "s"
    refine (sqd_of G g2 (by omega)).to ?_
    refine ⟨?_, by omega⟩
    rw [List.take_add_one, hp, List.map_append]
    rfl
  rw [htl]
  rintro l ⟨rfl, _⟩
  refine ev_fresh (evn_comp (σc := []) (cl := []) (PI := fun items => items = (it.map wantD).take ((it.map wantD).length - 1)) (itera_list ?_) ?_)
  · with_reducible refine ev_slice_lst ?_
    repeat walk_at "s"
    refine ⟨_, .inl rfl, hwz, ?_⟩
    repeat walk_at "s"
    refine ⟨_, .inl rfl, ?_⟩
    exact sl_butlast _ 1 (by decide)
  refine ⟨by decide, rfl, by decide, rfl, (fun y d hy => nomatch hy), (fun y b hy => nomatch hy), fun items hi => ?_⟩
  subst hi
  have htw : ((it.map wantD).take ((it.map wantD).length - 1)).length = it.length - 1 := by simp
  refine ⟨by omega, fun j l => l = ((it.take j).map fun p => D.str (sqW p.1)) ∧ j ≤ it.length, ⟨rfl, Nat.zero_le _⟩, ?_, fun j l hl => by rw [hl.1]; simp; omega, ?_⟩
  · rintro j d l hd ⟨rfl, hjl⟩ C
    have hj1 := (List.getElem?_eq_some_iff.mp hd).1
    rw [htw] at hj1
    rw [List.getElem?_take_of_lt (by rw [List.length_map]; omega), List.getElem?_map] at hd
    obtain ⟨p, hp, rfl⟩ := Option.map_eq_some_iff.mp hd
    refine s_asgname rfl ⟨rfl, ?_⟩
    repeat walk_at "s"
    refine op_item_tup (l := [.int (labOf p.1), .str (sqW p.1), .str (clsf (sqW p.1))]) (d := .str (sqW p.1)) ⟨by decide, by simp⟩ (by simp) rfl ?_
    refine ⟨?_, by omega⟩
    rw [List.take_add_one, hp, List.map_append]
    rfl
  rw [htw]
  rintro l ⟨rfl, _⟩
  refine op_ne_same ?_ ?_
  · rw [List.all_eq_true]
    intro d m
    obtain ⟨i, _, rfl⟩ := List.mem_map.mp m
    rfl
  refine ⟨_, rfl, ?_⟩
  refine tf_false (tr_or_nil (tf_false (ex_nil (after_next ?_))))
  show Ex c (k + 5) (callEnv fd_law L 404) [V "told" (.lst (st3.map stD)), V "limits" (limD 60), V "plain" (.lst ((it.map plainRow).map .str)), V "lines" (.lst ((linesL 0 it).map fun i : Nat => D.int (i : Int))), V "want" (.lst (it.map wantD)), V "laid" (.lst ((laidL it).map .str)), V "width" (.int 60)] [] _ _
  obtain ⟨q, hq⟩ : ∃ q, st3[it.length - 1]? = some q := ⟨st3[it.length - 1]'(by omega), by simp⟩
  obtain ⟨p, hp⟩ : ∃ p, it[it.length - 1]? = some p := ⟨it[it.length - 1]'(by omega), by simp⟩
  have g2 := h3.last (it.length - 1) p q (by omega) hp hq
  have hw := sqW_len p.1
  have hi : ∀ n : Nat, 1 ≤ n → idx (-1) n = n - 1 := fun n h => by unfold idx; rw [if_pos (by decide)]; omega
  repeat walk_at "s"
  refine op_item_lst (d := stD q) ⟨by rw [List.length_map, h3l]; omega, by rw [List.length_map, h3l]; omega⟩ hs3z (by
    show (st3.map stD)[idx (-1) (st3.map stD).length]? = _
    rw [hi _ (by rw [List.length_map, h3l]; omega), List.length_map, h3l, List.getElem?_map, hq]; rfl) ?_
  repeat walk_at "s"
  refine op_item_tup (l := [.int q.1, .int q.2.1, .str q.2.2]) (d := .str q.2.2) ⟨by decide, by simp⟩ (by simp) rfl ?_
  repeat walk_at "s"
  refine (sqd_of G g2 (by rw [List.length_append, List.length_singleton]; omega)).to ?_
  repeat walk_at "s"
  refine op_item_lst (d := wantD p) ⟨by rw [List.length_map]; omega, by rw [List.length_map]; omega⟩ hwz (by
    show (it.map wantD)[idx (-1) (it.map wantD).length]? = _
    rw [hi _ (by rw [List.length_map]; omega), List.length_map, List.getElem?_map, hp]; rfl) ?_
  repeat walk_at "s"
  refine op_item_tup (l := [.int (labOf p.1), .str (sqW p.1), .str (clsf (sqW p.1))]) (d := .str (sqW p.1)) ⟨by decide, by simp⟩ (by simp) rfl ?_
  repeat walk_at "s"
  rw [show (Str.ofString "Z").cps.toList = [90] from rfl]
  refine op_add_str (by rw [List.length_singleton]; omega) ?_
  refine op_eq_str ?_
  rw [decide_eq_true rfl]
  exact after_ret (retP_ret rfl)
end
end
section
variable {c : Cx} {k : Nat}
theorem items_ne (ns : List Int) : itemsOf (cellsL ns) ≠ [] ∧ (itemsOf (cellsL ns)).length ≤ 6 ∧ ∀ p ∈ itemsOf (cellsL ns), p.1 < 1000000000 ∧ p.2 < 1000000000 := by
  obtain ⟨h1, h2⟩ := cellsL_len ns
  have h3 := itemsOf_length (cellsL ns)
  refine ⟨fun h => ?_, by omega, fun p m => ?_⟩
  · rw [h] at h3; simp at h3; omega
  · obtain ⟨j, hj, e⟩ := List.getElem_of_mem m
    obtain ⟨q, q1, q2, q3⟩ := itemsOf_get (cellsL ns) j (by omega)
    have : q = p := by rw [List.getElem?_eq_getElem hj, e] at q1; cases q1; rfl
    subst this
    exact ⟨cellsL_lt ns _ (List.mem_of_getElem? q2), cellsL_lt ns _ (List.mem_of_getElem? q3)⟩
theorem law_ex (G : Good c) (L : Addr) (ns : List Int) (hz : ns.length ≤ 1000) (F : Facts (itemsOf (cellsL ns))) :
    Ex c (k + 5) (callEnv fd_law L 404) [V "script" (.lsx (ns.map .int))] [] (bodyOf (stAt 57)) (retP fun d => d = .bool true) :=
  law_cells G L ns hz (law_loop G L ns (law_rest G L _ (items_ne ns).1 (items_ne ns).2.1 F))
end
section
set_option maxRecDepth 10000
/-- the signs of a statement, squeezed -/
noncomputable def nm : List Nat → Bool → List Nat
  | [], _ => []
  | a :: r, q => if a = 39 then 39 :: nm r (!q) else if q = true then a :: nm r q else if a = 32 then nm r q else capN a :: nm r q
noncomputable def par : List Nat → Bool → Bool
  | [], q => q
  | a :: r, q => par r (if a = 39 then !q else q)
theorem nm_append : ∀ (x y : List Nat) (q : Bool), nm (x ++ y) q = nm x q ++ nm y (par x q)
  | [], _, _ => rfl
  | a :: r, y, q => by
    simp only [List.cons_append, nm, par]
    by_cases h : a = 39
    · simp only [h, if_true, nm_append r y, List.cons_append]
    · simp only [h, if_false]
      cases q
      · by_cases h' : a = 32 <;> simp [h', nm_append r y]
      · simp [nm_append r y]
theorem par_append : ∀ (x y : List Nat) (q : Bool), par (x ++ y) q = par y (par x q)
  | [], _, _ => rfl
  | a :: r, y, q => by simp only [List.cons_append, par, par_append r y]
theorem nm_blanks : ∀ (n : Nat) (y : List Nat), nm (List.replicate n 32 ++ y) false = nm y false
  | 0, _ => rfl
  | n + 1, y => by rw [List.replicate_succ, List.cons_append, nm, if_neg (by decide), if_neg (by decide), if_pos rfl]; exact nm_blanks n y
theorem par_blanks : ∀ (n : Nat) (y : List Nat) (q : Bool), par (List.replicate n 32 ++ y) q = par y q
  | 0, _, _ => rfl
  | n + 1, y, q => by rw [List.replicate_succ, List.cons_append, par, if_neg (by decide)]; exact par_blanks n y q
theorem bend_ne32 (n a : Nat) (h : a ≠ 32) : bend n a ≠ 32 := by unfold bend; split <;> omega
theorem capN_bend (n a : Nat) : capN (bend n a) = capN a := by
  unfold bend
  split
  · rename_i h
    unfold capN
    rw [if_pos (by omega), if_neg (by omega)]; omega
  · rfl
theorem par_bent (b : Bool) : ∀ (x : List Nat) (n : Nat) (q : Bool), par (bentL b x n q) q = par x q
  | [], _, _ => rfl
  | a :: r, n, q => by
    rw [bentL, par_append, par]
    have h1 : par ((if q = false ∧ b = false ∧ n % 5 = 1 then [32] else []) ++ [if q = false ∧ b = false then bend n a else a]) q = if a = 39 then !q else q := by
      have hb := bend_q n a
      by_cases h : q = false ∧ b = false
      · by_cases h5 : n % 5 = 1
        · rw [if_pos ⟨h.1, h.2, h5⟩, if_pos h]; simp [par, hb]
        · rw [if_neg (fun w => h5 w.2.2), if_pos h]; simp [par, hb]
      · rw [if_neg (fun w => h ⟨w.1, w.2.1⟩), if_neg h]; simp [par]
    rw [h1]; exact par_bent b r _ _
end
section
set_option maxRecDepth 10000
theorem nm_bent (b : Bool) : ∀ (x : List Nat) (n : Nat) (q : Bool), nm (bentL b x n q) q = nm x q
  | [], _, _ => rfl
  | a :: r, n, q => by
    rw [bentL, nm_append]
    have h1 : par ((if q = false ∧ b = false ∧ n % 5 = 1 then [32] else []) ++ [if q = false ∧ b = false then bend n a else a]) q = if a = 39 then !q else q := by
      have hb := bend_q n a
      by_cases h : q = false ∧ b = false
      · by_cases h5 : n % 5 = 1
        · rw [if_pos ⟨h.1, h.2, h5⟩, if_pos h]; simp [par, hb]
        · rw [if_neg (fun w => h5 w.2.2), if_pos h]; simp [par, hb]
      · rw [if_neg (fun w => h ⟨w.1, w.2.1⟩), if_neg h]; simp [par]
    rw [h1, nm_bent b r]
    have h2 : nm ((if q = false ∧ b = false ∧ n % 5 = 1 then [32] else []) ++ [if q = false ∧ b = false then bend n a else a]) q = nm [a] q := by
      by_cases h : q = false ∧ b = false
      · obtain ⟨rfl, rfl⟩ := h
        have h3 : nm [bend n a] false = nm [a] false := by
          simp only [nm, bend_q n a]
          by_cases h9 : a = 39
          · simp [h9]
          · simp only [h9, if_false]
            by_cases h32 : a = 32
            · subst h32
              have : bend n 32 = 32 := by unfold bend; rw [if_neg (by omega)]
              simp [this]
            · simp [h32, bend_ne32 n a h32, capN_bend]
        by_cases h5 : n % 5 = 1
        · rw [if_pos ⟨rfl, rfl, h5⟩, if_pos ⟨rfl, rfl⟩, ← h3]
          exact nm_blanks 1 [bend n a]
        · rw [if_neg (fun w => h5 w.2.2), if_pos ⟨rfl, rfl⟩, ← h3]; rfl
      · rw [if_neg (fun w => h ⟨w.1, w.2.1⟩), if_neg h]; rfl
    rw [h2]
    have := nm_append [a] r q
    rw [show ([a] : List Nat) ++ r = a :: r from rfl] at this
    rw [this]
    rfl
theorem filter_bent (b : Bool) : ∀ (x : List Nat) (n : Nat) (q : Bool), (bentL b x n q).filter dgt = x.filter dgt
  | [], _, _ => rfl
  | a :: r, n, q => by
    rw [bentL, List.filter_append, filter_bent b r, List.filter_append]
    have h1 : (if q = false ∧ b = false ∧ n % 5 = 1 then [32] else [] : List Nat).filter dgt = [] := by split <;> rfl
    have h2 : [if q = false ∧ b = false then bend n a else a].filter dgt = [a].filter dgt := by
      split
      · unfold bend
        split
        · rename_i h
          have e1 : dgt (a + 32) = false := by simp [dgt]; omega
          have e2 : dgt a = false := by simp [dgt]; omega
          simp [e1, e2]
        · rfl
      · rfl
    rw [h1, h2, List.nil_append, ← List.filter_append]; rfl
theorem mem_bent (b : Bool) (c : Nat) (hc : c < 32) : ∀ (x : List Nat) (n : Nat) (q : Bool), c ∈ bentL b x n q → c ∈ x
  | [], _, _, m => m
  | a :: r, n, q, m => by
    rw [bentL] at m
    rcases List.mem_append.mp m with m | m
    · rcases List.mem_append.mp m with m | m
      · split at m
        · rw [List.mem_singleton] at m; omega
        · cases m
      · rw [List.mem_singleton] at m
        split at m
        · unfold bend at m
          split at m
          · omega
          · rw [m]; exact .head _
        · rw [m]; exact .head _
    · exact .tail _ (mem_bent b c hc r _ _ m)
/-! ## constants -/
theorem cend_nm : ∀ (N : Nat) (r : List Nat), r.length ≤ N → par r true = false → ∃ m, cendL r = some m ∧ m ≤ r.length ∧ nm r true = r.take m ++ nm (r.drop m) false ∧ par (r.drop m) false = false
  | _, [], _, h => by simp [par] at h
  | 0, a :: r, hN, h => by simp at hN
  | N + 1, a :: r, hN, h => by
    simp only [List.length_cons] at hN
    by_cases h9 : a = 39
    · subst h9
      have hp : par r false = false := by simpa [par] using h
      by_cases h1 : r.take 1 = [39]
      · match r, h1 with
        | b :: t, h1 =>
          have hb : b = 39 := by simpa using h1
          subst hb
          simp only [List.length_cons] at hN
          have hp' : par t true = false := by simpa [par] using hp
          obtain ⟨m, g1, g2, g3, g4⟩ := cend_nm N t (by omega) hp'
          refine ⟨m + 2, by rw [cendL_two, g1]; rfl, by simp; omega, ?_, by simpa using g4⟩
          simp [nm, g3]
      · refine ⟨1, cendL_stop h1, by simp, ?_, by simpa using hp⟩
        simp [nm]
    · have hp : par r true = false := by simpa [par, h9] using h
      obtain ⟨m, g1, g2, g3, g4⟩ := cend_nm N r (by omega) hp
      refine ⟨m + 1, by rw [cendL_other h9, g1]; rfl, by simp; omega, ?_, by simpa using g4⟩
      simp [nm, h9, g3]
/-! ## counts -/
noncomputable def noDH : List Nat → Bool
  | a :: b :: r => !(dgt a && decide (b = 72)) && noDH (b :: r)
  | _ => true
theorem noDH_tail (a : Nat) (l : List Nat) (h : noDH (a :: l) = true) : noDH l = true := by
  cases l with
  | nil => rfl
  | cons b r => simp only [noDH, Bool.and_eq_true] at h; exact h.2
theorem noDH_suffix : ∀ (u v : List Nat), noDH (u ++ v) = true → noDH v = true
  | [], _, h => h
  | a :: u, v, h => noDH_suffix u v (noDH_tail a _ h)
theorem cnt_nm : ∀ (r : List Nat) (n : Int) (d : Nat), dgt d = true → cap ((r.drop (cntL r n).2).take 1) = [72] → noDH (d :: nm r false) = false
  | [], n, d, _, h => by simp [cntL] at h; exact absurd h (by decide)
  | a :: r, n, d, hd, h => by
    by_cases h32 : a = 32
    · subst h32
      rw [cntL, if_pos rfl] at h
      simp only [List.drop_succ_cons] at h
      rw [nm, if_neg (by decide), if_neg (by decide), if_pos rfl]
      exact cnt_nm r n d hd h
    · by_cases hg : dgt a = true
      · rw [cntL, if_neg h32, if_pos hg] at h
        simp only [List.drop_succ_cons] at h
        have hg' := hg
        simp [dgt] at hg'
        rw [nm, if_neg (by omega), if_neg (by decide), if_neg h32, show capN a = a by unfold capN; rw [if_neg (by omega)]]
        have := cnt_nm r _ a hg h
        simp only [noDH, this, Bool.and_false]
      · rw [cntL, if_neg h32, if_neg hg] at h
        simp only [List.drop_zero, List.take_succ_cons, List.take_zero] at h
        rw [cap_one] at h
        have hc : capN a = 72 := by simpa using h
        have h9 : a ≠ 39 := by
          intro w; rw [w] at hc; exact absurd hc (by decide)
        rw [nm, if_neg h9, if_neg (by decide), if_neg h32, hc]
        simp [noDH, hd]
/-! ## what is squeezed -/
theorem sqz_nm (x : List Nat) : ∀ (f i : Nat) (last : List Nat), i ≤ x.length → x.length < i + f → par (x.drop i) false = false → noDH (nm (x.drop i) false) = true → ∃ R, sqzF x f i last = some R ∧ R.map (·.1) = nm (x.drop i) false
  | 0, i, last, h1, h2, _, _ => by omega
  | f + 1, i, last, h1, h2, hp, hn => by
    rw [sqzF]
    cases ha : x[i]? with
    | none =>
      have : x.length ≤ i := by simpa using ha
      exact ⟨[], rfl, by rw [List.drop_of_length_le this]; rfl⟩
    | some a =>
      have hi := (List.getElem?_eq_some_iff.mp ha).1
      have hd := drop_cons ha
      rw [hd] at hp hn
      dsimp only
      by_cases h32 : a = 32
      · rw [if_pos h32]
        subst h32
        obtain ⟨R, e1, e2⟩ := sqz_nm x f (i + 1) last hi (by omega) (by simpa [par] using hp) (by simpa [nm] using hn)
        exact ⟨R, e1, by rw [e2, hd]; simp [nm]⟩
      · rw [if_neg h32]
        by_cases h9 : a = 39
        · rw [if_pos h9]
          subst h9
          have hp' : par (x.drop (i + 1)) true = false := by simpa [par] using hp
          obtain ⟨m, g1, g2, g3, g4⟩ := cend_nm _ _ (Nat.le_refl _) hp'
          rw [g1]
          rw [List.length_drop] at g2
          rw [List.drop_drop] at g3 g4
          have hn' : noDH (nm (x.drop (i + 1 + m)) false) = true := by
            rw [nm, if_pos rfl] at hn
            have := noDH_tail _ _ hn
            rw [show (!false) = true from rfl, g3] at this
            exact noDH_suffix _ _ this
          obtain ⟨R, e1, e2⟩ := sqz_nm x f (i + 1 + m) [39] (by omega) (by omega) g4 hn'
          refine ⟨_, by simp only [Option.bind_some]; rw [e1]; rfl, ?_⟩
          rw [hd, List.map_append, e2]
          simp [nm, g3, List.map_map, Function.comp_def]
        · rw [if_neg h9]
          have hnm : nm (a :: x.drop (i + 1)) false = capN a :: nm (x.drop (i + 1)) false := by simp [nm, h9, h32]
          rw [if_neg]
          · obtain ⟨R, e1, e2⟩ := sqz_nm x f (i + 1) [a] hi (by omega) (by simpa [par, h9] using hp) (by rw [hnm] at hn; exact noDH_tail _ _ hn)
            exact ⟨_, by rw [e1]; rfl, by rw [hd, hnm, List.map_cons, e2]⟩
          · rintro ⟨hg, _, hc⟩
            unfold cntEnd at hc
            have hg' := hg
            simp [dgt] at hg'
            dsimp only at hc
            split at hc
            · exact absurd (show (-1 : Int) < 0 by decide) hc
            · rename_i h
              have hcap : cap ((x.drop (i + (cntL (x.drop i) (-1)).2)).take 1) = [72] := Classical.byContradiction fun w => h (.inr w)
              rw [← List.drop_drop, hd, cntL, if_neg h32, if_pos hg, List.drop_succ_cons] at hcap
              have := cnt_nm _ _ a hg hcap
              rw [hnm, show capN a = a by unfold capN; rw [if_neg (by omega)], this] at hn
              cases hn
end
section
set_option maxRecDepth 10000
noncomputable def sqIs (T y : List Nat) : Bool := decide ((sqzF T (T.length + 1) 0 []).map (fun r => r.map (·.1)) = some y)
theorem sq_is {T y : List Nat} (h : sqIs T y = true) : ∃ r f, sqzF T f 0 [] = some r ∧ r.map (·.1) = y := by
  have h := of_decide_eq_true h
  obtain ⟨r, h1, h2⟩ := Option.map_eq_some_iff.mp h
  exact ⟨r, _, h1, h2⟩
structure SF (x : List Nat) : Prop where
  len : x.length ≤ 20
  dg : (x.filter dgt).length ≤ 15
  n10 : 10 ∉ x
  nmE : nm x false ≠ lit "END"
  nm0 : nm x false ≠ []
  br : ∀ sp ∈ brk x, par (x.take sp) false = false ∧ nm (x.take sp) false ≠ lit "END" ∧ nm (x.take sp) false ≠ []
  pr : has3 x = false → par x false = false ∧ noDH (nm x false ++ [90]) = true ∧ sqOf x = nm x false
  h3 : has3 x = true → brk x = []
theorem stock_sf : ∀ x ∈ stockL, SF x := by
  have h : stockL.all (fun x => decide (x.length ≤ 20) && decide ((x.filter dgt).length ≤ 15) && decide (10 ∉ x) && decide (nm x false ≠ lit "END") && decide (nm x false ≠ []) &&
      (brk x).all (fun sp => decide (par (x.take sp) false = false) && decide (nm (x.take sp) false ≠ lit "END") && decide (nm (x.take sp) false ≠ [])) &&
      (has3 x || (decide (par x false = false) && decide (noDH (nm x false ++ [90]) = true) && decide (sqOf x = nm x false))) && (!has3 x || decide (brk x = []))) = true := by decide +kernel
  intro x m
  have := List.all_eq_true.mp h x m
  simp only [Bool.and_eq_true, Bool.or_eq_true, decide_eq_true_eq, List.all_eq_true] at this
  obtain ⟨⟨⟨⟨⟨⟨⟨h1, h2⟩, h3⟩, h4⟩, h5⟩, h6⟩, h7⟩, h8⟩ := this
  refine ⟨h1, h2, h3, h4, h5, fun sp m => ?_, fun e => ?_, fun e => ?_⟩
  · obtain ⟨⟨a, b⟩, c⟩ := h6 sp m
    exact ⟨a, b, c⟩
  · rcases h7 with w | ⟨⟨a, b⟩, c⟩
    · rw [e] at w; cases w
    · exact ⟨a, b, c⟩
  · rcases h8 with w | w
    · rw [e] at w; cases w
    · exact w
theorem stock_h3 : ∀ x ∈ stockL, has3 x = true → ∀ j, j ≤ 60 → sqIs (x ++ List.replicate j 32) (sqOf x) = true ∧ sqIs (x ++ List.replicate j 32 ++ [90]) (sqOf x ++ [90]) = true := by
  have h : stockL.all (fun x => !has3 x || (List.range 61).all fun j => sqIs (x ++ List.replicate j 32) (sqOf x) && sqIs (x ++ List.replicate j 32 ++ [90]) (sqOf x ++ [90])) = true := by decide +kernel
  intro x m e j hj
  have := List.all_eq_true.mp h x m
  rw [e] at this
  have := List.all_eq_true.mp this j (List.mem_range.mpr (by omega))
  rwa [Bool.and_eq_true] at this
/-- a statement's text as the rows give it -/
noncomputable def Shape (x T : List Nat) : Prop := (∃ n j, j ≤ 60 ∧ T = bent x n ++ List.replicate j 32) ∨
  (∃ sp n m i j, sp ∈ brk x ∧ i ≤ 60 ∧ j ≤ 60 ∧ T = bent (x.take sp) n ++ List.replicate i 32 ++ bent (x.drop sp) m ++ List.replicate j 32)
theorem bentL_true : ∀ (x : List Nat) (n : Nat) (q : Bool), bentL true x n q = x
  | [], _, _ => rfl
  | a :: r, n, q => by rw [bentL, bentL_true r]; simp
theorem nm_reps (n : Nat) : nm (List.replicate n 32) false = [] := by
  have := nm_blanks n []
  rw [List.append_nil] at this
  exact this
theorem par_reps (n : Nat) (q : Bool) : par (List.replicate n 32) q = q := by
  have := par_blanks n [] q
  rw [List.append_nil] at this
  exact this
theorem filter_reps (n : Nat) : (List.replicate n 32).filter dgt = [] := by
  rw [List.filter_replicate]; rfl
theorem bent_len (x : List Nat) (n : Nat) : (bent x n).length ≤ 2 * x.length := bentL_len _ _ _ _
theorem shape_facts {x T : List Nat} (S : SF x) (h : Shape x T) : T.length ≤ 200 ∧ (T.filter dgt).length ≤ 15 ∧ (has3 x = false → par T false = false ∧ nm T false = nm x false) ∧ (has3 x = true → ∃ j, j ≤ 60 ∧ T = x ++ List.replicate j 32) := by
  have hl := S.len
  have hdg := S.dg
  rcases h with ⟨n, j, hj, rfl⟩ | ⟨sp, n, m, i, j, hsp, hi, hj, rfl⟩
  · refine ⟨?_, ?_, fun e => ?_, fun e => ⟨j, hj, ?_⟩⟩
    · have := bent_len x n
      rw [List.length_append, List.length_replicate]; omega
    · rw [List.filter_append, filter_reps, List.append_nil]
      unfold bent
      rw [filter_bent]; exact hdg
    · obtain ⟨p1, _, _⟩ := S.pr e
      have e1 : par (bent x n) false = false := by unfold bent; rw [par_bent, p1]
      have e2 : nm (bent x n) false = nm x false := by unfold bent; rw [nm_bent]
      rw [par_append, e1, par_reps, nm_append, e1, nm_reps, List.append_nil, e2]
      exact ⟨rfl, rfl⟩
    · unfold bent; rw [e, bentL_true]
  · have b := S.br sp hsp
    refine ⟨?_, ?_, fun e => ?_, fun e => ?_⟩
    · have h1 := bent_len (x.take sp) n
      have h2 := bent_len (x.drop sp) m
      rw [List.length_take] at h1
      rw [List.length_drop] at h2
      simp only [List.length_append, List.length_replicate]; omega
    · simp only [List.filter_append, filter_reps, List.append_nil]
      unfold bent
      rw [filter_bent, filter_bent, ← List.filter_append, List.take_append_drop]; exact hdg
    · obtain ⟨p1, _, _⟩ := S.pr e
      have hx : x = x.take sp ++ x.drop sp := (List.take_append_drop sp x).symm
      have p2 : par (x.drop sp) false = false := by
        rw [hx, par_append, b.1] at p1; exact p1
      have e1 : par (bent (x.take sp) n) false = false := by unfold bent; rw [par_bent]; exact b.1
      have e2 : nm (bent (x.take sp) n) false = nm (x.take sp) false := by unfold bent; rw [nm_bent]
      have e3 : par (bent (x.drop sp) m) false = false := by unfold bent; rw [par_bent]; exact p2
      have e4 : nm (bent (x.drop sp) m) false = nm (x.drop sp) false := by unfold bent; rw [nm_bent]
      have e5 : nm x false = nm (x.take sp) false ++ nm (x.drop sp) false := by
        conv => lhs; rw [hx]
        rw [nm_append, b.1]
      exact ⟨by simp only [par_append, e1, e3, par_reps], by simp only [par_append, nm_append, e1, e2, e3, e4, par_reps, nm_reps, List.append_nil, e5]⟩
    · rw [S.h3 e] at hsp; cases hsp
theorem shape_sq {x T : List Nat} (hx : x ∈ stockL) (h : Shape x T) : Sq T (sqOf x) ∧ Sq (T ++ [90]) (sqOf x ++ [90]) := by
  have S := stock_sf x hx
  obtain ⟨h1, h2, h3, h4⟩ := shape_facts S h
  have hz : ((T ++ [90]).filter dgt).length ≤ 15 := by
    rw [List.filter_append, show [90].filter dgt = [] from rfl, List.append_nil]; exact h2
  cases e : has3 x with
  | true =>
    obtain ⟨j, hj, rfl⟩ := h4 e
    obtain ⟨a, b⟩ := stock_h3 x hx e j hj
    exact ⟨⟨by omega, h2, sq_is a⟩, ⟨by rw [List.length_append, List.length_singleton]; omega, hz, sq_is b⟩⟩
  | false =>
    obtain ⟨p1, p2⟩ := h3 e
    obtain ⟨_, p3, p4⟩ := S.pr e
    have n1 : noDH (nm x false) = true := by
      have key : ∀ l : List Nat, noDH (l ++ [90]) = true → noDH l = true := by
        intro l
        induction l with
        | nil => intro _; rfl
        | cons a r ih =>
          cases r with
          | nil => intro _; rfl
          | cons b t =>
            intro q
            simp only [List.cons_append, noDH, Bool.and_eq_true] at q ih ⊢
            exact ⟨q.1, ih q.2⟩
      exact key _ p3
    refine ⟨⟨by omega, h2, ?_⟩, ⟨by rw [List.length_append, List.length_singleton]; omega, hz, ?_⟩⟩
    · obtain ⟨R, e1, e2⟩ := sqz_nm T (T.length + 1) 0 [] (Nat.zero_le _) (by omega) (by rw [List.drop_zero]; exact p1) (by rw [List.drop_zero, p2]; exact n1)
      exact ⟨R, _, e1, by rw [e2, List.drop_zero, p2, p4]⟩
    · have q1 : par (T ++ [90]) false = false := by rw [par_append, p1]; rfl
      have q2 : nm (T ++ [90]) false = nm x false ++ [90] := by rw [nm_append, p1, p2]; rfl
      obtain ⟨R, e1, e2⟩ := sqz_nm (T ++ [90]) ((T ++ [90]).length + 1) 0 [] (Nat.zero_le _) (by omega) (by rw [List.drop_zero]; exact q1) (by rw [List.drop_zero, q2]; exact p3)
      exact ⟨R, _, e1, by rw [e2, List.drop_zero, q2, p4]⟩
end
section
set_option maxRecDepth 10000
noncomputable def contsOk (f : Crd) : List Crd → List Crd → Prop
  | _, [] => True
  | r0, x :: t => COk x f r0 ∧ contsOk f (r0 ++ [x]) t
/-- the rows of one statement -/
structure Grp (a : Nat) (f : Crd) (r : List Crd) : Prop where
  cf : isCont f = false
  cr : ∀ y ∈ r, isCont y = true
  lb : LabOk f.label
  lv : rdLab f.label = labOf a
  jo : JOk 54 f r
  co : contsOk f [] r
  ce : ∀ z : Crd, wb z.label = [] → z.label.length ≤ 1000 → COk z f r
  jz : ∀ z : Crd, z.body = [90] → JOk 54 f (r ++ [z])
  sq : Sq (jText 54 (f :: r)) (sqW a)
  sz : ∀ z : Crd, z.body = [90] → Sq (jText 54 (f :: (r ++ [z]))) (sqW a ++ [90])
theorem wb_jText (w : Nat) (f : Crd) (r : List Crd) (h : wb f.body ≠ []) : wb (jText w (f :: r)) ≠ [] := by
  cases r with
  | nil => exact h
  | cons q s =>
    intro e
    apply h
    simp only [jText, pad, wb, List.filter_append, List.append_eq_nil_iff] at e
    exact e.1.1
theorem pad_reps (b : List Nat) (m : Nat) (h : b.length + m ≤ 54) : pad 54 (b ++ List.replicate m 32) = b ++ List.replicate (54 - b.length) 32 := by
  unfold pad
  rw [List.append_assoc, List.replicate_append_replicate, List.length_append, List.length_replicate]
  congr 2; omega
theorem wb_nm : ∀ x : List Nat, 39 ∉ x → nm x false = (wb x).map capN
  | [], _ => rfl
  | a :: r, h => by
    have h9 : a ≠ 39 := fun w => h (w ▸ .head _)
    have ih := wb_nm r fun m => h (.tail _ m)
    by_cases h32 : a = 32
    · subst h32; simpa [nm, wb] using ih
    · simp [nm, wb, h9, h32] at ih ⊢; exact ih
theorem wb_not (x : List Nat) (y : List Nat) (h : nm x false ≠ y) (hy : y.map capN = y) (h9 : 39 ∉ y) : wb x ≠ y := by
  intro e
  apply h
  rw [wb_nm, e, hy]
  intro m
  apply h9
  rw [← e]
  exact List.mem_filter.mpr ⟨m, by decide⟩
theorem wb_tail (x : List Nat) (m : Nat) : wb (x ++ List.replicate m 32) = wb x := by
  simp [wb, List.filter_append]
theorem head_facts (a m : Nat) (hm : m ≤ 2) : LabOk (headL (labOf a) m) ∧ rdLab (headL (labOf a) m) = labOf a ∧ 10 ∉ headL (labOf a) m ∧ (headL (labOf a) m).take 1 ≠ [67] ∧ (headL (labOf a) m).take 1 ≠ [99] ∧ (headL (labOf a) m).take 1 ≠ [42] := by
  have : m = 0 ∨ m = 1 ∨ m = 2 := by omega
  unfold LabOk
  rcases labOf_mem a with h | h | h | h <;> rw [h] <;> rcases this with rfl | rfl | rfl <;> decide +kernel
theorem mk_one {a n m ah line s : Nat} (hah : ah ≤ 2) (hs : s = 32 ∨ s = 48) (hm : (bent (txtOf a) n).length + m ≤ 54) : Grp a ⟨line, headL (labOf a) ah, [s], bent (txtOf a) n ++ List.replicate m 32⟩ [] := by
  have S := stock_sf _ (txtOf_mem a)
  have hb := bent_len (txtOf a) n
  have hl := S.len
  obtain ⟨l1, l2, _⟩ := head_facts a ah hah
  have e2 : nm (bent (txtOf a) n) false = nm (txtOf a) false := by unfold bent; rw [nm_bent]
  have w0 : wb (bent (txtOf a) n ++ List.replicate m 32) ≠ [] := by
    rw [wb_tail]; exact wb_not _ _ (by rw [e2]; exact S.nm0) rfl (by simp)
  have wE : wb (bent (txtOf a) n ++ List.replicate m 32) ≠ lit "END" := by
    rw [wb_tail]; exact wb_not _ _ (by rw [e2]; exact S.nmE) (by decide) (by decide)
  have bl : (bent (txtOf a) n ++ List.replicate m 32).length ≤ 1000 := by rw [List.length_append, List.length_replicate]; omega
  refine ⟨?_, (fun y m => nomatch m), l1, l2, ⟨by simp, fun x hx => ?_, wb_jText _ _ _ w0, l1⟩, trivial, fun z hz hz' => ⟨hz, hz', by simp, bl, wE⟩, fun z hz => ⟨by simp, fun x hx => ?_, wb_jText _ _ _ w0, l1⟩, ?_, fun z hz => ?_⟩
  · unfold isCont; rcases hs with rfl | rfl <;> rfl
  · rw [List.mem_singleton] at hx; rw [hx]; exact bl
  · rcases List.mem_cons.mp hx with rfl | hx
    · exact bl
    · rw [show ([] : List Crd) ++ [z] = [z] from rfl, List.mem_singleton] at hx
      rw [hx, hz]; decide
  · exact (shape_sq (txtOf_mem a) (.inl ⟨n, m, by omega, rfl⟩)).1
  · have := (shape_sq (T := bent (txtOf a) n ++ List.replicate (54 - (bent (txtOf a) n).length) 32) (txtOf_mem a) (.inl ⟨n, _, by omega, rfl⟩)).2
    have e : jText 54 (⟨line, headL (labOf a) ah, [s], bent (txtOf a) n ++ List.replicate m 32⟩ :: ([] ++ [z])) = bent (txtOf a) n ++ List.replicate (54 - (bent (txtOf a) n).length) 32 ++ [90] := by
      show pad 54 _ ++ z.body = _
      rw [hz, pad_reps _ _ hm]
    rw [e]; exact this
theorem mk_two {a n n' m m' ah line line' s mk sp : Nat} (hah : ah ≤ 2) (hs : s = 32 ∨ s = 48) (hk : mk ≠ 32 ∧ mk ≠ 48) (hsp : sp ∈ brk (txtOf a)) (hm : (bent ((txtOf a).take sp) n).length + m ≤ 54) (hm' : (bent ((txtOf a).drop sp) n').length + m' ≤ 54) :
    Grp a ⟨line, headL (labOf a) ah, [s], bent ((txtOf a).take sp) n ++ List.replicate m 32⟩ [⟨line', List.replicate 5 32, [mk], bent ((txtOf a).drop sp) n' ++ List.replicate m' 32⟩] := by
  have S := stock_sf _ (txtOf_mem a)
  obtain ⟨_, b1, b2⟩ := S.br sp hsp
  have hb := bent_len ((txtOf a).take sp) n
  have hb' := bent_len ((txtOf a).drop sp) n'
  rw [List.length_take] at hb
  rw [List.length_drop] at hb'
  have hl := S.len
  obtain ⟨l1, l2, _⟩ := head_facts a ah hah
  have e2 : nm (bent ((txtOf a).take sp) n) false = nm ((txtOf a).take sp) false := by unfold bent; rw [nm_bent]
  have w0 : wb (bent ((txtOf a).take sp) n ++ List.replicate m 32) ≠ [] := by
    rw [wb_tail]; exact wb_not _ _ (by rw [e2]; exact b2) rfl (by simp)
  have wE : wb (bent ((txtOf a).take sp) n ++ List.replicate m 32) ≠ lit "END" := by
    rw [wb_tail]; exact wb_not _ _ (by rw [e2]; exact b1) (by decide) (by decide)
  have bl : (bent ((txtOf a).take sp) n ++ List.replicate m 32).length ≤ 1000 := by rw [List.length_append, List.length_replicate]; omega
  have bl' : (bent ((txtOf a).drop sp) n' ++ List.replicate m' 32).length ≤ 1000 := by rw [List.length_append, List.length_replicate]; omega
  refine ⟨?_, fun y hy => ?_, l1, l2, ⟨by simp, fun x hx => ?_, wb_jText _ _ _ w0, l1⟩, ⟨⟨(show wb (List.replicate 5 32) = [] by decide), (show (List.replicate 5 32).length ≤ 1000 by decide), by simp, bl, wE⟩, trivial⟩, fun z hz hz' => ⟨hz, hz', by simp, bl, wE⟩, fun z hz => ⟨by simp, fun x hx => ?_, wb_jText _ _ _ w0, l1⟩, ?_, fun z hz => ?_⟩
  · unfold isCont; rcases hs with rfl | rfl <;> rfl
  · rw [List.mem_singleton] at hy
    rw [hy]
    unfold isCont
    simp [hk]
  · rcases List.mem_cons.mp hx with rfl | hx
    · exact bl
    · rw [List.mem_singleton] at hx; rw [hx]; exact bl'
  · rcases List.mem_cons.mp hx with rfl | hx
    · exact bl
    · rcases List.mem_cons.mp hx with rfl | hx
      · exact bl'
      · rw [List.mem_singleton.mp hx, hz]; decide
  · refine (shape_sq (txtOf_mem a) (.inr ⟨sp, n, n', 54 - (bent ((txtOf a).take sp) n).length, m', hsp, by omega, by omega, ?_⟩)).1
    show pad 54 _ ++ _ = _
    rw [pad_reps _ _ hm, List.append_assoc, List.append_assoc, List.append_assoc]
    rfl
  · have := (shape_sq (T := bent ((txtOf a).take sp) n ++ List.replicate (54 - (bent ((txtOf a).take sp) n).length) 32 ++ bent ((txtOf a).drop sp) n' ++ List.replicate (54 - (bent ((txtOf a).drop sp) n').length) 32) (txtOf_mem a) (.inr ⟨sp, n, n', _, _, hsp, by omega, by omega, rfl⟩)).2
    have e : jText 54 (⟨line, headL (labOf a) ah, [s], bent ((txtOf a).take sp) n ++ List.replicate m 32⟩ :: ([⟨line', List.replicate 5 32, [mk], bent ((txtOf a).drop sp) n' ++ List.replicate m' 32⟩] ++ [z])) =
        bent ((txtOf a).take sp) n ++ List.replicate (54 - (bent ((txtOf a).take sp) n).length) 32 ++ bent ((txtOf a).drop sp) n' ++ List.replicate (54 - (bent ((txtOf a).drop sp) n').length) 32 ++ [90] := by
      show pad 54 _ ++ (pad 54 _ ++ z.body) = _
      rw [hz, pad_reps _ _ hm, pad_reps _ _ hm']
      simp only [List.append_assoc]
    rw [e]; exact this
end
section
set_option maxRecDepth 10000
noncomputable def layR (pst : Bool) (r : List Nat) : List Nat := if pst = true then past 60 r else r
theorem lay_take (pst : Bool) (r : List Nat) (h : r.length ≤ 60) : ∃ m, r.length + m ≤ 60 ∧ (layR pst r).take 60 = r ++ List.replicate m 32 := by
  cases pst with
  | false => exact ⟨0, h, by simp [layR, List.take_of_length_le h]⟩
  | true =>
    refine ⟨60 - r.length, by omega, ?_⟩
    have e : (r ++ List.replicate 60 32).take 60 = r ++ List.replicate (60 - r.length) 32 := by
      rw [List.take_append, List.take_of_length_le h, List.take_replicate, Nat.min_eq_left (by omega)]
    show (past 60 r).take 60 = _
    unfold past
    rw [e]
    exact List.take_left' (by rw [List.length_append, List.length_replicate]; omega)
theorem lay_crd (pst : Bool) (h : List Nat) (s : Nat) (b : List Nat) (hh : h.length = 5) (hb : b.length ≤ 54) : ∃ m, b.length + m ≤ 54 ∧ (∀ line, crdOf 60 line (layR pst (h ++ [s] ++ b)) = ⟨line, h, [s], b ++ List.replicate m 32⟩) ∧
    (h.take 1 ≠ [67] → h.take 1 ≠ [99] → h.take 1 ≠ [42] → wb (h ++ [s] ++ b) ≠ [] → isCm (layR pst (h ++ [s] ++ b)) 60 = false) := by
  have hl : (h ++ [s] ++ b).length = 6 + b.length := by simp only [List.length_append, List.length_singleton]; omega
  obtain ⟨m, h1, h2⟩ := lay_take pst (h ++ [s] ++ b) (by omega)
  have hs : seenOf 60 (layR pst (h ++ [s] ++ b)) = h ++ [s] ++ b ++ List.replicate m 32 := by
    unfold seenOf
    rw [h2, if_neg (by rw [List.length_append]; omega)]
  refine ⟨m, by omega, fun line => ?_, fun c1 c2 c3 c4 => ?_⟩
  · unfold crdOf
    rw [hs]
    match h, hh with
    | [a1, a2, a3, a4, a5], _ => rfl
  · have t1 : (layR pst (h ++ [s] ++ b)).take 1 = h.take 1 := by
      have : (layR pst (h ++ [s] ++ b)).take 1 = ((layR pst (h ++ [s] ++ b)).take 60).take 1 := by rw [List.take_take]; rfl
      rw [this, h2]
      match h, hh with
      | [a1, a2, a3, a4, a5], _ => rfl
    unfold isCm
    rw [t1, h2, wb_tail]
    simp only [decide_eq_false c1, decide_eq_false c2, decide_eq_false c3, decide_eq_false c4, Bool.or_self]
theorem rdCards_append (w : Nat) : ∀ (n : Nat) (a b : List (List Nat)), rdCards w n (a ++ b) = rdCards w n a ++ rdCards w (n + a.length) b
  | _, [], _ => rfl
  | n, p :: r, b => by
    rw [List.cons_append, rdCards, rdCards, rdCards_append w (n + 1) r b, List.length_cons, show n + (r.length + 1) = n + 1 + r.length by omega]
    split <;> rfl
theorem cm_pre : isCm (lit "c IF(") 60 = true := by decide +kernel
theorem cm_bt (pst : Bool) (n : Nat) : isCm (layR pst (between n)) 60 = true := by
  have : n / 4 % 4 = 0 ∨ n / 4 % 4 = 1 ∨ n / 4 % 4 = 2 ∨ n / 4 % 4 = 3 := by omega
  unfold between
  rcases this with h | h | h | h <;> rw [h] <;> cases pst <;> decide +kernel
theorem marks_get : ∀ j, j < 8 → (marks.drop j).take 1 = [marks.getD j 0] ∧ marks.getD j 0 ≠ 32 ∧ marks.getD j 0 ≠ 48 ∧ marks.getD j 0 ≠ 10 := by decide +kernel
theorem rowsL_lay (label : Nat) (x : List Nat) (n : Nat) : rowsL label x n 60 = (rows0 label x n).map (layR (decide (n / 5 % 2 = 1))) := by
  unfold rowsL
  by_cases h : n / 5 % 2 = 1
  · rw [if_pos h, decide_eq_true h]; rfl
  · rw [if_neg h, decide_eq_false h]
    have : layR false = id := by funext r; rfl
    rw [this, List.map_id]
theorem sign_first (n : Nat) : firstSign n = 32 ∨ firstSign n = 48 := by unfold firstSign; split <;> simp
theorem wb_mid {u v w : List Nat} (h : wb v ≠ []) : wb (u ++ v ++ w) ≠ [] := by
  intro e
  apply h
  simp only [wb, List.filter_append, List.append_eq_nil_iff] at e
  exact e.1.2
theorem wb_right {u v : List Nat} (h : wb v ≠ []) : wb (u ++ v) ≠ [] := by
  intro e
  apply h
  simp only [wb, List.filter_append, List.append_eq_nil_iff] at e
  exact e.2
theorem wb_bent {x : List Nat} (n : Nat) (h : nm x false ≠ []) : wb (bent x n) ≠ [] := wb_not _ _ (by unfold bent; rw [nm_bent]; exact h) rfl (by simp)
/-- the rows of an item -/
theorem grp_laid (p : Nat × Nat) (N : Nat) : ∃ f r, rdCards 60 N (itemRows p) = f :: r ∧ f.line = N + (preOf p.1).length + 1 ∧ Grp p.1 f r := by
  have S := stock_sf _ (txtOf_mem p.1)
  have hl := S.len
  have pre : ∀ rest, rdCards 60 N (preOf p.1 ++ rest) = rdCards 60 (N + (preOf p.1).length) rest := fun rest => by
    unfold preOf
    split
    · rw [List.cons_append, rdCards, if_pos cm_pre]; rfl
    · rfl
  unfold itemRows
  rw [pre, rowsL_lay]
  generalize N + (preOf p.1).length = M
  generalize decide (p.2 / 5 % 2 = 1) = pst
  have hh := headL_len5 p.1 (p.2 % 3) (by omega)
  obtain ⟨_, _, _, c1, c2, c3⟩ := head_facts p.1 (p.2 % 3) (by omega)
  cases hq : (brk (txtOf p.1))[p.2 % (brk (txtOf p.1)).length]? with
  | none =>
    have hp : partsOf (txtOf p.1) p.2 = [txtOf p.1] := by unfold partsOf; rw [hq]
    have hb := bent_len (txtOf p.1) p.2
    obtain ⟨m, h1, h2, h3⟩ := lay_crd pst (headL (labOf p.1) (p.2 % 3)) (firstSign p.2) (bent (txtOf p.1) p.2) hh (by omega)
    unfold rows0
    rw [hp]
    refine ⟨_, [], ?_, ?_, mk_one (ah := p.2 % 3) (line := M + 1) (by omega) (sign_first p.2) h1⟩
    · show rdCards 60 M [layR pst (headL (labOf p.1) (p.2 % 3) ++ [firstSign p.2] ++ bent (txtOf p.1) p.2)] = _
      rw [rdCards, if_neg (by rw [h3 c1 c2 c3 (wb_right (wb_bent _ S.nm0))]; decide), h2]; rfl
    · rfl
  | some sp =>
    have hsp := List.mem_of_getElem? hq
    obtain ⟨_, _, b2⟩ := S.br sp hsp
    have hp : partsOf (txtOf p.1) p.2 = [(txtOf p.1).take sp, (txtOf p.1).drop sp] := by unfold partsOf; rw [hq]
    have hb := bent_len ((txtOf p.1).take sp) p.2
    have hb' := bent_len ((txtOf p.1).drop sp) (p.2 / 7)
    rw [List.length_take] at hb
    rw [List.length_drop] at hb'
    obtain ⟨m, h1, h2, h3⟩ := lay_crd pst (headL (labOf p.1) (p.2 % 3)) (firstSign p.2) (bent ((txtOf p.1).take sp) p.2) hh (by omega)
    obtain ⟨k1, k2, k3, _⟩ := marks_get (p.2 / 16 % 8) (by omega)
    generalize marks.getD (p.2 / 16 % 8) 0 = mk at k1 k2 k3
    obtain ⟨m', h1', h2', h3'⟩ := lay_crd pst (List.replicate 5 32) mk (bent ((txtOf p.1).drop sp) (p.2 / 7)) (by decide) (by omega)
    have hc : contRow p.2 ((txtOf p.1).drop sp) = List.replicate 5 32 ++ [mk] ++ bent ((txtOf p.1).drop sp) (p.2 / 7) := by unfold contRow; rw [k1]
    have hcm := h3' (by decide) (by decide) (by decide) (wb_mid (by simp [wb, k2]))
    unfold rows0
    rw [hp]
    have e : ((([(txtOf p.1).take sp, (txtOf p.1).drop sp].drop 1).flatMap fun q => (if p.2 / 4 % 3 > 0 then [between p.2] else []) ++ [contRow p.2 q])) = (if p.2 / 4 % 3 > 0 then [between p.2] else []) ++ [contRow p.2 ((txtOf p.1).drop sp)] := by simp
    rw [e, show ([(txtOf p.1).take sp, (txtOf p.1).drop sp].headD []) = (txtOf p.1).take sp from rfl, List.map_cons, rdCards, if_neg (by rw [h3 c1 c2 c3 (wb_right (wb_bent _ b2))]; decide), h2, hc]
    have two : ∃ line', rdCards 60 (M + 1) (List.map (layR pst) ((if p.2 / 4 % 3 > 0 then [between p.2] else []) ++ [List.replicate 5 32 ++ [mk] ++ bent ((txtOf p.1).drop sp) (p.2 / 7)])) = [⟨line', List.replicate 5 32, [mk], bent ((txtOf p.1).drop sp) (p.2 / 7) ++ List.replicate m' 32⟩] := by
      split
      · refine ⟨M + 1 + 1 + 1, ?_⟩
        rw [List.cons_append, List.nil_append, List.map_cons, rdCards, if_pos (cm_bt pst p.2), List.map_cons, List.map_nil, rdCards, if_neg (by rw [hcm]; decide), h2']; rfl
      · refine ⟨M + 1 + 1, ?_⟩
        rw [List.nil_append, List.map_cons, List.map_nil, rdCards, if_neg (by rw [hcm]; decide), h2']; rfl
    obtain ⟨line', hl'⟩ := two
    exact ⟨_, _, by rw [hl'], rfl, mk_two (ah := p.2 % 3) (by omega) (sign_first p.2) ⟨k2, k3⟩ hsp h1 h1'⟩
end
section
set_option maxRecDepth 10000
/-- what the first two readings ask of a group -/
structure Grp0 (a : Nat) (f : Crd) (r : List Crd) : Prop where
  cf : isCont f = false
  cr : ∀ y ∈ r, isCont y = true
  lb : LabOk f.label
  lv : rdLab f.label = labOf a
  jo : JOk 54 f r
  co : contsOk f [] r
  sq : Sq (jText 54 (f :: r)) (sqW a)
theorem Grp.to0 {a f r} (g : Grp a f r) : Grp0 a f r := ⟨g.cf, g.cr, g.lb, g.lv, g.jo, g.co, g.sq⟩
structure GOk (g : Crd × List Crd) : Prop where
  cf : isCont g.1 = false
  cr : ∀ y ∈ g.2, isCont y = true
  lb : LabOk g.1.label
  jo : JOk 54 g.1 g.2
  co : contsOk g.1 [] g.2
noncomputable def flatG (gs : List (Crd × List Crd)) : List Crd := gs.flatMap fun g => g.1 :: g.2
noncomputable def stG (gs : List (Crd × List Crd)) : List (Nat × Nat × List Nat) := gs.map fun g => jD 54 g.1 g.2
theorem stmts_conts (w : Nat) (rest : List Crd) : ∀ (r rows : List Crd), (∀ y ∈ r, isCont y = true) → stmts w (r ++ rest) rows = stmts w rest (rows ++ r)
  | [], rows, _ => by simp
  | x :: r, rows, h => by
    rw [List.cons_append, stmts, if_pos (h x (.head _)), stmts_conts w rest r _ fun y m => h y (.tail _ m), List.append_assoc]; rfl
theorem stmts_grp : ∀ (gs : List (Crd × List Crd)) (rows : List Crd), (∀ g ∈ gs, GOk g) → stmts 54 (flatG gs) rows = lastS 54 rows ++ stG gs
  | [], rows, _ => by simp [flatG, stG, stmts]
  | (f, r) :: gs, rows, h => by
    have g := h _ (.head _)
    have e : flatG ((f, r) :: gs) = f :: (r ++ flatG gs) := by simp [flatG]
    rw [e, stmts, if_neg (by rw [g.cf]; decide), stmts_conts 54 _ r [f] g.cr, stmts_grp gs _ fun g' m => h g' (.tail _ m)]
    rfl
theorem stok_conts (f : Crd) (rest : List Crd) : ∀ (r r0 : List Crd), (∀ y ∈ r, isCont y = true) → contsOk f r0 r → StOk 54 rest (f :: (r0 ++ r)) → StOk 54 (r ++ rest) (f :: r0)
  | [], r0, _, _, h => by simpa using h
  | x :: r, r0, hc, hk, h => by
    rw [List.cons_append, StOk, if_pos (hc x (.head _))]
    exact ⟨hk.1, stok_conts f rest r (r0 ++ [x]) (fun y m => hc y (.tail _ m)) hk.2 (by rw [List.append_assoc]; exact h)⟩
theorem stok_grp : ∀ (gs : List (Crd × List Crd)) (rows : List Crd), (∀ g ∈ gs, GOk g) → LastOk 54 rows → StOk 54 (flatG gs) rows
  | [], rows, _, h => h
  | (f, r) :: gs, rows, h, hl => by
    have g := h _ (.head _)
    have e : flatG ((f, r) :: gs) = f :: (r ++ flatG gs) := by simp [flatG]
    rw [e, StOk, if_neg (by rw [g.cf]; decide)]
    exact ⟨hl, g.lb, stok_conts f _ r [] g.cr g.co (stok_grp gs _ (fun g' m => h g' (.tail _ m)) g.jo)⟩
inductive All2 {α β : Type} (P : α → β → Prop) : List α → List β → Prop
  | nil : All2 P [] []
  | cons {a b l m} : P a b → All2 P l m → All2 P (a :: l) (b :: m)
theorem All2.length {α β : Type} {P : α → β → Prop} {l : List α} {m : List β} (h : All2 P l m) : l.length = m.length := by
  induction h with
  | nil => rfl
  | cons _ _ ih => simp [ih]
theorem All2.get {α β : Type} {P : α → β → Prop} {l : List α} {m : List β} (h : All2 P l m) : ∀ (j : Nat) (a : α) (b : β), l[j]? = some a → m[j]? = some b → P a b := by
  induction h with
  | nil => intro j a b e; simp at e
  | cons p _ ih =>
    intro j a b e1 e2
    cases j with
    | zero => simp at e1 e2; subst e1; subst e2; exact p
    | succ j => exact ih j a b (by simpa using e1) (by simpa using e2)
theorem All2.mono {α β : Type} {P Q : α → β → Prop} {l : List α} {m : List β} (h : All2 P l m) (q : ∀ a b, P a b → Q a b) : All2 Q l m := by
  induction h with
  | nil => exact .nil
  | cons p _ ih => exact .cons (q _ _ p) ih
theorem All2.right {α β : Type} {P : α → β → Prop} {l : List α} {m : List β} (h : All2 P l m) : ∀ b ∈ m, ∃ a, P a b := by
  induction h with
  | nil => intro b m; cases m
  | cons p _ ih =>
    intro b m
    rcases List.mem_cons.mp m with rfl | m
    · exact ⟨_, p⟩
    · exact ih b m
theorem gok_of {it : List (Nat × Nat)} {gs : List (Crd × List Crd)} (h : All2 (fun p g => Grp0 p.1 g.1 g.2) it gs) : ∀ g ∈ gs, GOk g := fun g m => by
  obtain ⟨p, q⟩ := h.right g m
  exact ⟨q.cf, q.cr, q.lb, q.jo, q.co⟩
theorem told_of {it : List (Nat × Nat)} {gs : List (Crd × List Crd)} (h : All2 (fun p g => Grp0 p.1 g.1 g.2) it gs) : Told it (stG gs) := by
  refine ⟨by unfold stG; rw [List.length_map, h.length], fun j p q hp hq => ?_⟩
  unfold stG at hq
  rw [List.getElem?_map] at hq
  obtain ⟨g, hg, rfl⟩ := Option.map_eq_some_iff.mp hq
  have := h.get j p g hp hg
  exact ⟨this.lv, this.sq⟩
theorem laid_grps : ∀ (it : List (Nat × Nat)) (N : Nat), ∃ gs, rdCards 60 N (laidL it) = flatG gs ∧ All2 (fun p g => Grp p.1 g.1 g.2) it gs ∧ gs.map (fun g => g.1.line) = linesL N it
  | [], N => ⟨[], rfl, .nil, rfl⟩
  | p :: it, N => by
    obtain ⟨f, r, h1, h2, h3⟩ := grp_laid p N
    obtain ⟨gs, g1, g2, g3⟩ := laid_grps it (N + (itemRows p).length)
    refine ⟨(f, r) :: gs, ?_, .cons h3 g2, by rw [List.map_cons, g3, linesL, h2]⟩
    have e : laidL (p :: it) = itemRows p ++ laidL it := by simp [laidL]
    rw [e, rdCards_append, h1, g1]; simp [flatG]
theorem grp_plain (a line : Nat) : Grp0 a ⟨line, headL (labOf a) 0, [32], txtOf a⟩ [] := by
  have S := stock_sf _ (txtOf_mem a)
  obtain ⟨s1, s2, ⟨r, s3⟩, s4⟩ := stock_facts _ (txtOf_mem a)
  obtain ⟨l1, l2, _⟩ := head_facts a 0 (by omega)
  have w0 : wb (txtOf a) ≠ [] := wb_not _ _ S.nm0 rfl (by simp)
  refine ⟨rfl, (fun y m => nomatch m), l1, l2, ⟨by simp, fun x hx => ?_, wb_jText _ _ _ w0, l1⟩, trivial, ⟨?_, s2, r, _, s3, ?_⟩⟩
  · rw [List.mem_singleton] at hx; rw [hx]; show (txtOf a).length ≤ 1000; omega
  · show (txtOf a).length ≤ 1000; omega
  · unfold sqW sqOf; rw [s3]
theorem plain_grps : ∀ (it : List (Nat × Nat)) (N : Nat), ∃ gs, rdCards 60 N (it.map plainRow) = flatG gs ∧ All2 (fun p g => Grp0 p.1 g.1 g.2) it gs
  | [], N => ⟨[], rfl, .nil⟩
  | p :: it, N => by
    have S := stock_sf _ (txtOf_mem p.1)
    have hl := S.len
    have hh := headL_len5 p.1 0 (by omega)
    obtain ⟨_, _, _, c1, c2, c3⟩ := head_facts p.1 0 (by omega)
    obtain ⟨gs, g1, g2⟩ := plain_grps it (N + 1)
    refine ⟨(⟨N + 1, headL (labOf p.1) 0, [32], txtOf p.1⟩, []) :: gs, ?_, .cons (grp_plain p.1 (N + 1)) g2⟩
    have hrow : (plainRow p).length ≤ 60 := by unfold plainRow; simp only [List.length_append, List.length_singleton]; omega
    have w : wb (headL (labOf p.1) 0 ++ [32] ++ txtOf p.1) ≠ [] := wb_right (wb_not _ _ S.nm0 rfl (by simp))
    have hs : seenOf 60 (plainRow p) = plainRow p := by
      unfold seenOf
      rw [List.take_of_length_le hrow, if_neg]
      unfold plainRow; simp only [List.length_append, List.length_singleton]; omega
    have hc : crdOf 60 (N + 1) (plainRow p) = ⟨N + 1, headL (labOf p.1) 0, [32], txtOf p.1⟩ := by
      unfold crdOf
      rw [hs]
      unfold plainRow
      generalize headL (labOf p.1) 0 = h at hh
      match h, hh with
      | [a1, a2, a3, a4, a5], _ => rfl
    have hm : isCm (plainRow p) 60 = false := by
      have t1 : (plainRow p).take 1 = (headL (labOf p.1) 0).take 1 := by
        unfold plainRow
        generalize headL (labOf p.1) 0 = h at hh
        match h, hh with
        | [a1, a2, a3, a4, a5], _ => rfl
      unfold isCm
      rw [t1, List.take_of_length_le hrow]
      unfold plainRow
      simp only [decide_eq_false c1, decide_eq_false c2, decide_eq_false c3, decide_eq_false w, Bool.or_self]
    rw [List.map_cons, rdCards, if_neg (by rw [hm]; decide), hc, g1]; rfl
/-- the row that goes on behind the comment -/
theorem end_card (N : Nat) : ∃ z, rdCards 60 N endRows = [z] ∧ isCont z = true ∧ wb z.label = [] ∧ z.label.length ≤ 1000 ∧ z.body = [90] := by
  have h1 : isCm [67] 60 = true := by decide +kernel
  have h2 : isCm (lit "     XZ") 60 = false := by decide +kernel
  refine ⟨crdOf 60 (N + 1 + 1) (lit "     XZ"), ?_, ?_, ?_, ?_, ?_⟩
  · unfold endRows
    rw [rdCards, if_pos h1, rdCards, if_neg (by rw [h2]; decide), rdCards]
  · show (decide (((seenOf 60 (lit "     XZ")).drop 5).take 1 ≠ [32]) && decide (((seenOf 60 (lit "     XZ")).drop 5).take 1 ≠ [48])) = true
    decide +kernel
  · unfold crdOf; dsimp only; decide +kernel
  · unfold crdOf; dsimp only; decide +kernel
  · unfold crdOf; dsimp only; decide +kernel
theorem contsOk_snoc (f z : Crd) : ∀ (t r0 : List Crd), contsOk f r0 t → COk z f (r0 ++ t) → contsOk f r0 (t ++ [z])
  | [], r0, _, h => ⟨by simpa using h, trivial⟩
  | x :: t, r0, h, hz => ⟨h.1, contsOk_snoc f z t (r0 ++ [x]) h.2 (by rw [List.append_assoc]; exact hz)⟩
theorem All2.snoc {α β : Type} {P : α → β → Prop} {m : List β} {b : β} : ∀ {l : List α}, All2 P l (m ++ [b]) → ∃ l' a, l = l' ++ [a] ∧ All2 P l' m ∧ P a b := by
  induction m with
  | nil =>
    intro l h
    cases h with
    | cons p q => cases q; exact ⟨[], _, rfl, .nil, p⟩
  | cons c m ih =>
    intro l h
    cases h with
    | cons p q =>
      obtain ⟨l', a, rfl, h1, h2⟩ := ih q
      exact ⟨_ :: l', a, rfl, .cons p h1, h2⟩
theorem third (it : List (Nat × Nat)) (hne : it ≠ []) : ∃ gs, rdCards 60 0 (laidL it ++ endRows) = flatG gs ∧ (∀ g ∈ gs, GOk g) ∧ Told3 it (stG gs) := by
  obtain ⟨gs, g1, g2, _⟩ := laid_grps it 0
  obtain ⟨z, z1, z2, z3, z4, z5⟩ := end_card (0 + (laidL it).length)
  rcases List.eq_nil_or_concat gs with rfl | ⟨gs0, g, e⟩
  · have := g2.length
    exact absurd (List.length_eq_zero_iff.mp this) hne
  rw [List.concat_eq_append] at e
  subst e
  obtain ⟨f, r⟩ := g
  obtain ⟨it0, p0, rfl, h1, h2⟩ := g2.snoc
  have hlen := h1.length
  refine ⟨gs0 ++ [(f, r ++ [z])], ?_, fun g m => ?_, ⟨?_, fun j p q hj hp hq => ?_, fun j p q hj hp hq => ?_⟩⟩
  · rw [rdCards_append, g1, z1]; simp [flatG]
  · rcases List.mem_append.mp m with m | m
    · exact gok_of (h1.mono fun _ _ q => q.to0) g m
    · rw [List.mem_singleton] at m
      subst m
      refine ⟨h2.cf, fun y hy => ?_, h2.lb, h2.jz z z5, contsOk_snoc f z r [] h2.co (h2.ce z z3 z4)⟩
      rcases List.mem_append.mp hy with hy | hy
      · exact h2.cr y hy
      · rw [List.mem_singleton] at hy; rw [hy]; exact z2
  · simp [stG, hlen]
  · have hj : j < it0.length := by simp at hj; omega
    rw [List.getElem?_append_left hj] at hp
    unfold stG at hq
    rw [List.map_append, List.getElem?_append_left (by rw [List.length_map]; omega), List.getElem?_map] at hq
    obtain ⟨g, hg, rfl⟩ := Option.map_eq_some_iff.mp hq
    exact (h1.get j p g hp hg).sq
  · have hj : j = it0.length := by simp at hj; omega
    subst hj
    rw [List.getElem?_append_right (Nat.le_refl _), Nat.sub_self] at hp
    have hp : p0 = p := by simpa using hp
    subst hp
    unfold stG at hq
    rw [List.map_append, List.getElem?_append_right (by rw [List.length_map]; omega), List.length_map, hlen, Nat.sub_self] at hq
    have hq : jD 54 f (r ++ [z]) = q := by simpa using hq
    subst hq
    exact h2.sz z z5
end
section
set_option maxRecDepth 10000
noncomputable def Rw (r : List Nat) : Prop := 10 ∉ r ∧ r.length ≤ 100
theorem rw_lay (pst : Bool) {r : List Nat} (h : Rw r) : Rw (layR pst r) := by
  cases pst with
  | false => exact h
  | true =>
    refine ⟨fun m => ?_, ?_⟩
    · have m : 10 ∈ past 60 r := m
      unfold past at m
      rcases List.mem_append.mp m with m | m
      · rcases List.mem_append.mp (List.mem_of_mem_take m) with m | m
        · exact h.1 m
        · have := (List.mem_replicate.mp m).2; omega
      · exact absurd m (by decide)
    · show (past 60 r).length ≤ 100
      unfold past
      rw [List.length_append, List.length_take]
      have : (lit "PAST").length = 4 := by decide
      omega
theorem n10_bent {x : List Nat} (n : Nat) (h : 10 ∉ x) : 10 ∉ bent x n := fun m => h (mem_bent _ 10 (by decide) _ _ _ m)
theorem n10_app {x y : List Nat} (h : 10 ∉ x) (h' : 10 ∉ y) : 10 ∉ x ++ y := fun m => (List.mem_append.mp m).elim h h'
theorem rw_plain (p : Nat × Nat) : Rw (plainRow p) := by
  have S := stock_sf _ (txtOf_mem p.1)
  have hl := S.len
  have hh := headL_len5 p.1 0 (by omega)
  obtain ⟨_, _, c0, _⟩ := head_facts p.1 0 (by omega)
  refine ⟨?_, ?_⟩
  · unfold plainRow
    exact n10_app (n10_app c0 (by decide)) S.n10
  · unfold plainRow; simp only [List.length_append, List.length_singleton]; omega
theorem rw_item (p : Nat × Nat) : ∀ r ∈ itemRows p, Rw r := by
  have S := stock_sf _ (txtOf_mem p.1)
  have hl := S.len
  have hh := headL_len5 p.1 (p.2 % 3) (by omega)
  obtain ⟨_, _, c0, _⟩ := head_facts p.1 (p.2 % 3) (by omega)
  intro r m
  unfold itemRows at m
  rcases List.mem_append.mp m with m | m
  · unfold preOf at m
    split at m
    · rw [List.mem_singleton] at m; rw [m]; exact ⟨by decide, by decide⟩
    · cases m
  · rw [rowsL_lay] at m
    obtain ⟨r0, m0, rfl⟩ := List.mem_map.mp m
    clear m
    have m := m0
    refine rw_lay _ ?_
    have hpart : ∀ q ∈ partsOf (txtOf p.1) p.2, q.length ≤ 20 ∧ 10 ∉ q := by
      intro q hq
      unfold partsOf at hq
      split at hq
      · rw [List.mem_singleton] at hq; rw [hq]; exact ⟨hl, S.n10⟩
      · rename_i sp _
        rcases List.mem_cons.mp hq with rfl | hq
        · exact ⟨by rw [List.length_take]; omega, fun m => S.n10 (List.mem_of_mem_take m)⟩
        · rw [List.mem_singleton] at hq; rw [hq]; exact ⟨by rw [List.length_drop]; omega, fun m => S.n10 (List.mem_of_mem_drop m)⟩
    have hpart0 : ((partsOf (txtOf p.1) p.2).headD []).length ≤ 20 ∧ 10 ∉ ((partsOf (txtOf p.1) p.2).headD []) := by
      cases hq : partsOf (txtOf p.1) p.2 with
      | nil => exact ⟨by decide, by decide⟩
      | cons a t => exact hpart a (by rw [hq]; exact .head _)
    unfold rows0 at m
    rcases List.mem_cons.mp m with rfl | m
    · have hb := bent_len ((partsOf (txtOf p.1) p.2).headD []) p.2
      refine ⟨n10_app (n10_app c0 ?_) (n10_bent _ hpart0.2), ?_⟩
      · rcases sign_first p.2 with h | h <;> rw [h] <;> decide
      · simp only [List.length_append, List.length_singleton]; omega
    · obtain ⟨q, hq, m⟩ := List.mem_flatMap.mp m
      have hq' := hpart q (List.mem_of_mem_drop hq)
      rcases List.mem_append.mp m with m | m
      · split at m
        · rw [List.mem_singleton] at m
          rw [m]
          unfold between
          split <;> exact ⟨by decide, by decide⟩
        · cases m
      · rw [List.mem_singleton] at m
        rw [m]
        have hb := bent_len q (p.2 / 7)
        obtain ⟨k1, k2, k3, k4⟩ := marks_get (p.2 / 16 % 8) (by omega)
        unfold contRow
        rw [k1]
        refine ⟨n10_app (n10_app (by decide) ?_) (n10_bent _ hq'.2), ?_⟩
        · intro m; rw [List.mem_singleton] at m; exact k4 m.symm
        · simp only [List.length_append, List.length_singleton, List.length_replicate]; omega
theorem rw_laid (it : List (Nat × Nat)) : ∀ r ∈ laidL it, Rw r := fun r m => by
  obtain ⟨p, _, m⟩ := List.mem_flatMap.mp m
  exact rw_item p r m
theorem laid_ne {it : List (Nat × Nat)} (h : it ≠ []) : laidL it ≠ [] := by
  cases it with
  | nil => exact absurd rfl h
  | cons p r =>
    intro e
    have : (laidL (p :: r)).length = 0 := by rw [e]; rfl
    have e2 : laidL (p :: r) = itemRows p ++ laidL r := by simp [laidL]
    rw [e2, List.length_append] at this
    unfold itemRows at this
    rw [rowsL_lay, List.length_append, List.length_map] at this
    unfold rows0 at this
    rw [List.length_cons] at this
    omega
theorem facts_of (it : List (Nat × Nat)) (hne : it ≠ []) (hl : it.length ≤ 6) : Facts it := by
  obtain ⟨g1, a1, b1⟩ := plain_grps it 0
  obtain ⟨g2, a2, b2, c2⟩ := laid_grps it 0
  obtain ⟨g3, a3, b3, c3⟩ := third it hne
  have b2' := b2.mono fun _ _ q => q.to0
  have s1 : rdSt 54 (it.map plainRow) = stG g1 := by
    show stmts 54 (rdCards 60 0 (it.map plainRow)) [] = _
    rw [a1, stmts_grp _ _ (gok_of b1)]; rfl
  have s2 : rdSt 54 (laidL it) = stG g2 := by
    show stmts 54 (rdCards 60 0 (laidL it)) [] = _
    rw [a2, stmts_grp _ _ (gok_of b2')]; rfl
  have s3 : rdSt 54 (laidL it ++ endRows) = stG g3 := by
    show stmts 54 (rdCards 60 0 (laidL it ++ endRows)) [] = _
    rw [a3, stmts_grp _ _ b3]; rfl
  have l1 := b1.length
  have l2 := b2.length
  have l3 := c3.len
  have ll := laidL_len it
  refine ⟨⟨by simpa using hne, fun p m => ?_, by simp; omega, fun p m => ?_, ?_, ?_⟩, fun e => ?_, ?_, ⟨laid_ne hne, fun p m => (rw_laid it p m).1, by omega, fun p m => Nat.le_trans (rw_laid it p m).2 (by decide), ?_, ?_⟩, ?_, ?_, ⟨by simp [endRows], fun p m => ?_, ?_, fun p m => ?_, ?_, ?_⟩, ?_⟩
  · obtain ⟨q, _, rfl⟩ := List.mem_map.mp m; exact (rw_plain q).1
  · obtain ⟨q, _, rfl⟩ := List.mem_map.mp m; exact Nat.le_trans (rw_plain q).2 (by decide)
  · rw [a1]; exact stok_grp _ _ (gok_of b1) trivial
  · rw [s1]; unfold stG; rw [List.length_map]; omega
  · have m := List.mem_of_getLast? e
    obtain ⟨q, _, e⟩ := List.mem_map.mp m
    have := congrArg List.length e
    unfold plainRow at this
    simp at this
  · rw [s1]; exact told_of b1
  · rw [a2]; exact stok_grp _ _ (gok_of b2') trivial
  · rw [s2]; unfold stG; rw [List.length_map]; omega
  · rw [s2]; exact told_of b2'
  · rw [s2, ← c2]; unfold stG; rw [List.map_map]; rfl
  · rcases List.mem_append.mp m with m | m
    · exact (rw_laid it p m).1
    · unfold endRows at m
      rcases List.mem_cons.mp m with rfl | m
      · decide
      · rw [List.mem_singleton.mp m]; decide
  · rw [List.length_append]; have : endRows.length = 2 := rfl; omega
  · rcases List.mem_append.mp m with m | m
    · exact Nat.le_trans (rw_laid it p m).2 (by decide)
    · unfold endRows at m
      rcases List.mem_cons.mp m with rfl | m
      · decide
      · rw [List.mem_singleton.mp m]; decide
  · rw [a3]; exact stok_grp _ _ b3 trivial
  · rw [s3]; omega
  · rw [s3]; exact c3
section
variable {c : Cx} {k : Nat}
theorem law_true (G : Good c) (L : Addr) (ns : List Int) (hz : ns.length ≤ 1000) :
    Ex c (k + 5) (callEnv fd_law L 404) [V "script" (.lsx (ns.map .int))] [] (bodyOf (stAt 57)) (retP fun d => d = .bool true) :=
  law_ex G L ns hz (facts_of _ (items_ne ns).1 (items_ne ns).2.1)
end
end
section
set_option maxRecDepth 10000
section
variable {c : Cx} {k : Nat}
theorem fn_def0 {f : Addr} {o : Obj} {fd : FuncData} {body : List Stmt} {args : List D} {P : D → Prop} (xs : List Str) (ho : c.K.lookup f = some o) (hd : o.data = .func fd) (hcd : codeIn c.K fd.code fd.qualname = true)
    (hbody : fd.body = .stmts body) (hg : fd.globals = mainGlobals) (hb : fd.builtins = builtinsNs) (hclo : fd.closure = [])
    (hbind : ∀ vs : List Value, vs.length = args.length → bindArgs fd ⟨vs, []⟩ = pure (xs.zip vs))
    (hcell : ∀ x ∈ fd.scope.names, x.2 ≠ .cell) (hloc : ∀ x ∈ xs, fd.scope.names.lookup x = some .local)
    (h : ∀ L, Ex c k (callEnv fd L f) (xs.zip args).reverse [] body (retP P))
    {A : Around} {s : Shared} {R : Result → Shared → Prop} {vs : List Value} (ok : Ok (k + 1) A) (tk : 0 < (xs.zip vs).length) (gl : Gl c s.heap) (hr : RepL (hid [] s.heap) args vs)
    (hq : ∀ d v s', P d → Ext s s' → Rep (hid [] s'.heap) d v → R (.ok (.ret v)) s')
    (hco : fd.scope.isCoroutine = false := by rfl) (hgen : fd.scope.isGenerator = false := by rfl) (hk : fd.scope.kind = .function := by rfl) : codeAny (model c.prog c.w) A (.call (.ref f) ⟨vs, []⟩) R s := by
  refine codeAny_call_def (binds := xs.zip vs) (by have := ok.d; unfold recursionLimit; omega) (gl.k _ _ ho) hd gl.nl (codeRec_of gl.k hcd) hbody (BindsTo.of_eq (hbind vs hr.length)) hcell (fun x m => hloc _ (List.of_mem_zip m).1) (fun h₀ hn hkk => ?_) hco hgen hk
  have hL : s.heap.get? s.heap.objs.size = none := Heap.get?_none_of_le (Nat.le_refl _)
  have hnL : ∀ b o, s.heap.get? b = some o → b ≠ s.heap.objs.size := fun b o e q => by rw [q, hL] at e; cases e
  have sg : Sub (hid [] s.heap) (hid (s.heap.objs.size :: ([] ++ [])) h₀) := fun b o e => by
    have q0 := hid_old e
    unfold hid
    rw [if_neg]; exact hkk _ _ q0
    intro m
    rcases List.mem_cons.mp m with rfl | m
    · exact hnL _ _ q0 rfl
    · cases m
  have z : St c (callEnv fd s.heap.objs.size f) (xs.zip args).reverse [] [] [] { s with heap := h₀, toks := s.toks + (xs.zip vs).length } := by
    refine ⟨⟨s.heap, gl, fun b o e => ⟨hkk b o e, hnL b o e, by simp⟩⟩, ⟨_, hn⟩, (fun a m => nomatch m), fun x d e => ?_, by simp only [OwnR], .nil, (fun a m => nomatch m), fun x b e => ?_, Nat.lt_of_lt_of_le tk (Nat.le_add_left _ _), ⟨hg, hb, hk⟩, (fun a m => nomatch m)⟩
    · obtain ⟨v, e1, e2⟩ := loc_zip (aD := []) (aV := []) (hr.mono sg) (fun x d e => nomatch e) x d e
      · have hx : (callEnv fd s.heap.objs.size f).kindOf x = some .local := by
          have : x ∈ xs := by
            have m : ∀ (l : List (Str × Value)), l.lookup x = some v → ∃ p ∈ l, p.1 = x := by
              intro l
              induction l with
              | nil => intro q; cases q
              | cons p r ih =>
                intro q
                rw [List.lookup_cons] at q
                split at q
                · rename_i w
                  rw [beq_iff_eq] at w
                  exact ⟨p, .head _, w.symm⟩
                · obtain ⟨p', m', e'⟩ := ih q
                  exact ⟨p', .tail _ m', e'⟩
            obtain ⟨p, m', rfl⟩ := m _ e1
            have m2 : p ∈ xs.zip vs := by
              have : p ∈ (xs.zip vs).reverse := m'
              exact List.mem_reverse.mp this
            exact (List.of_mem_zip m2).1
          exact hloc x this
        exact ⟨v, .inl ⟨hx, _, hn, e1⟩, e2⟩
    · have : (callEnv fd s.heap.objs.size f).cells = [] := hclo
      rw [this] at e; cases e
  refine h _ _ _ [] [] _ _ ⟨ok.hn, ?_, ?_⟩ z fun o fl s' Ho' hp kp hr' => ?_
  · have := ok.d; show A.depth + 1 + 4 * k ≤ 900; omega
  · have := ok.u; show A.units + 3 + 20 * k ≤ 9000; omega
  · have ee : Ext s s' := by
      obtain ⟨⟨h', t', e0⟩, k2, k3⟩ := kp
      refine ⟨⟨h', t', by rw [e0], fun b o e => ?_⟩, Nat.le_trans (Nat.le_add_right _ _) k2⟩
      have := (k3 b o (hnL b o e) (by simp) (hkk b o e)).1
      rw [e0] at this; exact this
    cases o with
    | next σ ω => obtain ⟨rfl, _⟩ := hr'; exact hq _ _ s' hp ee (by simp only [Rep])
    | ret d => obtain ⟨v, rfl, hv⟩ := hr'; exact hq _ _ s' hp ee hv
    | brk σ ω => exact hp.elim
    | cont σ ω => exact hp.elim
theorem ints_rep {g : Mem} {vs : List Value} {ns : List Int} (h : IntsAre vs ns) : RepL g (ns.map .int) vs := by
  induction h with
  | nil => exact RepL.nil
  | cons n t h ih => exact RepL.cons (by simp only [Rep]; exact ⟨t, rfl⟩) ih
theorem law_entry (G : Good c) {A : Around} {s : Shared} {a : Addr} {vs : List Value} {ns : List Int} {R : Result → Shared → Prop} (ok : Ok 6 A) (gl : Gl c s.heap) (hL : s.heap.IsList a vs.toArray) (hI : IntsAre vs ns) (hz : ns.length ≤ 63)
    (hq : ∀ s', Ext s s' → R (.ok (.ret (.bool true))) s') : codeAny (model c.prog c.w) A (.call (.ref 404) ⟨[.ref a], []⟩) R s := by
  refine fn_def0 (k := 5) (fd := fd_law) (o := fnObj fd_law) (body := bodyOf (stAt 57)) (args := [.lsx (ns.map .int)]) (P := fun d => d = .bool true) ["script"] (by rw [G.k]; rfl) rfl (by rw [G.k]; rfl) rfl rfl rfl rfl (bind1 fun v => rfl) (by decide) (by decide) (fun L => law_true (k := 0) G L ns (by omega)) ok (by simp) gl ?_ fun d v s' hd e hv => ?_
  · refine RepL.single ?_
    obtain ⟨o, h1, h2, n, h3⟩ := hL
    simp only [Rep]
    exact ⟨a, o, vs, n, rfl, by simpa [hid] using h1, h2, h3, ints_rep hI⟩
  · subst hd
    simp only [Rep] at hv
    subst hv
    exact hq s' e
end
end
section
set_option maxRecDepth 100000
set_option maxHeartbeats 8000000
theorem holds : PySem.Challenge.rw_no0264_01.Holds := by
  w_on
  refine holds_law said fun _ => ?_
  refine holds_open (q := vw) (loose := loose) (Xt := fun s => xlAt vw [] s && recOk [] s) (XP := XL vw []) (Yf := hk.obs) (Ya := hk.val) (YP := hk.says) (N := 5400) left (Hook.of hk) (Hook.keeps hk) (fun s e => xl_of s (Bool.and_eq_true_iff.mp e).1) XL.keeps (by rfl) (by rfl) (by rfl) (fun s e => recFacts_of (Bool.and_eq_true_iff.mp e).2) (by rfl) (by first | assumption | decide +kernel) (by decide +kernel) ⟨rfl, rfl, rfl, rfl, rfl, by decide +kernel⟩ ?hw ?hc
  case hw => w_witness2
  case hc =>
    intro w s₀ s₁ mg mb G Y fa o pm cd doc dV kV ho hd hcd hD hmg hg args vals as hpre hlay hrd hwl hlo
    have KX := kIn_of Y
    refine Ground.open G ?_
    intro T B D TE TW
    have c404 := mg_of KX T.g (show nsIn (KW w.params) mainGlobals ("law" : Str) = some (some (.ref 404)) by kernel_rfl)
    have e404 : fa = 404 := by
      have := c404.symm.trans hmg
      cases this; rfl
    subst e404
    clear hD hd hcd ho hmg c404 D B TE TW
    wrow_args hpre hlay hrd hwl hlo
    rename_i ns _ _ _ _ _ _ _ a vs _ hL _ _ _ hI _ hz _
    refine enter_call ?_
    have ok : Ok 6 callerA := ⟨rfl, by decide, by decide⟩
    refine law_entry (c := ⟨mg, mb, KW w.params, Challenge.rw_no0264_01.row.prog, w, T.builtins⟩) ⟨rfl, fun x r e => ?_⟩ ok ⟨T.g, T.b, T.nolimit, KX, T.nodigits⟩ hL hI (by omega) fun s' e => ?_
    · cases r with
      | none => exact mg_none_of KX T.g e
      | some v => exact mg_of KX T.g e
    · obtain ⟨⟨h', tk, rfl, kp⟩, _⟩ := e
      exact ⟨.inl ⟨_, .bool true, [], rfl, (raisesW_false (by wrow_none_raised)), ReadsW.bool _, (by wrow_post), unshared_nil⟩, .of_keep kp, rfl, .of_eq hg⟩
end
end Mine
theorem PySem.Challenge.cw_no0264_01_holds : PySem.Challenge.rw_no0264_01.Holds := by
  exact Mine.holds
