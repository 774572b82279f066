import PyProof.Rows.All
import Wide.All
import OpenK.AllK
import Wide.FinOn
import PySem.Challenge.RW_pq0036_01
set_option Elab.async false
set_option maxRecDepth 100000
section
open PySem PySem.W PyProof.Rows
namespace Mine
noncomputable abbrev Le (h h' : Heap) : Prop := ∀ b o, h.get? b = some o → h'.get? b = some o
theorem Le.refl (h : Heap) : Le h h := fun _ _ e => e
theorem Le.trans {a b c : Heap} (x : Le a b) (y : Le b c) : Le a c := fun p o e => y p o (x p o e)
inductive AV where
  | none
  | bool (b : Bool)
  | int (i : Int)
  | str (s : Str)
  | tup (l : List AV)
  | lst (l : List AV)
  | dct (l : List (Str × AV))
  | own (a : Addr)
  | raw (v : Value)
  | rng (i j : Int)
structure Cx where
  prog : Program
  w : World
  s0 : Shared
  mg : Str → Option Value
  mb : Str → Option Value
  g : s0.heap.Ns mainGlobals mg
  b : s0.heap.Ns builtinsNs mb
  lim : s0.heap.NoLimit
noncomputable abbrev Cx.sk (c : Cx) : KeyKind c.prog c.w Str := PySem.strKind c.prog c.w
mutual
inductive Rep (c : Cx) (F : Heap) : Value → AV → Prop
  | none : Rep c F .none .none
  | bool (b : Bool) : Rep c F (.bool b) (.bool b)
  | int (i : Int) (t : Tok) : Rep c F (.int i t) (.int i)
  | str (s : Str) (t : Tok) : Rep c F (.str s t) (.str s)
  | tup {a : Addr} {vs : List Value} {l : List AV} : F.IsTuple a vs.toArray → Reps c F vs l → Rep c F (.ref a) (.tup l)
  | lst {a : Addr} {vs : List Value} {l : List AV} : F.PlainList a vs.toArray → Reps c F vs l → Rep c F (.ref a) (.lst l)
  | dct {a : Addr} {kvs : List (Str × Value)} {l : List (Str × AV)} : F.DictOf c.sk a kvs → (a == sysModules) = false → Repd c F kvs l → Rep c F (.ref a) (.dct l)
  | own (a : Addr) : Rep c F (.ref a) (.own a)
  | raw (v : Value) : Rep c F v (.raw v)
  | rng {a : Addr} {i j : Int} {t u v : Tok} : IsRange F a i j 1 t u v → Builtin.Range.small i j 1 = true → Rep c F (.ref a) (.rng i j)
inductive Reps (c : Cx) (F : Heap) : List Value → List AV → Prop
  | nil : Reps c F [] []
  | cons {v : Value} {d : AV} {vs : List Value} {ds : List AV} : Rep c F v d → Reps c F vs ds → Reps c F (v :: vs) (d :: ds)
inductive Repd (c : Cx) (F : Heap) : List (Str × Value) → List (Str × AV) → Prop
  | nil : Repd c F [] []
  | cons {k : Str} {v : Value} {d : AV} {vs : List (Str × Value)} {ds : List (Str × AV)} : Rep c F v d → Repd c F vs ds → Repd c F ((k, v) :: vs) ((k, d) :: ds)
end
theorem Rep.int' {c : Cx} {F : Heap} {x : Value} {i : Int} (r : Rep c F x (.int i)) : ∃ t, x = .int i t := by
  cases r
  exact ⟨_, rfl⟩
theorem Rep.str' {c : Cx} {F : Heap} {x : Value} {s : Str} (r : Rep c F x (.str s)) : ∃ t, x = .str s t := by
  cases r
  exact ⟨_, rfl⟩
theorem Rep.bool' {c : Cx} {F : Heap} {x : Value} {b : Bool} (r : Rep c F x (.bool b)) : x = .bool b := by
  cases r
  rfl
theorem Rep.none' {c : Cx} {F : Heap} {x : Value} (r : Rep c F x .none) : x = .none := by
  cases r
  rfl
theorem Rep.own' {c : Cx} {F : Heap} {x : Value} {a : Addr} (r : Rep c F x (.own a)) : x = .ref a := by
  cases r
  rfl
theorem Rep.raw' {c : Cx} {F : Heap} {x v : Value} (r : Rep c F x (.raw v)) : x = v := by
  cases r
  rfl
theorem Reps.length {c : Cx} {F : Heap} : ∀ {xs : List Value} {vs : List AV}, Reps c F xs vs → xs.length = vs.length
  | _, _, .nil => rfl
  | _, _, .cons _ r => by simp [Reps.length r]
theorem Repd.length {c : Cx} {F : Heap} : ∀ {xs : List (Str × Value)} {vs : List (Str × AV)}, Repd c F xs vs → xs.length = vs.length
  | _, _, .nil => rfl
  | _, _, .cons _ r => by simp [Repd.length r]
theorem isTuple_le {F F' : Heap} {a : Addr} {xs : Array Value} (h : Le F F') (x : F.IsTuple a xs) : F'.IsTuple a xs := let ⟨o, ho, r⟩ := x; ⟨o, h _ _ ho, r⟩
theorem isList_le {F F' : Heap} {a : Addr} {xs : Array Value} (h : Le F F') (x : F.IsList a xs) : F'.IsList a xs := let ⟨o, ho, r⟩ := x; ⟨o, h _ _ ho, r⟩
mutual
theorem Rep.le {c : Cx} {F F' : Heap} (h : Le F F') : ∀ {v : Value} {d : AV}, Rep c F v d → Rep c F' v d
  | _, _, .none => .none
  | _, _, .bool b => .bool b
  | _, _, .int i t => .int i t
  | _, _, .str s t => .str s t
  | _, _, .tup x r => .tup (isTuple_le h x) (Reps.le h r)
  | _, _, .lst x r => .lst (x.at fun o e => h _ o e) (Reps.le h r)
  | _, _, .dct x e r => .dct (x.keep h) e (Repd.le h r)
  | _, _, .own a => .own a
  | _, _, .raw v => .raw v
  | _, _, .rng x y => .rng (h _ _ x) y
theorem Reps.le {c : Cx} {F F' : Heap} (h : Le F F') : ∀ {v : List Value} {d : List AV}, Reps c F v d → Reps c F' v d
  | _, _, .nil => .nil
  | _, _, .cons x r => .cons (Rep.le h x) (Reps.le h r)
theorem Repd.le {c : Cx} {F F' : Heap} (h : Le F F') : ∀ {v : List (Str × Value)} {d : List (Str × AV)}, Repd c F v d → Repd c F' v d
  | _, _, .nil => .nil
  | _, _, .cons x r => .cons (Rep.le h x) (Repd.le h r)
end
inductive AO where
  | list (l : List AV)
  | dict (l : List (Str × AV))
  | obj (P : Obj → Prop)
noncomputable abbrev Ob := Addr → Option AO
noncomputable def Ob.set (ob : Ob) (a : Addr) (o : AO) : Ob := fun b => if b = a then some o else ob b
noncomputable abbrev Vs := Str → Option AV
noncomputable def Vs.set (m : Vs) (x : Str) (v : AV) : Vs := fun y => if y = x then some v else m y
structure St where
  vars : Vs
  ob : Ob
noncomputable def OwnIs (c : Cx) (F h : Heap) (a : Addr) : AO → Prop
  | .list l => ∃ vs, h.PlainList a vs.toArray ∧ Reps c F vs l
  | .dict l => ∃ kvs, h.DictOf c.sk a kvs ∧ (a == sysModules) = false ∧ Repd c F kvs l
  | .obj P => ∃ o, h.get? a = some o ∧ P o
theorem OwnIs.mono {c : Cx} {F F' h h' : Heap} {a : Addr} {o : AO} (x : OwnIs c F h a o) (hF : Le F F') (ha : ∀ o, h.get? a = some o → h'.get? a = some o) : OwnIs c F' h' a o := by
  cases o with
  | list l =>
    obtain ⟨vs, h1, h2⟩ := x
    exact ⟨vs, h1.at ha, h2.le hF⟩
  | dict l =>
    obtain ⟨vs, ⟨o, es, ep, ho, r⟩, h2, h3⟩ := x
    exact ⟨vs, ⟨o, es, ep, ha _ ho, r⟩, h2, h3.le hF⟩
  | obj P =>
    obtain ⟨o, h1, h2⟩ := x
    exact ⟨o, ha _ h1, h2⟩
theorem OwnIs.live {c : Cx} {F h : Heap} {a : Addr} {o : AO} (x : OwnIs c F h a o) : ∃ q, h.get? a = some q := by
  cases o with
  | list l => obtain ⟨vs, ⟨n, h1⟩, h2⟩ := x; exact ⟨_, h1⟩
  | dict l => obtain ⟨vs, ⟨o, es, ep, ho, r⟩, h2, h3⟩ := x; exact ⟨_, ho⟩
  | obj P => obtain ⟨o, h1, h2⟩ := x; exact ⟨_, h1⟩
structure Wf (c : Cx) (F : Heap) (ob : Ob) (s : Shared) : Prop where
  gens : s.gens = c.s0.gens
  os : s.os = c.s0.os
  le : Le F s.heap
  base : Le c.s0.heap F
  own : ∀ a o, ob a = some o → F.get? a = none ∧ OwnIs c F s.heap a o
/-- the addresses that the frame of an environment may write -/
noncomputable def Fra (env : Env) (b : Addr) : Prop := b = env.locals ∨ (env.func ≠ none ∧ ∃ x, env.cells.lookup x = some b)
/-- the scope of an environment, and whether it is a function's own -/
structure Sc where
  s : Scope
  fn : Bool
structure EnvIs (env : Env) (sc : Sc) : Prop where
  scope : env.scope = sc.s
  globals : env.globals = mainGlobals
  builtins : env.builtins = builtinsNs
  fn : sc.fn = true → env.func ≠ none
structure SR (c : Cx) (env : Env) (F : Heap) (st : St) (s : Shared) : Prop where
  wf : Wf c F st.ob s
  loc : ∃ m, s.heap.Ns env.locals m ∧ ∀ x v, env.kindOf x = some .local → st.vars x = some v → ∃ xv, m x = some xv ∧ Rep c F xv v
  off : F.get? env.locals = none
  offO : st.ob env.locals = none
  cel : ∀ x, env.kindOf x = some .cell → ∃ a ov, env.cells.lookup x = some a ∧ s.heap.IsCell a ov ∧ ∀ v, st.vars x = some v → ∃ xv, ov = some xv ∧ Rep c F xv v
  apart : env.func ≠ none → env.cells.Pairwise (fun x y => x.2 ≠ y.2)
  celoff : env.func ≠ none → ∀ x a, env.cells.lookup x = some a → F.get? a = none
  celO : ∀ x a, env.cells.lookup x = some a → st.ob a = none ∧ ∃ o, s.heap.get? a = some o
/-- how a piece without a frame moves the state -/
structure Mov (ob : Ob) (s : Shared) (F : Heap) (ob' : Ob) (s' : Shared) (F' : Heap) : Prop where
  le : Le F F'
  keep : ∀ b o, ob b = none → s.heap.get? b = some o → s'.heap.get? b = some o ∧ ob' b = none
  new : ∀ b o, F'.get? b = some o → F.get? b = some o ∨ s.heap.get? b = none ∨ ob b ≠ none
theorem Mov.refl (ob : Ob) (s : Shared) (F : Heap) : Mov ob s F ob s F := ⟨Le.refl F, fun _ _ h1 h2 => ⟨h2, h1⟩, fun _ _ h => .inl h⟩
theorem Mov.trans {ob ob1 ob2 : Ob} {s s1 s2 : Shared} {F F1 F2 : Heap} (x : Mov ob s F ob1 s1 F1) (y : Mov ob1 s1 F1 ob2 s2 F2) : Mov ob s F ob2 s2 F2 :=
  ⟨Le.trans x.le y.le, fun b o h1 h2 => let ⟨h3, h4⟩ := x.keep b o h1 h2; y.keep b o h4 h3, fun b o h => by
    cases hs : s.heap.get? b with
    | none => exact .inr (.inl rfl)
    | some q =>
      cases ho : ob b with
      | some r => exact .inr (.inr (by simp))
      | none =>
        obtain ⟨h3, h4⟩ := x.keep b q ho hs
        rcases y.new b o h with h5 | h5 | h5
        · rcases x.new b o h5 with h6 | h6 | h6
          · exact .inl h6
          · rw [hs] at h6; cases h6
          · exact absurd ho h6
        · rw [h3] at h5; cases h5
        · exact absurd h4 h5⟩
/-- how a piece within a frame moves the state -/
structure Out (c : Cx) (env : Env) (F : Heap) (st : St) (s : Shared) (F' : Heap) (st' : St) (s' : Shared) : Prop where
  sr : SR c env F' st' s'
  le : Le F F'
  keep : ∀ b o, st.ob b = none → ¬ Fra env b → s.heap.get? b = some o → s'.heap.get? b = some o ∧ st'.ob b = none
  new : ∀ b o, F'.get? b = some o → F.get? b = some o ∨ s.heap.get? b = none ∨ st.ob b ≠ none
theorem SR.fra {c : Cx} {env : Env} {F : Heap} {st : St} {s : Shared} (S : SR c env F st s) {b : Addr} (h : Fra env b) : st.ob b = none ∧ F.get? b = none ∧ ∃ o, s.heap.get? b = some o := by
  rcases h with rfl | ⟨hf, x, hx⟩
  · obtain ⟨m, ⟨o, es, ep, ho, r⟩, hm⟩ := S.loc
    exact ⟨S.offO, S.off, o, ho⟩
  · exact ⟨(S.celO _ _ hx).1, S.celoff hf _ _ hx, (S.celO _ _ hx).2⟩
theorem Out.refl {c : Cx} {env : Env} {F : Heap} {st : St} {s : Shared} (h : SR c env F st s) : Out c env F st s F st s :=
  ⟨h, Le.refl F, fun _ _ h1 _ h3 => ⟨h3, h1⟩, fun _ _ h => .inl h⟩
theorem Out.trans {c : Cx} {env : Env} {F F1 F2 : Heap} {st st1 st2 : St} {s s1 s2 : Shared} (x : Out c env F st s F1 st1 s1) (y : Out c env F1 st1 s1 F2 st2 s2) : Out c env F st s F2 st2 s2 :=
  ⟨y.sr, Le.trans x.le y.le, fun b o h1 h2 h3 => let ⟨h4, h5⟩ := x.keep b o h1 h2 h3; y.keep b o h5 h2 h4, fun b o h => by
    cases hs : s.heap.get? b with
    | none => exact .inr (.inl rfl)
    | some q =>
      cases ho : st.ob b with
      | some r => exact .inr (.inr (by simp))
      | none =>
        by_cases hf : Fra env b
        · rw [(y.sr.fra hf).2.1] at h; cases h
        obtain ⟨h3, h4⟩ := x.keep b q ho hf hs
        rcases y.new b o h with h5 | h5 | h5
        · rcases x.new b o h5 with h6 | h6 | h6
          · exact .inl h6
          · rw [hs] at h6; cases h6
          · exact absurd ho h6
        · rw [h3] at h5; cases h5
        · exact absurd h4 h5⟩
theorem SR.lift {c : Cx} {env : Env} {F F' : Heap} {st : St} {s s' : Shared} {ob' : Ob} (S : SR c env F st s) (W : Wf c F' ob' s') (M : Mov st.ob s F ob' s' F') : Out c env F st s F' ⟨st.vars, ob'⟩ s' := by
  have hoff : ∀ b, Fra env b → F'.get? b = none := fun b hb => by
    obtain ⟨h1, h2, o, h3⟩ := S.fra hb
    cases e : F'.get? b with
    | none => rfl
    | some q =>
      rcases M.new b q e with h4 | h4 | h4
      · rw [h2] at h4; cases h4
      · rw [h3] at h4; cases h4
      · exact absurd h1 h4
  refine ⟨⟨W, ?_, hoff _ (.inl rfl), ?_, ?_, S.apart, fun hf x a hx => hoff _ (.inr ⟨hf, x, hx⟩), ?_⟩, M.le, fun b o h1 _ h3 => M.keep b o h1 h3, M.new⟩
  · obtain ⟨m, hn, hm⟩ := S.loc
    exact ⟨m, hn.at' fun o e => (M.keep _ o S.offO e).1, fun x v h1 h2 => let ⟨xv, h3, h4⟩ := hm x v h1 h2; ⟨xv, h3, h4.le M.le⟩⟩
  · obtain ⟨m, ⟨o, es, ep, ho, r⟩, hm⟩ := S.loc
    exact (M.keep _ o S.offO ho).2
  · intro x hx
    obtain ⟨a, ov, h1, ⟨o, ho, hd⟩, h3⟩ := S.cel x hx
    exact ⟨a, ov, h1, ⟨o, (M.keep _ o (S.celO _ _ h1).1 ho).1, hd⟩, fun v hv => let ⟨xv, h4, h5⟩ := h3 v hv; ⟨xv, h4, h5.le M.le⟩⟩
  · intro x a hx
    obtain ⟨h1, o, ho⟩ := S.celO x a hx
    exact ⟨(M.keep _ o h1 ho).2, o, (M.keep _ o h1 ho).1⟩
structure Room (A : Around) (n : Nat) : Prop where
  handled : A.handled = none
  depth : A.depth + n ≤ recursionLimit
  units : A.units + 8 * n + 200 ≤ cLine
/-- the triple: every run of t from a state that st describes ends in a value and a state that K names -/
noncomputable def Tr {α β : Type} (c : Cx) (n : Nat) (sc : Sc) (rel : Heap → α → β → Prop) (t : Env → Sem α) (st : St) (K : β → St → Prop) : Prop :=
  ∀ A env F s, Room A n → EnvIs env sc → SR c env F st s → ∀ (Q : α → Shared → Prop) (E : Value → Shared → Prop),
    (∀ F' s' x v st', K v st' → Out c env F st s F' st' s' → rel F' x v → Q x s') → wpAny (model c.prog c.w) A (t env) Q E s
noncomputable abbrev Ev (c : Cx) (n : Nat) (sc : Sc) (e : Expr) (st : St) (K : AV → St → Prop) : Prop := Tr c n sc (Rep c) (eval e) st K
noncomputable abbrev Te (c : Cx) (n : Nat) (sc : Sc) (e : Expr) (st : St) (K : Bool → St → Prop) : Prop := Tr c n sc (fun _ a b => a = b) (fun env => isTrue e env (eval e env)) st K
inductive AF where
  | next | brk | cont
  | ret (v : AV)
inductive FRep (c : Cx) (F : Heap) : Flow → AF → Prop
  | next : FRep c F .next .next
  | brk : FRep c F .brk .brk
  | cont : FRep c F .cont .cont
  | ret {x : Value} {v : AV} : Rep c F x v → FRep c F (.ret x) (.ret v)
noncomputable abbrev Ex (c : Cx) (n : Nat) (sc : Sc) (b : Stmt) (st : St) (K : AF → St → Prop) : Prop := Tr c n sc (FRep c) (exec b) st K
noncomputable abbrev Exs (c : Cx) (n : Nat) (sc : Sc) (b : List Stmt) (st : St) (K : AF → St → Prop) : Prop := Tr c n sc (FRep c) (execs b) st K
/-- list of arguments -/
noncomputable abbrev Args' (c : Cx) (n : Nat) (sc : Sc) (t : Env → List (Bool × Sem Value)) (st : St) (K : List AV → St → Prop) : Prop := Tr c n sc (Reps c) (fun env => spliced (t env)) st K
/-- a piece without a frame: what it makes of its arguments -/
noncomputable def Op {α β : Type} (c : Cx) (n : Nat) (rel : Heap → α → β → Prop) (t : List Value → Sem α) (args : List AV) (ob : Ob) (K : β → Ob → Prop) : Prop :=
  ∀ A F s xs, Room A n → Wf c F ob s → Reps c F xs args → ∀ (Q : α → Shared → Prop) (E : Value → Shared → Prop),
    (∀ F' s' x v ob', K v ob' → Wf c F' ob' s' → Mov ob s F ob' s' F' → rel F' x v → Q x s') → wpAny (model c.prog c.w) A (t xs) Q E s
noncomputable abbrev Fn (c : Cx) (n : Nat) (f : Value) (args : List AV) (ob : Ob) (K : AV → Ob → Prop) : Prop := Op c n (Rep c) (fun xs => call f xs) args ob K
theorem Tr.mono {α β : Type} {c : Cx} {n : Nat} {sc : Sc} {rel : Heap → α → β → Prop} {t : Env → Sem α} {st : St} {K K' : β → St → Prop} (h : Tr c n sc rel t st K) (hk : ∀ v st', K v st' → K' v st') : Tr c n sc rel t st K' :=
  fun A env F s hR hE hS Q E hQ => h A env F s hR hE hS Q E fun F' s' x v st' k => hQ F' s' x v st' (hk _ _ k)
noncomputable section
open Classical in
noncomputable def keepOnly (h : Heap) (P : Addr → Prop) : Heap := { h with objs := h.objs.mapIdx fun i o => if P i then o else { o with data := .freed } }
theorem keepOnly_iff {h : Heap} {P : Addr → Prop} {a : Addr} {o : Obj} : (keepOnly h P).get? a = some o ↔ (P a ∧ h.get? a = some o) := by
  rw [Heap.get?_some_iff, Heap.get?_some_iff]
  have e : (keepOnly h P).objs[a]? = (h.objs[a]?).map fun o => (open Classical in if P a then o else { o with data := .freed }) := by
    cases h; simp [keepOnly, Array.getElem?_mapIdx]
  rw [e]
  cases hx : h.objs[a]? with
  | none => simp
  | some x =>
    by_cases hp : P a
    · simp [hp]
    · simp only [Option.map_some, hp, if_false, Option.some.injEq, false_and, iff_false, not_and]
      intro e2
      rw [← e2]
      show ¬ (true = false)
      decide
theorem keepOnly_none {h : Heap} {P : Addr → Prop} {a : Addr} (hp : ¬ P a) : (keepOnly h P).get? a = none := by
  cases e : (keepOnly h P).get? a with
  | none => rfl
  | some o => exact absurd (keepOnly_iff.mp e).1 hp
end
theorem Wf.go {c : Cx} {F : Heap} {ob : Ob} {s : Shared} (S : Wf c F ob s) (ob' : Ob) (h' : Heap) (tk : Nat)
    (hk : ∀ b o, ob b = none → s.heap.get? b = some o → h'.get? b = some o ∧ ob' b = none)
    (hown : ∀ F', Le F F' → Le F' h' → (∀ b o, ob' b = none → (s.heap.get? b = none ∨ ob b ≠ none) → h'.get? b = some o → F'.get? b = some o) → ∀ a o, ob' a = some o → OwnIs c F' h' a o) :
    ∃ F', Wf c F' ob' { s with heap := h', toks := tk } ∧ Mov ob s F ob' { s with heap := h', toks := tk } F' ∧
      (∀ b o, ob' b = none → (s.heap.get? b = none ∨ ob b ≠ none) → h'.get? b = some o → F'.get? b = some o) := by
  have hall : ∀ b o, ob' b = none → (s.heap.get? b = none ∨ ob b ≠ none) → h'.get? b = some o → (keepOnly h' fun b => ob' b = none ∧ ((∃ o, F.get? b = some o) ∨ s.heap.get? b = none ∨ ob b ≠ none)).get? b = some o :=
    fun b o h1 h2 h3 => keepOnly_iff.mpr ⟨⟨h1, .inr h2⟩, h3⟩
  have hle' : Le (keepOnly h' fun b => ob' b = none ∧ ((∃ o, F.get? b = some o) ∨ s.heap.get? b = none ∨ ob b ≠ none)) h' := fun b o e => (keepOnly_iff.mp e).2
  have hnoF : ∀ b o, F.get? b = some o → ob b = none := fun b o e => by
    cases ho : ob b with
    | none => rfl
    | some q => rw [(S.own b q ho).1] at e; cases e
  have hle : Le F (keepOnly h' fun b => ob' b = none ∧ ((∃ o, F.get? b = some o) ∨ s.heap.get? b = none ∨ ob b ≠ none)) := fun b o e => by
    obtain ⟨h1, h2⟩ := hk b o (hnoF b o e) (S.le b o e)
    exact keepOnly_iff.mpr ⟨⟨h2, .inl ⟨o, e⟩⟩, h1⟩
  refine ⟨_, ⟨S.gens, S.os, hle', Le.trans S.base hle, fun a o ho => ⟨keepOnly_none (fun hp => nomatch hp.1.symm.trans ho), hown _ hle hle' hall a o ho⟩⟩, ⟨hle, hk, fun b o e => ?_⟩, hall⟩
  obtain ⟨⟨h1, h2⟩, h3⟩ := keepOnly_iff.mp e
  rcases h2 with ⟨q, hq⟩ | h2
  · left
    have h4 := (hk b q (hnoF b q hq) (S.le b q hq)).1
    rw [hq, ← h3, h4]
  · exact .inr h2
/-- the heap only grew -/
theorem Wf.ext {c : Cx} {F : Heap} {ob : Ob} {s : Shared} (S : Wf c F ob s) (h' : Heap) (tk : Nat) (hk : Le s.heap h') :
    ∃ F', Wf c F' ob { s with heap := h', toks := tk } ∧ Mov ob s F ob { s with heap := h', toks := tk } F' ∧ (∀ b o, s.heap.get? b = none → h'.get? b = some o → F'.get? b = some o) := by
  obtain ⟨F', h1, h2, h3⟩ := S.go ob h' tk (fun b o h1 h2 => ⟨hk b o h2, h1⟩) fun _ hF _ _ a o ho => (S.own a o ho).2.mono hF fun q hq => hk a q hq
  refine ⟨F', h1, h2, fun b o h4 h5 => h3 b o ?_ (.inl h4) h5⟩
  cases e : ob b with
  | none => rfl
  | some o => obtain ⟨q, hq⟩ := (S.own b o e).2.live; rw [h4] at hq; cases hq
theorem Wf.fresh {c : Cx} {F : Heap} {ob : Ob} {s : Shared} (S : Wf c F ob s) {b : Addr} (hb : s.heap.get? b = none) : ob b = none := by
  cases e : ob b with
  | none => rfl
  | some o => obtain ⟨q, hq⟩ := (S.own b o e).2.live; rw [hb] at hq; cases hq
theorem Wf.tok {c : Cx} {F : Heap} {ob : Ob} {s : Shared} (S : Wf c F ob s) (k : Nat) : Wf c F ob { s with toks := k } :=
  ⟨S.gens, S.os, S.le, S.base, S.own⟩
theorem Mov.tok {F : Heap} {ob : Ob} {s : Shared} (k : Nat) : Mov ob s F ob { s with toks := k } F := ⟨Le.refl F, fun _ _ h1 h2 => ⟨h2, h1⟩, fun _ _ h => .inl h⟩
/-- an owned or fresh place gets another content -/
theorem Wf.put {c : Cx} {F : Heap} {ob : Ob} {s : Shared} (S : Wf c F ob s) (a : Addr) (ao : AO) (h' : Heap) (tk : Nat) (ha : ob a ≠ none ∨ s.heap.get? a = none)
    (hk : Heap.ExtBut a s.heap h') (hown : ∀ F', Le F F' → (∀ b o, b ≠ a → s.heap.get? b = none → h'.get? b = some o → F'.get? b = some o) → OwnIs c F' h' a ao) :
    ∃ F', Wf c F' (ob.set a ao) { s with heap := h', toks := tk } ∧ Mov ob s F (ob.set a ao) { s with heap := h', toks := tk } F' ∧ (∀ b o, b ≠ a → s.heap.get? b = none → h'.get? b = some o → F'.get? b = some o) := by
  have hne : ∀ b o, ob b = none → s.heap.get? b = some o → b ≠ a := fun b o h1 h2 e => by
    subst e
    rcases ha with h | h
    · exact h h1
    · rw [h] at h2; cases h2
  have hset : ∀ b, b ≠ a → ob.set a ao b = ob b := fun b hb => if_neg hb
  obtain ⟨F', h1, h2, h3⟩ := S.go (ob.set a ao) h' tk (fun b o h1 h2 => ⟨hk b o (hne b o h1 h2) h2, by rw [hset b (hne b o h1 h2)]; exact h1⟩) fun F' hF _ hall b o ho => by
    by_cases hb : b = a
    · subst hb
      have e : ao = o := by
        have : ob.set b ao b = some ao := if_pos rfl
        rw [this] at ho; exact Option.some.inj ho
      subst e
      exact hown F' hF fun b' o' h4 h5 h6 => hall b' o' (by rw [hset b' h4]; exact S.fresh h5) (.inl h5) h6
    · rw [hset b hb] at ho
      exact (S.own b o ho).2.mono hF fun q hq => hk b q hb hq
  exact ⟨F', h1, h2, fun b o h4 h5 h6 => h3 b o (by rw [hset b h4]; exact S.fresh h5) (.inl h5) h6⟩
/-- what is owned may be forgotten -/
theorem Wf.drop {c : Cx} {F : Heap} {ob : Ob} {s : Shared} (S : Wf c F ob s) {ob' : Ob} (h : ∀ a o, ob' a = some o → ob a = some o) : Wf c F ob' s ∧ Mov ob s F ob' s F := by
  have hn : ∀ b, ob b = none → ob' b = none := fun b hb => by
    cases e : ob' b with
    | none => rfl
    | some o => rw [h b o e] at hb; cases hb
  exact ⟨⟨S.gens, S.os, S.le, S.base, fun a o e => S.own a o (h a o e)⟩, Le.refl F, fun _ _ h1 h3 => ⟨h3, hn _ h1⟩, fun _ _ h => .inl h⟩
/-- an owned place is frozen: it is forgotten, and stays as it is -/
theorem Wf.freeze {c : Cx} {F : Heap} {ob : Ob} {s : Shared} (S : Wf c F ob s) (a : Addr) (o : Obj) (ho : s.heap.get? a = some o) (ha : ob a ≠ none) :
    ∃ F', Wf c F' (fun b => if b = a then none else ob b) s ∧ Mov ob s F (fun b => if b = a then none else ob b) s F' ∧ F'.get? a = some o := by
  obtain ⟨F', h1, h2, h3⟩ := S.go (fun b => if b = a then none else ob b) s.heap s.toks (fun b o h1 h2 => ⟨h2, by split <;> simp [h1]⟩) fun F' hF _ _ b q hb => by
    split at hb
    · cases hb
    · exact (S.own b q hb).2.mono hF fun _ h => h
  exact ⟨F', h1, h2, h3 a o (if_pos rfl) (.inr ha) ho⟩
/-- places that are neither owned nor frozen change -/
theorem Wf.poke {c : Cx} {F : Heap} {ob : Ob} {s : Shared} (S : Wf c F ob s) (W : Addr → Prop) (h' : Heap) (tk : Nat) (hW : ∀ b, W b → ob b = none ∧ F.get? b = none) (hk : ∀ b o, ¬ W b → s.heap.get? b = some o → h'.get? b = some o) :
    ∃ F', Wf c F' ob { s with heap := h', toks := tk } ∧ Le F F' ∧ (∀ b o, F'.get? b = some o → ¬ W b ∧ (F.get? b = some o ∨ s.heap.get? b = none)) ∧ (∀ b o, ¬ W b → s.heap.get? b = none → h'.get? b = some o → F'.get? b = some o) := by
  have hFW : ∀ b o, F.get? b = some o → ¬ W b := fun b o e hb => by rw [(hW b hb).2] at e; cases e
  have hFo : ∀ b o, F.get? b = some o → ob b = none := fun b o e => by
    cases ho : ob b with
    | none => rfl
    | some q => rw [(S.own b q ho).1] at e; cases e
  have hle : Le F (keepOnly h' fun b => ¬ W b ∧ ob b = none ∧ ((∃ o, F.get? b = some o) ∨ s.heap.get? b = none)) := fun b o e =>
    keepOnly_iff.mpr ⟨⟨hFW b o e, hFo b o e, .inl ⟨o, e⟩⟩, hk b o (hFW b o e) (S.le b o e)⟩
  refine ⟨_, ⟨S.gens, S.os, fun b o e => (keepOnly_iff.mp e).2, Le.trans S.base hle, fun a o ho => ⟨keepOnly_none (fun hp => nomatch hp.2.1.symm.trans ho), (S.own a o ho).2.mono hle fun q hq => hk a q (fun hw => nomatch (hW a hw).1.symm.trans ho) hq⟩⟩, hle, fun b o e => ?_, fun b o h1 h2 h3 => keepOnly_iff.mpr ⟨⟨h1, S.fresh h2, .inr h2⟩, h3⟩⟩
  obtain ⟨⟨h1, h2, h3⟩, h4⟩ := keepOnly_iff.mp e
  refine ⟨h1, ?_⟩
  rcases h3 with ⟨q, hq⟩ | h3
  · left
    rw [hq, ← h4, hk b q h1 (S.le b q hq)]
  · exact .inr h3
theorem SR.cell_live {c : Cx} {env : Env} {F : Heap} {st : St} {s : Shared} (S : SR c env F st s) {x : Str} {b : Addr} (h : env.cells.lookup x = some b) : ∃ o, s.heap.get? b = some o := (S.celO x b h).2
theorem SR.loc_live {c : Cx} {env : Env} {F : Heap} {st : St} {s : Shared} (S : SR c env F st s) : ∃ o, s.heap.get? env.locals = some o := by
  obtain ⟨m, ⟨o, es, ep, ho, r⟩, hm⟩ := S.loc
  exact ⟨o, ho⟩
theorem SR.poke {c : Cx} {env : Env} {F : Heap} {st : St} {s : Shared} (S : SR c env F st s) (W : Addr → Prop) (h' : Heap) (tk : Nat) (hW : ∀ b, W b → st.ob b = none ∧ F.get? b = none) (hl : ¬ W env.locals) (hc : ∀ x b, env.cells.lookup x = some b → ¬ W b)
    (hk : ∀ b o, ¬ W b → s.heap.get? b = some o → h'.get? b = some o) :
    ∃ F', SR c env F' st { s with heap := h', toks := tk } ∧ Le F F' ∧ (∀ b o, F'.get? b = some o → ¬ W b ∧ (F.get? b = some o ∨ s.heap.get? b = none)) ∧ (∀ b o, ¬ W b → s.heap.get? b = none → h'.get? b = some o → F'.get? b = some o) := by
  obtain ⟨F', h1, h2, h3, h4⟩ := S.wf.poke W h' tk hW hk
  have hno : ∀ b, F.get? b = none → (∃ o, s.heap.get? b = some o) → F'.get? b = none := fun b hb ⟨o, ho⟩ => by
    cases e : F'.get? b with
    | none => rfl
    | some q =>
      rcases (h3 b q e).2 with h | h
      · rw [hb] at h; cases h
      · rw [ho] at h; cases h
  refine ⟨F', ⟨h1, ?_, hno _ S.off S.loc_live, S.offO, ?_, S.apart, fun hf x a hx => hno a (S.celoff hf x a hx) (S.cell_live hx), fun x a hx => ⟨(S.celO x a hx).1, ?_⟩⟩, h2, h3, h4⟩
  · obtain ⟨m, hn, hm⟩ := S.loc
    exact ⟨m, hn.at' fun o e => hk _ o hl e, fun x v h1 h2' => let ⟨xv, h3, h4⟩ := hm x v h1 h2'; ⟨xv, h3, h4.le h2⟩⟩
  · intro x hx
    obtain ⟨a, ov, h5, ⟨o, ho, hd⟩, h6⟩ := S.cel x hx
    exact ⟨a, ov, h5, ⟨o, hk _ o (hc x a h5) ho, hd⟩, fun v hv => let ⟨xv, h7, h8⟩ := h6 v hv; ⟨xv, h7, h8.le h2⟩⟩
  · obtain ⟨o, ho⟩ := S.cell_live hx
    exact ⟨o, hk _ o (hc x a hx) ho⟩
theorem Out.poke {c : Cx} {env : Env} {F F1 : Heap} {st st1 : St} {s s1 : Shared} (S : SR c env F st s) (O : Out c env F st s F1 st1 s1) (W : Addr → Prop) (h' : Heap) (tk : Nat) (hW : ∀ b, W b → s.heap.get? b = none ∧ st1.ob b = none ∧ F1.get? b = none)
    (hk : ∀ b o, ¬ W b → s1.heap.get? b = some o → h'.get? b = some o) :
    ∃ F', Out c env F st s F' st1 { s1 with heap := h', toks := tk } ∧ Le F1 F' ∧ (∀ b, W b → F'.get? b = none) ∧ (∀ b o, ¬ W b → s1.heap.get? b = none → h'.get? b = some o → F'.get? b = some o) := by
  have hl : ¬ W env.locals := fun hw => by
    obtain ⟨o, ho⟩ := S.loc_live
    rw [(hW _ hw).1] at ho; cases ho
  have hc : ∀ x b, env.cells.lookup x = some b → ¬ W b := fun x b hx hw => by
    obtain ⟨o, ho⟩ := S.cell_live hx
    rw [(hW _ hw).1] at ho; cases ho
  obtain ⟨F', h1, h2, h3, h4⟩ := O.sr.poke W h' tk (fun b hb => (hW b hb).2) hl hc hk
  refine ⟨F', ⟨h1, Le.trans O.le h2, fun b o h5 h6 h7 => ?_, fun b o h5 => ?_⟩, h2, fun b hb => ?_, h4⟩
  · obtain ⟨h8, h9⟩ := O.keep b o h5 h6 h7
    exact ⟨hk b o (fun hw => by rw [(hW b hw).1] at h7; cases h7) h8, h9⟩
  · rcases (h3 b o h5).2 with h6 | h6
    · exact O.new b o h6
    · cases hs : s.heap.get? b with
      | none => exact .inr (.inl rfl)
      | some q =>
        cases ho : st.ob b with
        | some r => exact .inr (.inr (by simp))
        | none =>
          by_cases hf : Fra env b
          · obtain ⟨_, _, z, hz⟩ := O.sr.fra hf
            rw [hz] at h6; cases h6
          · rw [(O.keep b q ho hf hs).1] at h6; cases h6
  · cases e : F'.get? b with
    | none => rfl
    | some q => exact absurd hb (h3 b q e).1
end Mine
end
section
open PySem PySem.W PyProof.Rows PySem.Calls
namespace Mine
section
variable {c : Cx} {n : Nat} {sc : Sc} {st : St}
theorem use {α β : Type} {rel : Heap → α → β → Prop} {t : List Value → Sem α} {args : List AV} {K : β → Ob → Prop} {A : Around} {env : Env} {F : Heap} {s : Shared} {xs : List Value}
    (h : Op c n rel t args st.ob K) (hR : Room A n) (S : SR c env F st s) (hx : Reps c F xs args) {Q : α → Shared → Prop} {E : Value → Shared → Prop}
    (hQ : ∀ F' s' x v ob', K v ob' → Out c env F st s F' ⟨st.vars, ob'⟩ s' → rel F' x v → Q x s') : wpAny (model c.prog c.w) A (t xs) Q E s :=
  h A F s xs hR S.wf hx Q E fun F' s' x v ob' hk W M r => hQ F' s' x v ob' hk (S.lift W M) r
noncomputable def isLC (sc : Sc) (x : Str) : Bool := match sc.s.names.lookup x with | some .local => true | some .cell => true | _ => false
theorem Name_lc {x : Str} {pos : Pos} {v : AV} {K : AV → St → Prop} (hv : st.vars x = some v) (h : K v st) (hx : isLC sc x = true := by rfl) (hk : sc.s.kind = .function := by rfl)
    (hd : (x == ("__debug__" : Str)) = false := by decide) : Ev c n sc (.Name x pos) st K := by
  intro A env F s hR hE S Q E hQ
  have hk' : env.scope.kind = .function := by rw [hE.scope]; exact hk
  have hko : env.kindOf x = sc.s.names.lookup x := by unfold Env.kindOf; rw [hE.scope]
  unfold isLC at hx
  split at hx
  · rename_i e
    rw [e] at hko
    obtain ⟨m, hn, hm⟩ := S.loc
    obtain ⟨xv, h1, h2⟩ := hm x v hko hv
    exact wpAny_Name (wpAny_loadName_local hk' hko hn h1 (hQ F s xv v st h (.refl S) h2)) hd
  · rename_i e
    rw [e] at hko
    obtain ⟨a, ov, h1, h2, h3⟩ := S.cel x hko
    obtain ⟨xv, rfl, h5⟩ := h3 v hv
    exact wpAny_Name (wpAny_loadName_cell hk' hko h1 h2 (hQ F s xv v st h (.refl S) h5)) hd
  · cases hx
theorem Name_g {x : Str} {pos : Pos} {xv : Value} {v : AV} {K : AV → St → Prop} (hv : c.mg x = some xv) (hr : Rep c c.s0.heap xv v) (h : K v st) (hx : sc.s.names.lookup x = some .globalImplicit := by rfl)
    (hk : sc.s.kind = .function := by rfl) (hd : (x == ("__debug__" : Str)) = false := by decide) : Ev c n sc (.Name x pos) st K := by
  intro A env F s hR hE S Q E hQ
  have hk' : env.scope.kind = .function := by rw [hE.scope]; exact hk
  have hko : env.kindOf x = some .globalImplicit := by unfold Env.kindOf; rw [hE.scope]; exact hx
  refine Name_function_global hk' hko (loadGlobal_global (mg := c.mg) ?_ hv (hQ F s xv v st h (.refl S) (hr.le S.wf.base))) hd
  rw [hE.globals]; exact c.g.keeps (Le.trans S.wf.base S.wf.le)
theorem Name_b {x : Str} {pos : Pos} {xv : Value} {K : AV → St → Prop} (hg : c.mg x = none) (hv : c.mb x = some xv) (h : K (.raw xv) st) (hx : sc.s.names.lookup x = some .globalImplicit := by rfl)
    (hk : sc.s.kind = .function := by rfl) (hd : (x == ("__debug__" : Str)) = false := by decide) : Ev c n sc (.Name x pos) st K := by
  intro A env F s hR hE S Q E hQ
  have hk' : env.scope.kind = .function := by rw [hE.scope]; exact hk
  have hko : env.kindOf x = some .globalImplicit := by unfold Env.kindOf; rw [hE.scope]; exact hx
  refine Name_function_global hk' hko (loadGlobal_builtin (mg := c.mg) (mb := c.mb) ?_ hg ?_ hv (hQ F s xv (.raw xv) st h (.refl S) (.raw xv))) hd
  · rw [hE.globals]; exact c.g.keeps (Le.trans S.wf.base S.wf.le)
  · rw [hE.builtins]; exact c.b.keeps (Le.trans S.wf.base S.wf.le)
theorem C_int {i : Int} {k : Nat} {pos : Pos} {K : AV → St → Prop} (h : K (.int i) st) : Ev c n sc (.Constant (.int i) k pos) st K :=
  fun _ _ F _ _ _ S _ _ hQ => wpAny_Constant_int (hQ F _ _ _ st h ⟨⟨S.wf.tok _, S.loc, S.off, S.offO, S.cel, S.apart, S.celoff, S.celO⟩, Le.refl F, fun _ _ h1 _ h3 => ⟨h3, h1⟩, fun _ _ h => .inl h⟩ (.int i _))
theorem C_str {i : Str} {k : Nat} {pos : Pos} {K : AV → St → Prop} (h : K (.str i) st) : Ev c n sc (.Constant (.str i) k pos) st K :=
  fun _ _ F _ _ _ S _ _ hQ => Constant_str (hQ F _ _ _ st h ⟨⟨S.wf.tok _, S.loc, S.off, S.offO, S.cel, S.apart, S.celoff, S.celO⟩, Le.refl F, fun _ _ h1 _ h3 => ⟨h3, h1⟩, fun _ _ h => .inl h⟩ (.str i _))
theorem C_bool {i : Bool} {k : Nat} {pos : Pos} {K : AV → St → Prop} (h : K (.bool i) st) : Ev c n sc (.Constant (.bool i) k pos) st K :=
  fun _ _ F _ _ _ S _ _ hQ => wpAny_pure (hQ F _ _ _ st h (.refl S) (.bool i))
theorem C_none {k : Nat} {pos : Pos} {K : AV → St → Prop} (h : K .none st) : Ev c n sc (.Constant .none k pos) st K :=
  fun _ _ F _ _ _ S _ _ hQ => wpAny_pure (hQ F _ _ _ st h (.refl S) .none)
noncomputable def op1 {α : Type} (f : Value → Sem α) : List Value → Sem α := fun xs => f (xs.getD 0 .none)
noncomputable def op2 {α : Type} (f : Value → Value → Sem α) : List Value → Sem α := fun xs => f (xs.getD 0 .none) (xs.getD 1 .none)
noncomputable def op3 {α : Type} (f : Value → Value → Value → Sem α) : List Value → Sem α := fun xs => f (xs.getD 0 .none) (xs.getD 1 .none) (xs.getD 2 .none)
theorem BinOp_ {l r : Expr} {op : Operator} {pos : Pos} {K : AV → St → Prop}
    (h : Ev c n sc l st fun a st1 => Ev c n sc r st1 fun b st2 => Op c n (Rep c) (op2 (binaryOp op)) [a, b] st2.ob fun v ob => K v ⟨st2.vars, ob⟩) : Ev c n sc (.BinOp l op r pos) st K := by
  intro A env F s hR hE S Q E hQ
  refine wpAny_BinOp (h A env F s hR hE S _ E fun F1 s1 x a st1 h1 o1 r1 => h1 A env F1 s1 hR hE o1.sr _ E fun F2 s2 y b st2 h2 o2 r2 => ?_)
  exact use h2 hR o2.sr (.cons (r1.le o2.le) (.cons r2 .nil)) fun F3 s3 z v ob' hk o3 r3 => hQ F3 s3 z v _ hk ((o1.trans o2).trans o3) r3
theorem Cmp_ {l r : Expr} {op : CmpOp} {pos : Pos} {K : AV → St → Prop}
    (h : Ev c n sc l st fun a st1 => Ev c n sc r st1 fun b st2 => Op c n (Rep c) (op2 (compareOp op)) [a, b] st2.ob fun v ob => K v ⟨st2.vars, ob⟩) (hm : behindInMarks op r = false := by with_unfolding_all rfl) : Ev c n sc (.Compare l [op] [r] pos) st K := by
  intro A env F s hR hE S Q E hQ
  refine wpAny_Compare1 (h A env F s hR hE S _ E fun F1 s1 x a st1 h1 o1 r1 => h1 A env F1 s1 hR hE o1.sr _ E fun F2 s2 y b st2 h2 o2 r2 => ?_) hm
  exact use h2 hR o2.sr (.cons (r1.le o2.le) (.cons r2 .nil)) fun F3 s3 z v ob' hk o3 r3 => hQ F3 s3 z v _ hk ((o1.trans o2).trans o3) r3
theorem TCmp_ {l r : Expr} {op : CmpOp} {pos : Pos} {K : Bool → St → Prop}
    (h : Ev c n sc l st fun a st1 => Ev c n sc r st1 fun b st2 => Op c n (Rep c) (op2 (compareOp op)) [a, b] st2.ob fun v ob => ∃ q, v = .bool q ∧ K q ⟨st2.vars, ob⟩) (hm : behindInMarks op r = false := by with_unfolding_all rfl) : Te c n sc (.Compare l [op] [r] pos) st K := by
  intro A env F s hR hE S Q E hQ
  refine wpAny_isTrue_Compare1 (h A env F s hR hE S _ E fun F1 s1 x a st1 h1 o1 r1 => h1 A env F1 s1 hR hE o1.sr _ E fun F2 s2 y b st2 h2 o2 r2 => ?_) hm
  refine use h2 hR o2.sr (.cons (r1.le o2.le) (.cons r2 .nil)) fun F3 s3 z v ob' hk o3 r3 => ?_
  obtain ⟨q, rfl, hk⟩ := hk
  first | (obtain ⟨_, rfl⟩ := Rep.int' r3) | (obtain ⟨_, rfl⟩ := Rep.str' r3) | (obtain rfl := Rep.bool' r3) | (obtain rfl := Rep.own' r3) | (obtain rfl := Rep.none' r3) | (obtain rfl := Rep.raw' r3) | cases r3
  exact wpAny_truthy_bool (hQ F3 s3 q q _ hk ((o1.trans o2).trans o3) rfl)
/-- a test that is a call or a name, of a bool -/
theorem TVal_ {e : Expr} {K : Bool → St → Prop} (h : Ev c n sc e st fun a st1 => ∃ q, a = .bool q ∧ K q st1)
    (he : ∀ env whole, isTrue e env whole = (do let v ← whole; standAt e.pos; holding [v] (truthy v)) := by intro _ _; rfl) : Te c n sc e st K := by
  intro A env F s hR hE S Q E hQ
  refine isTrue_plain (h A env F s hR hE S _ E fun F1 s1 x a st1 h1 o1 r1 => ?_) (he _ _)
  obtain ⟨q, rfl, hk⟩ := h1
  first | (obtain ⟨_, rfl⟩ := Rep.int' r1) | (obtain ⟨_, rfl⟩ := Rep.str' r1) | (obtain rfl := Rep.bool' r1) | (obtain rfl := Rep.own' r1) | (obtain rfl := Rep.none' r1) | (obtain rfl := Rep.raw' r1) | cases r1
  exact wpAny_truthy_bool (hQ F1 s1 q q _ hk o1 rfl)
theorem TNot_ {e : Expr} {pos : Pos} {K : Bool → St → Prop} (h : Te c n sc e st fun a st1 => K (!a) st1) : Te c n sc (.UnaryOp .Not e pos) st K := by
  intro A env F s hR hE S Q E hQ
  refine isTrue_not (h A env F s hR hE S _ E fun F1 s1 x a st1 h1 o1 r1 => ?_)
  first | (obtain ⟨_, rfl⟩ := Rep.int' r1) | (obtain ⟨_, rfl⟩ := Rep.str' r1) | (obtain rfl := Rep.bool' r1) | (obtain rfl := Rep.own' r1) | (obtain rfl := Rep.none' r1) | (obtain rfl := Rep.raw' r1) | cases r1
  exact hQ F1 s1 _ _ _ h1 o1 rfl
theorem TAnd_ {a b : Expr} {pos : Pos} {K : Bool → St → Prop} (h : Te c n sc a st fun q st1 => if q then Te c n sc b st1 K else K false st1) : Te c n sc (.BoolOp .And [a, b] pos) st K := by
  intro A env F s hR hE S Q E hQ
  refine isTrue_and (h A env F s hR hE S _ E fun F1 s1 x q st1 h1 o1 r1 => ?_)
  first | (obtain ⟨_, rfl⟩ := Rep.int' r1) | (obtain ⟨_, rfl⟩ := Rep.str' r1) | (obtain rfl := Rep.bool' r1) | (obtain rfl := Rep.own' r1) | (obtain rfl := Rep.none' r1) | (obtain rfl := Rep.raw' r1) | cases r1
  cases x with
  | false => exact hQ F1 s1 _ _ _ h1 o1 rfl
  | true =>
    refine isTrue_and (h1 A env F1 s1 hR hE o1.sr _ E fun F2 s2 x q st2 h2 o2 r2 => ?_)
    first | (obtain ⟨_, rfl⟩ := Rep.int' r2) | (obtain ⟨_, rfl⟩ := Rep.str' r2) | (obtain rfl := Rep.bool' r2) | (obtain rfl := Rep.own' r2) | (obtain rfl := Rep.none' r2) | (obtain rfl := Rep.raw' r2) | cases r2
    cases x with
    | false => exact hQ F2 s2 _ _ _ h2 (o1.trans o2) rfl
    | true => exact isTrue_and_nil (hQ F2 s2 _ _ _ h2 (o1.trans o2) rfl)
theorem TOr_ {a b : Expr} {pos : Pos} {K : Bool → St → Prop} (h : Te c n sc a st fun q st1 => if q then K true st1 else Te c n sc b st1 K) : Te c n sc (.BoolOp .Or [a, b] pos) st K := by
  intro A env F s hR hE S Q E hQ
  refine isTrue_or (h A env F s hR hE S _ E fun F1 s1 x q st1 h1 o1 r1 => ?_)
  first | (obtain ⟨_, rfl⟩ := Rep.int' r1) | (obtain ⟨_, rfl⟩ := Rep.str' r1) | (obtain rfl := Rep.bool' r1) | (obtain rfl := Rep.own' r1) | (obtain rfl := Rep.none' r1) | (obtain rfl := Rep.raw' r1) | cases r1
  cases x with
  | true => exact hQ F1 s1 _ _ _ h1 o1 rfl
  | false =>
    refine isTrue_or (h1 A env F1 s1 hR hE o1.sr _ E fun F2 s2 x q st2 h2 o2 r2 => ?_)
    first | (obtain ⟨_, rfl⟩ := Rep.int' r2) | (obtain ⟨_, rfl⟩ := Rep.str' r2) | (obtain rfl := Rep.bool' r2) | (obtain rfl := Rep.own' r2) | (obtain rfl := Rep.none' r2) | (obtain rfl := Rep.raw' r2) | cases r2
    cases x with
    | true => exact hQ F2 s2 _ _ _ h2 (o1.trans o2) rfl
    | false => exact isTrue_or_nil (hQ F2 s2 _ _ _ h2 (o1.trans o2) rfl)
theorem EAnd_ {a b : Expr} {pos : Pos} {K : AV → St → Prop} (h : Ev c n sc a st fun v st1 => ∃ q, v = .bool q ∧ if q then Ev c n sc b st1 K else K (.bool false) st1) : Ev c n sc (.BoolOp .And [a, b] pos) st K := by
  intro A env F s hR hE S Q E hQ
  refine BoolOp_and (h A env F s hR hE S _ E fun F1 s1 x v st1 h1 o1 r1 => ?_)
  obtain ⟨q, rfl, hk⟩ := h1
  first | (obtain ⟨_, rfl⟩ := Rep.int' r1) | (obtain ⟨_, rfl⟩ := Rep.str' r1) | (obtain rfl := Rep.bool' r1) | (obtain rfl := Rep.own' r1) | (obtain rfl := Rep.none' r1) | (obtain rfl := Rep.raw' r1) | cases r1
  refine wpAny_truthy_bool ?_
  cases q with
  | false => exact hQ F1 s1 _ _ _ hk o1 (.bool false)
  | true => exact BoolOp_one (hk A env F1 s1 hR hE o1.sr _ E fun F2 s2 x v st2 h2 o2 r2 => hQ F2 s2 _ _ _ h2 (o1.trans o2) r2)
theorem EIf_ {t a b : Expr} {pos : Pos} {K : AV → St → Prop} (h : Te c n sc t st fun q st1 => if q then Ev c n sc a st1 K else Ev c n sc b st1 K) : Ev c n sc (.IfExp t a b pos) st K := by
  intro A env F s hR hE S Q E hQ
  refine IfExp_ (h A env F s hR hE S _ E fun F1 s1 x q st1 h1 o1 r1 => ?_)
  first | (obtain ⟨_, rfl⟩ := Rep.int' r1) | (obtain ⟨_, rfl⟩ := Rep.str' r1) | (obtain rfl := Rep.bool' r1) | (obtain rfl := Rep.own' r1) | (obtain rfl := Rep.none' r1) | (obtain rfl := Rep.raw' r1) | cases r1
  cases x with
  | false => exact h1 A env F1 s1 hR hE o1.sr _ E fun F2 s2 x v st2 h2 o2 r2 => hQ F2 s2 _ _ _ h2 (o1.trans o2) r2
  | true => exact h1 A env F1 s1 hR hE o1.sr _ E fun F2 s2 x v st2 h2 o2 r2 => hQ F2 s2 _ _ _ h2 (o1.trans o2) r2
noncomputable abbrev Ar (c : Cx) (n : Nat) (sc : Sc) (pos : Pos) (es : List Expr) (st : St) (K : List AV → St → Prop) : Prop := Tr c n sc (Reps c) (fun env => spliced (backTo pos (starEach es env))) st K
theorem Ar_nil {pos : Pos} {K : List AV → St → Prop} (h : K [] st) : Ar c n sc pos [] st K :=
  fun _ _ F _ _ _ S _ _ hQ => args_nil (hQ F _ _ _ st h (.refl S) .nil)
theorem Ar_cons {pos : Pos} {e : Expr} {es : List Expr} {K : List AV → St → Prop} (h : Ev c n sc e st fun v st1 => Ar c n sc pos es st1 fun vs st2 => K (v :: vs) st2)
    (he : ∀ env, starEach (e :: es) env = (false, eval e env) :: starEach es env := by intro _; rfl) : Ar c n sc pos (e :: es) st K := by
  intro A env F s hR hE S Q E hQ
  exact args_cons (h A env F s hR hE S _ E fun F1 s1 x v st1 h1 o1 r1 => h1 A env F1 s1 hR hE o1.sr _ E fun F2 s2 xs vs st2 h2 o2 r2 =>
    hQ F2 s2 _ _ _ h2 (o1.trans o2) (.cons (r1.le o2.le) r2)) (he _)
theorem Op.newTuple {vs : List AV} {ob : Ob} {K : AV → Ob → Prop} (h : K (.tup vs) ob) (hl : vs.length ≤ sizeLine := by decide) : Op c n (Rep c) (fun xs => newTuple xs) vs ob K := by
  intro A F s xs hR W hx Q E hQ
  have hlen : xs.length = vs.length := hx.length
  refine wpAny_newTuple ?_ (by rw [hlen]; exact hl)
  obtain ⟨F', h1, h2, h3⟩ := W.ext (s.heap.push { cls := .type "tuple", data := .seq xs.toArray }) s.toks fun b o e => Heap.get?_push_of_some _ e
  refine hQ F' _ _ _ _ h h1 h2 (.tup ⟨_, h3 _ _ ?_ (Heap.get?_push_size _ rfl), rfl, _, rfl⟩ (hx.le h2.le))
  cases e : s.heap.get? s.heap.objs.size with
  | none => rfl
  | some o => exact absurd (Heap.lt_size e) (Nat.lt_irrefl _)
theorem Tup_ {es : List Expr} {k : Nat} {pos : Pos} {K : AV → St → Prop} (h : Ar c n sc pos es st fun vs st1 => vs.length ≤ sizeLine ∧ K (.tup vs) st1) : Ev c n sc (.Tuple es k pos) st K := by
  intro A env F s hR hE S Q E hQ
  refine Tuple_ (h A env F s hR hE S _ E fun F1 s1 xs vs st1 h1 o1 r1 => ?_)
  refine use (K := fun v ob => v = .tup vs ∧ ob = st1.ob) (Op.newTuple ⟨rfl, rfl⟩ h1.1) hR o1.sr r1 fun F2 s2 x v ob' hk o2 r2 => ?_
  obtain ⟨rfl, rfl⟩ := hk
  exact hQ F2 s2 _ _ _ h1.2 (o1.trans o2) r2
end
end Mine
end
section
open PySem PySem.W PyProof.Rows PySem.Calls
namespace Mine
theorem cellsFrom_mem : ∀ (names : List (Str × NameKind)) (k : Nat) (acc : List (Str × Addr)) (x : Str), ((x, NameKind.cell) ∈ names ∨ (acc.lookup x).isSome = true) → ((cellsFrom k names acc).lookup x).isSome = true
  | [], k, acc, x, h => by
    rcases h with h | h
    · cases h
    · exact h
  | (y, kd) :: r, k, acc, x, h => by
    unfold cellsFrom
    split
    · refine cellsFrom_mem r _ _ x ?_
      rcases h with h | h
      · rcases List.mem_cons.mp h with e | h
        · right
          cases e
          simp [List.lookup_cons]
        · exact .inl h
      · right
        rw [List.lookup_cons]
        split
        · rfl
        · exact h
    · rename_i hk
      refine cellsFrom_mem r _ _ x ?_
      rcases h with h | h
      · rcases List.mem_cons.mp h with e | h
        · cases e; exact absurd rfl hk
        · exact .inl h
      · exact .inr h
theorem mem_of_lookup' {α : Type} : ∀ {l : List (Str × α)} {n : Str} {v : α}, l.lookup n = some v → (n, v) ∈ l
  | (k, v) :: r, n, c, h => by
    rw [List.lookup_cons] at h
    cases hb : n == k with
    | true => rw [hb] at h; cases h; rw [beq_iff_eq.mp hb]; exact List.mem_cons_self
    | false => rw [hb] at h; exact List.mem_cons_of_mem _ (mem_of_lookup' h)
/-- what the top has made of a def -/
structure Def (c : Cx) (fa : Addr) (ps : List Str) (body : List Stmt) (sc : Sc) : Prop where
  ex : ∃ o fd, c.s0.heap.get? fa = some o ∧ o.data = .func fd ∧ fd.body = .stmts body ∧ fd.scope = sc.s ∧ fd.closure = [] ∧ fd.globals = mainGlobals ∧ fd.builtins = builtinsNs ∧
    c.s0.heap.CodeRec fd.code fd.qualname ∧ ∀ vals : List Value, vals.length = ps.length → bindArgs fd ⟨vals, []⟩ = pure (ps.zip vals)
noncomputable def scOk (sc : Sc) (ps : List Str) : Bool := sc.s.kind == .function && !sc.s.isCoroutine && !sc.s.isGenerator && ps.all (isLC sc)
noncomputable def bindV : List Str → List AV → Vs → Vs
  | p :: ps, v :: vs, m => bindV ps vs (m.set p v)
  | _, _, m => m
theorem bindV_ok {c : Cx} {F : Heap} {kindOf : Str → Option NameKind} : ∀ (ps : List Str) (xs : List Value) (vs : List AV) (m cm : Str → Option Value) (mv : Vs), Reps c F xs vs →
    (∀ x v, mv x = some v → (kindOf x = some .local → ∃ xv, m x = some xv ∧ Rep c F xv v) ∧ (kindOf x ≠ some .local → ∃ xv, cm x = some xv ∧ Rep c F xv v)) →
    ∀ x v, bindV ps vs mv x = some v → (kindOf x = some .local → ∃ xv, bindL kindOf (ps.zip xs) m x = some xv ∧ Rep c F xv v) ∧ (kindOf x ≠ some .local → ∃ xv, bindC kindOf (ps.zip xs) cm x = some xv ∧ Rep c F xv v)
  | [], _, _, m, cm, mv, _, h => by simpa [bindV, bindL, bindC] using h
  | p :: ps, [], _, m, cm, mv, .nil, h => by simpa [bindV, bindL, bindC] using h
  | p :: ps, x :: xs, _, m, cm, mv, .cons r rs, h => by
    intro y v hy
    simp only [List.zip_cons_cons, bindL, bindC, bindV] at hy ⊢
    refine bindV_ok ps xs _ _ _ _ rs ?_ y v hy
    intro z u hz
    unfold Vs.set at hz
    by_cases hzp : z = p
    · subst hzp
      rw [if_pos rfl] at hz
      cases hz
      constructor
      · intro hk; rw [if_pos hk]; exact ⟨x, by simp, r⟩
      · intro hk; rw [if_neg hk]; exact ⟨x, by simp, r⟩
    · rw [if_neg hzp] at hz
      obtain ⟨h1, h2⟩ := h z u hz
      constructor
      · intro hk
        split
        · simpa [hzp] using h1 hk
        · exact h1 hk
      · intro hk
        split
        · exact h2 hk
        · simpa [hzp] using h2 hk
noncomputable def fval : AF → AV
  | .ret v => v
  | _ => .none
section
variable {c : Cx} {n : Nat} {sc : Sc}
theorem Room.deeper {A : Around} (h : Room A (n + 1)) (env : Env) : Room (A.deeper env) n :=
  ⟨h.handled, by have := h.depth; show A.depth + 1 + n ≤ _; omega, by have := h.units; show A.units + 3 + 8 * n + 200 ≤ _; omega⟩
theorem Fn_body {fa : Addr} {ps : List Str} {body : List Stmt} {args : List AV} {ob : Ob} {K : AV → Ob → Prop} (D : Def c fa ps body sc) (hsc : scOk sc ps = true) (hlen : args.length = ps.length)
    (h : Exs c n sc body ⟨bindV ps args fun _ => none, ob⟩ fun f st' => ∃ ob', K (fval f) ob' ∧ ∀ a o, ob' a = some o → st'.ob a = some o) : Fn c (n + 1) (.ref fa) args ob K := by
  intro A F s xs hR W hx Q E hQ
  obtain ⟨o, fd, ho, hd, hb, hsce, hcl, hgl, hbu, hcr, hbind⟩ := D.ex
  obtain ⟨sc, fn⟩ := sc
  dsimp only at hsce
  subst hsce
  have hup : Le c.s0.heap s.heap := Le.trans W.base W.le
  simp only [scOk, Bool.and_eq_true, beq_iff_eq, Bool.not_eq_true'] at hsc
  obtain ⟨⟨⟨hkind, hco⟩, hge⟩, hps⟩ := hsc
  have hlx : xs.length = ps.length := hx.length.trans hlen
  have hkinds : ∀ x ∈ ps.zip xs, fd.scope.names.lookup x.1 = some .local ∨ (fd.scope.names.lookup x.1 = some .cell ∧ ((cellsFrom (s.heap.objs.size + 1) fd.scope.names []).lookup x.1).isSome = true) := by
    intro x hx'
    have h1 := List.all_eq_true.mp hps x.1 (List.of_mem_zip hx').1
    unfold isLC at h1
    split at h1
    · rename_i e; exact .inl e
    · rename_i e; exact .inr ⟨e, cellsFrom_mem _ _ _ _ (.inl (mem_of_lookup' e))⟩
    · cases h1
  refine wpAny_call (codeAny_call_cells (by have := hR.depth; omega) (hup _ _ ho) hd (c.lim.keeps hup) (hcr.keeps hup) hb (hbind xs hlx) hcl hkinds (fun s₁ X => ?_) hco hge hkind)
  obtain ⟨hh, tk, hs1⟩ := X.toInCall.same
  have hsz : (callEnvC fd s.heap.objs.size fa).locals = s.heap.objs.size := rfl
  have hdead : ∀ a, s.heap.objs.size ≤ a → s.heap.get? a = none := fun a ha => by
    cases e : s.heap.get? a with
    | none => rfl
    | some q => exact absurd (Heap.lt_size e) (Nat.not_lt.mpr ha)
  have hFdead : ∀ a, s.heap.objs.size ≤ a → F.get? a = none := fun a ha => by
    cases e : F.get? a with
    | none => rfl
    | some q => exact nomatch (hdead a ha).symm.trans (W.le _ _ e)
  have hcab : ∀ x a, (callEnvC fd s.heap.objs.size fa).cells.lookup x = some a → s.heap.objs.size ≤ a := fun x a e => Nat.le_of_lt (X.above x a (mem_of_lookup' e))
  have hb0 := bindV_ok (c := c) (F := F) (kindOf := (callEnvC fd s.heap.objs.size fa).kindOf) ps xs args (fun _ => none) (fun _ => none) (fun _ => none) hx (fun _ _ h => nomatch h)
  have S1 : SR c (callEnvC fd s.heap.objs.size fa) F ⟨bindV ps args fun _ => none, ob⟩ s₁ := by
    refine ⟨⟨?_, ?_, Le.trans W.le X.toInCall.keep, W.base, fun a o e => ⟨(W.own a o e).1, (W.own a o e).2.mono (Le.refl F) fun q hq => X.toInCall.keep _ _ hq⟩⟩, ⟨_, X.toInCall.ns, fun x v hk hv => (hb0 x v hv).1 hk⟩, hFdead _ (Nat.le_refl _), W.fresh (hdead _ (Nat.le_refl _)), ?_, fun _ => X.apart, fun _ x a e => hFdead a (hcab x a e), fun x a e => ⟨W.fresh (hdead a (hcab x a e)), let ⟨q, h1, _⟩ := X.cell x a e; ⟨q, h1⟩⟩⟩
    · rw [hs1]; exact W.gens
    · rw [hs1]; exact W.os
    · intro x hk
      have h1 : ((cellsFrom (s.heap.objs.size + 1) fd.scope.names []).lookup x).isSome = true := cellsFrom_mem _ _ _ _ (.inl (mem_of_lookup' hk))
      obtain ⟨a, ha⟩ := Option.isSome_iff_exists.mp h1
      exact ⟨a, _, ha, X.cell x a ha, fun v hv => (hb0 x v hv).2 (by rw [hk]; decide)⟩
  refine h _ _ F s₁ (hR.deeper _) ⟨rfl, hgl, hbu, fun _ => by intro e; cases e⟩ S1 _ _ fun F' s' f af st' hK O r => ?_
  obtain ⟨ob', hK, hsub⟩ := hK
  obtain ⟨W', M'⟩ := O.sr.wf.drop hsub
  have fin : ∀ v, Rep c F' v (fval af) → Q v s' := fun v hv => hQ F' s' v _ ob' hK W' ⟨O.le, fun b q h1 h2 => ?_, fun b q h1 => ?_⟩ hv
  · cases r with
    | ret r => exact fin _ r
    | next => exact fin _ .none
    | brk => exact fin _ .none
    | cont => exact fin _ .none
  · have hnf : ¬ Fra (callEnvC fd s.heap.objs.size fa) b := by
      rintro (rfl | ⟨_, x, hx'⟩)
      · exact nomatch (hdead s.heap.objs.size (Nat.le_refl _)).symm.trans h2
      · exact nomatch (hdead _ (hcab x b hx')).symm.trans h2
    obtain ⟨h3, h4⟩ := O.keep b q h1 hnf (X.toInCall.keep b q h2)
    exact ⟨h3, (M'.keep b q h4 h3).2⟩
  · rcases O.new b q h1 with h2 | h2 | h2
    · exact .inl h2
    · refine .inr (.inl ?_)
      cases e : s.heap.get? b with
      | none => rfl
      | some z => rw [X.toInCall.keep b z e] at h2; cases h2
    · exact .inr (.inr h2)
theorem Call_fn {x : Str} {p pos : Pos} {args : List Expr} {fa : Addr} {ps : List Str} {body : List Stmt} {sc' : Sc} {e : Expr} {K : AV → St → Prop} {st : St} (D : Def c fa ps body sc') (hx : c.mg x = some (.ref fa))
    (h : Ar c n sc pos (e :: args) st fun vs st1 => Fn c n (.ref fa) vs st1.ob fun v ob => K v ⟨st1.vars, ob⟩)
    (hl : sc.s.names.lookup x = some .globalImplicit := by rfl) (hk : sc.s.kind = .function := by rfl) (hd : (x == ("__debug__" : Str)) = false := by decide)
    (he : ∀ env, starEach (e :: args) env = (false, eval e env) :: starEach args env := by intro _; rfl) : Ev c n sc (.Call (.Name x p) (e :: args) [] pos) st K := by
  intro A env F s hR hE S Q E hQ
  obtain ⟨o, fd, ho, hd', _⟩ := D.ex
  refine Call_ (Name_g (n := n) hx (.raw _) (K := fun v st1 => v = .raw (.ref fa) ∧ st1 = st) ⟨rfl, rfl⟩ hl hk hd A env F s hR hE S _ E fun F1 s1 f v st1 h1 o1 r1 => ?_)
  obtain ⟨rfl, rfl⟩ := h1
  first | (obtain ⟨_, rfl⟩ := Rep.int' r1) | (obtain ⟨_, rfl⟩ := Rep.str' r1) | (obtain rfl := Rep.bool' r1) | (obtain rfl := Rep.own' r1) | (obtain rfl := Rep.none' r1) | (obtain rfl := Rep.raw' r1) | cases r1
  refine callWith_def hd' (h A env F1 s1 hR hE o1.sr _ E fun F2 s2 xs vs st2 h2 o2 r2 => ⟨Le.trans o2.sr.wf.base o2.sr.wf.le _ _ ho, ?_⟩) (he env)
  exact use h2 hR o2.sr r2 fun F3 s3 z v ob' hk o3 r3 => hQ F3 s3 z v _ hk ((o1.trans o2).trans o3) r3
end
end Mine
end
section
open PySem PySem.W PyProof.Rows PySem.Calls
namespace Mine
section
variable {c : Cx} {n : Nat} {sc : Sc} {st : St}
theorem cell_ne_ns {h : Heap} {a b : Addr} {ov : Option Value} {m : Str → Option Value} (x : h.IsCell a ov) (y : h.Ns b m) : a ≠ b := by
  rintro rfl
  obtain ⟨o, h1, h2⟩ := x
  obtain ⟨o', es, ep, h3, h4, _⟩ := y
  rw [h1] at h3
  cases h3
  rw [h2] at h4
  cases h4
noncomputable def stOk (sc : Sc) (x : Str) : Bool := match sc.s.names.lookup x with | some .local => true | some .cell => sc.fn | _ => false
/-- a name is bound in the frame -/
theorem store {A : Around} {env : Env} {F : Heap} {s : Shared} {x : Str} {xv : Value} {v : AV} {Q : Unit → Shared → Prop} {E : Value → Shared → Prop} (hE : EnvIs env sc) (S : SR c env F st s) (r : Rep c F xv v)
    (hQ : ∀ s', Out c env F st s F ⟨st.vars.set x v, st.ob⟩ s' → Q () s') (hx : stOk sc x = true) (hk : sc.s.kind = .function) : wpAny (model c.prog c.w) A (bindName env x xv) Q E s := by
  have hk' : env.scope.kind = .function := by rw [hE.scope]; exact hk
  have hko : env.kindOf x = sc.s.names.lookup x := by unfold Env.kindOf; rw [hE.scope]
  refine wpAny_bindName ?_
  unfold stOk at hx
  split at hx
  · rename_i e
    rw [e] at hko
    obtain ⟨m, hn, hm⟩ := S.loc
    refine wpAny_storeName_local hko hn (fun h' hn' hs' => hQ _ ?_) (by rw [hk']; rfl)
    have hup : ∀ b o, b ≠ env.locals → s.heap.get? b = some o → h'.get? b = some o := fun b o hb e => hs'.extBut b o hb e
    have hF : ∀ b o, F.get? b = some o → b ≠ env.locals := fun b o e hb => by subst hb; rw [S.off] at e; cases e
    refine ⟨⟨⟨S.wf.gens, S.wf.os, fun b o e => hup b o (hF b o e) (S.wf.le b o e), S.wf.base, fun a o e => ⟨(S.wf.own a o e).1, (S.wf.own a o e).2.mono (Le.refl F) fun q hq => hup a q (fun e2 => ?_) hq⟩⟩, ⟨_, hn', fun y u hy hu => ?_⟩, S.off, S.offO, fun y hy => ?_, S.apart, S.celoff, fun y a hy => ⟨(S.celO y a hy).1, ?_⟩⟩, Le.refl F, fun b o h1 h2 h3 => ⟨hup b o (fun e => h2 (.inl e)) h3, h1⟩, fun b o h => .inl h⟩
    · subst e2
      have := S.offO
      rw [e] at this
      cases this
    · by_cases hyx : y = x
      · subst hyx
        have : v = u := by simpa [Vs.set] using hu
        subst this
        exact ⟨xv, by simp, r⟩
      · have hu' : st.vars y = some u := by simpa [Vs.set, hyx] using hu
        obtain ⟨yv, h1, h2⟩ := hm y u hy hu'
        exact ⟨yv, by simpa [hyx] using h1, h2⟩
    · obtain ⟨a, ov, h1, h2, h3⟩ := S.cel y hy
      have hyx : y ≠ x := by rintro rfl; rw [hko] at hy; cases hy
      refine ⟨a, ov, h1, h2.sameBut hs' (cell_ne_ns h2 hn), fun u hu => h3 u ?_⟩
      simpa [Vs.set, hyx] using hu
    · obtain ⟨_, o, ho⟩ := S.celO y a hy
      by_cases ha : a = env.locals
      · subst ha
        obtain ⟨o', _, _, ho', _⟩ := hn'
        exact ⟨o', ho'⟩
      · exact ⟨o, hup a o ha ho⟩
  · rename_i e
    rw [e] at hko
    obtain ⟨a, ov, h1, h2, h3⟩ := S.cel x hko
    obtain ⟨m, hn, hm⟩ := S.loc
    have hfn := hE.fn hx
    refine wpAny_storeName_cell hk' hko h1 h2 fun h' hc' hs' => hQ _ ?_
    have hup : ∀ b o, b ≠ a → s.heap.get? b = some o → h'.get? b = some o := fun b o hb e => hs'.extBut b o hb e
    have hF : ∀ b o, F.get? b = some o → b ≠ a := fun b o e hb => by subst hb; rw [S.celoff hfn x _ h1] at e; cases e
    refine ⟨⟨⟨S.wf.gens, S.wf.os, fun b o e => hup b o (hF b o e) (S.wf.le b o e), S.wf.base, fun b o e => ⟨(S.wf.own b o e).1, (S.wf.own b o e).2.mono (Le.refl F) fun q hq => hup b q (fun e2 => ?_) hq⟩⟩, ⟨m, hn.sameBut hs' (cell_ne_ns h2 hn).symm, fun y u hy hu => ?_⟩, S.off, S.offO, fun y hy => ?_, S.apart, S.celoff, fun y b hy => ⟨(S.celO y b hy).1, ?_⟩⟩, Le.refl F, fun b o h4 h5 h6 => ⟨hup b o (fun e => h5 (.inr ⟨hfn, x, e ▸ h1⟩)) h6, h4⟩, fun b o h => .inl h⟩
    · subst e2
      have := (S.celO x _ h1).1
      rw [e] at this
      cases this
    · have hyx : y ≠ x := by rintro rfl; rw [hko] at hy; cases hy
      exact hm y u hy (by simpa [Vs.set, hyx] using hu)
    · by_cases hyx : y = x
      · subst hyx
        refine ⟨a, _, h1, hc', fun u hu => ?_⟩
        have : v = u := by simpa [Vs.set] using hu
        subst this
        exact ⟨xv, rfl, r⟩
      · obtain ⟨b, ov', h4, h5, h6⟩ := S.cel y hy
        refine ⟨b, ov', h4, h5.sameBut hs' ?_, fun u hu => h6 u (by simpa [Vs.set, hyx] using hu)⟩
        rintro rfl
        exact hyx (name_of_addr (S.apart hfn) (mem_of_lookup' h4) (mem_of_lookup' h1))
    · obtain ⟨_, o, ho⟩ := S.celO y b hy
      by_cases hb : b = a
      · subst hb
        obtain ⟨o', ho', _⟩ := hc'
        exact ⟨o', ho'⟩
      · exact ⟨o, hup b o hb ho⟩
  · cases hx
theorem Ret_ {e : Expr} {pos : Pos} {K : AF → St → Prop} (h : Ev c n sc e st fun v st1 => K (.ret v) st1) : Ex c n sc (.Return (some e) pos) st K :=
  fun A env F s hR hE S Q E hQ => wpAny_Return_some (h A env F s hR hE S _ E fun F1 s1 x v st1 h1 o1 r1 => hQ F1 s1 _ _ _ h1 o1 (.ret r1))
theorem Exs_nil {K : AF → St → Prop} (h : K .next st) : Exs c n sc [] st K :=
  fun _ _ F s _ _ S _ _ hQ => wpAny_execs_nil (hQ F s _ _ st h (.refl S) .next)
theorem Exs_cons {b : Stmt} {bs : List Stmt} {K : AF → St → Prop} (h : Ex c n sc b st fun f st1 => match f with | .next => Exs c n sc bs st1 K | f => K f st1) : Exs c n sc (b :: bs) st K := by
  intro A env F s hR hE S Q E hQ
  refine wpAny_execs_cons (h A env F s hR hE S _ E fun F1 s1 x f st1 h1 o1 r1 => ?_)
  cases r1 with
  | next => exact h1 A env F1 s1 hR hE o1.sr _ E fun F2 s2 x f st2 h2 o2 r2 => hQ F2 s2 _ _ _ h2 (o1.trans o2) r2
  | brk => exact hQ F1 s1 _ _ _ h1 o1 .brk
  | cont => exact hQ F1 s1 _ _ _ h1 o1 .cont
  | ret r => exact hQ F1 s1 _ _ _ h1 o1 (.ret r)
theorem If_ {t : Expr} {a b : List Stmt} {pos : Pos} {K : AF → St → Prop} (h : Te c n sc t st fun q st1 => if q then Exs c n sc a st1 K else Exs c n sc b st1 K) : Ex c n sc (.If t a b pos) st K := by
  intro A env F s hR hE S Q E hQ
  refine wpAny_If (h A env F s hR hE S _ E fun F1 s1 x q st1 h1 o1 r1 => ?_)
  first | (obtain ⟨_, rfl⟩ := Rep.int' r1) | (obtain ⟨_, rfl⟩ := Rep.str' r1) | (obtain rfl := Rep.bool' r1) | (obtain rfl := Rep.own' r1) | (obtain rfl := Rep.none' r1) | (obtain rfl := Rep.raw' r1) | cases r1
  cases x with
  | false => exact h1 A env F1 s1 hR hE o1.sr _ E fun F2 s2 x v st2 h2 o2 r2 => hQ F2 s2 _ _ _ h2 (o1.trans o2) r2
  | true => exact h1 A env F1 s1 hR hE o1.sr _ E fun F2 s2 x v st2 h2 o2 r2 => hQ F2 s2 _ _ _ h2 (o1.trans o2) r2
/-- is this a comprehension? -/
noncomputable def isComp : Expr → Bool
  | .ListComp .. => true
  | .SetComp .. => true
  | .DictComp .. => true
  | _ => false
theorem swaps_not {e : Expr} {t : Option Expr} {k : Nat} {env : Env} (h : isComp e = false) : swapsWith e t k env = pure false := by
  cases e <;> first | rfl | cases h
theorem Asg_ {x : Str} {p pos : Pos} {e : Expr} {K : AF → St → Prop} (h : Ev c n sc e st fun v st1 => K .next ⟨st1.vars.set x v, st1.ob⟩) (hc : isComp e = false := by rfl)
    (hx : stOk sc x = true := by rfl) (hk : sc.s.kind = .function := by rfl) : Ex c n sc (.Assign [.Name x p] e pos) st K := by
  intro A env F s hR hE S Q E hQ
  rw [exec_Assign_Name env x p e pos (swaps_not hc)]
  refine wpAny_bind (wpAny_standAt (wpAny_bind (h A env F s hR hE S _ E fun F1 s1 xv v st1 h1 o1 r1 => wpAny_bind (wpAny_standAt (wpAny_bind (store hE o1.sr r1 (fun s2 o2 => wpAny_pure ?_) hx hk))))))
  exact hQ F1 s2 _ _ _ h1 (o1.trans o2) .next
theorem Sub_set {o i e : Expr} {p pos : Pos} {K : AF → St → Prop}
    (h : Ev c n sc e st fun v st1 => Ev c n sc o st1 fun ov st2 => Ev c n sc i st2 fun iv st3 => Op c n (fun _ (_ : Unit) (_ : Unit) => True) (op3 setItem) [ov, iv, v] st3.ob fun _ ob => K .next ⟨st3.vars, ob⟩)
    (hc : isComp e = false := by rfl) : Ex c n sc (.Assign [.Subscript o i p] e pos) st K := by
  intro A env F s hR hE S Q E hQ
  refine wpAny_Assign_Subscript (h A env F s hR hE S _ E fun F1 s1 x v st1 h1 o1 r1 => h1 A env F1 s1 hR hE o1.sr _ E fun F2 s2 y ov st2 h2 o2 r2 => h2 A env F2 s2 hR hE o2.sr _ E fun F3 s3 z iv st3 h3 o3 r3 => ?_) (swaps_not hc)
  refine use h3 hR o3.sr (.cons (r2.le o3.le) (.cons r3 (.cons (r1.le (Le.trans o2.le o3.le)) .nil))) fun F4 s4 _ _ ob' hk o4 _ => ?_
  exact hQ F4 s4 _ _ _ hk (((o1.trans o2).trans o3).trans o4) .next
end
end Mine
end
section
open PySem PySem.W PyProof.Rows PySem.Calls
namespace Mine
noncomputable def plainIter (T : String) : Bool := !(["enumerate", "zip", "dict_itemiterator", "dict_reverseitemiterator", "odict_iterator", "itertools.zip_longest", "itertools.pairwise"].contains T)
theorem letGo_no {M : Model} {A : Around} {E : Value → Shared → Prop} {s : Shared} {t : Expr} {I : Addr} {x : Value} {o : Obj} {T : String} {Q : Unit → Shared → Prop} (ho : s.heap.get? I = some o) (hT : o.cls = .type T) (hn : plainIter T = true) (hQ : Q () s) :
    wpAny M A (letOwnedTupleGo t (.ref I) x) Q E s := by
  have hn' : (["enumerate", "zip", "dict_itemiterator", "dict_reverseitemiterator", "odict_iterator", "itertools.zip_longest", "itertools.pairwise"].contains T) = false := by
    unfold plainIter at hn
    simpa only [Bool.not_eq_true'] using hn
  unfold letOwnedTupleGo
  split
  all_goals first
    | exact wpAny_pure hQ
    | (split
       · rename_i r a e
         cases e
         refine wpAny_bind (wpAny_load ho ?_)
         rw [hT]
         split
         · rename_i e1 e2
           cases e1
           rw [hn', Bool.false_and, if_neg (by decide)]
           exact wpAny_pure hQ
         · exact wpAny_pure hQ
       · exact wpAny_pure hQ)
structure Wlk (c : Cx) (A : Around) (F : Heap) (I : Addr) (items : List AV) (Sx : Nat → Heap → Prop) : Prop where
  fr : ∀ i h h', Sx i h → (∀ o, h.get? I = some o → h'.get? I = some o) → Le F h → Le F h' → Sx i h'
  live : ∀ i h, Sx i h → ∃ o, h.get? I = some o
  item : ∀ i (s : Shared) (Q : Option Value → Shared → Prop) (E : Value → Shared → Prop) v, items[i]? = some v → Sx i s.heap → Le F s.heap →
    (∀ x h' tk, Rep c F x v → Sx (i + 1) h' → Heap.ExtBut I s.heap h' → Q (some x) { s with heap := h', toks := tk }) → wpAny (model c.prog c.w) A (pyNext (.ref I)) Q E s
  done : ∀ (s : Shared) (Q : Option Value → Shared → Prop) (E : Value → Shared → Prop), Sx items.length s.heap → Le F s.heap →
    (∀ h' tk, Heap.ExtBut I s.heap h' → Q none { s with heap := h', toks := tk }) → wpAny (model c.prog c.w) A (pyNext (.ref I)) Q E s
  self : ∀ i (s : Shared) (Q : Value → Shared → Prop) (E : Value → Shared → Prop), Sx i s.heap → Q (.ref I) s → wpAny (model c.prog c.w) A (pyIter (.ref I)) Q E s
  go : ∀ i (s : Shared) t x (Q : Unit → Shared → Prop) (E : Value → Shared → Prop), Sx i s.heap → Q () s → wpAny (model c.prog c.w) A (letOwnedTupleGo t (.ref I) x) Q E s
theorem Wlk.of {c : Cx} {A : Around} {F : Heap} {I : Addr} {fp : List Addr} {n : Nat} {P : Nat → Value → Prop} {Sx : Nat → Heap → Prop} {items : List AV} (W : Walks c.prog c.w A I fp [I] n P Sx) (hfp : ∀ b ∈ fp, b = I ∨ ∃ o, F.get? b = some o) (hn : n = items.length)
    (hP : ∀ i v x, items[i]? = some v → P i x → Rep c F x v) (hgo : ∀ i h, Sx i h → ∃ o T, h.get? I = some o ∧ o.cls = .type T ∧ plainIter T = true) : Wlk c A F I items Sx where
  fr := fun i h h' st hI hF hF' => W.frame i h h' st fun b hb o e => by
    rcases hfp b hb with rfl | ⟨q, hq⟩
    · exact hI o e
    · have := hF b q hq
      rw [this] at e
      cases e
      exact hF' b _ hq
  live := fun i h st => let ⟨o, _, h1, _⟩ := hgo i h st; ⟨o, h1⟩
  item := fun i s Q E v hv st hF hQ => W.item i s Q E (by rw [hn]; exact (List.getElem?_eq_some_iff.mp hv).1) st fun x h' tk hp st' hk => hQ x h' tk (hP i v x hv hp) st' fun b o hb e => hk b o (by simpa using hb) e
  done := fun s Q E st hF hQ => W.done s Q E (hn ▸ st) fun h' tk hk => hQ h' tk fun b o hb e => hk b o (by simpa using hb) e
  self := fun i s Q E st hQ => W.self i s Q E st hQ
  go := fun i s t x Q E st hQ => let ⟨_, _, h1, h2, h3⟩ := hgo i s.heap st; letGo_no h1 h2 h3 hQ
theorem Reps.get {c : Cx} {F : Heap} : ∀ {xs : List Value} {vs : List AV}, Reps c F xs vs → ∀ {i : Nat} {x : Value} {v : AV}, xs[i]? = some x → vs[i]? = some v → Rep c F x v
  | _, _, .nil, i, x, v, h, _ => by simp at h
  | _, _, .cons r rs, 0, x, v, h, k => by simp at h k; subst h; subst k; exact r
  | _, _, .cons r rs, i + 1, x, v, h, k => Reps.get rs (i := i) (by simpa using h) (by simpa using k)
theorem Repd.get {c : Cx} {F : Heap} : ∀ {xs : List (Str × Value)} {vs : List (Str × AV)}, Repd c F xs vs → ∀ {i : Nat} {k : Str} {x : Value} {k' : Str} {v : AV}, xs[i]? = some (k, x) → vs[i]? = some (k', v) → k = k' ∧ Rep c F x v
  | _, _, .nil, i, _, x, _, v, h, _ => by simp at h
  | _, _, .cons r rs, 0, _, x, _, v, h, k => by
    simp at h k
    obtain ⟨rfl, rfl⟩ := h
    obtain ⟨rfl, rfl⟩ := k
    exact ⟨rfl, r⟩
  | _, _, .cons r rs, i + 1, _, x, _, v, h, k => Repd.get rs (i := i) (by simpa using h) (by simpa using k)
theorem push_dead {h : Heap} {o : Obj} {b : Addr} (hb : b ≠ h.objs.size) (hn : h.get? b = none) : (h.push o).get? b = none := by
  cases e : (h.push o).get? b with
  | none => rfl
  | some q =>
    obtain ⟨e1, e2⟩ := Heap.get?_some_iff.mp e
    have e3 : h.objs[b]? = some q := by
      rw [← e1]
      obtain ⟨os⟩ := h
      show os[b]? = (os.push o)[b]?
      rw [Array.getElem?_push, if_neg (by exact hb)]
    rw [Heap.get?_some_iff.mpr ⟨e3, e2⟩] at hn
    cases hn
theorem size_dead (h : Heap) : h.get? h.objs.size = none := by
  cases e : h.get? h.objs.size with
  | none => rfl
  | some q => exact absurd (Heap.lt_size e) (Nat.lt_irrefl _)
noncomputable def rangeL (i j : Int) : List AV := (List.range (j - i).toNat).map fun k => .int (i + (k : Nat))
noncomputable def itemsOf : AV → Option (List AV)
  | .lst l => some l
  | .tup l => some l
  | .dct l => some (l.map fun p => .str p.1)
  | .rng i j => some (rangeL i j)
  | _ => none
theorem iter_ {c : Cx} {A : Around} {F : Heap} {s : Shared} {E : Value → Shared → Prop} {x : Value} {v : AV} {items : List AV} {Q : Value → Shared → Prop} (r : Rep c F x v) (hi : itemsOf v = some items) (hF : Le F s.heap) (hh : A.handled = none)
    (hQ : ∀ I h' Sx, s.heap.get? I = none → Le s.heap h' → (∀ b, b ≠ I → s.heap.get? b = none → h'.get? b = none) → Wlk c A F I items Sx → Sx 0 h' → Q (.ref I) { s with heap := h', toks := s.toks }) : wpAny (model c.prog c.w) A (pyIter x) Q E s := by
  have hdead := size_dead s.heap
  have hpush : ∀ (o : Obj), o.isFreed = false → ∀ b, b ≠ s.heap.objs.size → s.heap.get? b = none → (s.heap.push o).get? b = none := fun o _ b hb hn => push_dead hb hn
  have hne : ∀ {a : Addr} {o : Obj}, F.get? a = some o → a ≠ s.heap.objs.size := fun e => Nat.ne_of_lt (Heap.lt_size (hF _ _ e))
  cases r with
  | none => cases hi
  | bool b => cases hi
  | int i t => cases hi
  | str x t => cases hi
  | own a => cases hi
  | raw v => cases hi
  | tup h1 h2 =>
    cases hi
    have ht := isTuple_le hF h1
    obtain ⟨o, ho, _⟩ := h1
    refine wpAny_pyIter_tuple ht (hQ _ _ _ hdead (fun b o e => Heap.get?_push_of_some _ e) (hpush _ rfl) (Wlk.of (Walks.tuple hh _ _ (hne ho) _) ?_ ?_ ?_ ?_) ⟨⟨_, Heap.get?_push_size _ rfl, rfl, rfl⟩, ht.push _⟩)
    · intro b hb
      simp at hb
      rcases hb with rfl | rfl
      · exact .inl rfl
      · exact .inr ⟨_, ho⟩
    · simp [h2.length]
    · intro i v x hv hx
      exact h2.get (by simpa using hx) hv
    · rintro i h ⟨⟨o, h3, h4, _⟩, _⟩
      exact ⟨o, _, h3, h4, by decide⟩
  | lst h1 h2 =>
    cases hi
    have ht := isList_le hF h1.isList
    obtain ⟨kk, ho⟩ := h1
    refine wpAny_pyIter_list ht (hQ _ _ _ hdead (fun b o e => Heap.get?_push_of_some _ e) (hpush _ rfl) (Wlk.of (Walks.list hh _ _ (hne ho) _) ?_ ?_ ?_ ?_) ⟨⟨_, Heap.get?_push_size _ rfl, rfl, rfl⟩, ht.push _⟩)
    · intro b hb
      simp at hb
      rcases hb with rfl | rfl
      · exact .inl rfl
      · exact .inr ⟨_, ho⟩
    · simp [h2.length]
    · intro i v x hv hx
      exact h2.get (by simpa using hx) hv
    · rintro i h ⟨⟨o, h3, h4, _⟩, _⟩
      exact ⟨o, _, h3, h4, by decide⟩
  | dct h1 h2 h3 =>
    cases hi
    obtain ⟨ep, hat⟩ := h1.dictAt
    have ht := hat.keep hF
    obtain ⟨o, es, ho, _⟩ := hat
    refine wpAny_pyIter_dict h2 ht (hQ _ _ _ hdead (fun b o e => Heap.get?_push_of_some _ e) (hpush _ rfl) (Wlk.of (Walks.dictKeys hh _ _ (hne ho) _ _) ?_ ?_ ?_ ?_) ⟨⟨_, Heap.get?_push_size _ rfl, rfl, rfl⟩, ht.push _⟩)
    · intro b hb
      simp at hb
      rcases hb with rfl | rfl
      · exact .inl rfl
      · exact .inr ⟨_, ho⟩
    · simp [h3.length]
    · rintro i v x hv ⟨k, y, hy, hk⟩
      rw [List.getElem?_map, Option.map_eq_some_iff] at hv
      obtain ⟨⟨k', d⟩, hv1, rfl⟩ := hv
      obtain ⟨rfl, _⟩ := h3.get hy hv1
      obtain ⟨t, rfl⟩ := Value.isStrOf_shape hk
      exact .str _ _
    · rintro i h ⟨⟨o, h3, h4, _⟩, _⟩
      exact ⟨o, _, h3, h4, by decide⟩
  | @rng a i j t u v hr hsm =>
    cases hi
    have hr' := hF _ _ hr
    have hsz : Builtin.Range.rangeSize i j 1 = (((j - i).toNat : Nat) : Int) := by rw [rangeSize_one]; split <;> omega
    refine wpAny_pyIter_range hr' hsm (hQ _ _ _ hdead (fun b o e => Heap.get?_push_of_some _ e) (hpush _ rfl) (Wlk.of (Walks.range hh _ i 1 (j - i).toNat) ?_ ?_ ?_ ?_) ?_)
    · intro b hb
      simp at hb
      exact .inl hb
    · simp [rangeL]
    · rintro k v x hv ⟨t, rfl⟩
      unfold rangeL at hv
      rw [List.getElem?_map, Option.map_eq_some_iff] at hv
      obtain ⟨m, hm, rfl⟩ := hv
      rw [List.getElem?_eq_some_iff] at hm
      obtain ⟨hm1, hm2⟩ := hm
      simp at hm2
      subst hm2
      rw [Int.mul_one]
      exact .int _ _
    · intro k h hh'
      exact ⟨_, _, hh', rfl, by decide⟩
    · show IsRangeIter _ _ _ _ _
      have := Heap.get?_push_size s.heap (o := { cls := .type "range_iterator", data := .fields #[rawInt i, rawInt (Builtin.Range.rangeSize i j 1), rawInt 1] }) rfl
      rw [hsz] at this ⊢
      simpa [IsRangeIter] using this
end Mine
end
section
open PySem PySem.W PyProof.Rows PySem.Calls
namespace Mine
section
variable {c : Cx} {n : Nat} {sc : Sc} {st : St}
/-- a value is bound to a target -/
noncomputable def Bind (c : Cx) (n : Nat) (sc : Sc) (t : Expr) (v : AV) (st : St) (K : St → Prop) : Prop :=
  ∀ A env F s xv, Room A n → EnvIs env sc → SR c env F st s → Rep c F xv v → ∀ (Q : Unit → Shared → Prop) (E : Value → Shared → Prop),
    (∀ F' s' st', K st' → Out c env F st s F' st' s' → Q () s') → wpAny (model c.prog c.w) A (assign t env xv) Q E s
theorem B_name {x : Str} {p : Pos} {v : AV} {K : St → Prop} (h : K ⟨st.vars.set x v, st.ob⟩) (hx : stOk sc x = true := by rfl) (hk : sc.s.kind = .function := by rfl) : Bind c n sc (.Name x p) v st K := by
  intro A env F s xv hR hE S r Q E hQ
  show wpAny _ A (standAt p >>= fun _ => bindName env x xv) Q E s
  exact wpAny_bind (wpAny_standAt (store hE S r (fun s' o => hQ F s' _ h o) hx hk))
theorem wpAny_assignInOrder_nil {M : Model} {A : Around} {E : Value → Shared → Prop} {s : Shared} {Q : Unit → Shared → Prop} (h : Q () s) : wpAny M A (assignInOrder [] []) Q E s := wpAny_pure h
theorem wpAny_assignInOrder_cons {M : Model} {A : Around} {E : Value → Shared → Prop} {s : Shared} {t : Value → Sem Unit} {ts : List (Value → Sem Unit)} {x : Value} {xs : List Value} {Q : Unit → Shared → Prop}
    (h : wpAny M A (t x) (fun _ s1 => wpAny M A (assignInOrder ts xs) Q E s1) E s) : wpAny M A (assignInOrder (t :: ts) (x :: xs)) Q E s := by
  show wpAny M A (holding xs (t x) >>= fun _ => assignInOrder ts xs) Q E s
  exact wpAny_bind (wpAny_holding h)
theorem SR.grow {env : Env} {F : Heap} {s : Shared} (S : SR c env F st s) (h' : Heap) (tk : Nat) (hk : Le s.heap h') : ∃ F', Out c env F st s F' st { s with heap := h', toks := tk } ∧ (∀ b o, s.heap.get? b = none → h'.get? b = some o → F'.get? b = some o) := by
  obtain ⟨F', h1, h2, h3⟩ := S.wf.ext h' tk hk
  exact ⟨F', S.lift h1 h2, h3⟩
theorem B_pair {x y : Str} {p q tp : Pos} {k : Nat} {v u : AV} {K : St → Prop} (h : K ⟨(st.vars.set x v).set y u, st.ob⟩) (hx : stOk sc x = true := by rfl) (hy : stOk sc y = true := by rfl) (hk : sc.s.kind = .function := by rfl) :
    Bind c n sc (.Tuple [.Name x p, .Name y q] k tp) (.tup [v, u]) st K := by
  intro A env F s xv hR hE S r Q E hQ
  cases r with
  | @tup a vs _ h1 h2 =>
    cases h2 with
    | cons r1 h2 =>
      cases h2 with
      | cons r2 h2 =>
        cases h2
        refine wpAny_assign_Tuple hR.handled (isTuple_le S.wf.le h1) rfl rfl fun h' he => ?_
        obtain ⟨F', o1, _⟩ := S.grow h' s.toks fun b o e => he b o (Nat.ne_of_lt (Heap.lt_size e)) e
        refine wpAny_assignInOrder_cons ?_
        show wpAny _ A (standAt p >>= fun _ => bindName env x _) _ E _
        refine wpAny_bind (wpAny_standAt (store hE o1.sr (r1.le o1.le) (fun s2 o2 => ?_) hx hk))
        refine wpAny_assignInOrder_cons ?_
        show wpAny _ A (standAt q >>= fun _ => bindName env y _) _ E _
        refine wpAny_bind (wpAny_standAt (store hE o2.sr (r2.le o1.le) (fun s3 o3 => ?_) hy hk))
        exact wpAny_assignInOrder_nil (hQ _ _ _ h ((o1.trans o2).trans o3))
theorem Out.dead {env : Env} {F F' : Heap} {st' : St} {s s' : Shared} {I : Addr} (O : Out c env F st s F' st' s') (hF : F.get? I = none) (hs : ∃ o, s.heap.get? I = some o) (ho : st.ob I = none) : F'.get? I = none := by
  cases e : F'.get? I with
  | none => rfl
  | some q =>
    obtain ⟨o, hs⟩ := hs
    rcases O.new I q e with h | h | h
    · rw [hF] at h; cases h
    · rw [hs] at h; cases h
    · exact absurd ho h
theorem For_ {t iter : Expr} {body : List Stmt} {pos : Pos} {K : AF → St → Prop}
    (h : Ev c n sc iter st fun v st1 => ∃ items, ∃ Inv : List AV → St → Prop, itemsOf v = some items ∧ Inv items st1 ∧
      (∀ it rest st2, Inv (it :: rest) st2 → Bind c n sc t it st2 fun st3 => Exs c n sc body st3 fun f st4 => match f with | .next => Inv rest st4 | .cont => Inv rest st4 | .brk => K .next st4 | .ret v => K (.ret v) st4) ∧
      (∀ st2, Inv [] st2 → K .next st2))
    (hs : ∀ env x, foldedSetIterable iter env x = pure x := by intro _ _; rfl) : Ex c n sc (.For t iter body [] pos) st K := by
  intro A env F s hR hE S Q E hQ
  refine wpAny_For (h A env F s hR hE S _ E fun F1 s1 x v st1 h1 o1 r1 => ?_) (hs env)
  obtain ⟨items, Inv, hit, hI0, hturn, hdone⟩ := h1
  refine iter_ r1 hit o1.sr.wf.le hR.handled fun I h' Sx hI hle hno Wk hS0 => ?_
  obtain ⟨F2, O2, hF2, hFI, _⟩ := Out.poke o1.sr (Out.refl o1.sr) (fun b => b = I) h' s1.toks (fun b hb => by
    subst hb
    refine ⟨hI, o1.sr.wf.fresh hI, ?_⟩
    cases e : F1.get? b with
    | none => rfl
    | some q => have := o1.sr.wf.le _ _ e; rw [hI] at this; cases this) (fun b o _ e => hle b o e)
  refine codeAny_forLoop_any (fun k s' => ∃ i rest F' st', k = rest.length + 1 ∧ (items.drop i = rest ∧ i ≤ items.length) ∧ Out c env F1 st1 s1 F' st' s' ∧ F'.get? I = none ∧ st'.ob I = none ∧ Sx i s'.heap ∧ Inv rest st') ?_ (items.length + 1)
    ⟨0, items, F2, st1, rfl, ⟨rfl, Nat.zero_le _⟩, O2, hFI I rfl, o1.sr.wf.fresh hI, hS0, hI0⟩
  rintro k s' ⟨i, rest, F', st', rfl, ⟨hd, hle'⟩, O, hIF, hIo, hSi, hInv⟩
  have hFw : Le F1 s'.heap := Le.trans O.le O.sr.wf.le
  have poke : ∀ h'' tk, Heap.ExtBut I s'.heap h'' → ∃ F'', Out c env F1 st1 s1 F'' st' { s' with heap := h'', toks := tk } ∧ Le F' F'' ∧ F''.get? I = none := fun h'' tk he => by
    obtain ⟨F'', a1, a2, a3, _⟩ := Out.poke o1.sr O (fun b => b = I) h'' tk (fun b hb => by subst hb; exact ⟨hI, hIo, hIF⟩) (fun b o hb e => he b o hb e)
    exact ⟨F'', a1, a2, a3 I rfl⟩
  cases rest with
  | nil =>
    have hi : i = items.length := Nat.le_antisymm hle' (by rw [List.drop_eq_nil_iff] at hd; exact hd)
    subst hi
    refine Wk.done _ _ _ hSi hFw fun h'' tk he => ?_
    obtain ⟨F'', a1, a2, a3⟩ := poke h'' tk he
    exact wpAny_execs_nil (hQ F'' _ _ _ _ (hdone _ hInv) (o1.trans a1) .next)
  | cons it rest =>
    have hv : items[i]? = some it := by
      have := congrArg List.head? hd
      rwa [List.head?_drop, List.head?_cons] at this
    refine Wk.item i _ _ _ it hv hSi hFw fun y h'' tk ry hS' he => ?_
    obtain ⟨F'', a1, a2, a3⟩ := poke h'' tk he
    refine Wk.go (i + 1) _ _ _ _ _ hS' ?_
    refine hturn it rest st' hInv A env F'' _ y hR hE a1.sr (ry.le a1.le) _ _ fun F3 s3 st3 h3 o3 => ?_
    refine h3 A env F3 s3 hR hE o3.sr _ _ fun F4 s4 f af st4 h4 o4 r4 => ?_
    have O4 := (a1.trans o3).trans o4
    have o34 := o3.trans o4
    have hIl : ∃ o, h''.get? I = some o := Wk.live _ _ hS'
    have hnf : ¬ Fra env I := fun hf => by
      obtain ⟨_, _, o, ho⟩ := o1.sr.fra hf
      rw [hI] at ho; cases ho
    have hkeepI : ∀ o, h''.get? I = some o → s4.heap.get? I = some o := fun o e => (o34.keep I o hIo hnf e).1
    have nxt : Inv rest st4 → ∃ m, m < (it :: rest).length + 1 ∧ ∃ i rest F' st', m = rest.length + 1 ∧ (items.drop i = rest ∧ i ≤ items.length) ∧ Out c env F1 st1 s1 F' st' s4 ∧ F'.get? I = none ∧ st'.ob I = none ∧ Sx i s4.heap ∧ Inv rest st' := fun hv' => by
      refine ⟨rest.length + 1, by simp, i + 1, rest, F4, st4, rfl, ⟨?_, ?_⟩, O4, o34.dead a3 hIl hIo, ?_, ?_, hv'⟩
      · rw [List.drop_add_one_eq_tail_drop, hd]; rfl
      · exact (List.getElem?_eq_some_iff.mp hv).1
      · obtain ⟨o, ho⟩ := hIl
        exact (o34.keep I o hIo hnf ho).2
      · exact Wk.fr _ _ _ hS' hkeepI (Le.trans a1.le a1.sr.wf.le) (Le.trans O4.le O4.sr.wf.le)
    cases r4 with
    | next => exact nxt h4
    | cont => exact nxt h4
    | brk => exact hQ F4 _ _ _ _ h4 (o1.trans O4) .next
    | ret r => exact hQ F4 _ _ _ _ h4 (o1.trans O4) (.ret r)
end
end Mine
end
section
open PySem PySem.W PyProof.Rows PySem.Calls
namespace Mine
section
variable {c : Cx} {n : Nat} {sc : Sc} {st : St}
theorem While_ {test : Expr} {body : List Stmt} {pos : Pos} {K : AF → St → Prop} (Inv : Nat → St → Prop) (m : Nat) (h0 : Inv m st)
    (turn : ∀ m st1, Inv m st1 → Te c n sc test st1 fun q st2 => if q then Exs c n sc body st2 (fun f st3 => match f with | .next => ∃ m', m' < m ∧ Inv m' st3 | .cont => ∃ m', m' < m ∧ Inv m' st3 | .brk => K .next st3 | .ret v => K (.ret v) st3) else K .next st2) :
    Ex c n sc (.While test body [] pos) st K := by
  intro A env F s hR hE S Q E hQ
  refine wpAny_While (codeAny_whileLoop (fun m s' => ∃ F' st', Out c env F st s F' st' s' ∧ Inv m st') ?_ m ⟨F, st, .refl S, h0⟩)
  rintro m s1 ⟨F1, st1, o1, hI⟩
  refine turn m st1 hI A env F1 s1 hR hE o1.sr _ _ fun F2 s2 b q st2 h2 o2 r2 => ?_
  first | (obtain ⟨_, rfl⟩ := Rep.int' r2) | (obtain ⟨_, rfl⟩ := Rep.str' r2) | (obtain rfl := Rep.bool' r2) | (obtain rfl := Rep.own' r2) | (obtain rfl := Rep.none' r2) | (obtain rfl := Rep.raw' r2) | cases r2
  cases b with
  | false => exact wpAny_execs_nil (hQ F2 s2 _ _ _ h2 (o1.trans o2) .next)
  | true =>
    refine h2 A env F2 s2 hR hE o2.sr _ _ fun F3 s3 f af st3 h3 o3 r3 => ?_
    cases r3 with
    | next => obtain ⟨m', hm, hv⟩ := h3; exact ⟨m', hm, F3, st3, (o1.trans o2).trans o3, hv⟩
    | cont => obtain ⟨m', hm, hv⟩ := h3; exact ⟨m', hm, F3, st3, (o1.trans o2).trans o3, hv⟩
    | brk => exact hQ F3 _ _ _ _ h3 ((o1.trans o2).trans o3) .next
    | ret r => exact hQ F3 _ _ _ _ h3 ((o1.trans o2).trans o3) (.ret r)
end
/-! comprehensions -/
noncomputable def relS (scope : Scope) (sc : Sc) : Scope :=
  { scope with names := scope.names.map fun (n, k) => if (k == .free && sc.s.kind == .function && sc.s.names.lookup n == some .cell) then (n, .cell) else (n, k) }
noncomputable def compSc (scope : Scope) (sc : Sc) : Sc := ⟨relS scope sc, false⟩
theorem relabel_eq {scope : Scope} {env : Env} {sc : Sc} (h : env.scope = sc.s) : relabel scope env = relS scope sc := by
  unfold relabel relS Env.kindOf
  rw [h]
theorem lookup_mapk {α : Type} (f : Str → α → α) : ∀ (l : List (Str × α)) (x : Str), (l.map fun p => (p.1, f p.1 p.2)).lookup x = (l.lookup x).map (f x)
  | [], x => rfl
  | (y, k) :: r, x => by
    simp only [List.map_cons, List.lookup_cons]
    cases h : x == y with
    | true => rw [beq_iff_eq.mp h]; rfl
    | false => exact lookup_mapk f r x
theorem relS_lookup (scope : Scope) (sc : Sc) (x : Str) : (relS scope sc).names.lookup x = (scope.names.lookup x).map fun k => if (k == .free && sc.s.kind == .function && sc.s.names.lookup x == some .cell) then .cell else k := by
  have e : (relS scope sc).names = scope.names.map fun p => (p.1, (fun n k => if (k == .free && sc.s.kind == .function && sc.s.names.lookup n == some .cell) then NameKind.cell else k) p.1 p.2) := by
    unfold relS
    refine List.map_congr_left fun p _ => ?_
    obtain ⟨n, k⟩ := p
    dsimp only
    split <;> rfl
  rw [e]
  exact lookup_mapk (fun n k => if (k == NameKind.free && sc.s.kind == ScopeKind.function && sc.s.names.lookup n == some NameKind.cell) then NameKind.cell else k) scope.names x
noncomputable def frees (cells : List (Str × Addr)) : List (Str × NameKind) → List (Str × Addr) → List (Str × Addr)
  | [], acc => acc
  | (x, k) :: r, acc => if k == .free then frees cells r ((x, (cells.lookup x).getD 0) :: acc) else frees cells r acc
theorem closureFor_eq {scope : Scope} {env : Env} (h : ∀ x, (x, NameKind.free) ∈ scope.names → (env.cells.lookup x).isSome = true) : closureFor scope env = pure (frees env.cells scope.names []) := by
  unfold closureFor
  have key : ∀ (l : List (Str × NameKind)) (acc : List (Str × Addr)), (∀ x, (x, NameKind.free) ∈ l → (env.cells.lookup x).isSome = true) →
      (forIn l acc (fun (x : Str × NameKind) (r : List (Str × Addr)) => (match x with | (name, kind) => if (kind == NameKind.free) = true then (do let y ← cellOf env name; pure (ForInStep.yield ((name, y) :: r))) else pure (ForInStep.yield r) : Sem (ForInStep (List (Str × Addr)))))) = (pure (frees env.cells l acc) : Sem _) := by
    intro l
    induction l with
    | nil => intro acc _; rfl
    | cons p l ih =>
      obtain ⟨x, k⟩ := p
      intro acc hh
      rw [List.forIn_cons]
      by_cases hk : (k == NameKind.free) = true
      · have hs := hh x (by rw [beq_iff_eq.mp hk]; exact List.mem_cons_self)
        obtain ⟨a, ha⟩ := Option.isSome_iff_exists.mp hs
        have hc : cellOf env x = pure a := by unfold cellOf; rw [ha]
        simp only [hk, if_true, hc, pure_bind]
        rw [ih _ fun y hy => hh y (List.mem_cons_of_mem _ hy)]
        simp only [frees, hk, if_true, ha, Option.getD_some]
      · simp only [hk, Bool.false_eq_true, if_false, pure_bind]
        rw [ih _ fun y hy => hh y (List.mem_cons_of_mem _ hy)]
        simp only [frees, hk, Bool.false_eq_true, if_false]
  refine (congrArg (fun t => t >>= fun r => pure r) (key scope.names [] h)).trans ?_
  rw [pure_bind]
theorem frees_lookup {cells : List (Str × Addr)} : ∀ (l : List (Str × NameKind)) (acc : List (Str × Addr)), (∀ x, (x, NameKind.free) ∈ l → (cells.lookup x).isSome = true) → (∀ x a, acc.lookup x = some a → cells.lookup x = some a) →
    (∀ x a, (frees cells l acc).lookup x = some a → cells.lookup x = some a) ∧ (∀ x, ((x, NameKind.free) ∈ l ∨ (acc.lookup x).isSome = true) → ((frees cells l acc).lookup x).isSome = true)
  | [], acc, _, h => ⟨h, fun x hx => by rcases hx with hx | hx; cases hx; exact hx⟩
  | (y, k) :: r, acc, hh, h => by
    unfold frees
    have hr := fun x hx => hh x (List.mem_cons_of_mem _ hx)
    split
    · rename_i hk
      have hs := hh y (by rw [beq_iff_eq.mp hk]; exact List.mem_cons_self)
      obtain ⟨a, ha⟩ := Option.isSome_iff_exists.mp hs
      obtain ⟨h1, h2⟩ := frees_lookup (cells := cells) r ((y, (cells.lookup y).getD 0) :: acc) hr (by
        intro x b hb
        rw [List.lookup_cons] at hb
        cases hxy : x == y with
        | true =>
          rw [hxy] at hb
          rw [beq_iff_eq.mp hxy, ha]
          rw [ha] at hb
          exact hb
        | false => rw [hxy] at hb; exact h x b hb)
      refine ⟨h1, fun x hx => h2 x ?_⟩
      rcases hx with hx | hx
      · rcases List.mem_cons.mp hx with e | hx
        · cases e
          right
          simp [List.lookup_cons]
        · exact .inl hx
      · right
        rw [List.lookup_cons]
        split
        · rfl
        · exact hx
    · rename_i hk
      obtain ⟨h1, h2⟩ := frees_lookup (cells := cells) r acc hr h
      refine ⟨h1, fun x hx => h2 x ?_⟩
      rcases hx with hx | hx
      · rcases List.mem_cons.mp hx with e | hx
        · cases e
          exact absurd rfl hk
        · exact .inl hx
      · exact .inr hx
/-- what a comprehension sees of the names around it -/
noncomputable def compV (scope : Scope) (sc : Sc) (V : Vs) : Vs := fun x => if (compSc scope sc).s.names.lookup x = some .cell then V x else none
noncomputable def compOk (scope : Scope) (sc : Sc) : Bool :=
  scope.kind == .function && sc.s.kind == .function && scope.names.all (fun p => p.2 != .cell) && scope.names.all (fun p => p.2 != .local || scope.names.lookup p.1 == some .local) &&
  scope.names.all (fun p => p.2 != .free || (scope.names.lookup p.1 == some .free && sc.s.names.lookup p.1 == some .cell))
theorem compLoop_ {prog : Program} {w : World} {A : Around} {R : Result → Shared → Prop} {s : Shared} {elt target iter : Expr} {ifs : List Expr} {scope : Scope} {pos : Pos} {it acc : Value} {env : Env} (I : Nat → Shared → Prop)
    (turn : ∀ n s, I n s → ∀ (E : Value → Shared → Prop), wpAny (model prog w) A (pyNext it) (fun r s₁ => match r with
      | none => R (.ok .next) s₁
      | some v => wpAny (model prog w) A (letOwnedTupleGo target it v) (fun _ s₁' => wpAny (model prog w) A (assign target env v) (fun _ s₂ =>
          wpAny (model prog w) A (forIn ifs true fun c r => if r = true then do let ok ← isTrue c env (eval c env); pure (ForInStep.yield ok) else pure (ForInStep.yield r)) (fun ok s₃ =>
            if ok = true then wpAny (model prog w) A (eval elt env) (fun x s₄ =>
              wpAny (model prog w) A (call (.builtin "list.append") [acc, x]) (fun _ s₅ => ∃ m, m < n ∧ I m s₅) E s₄) E s₃
            else ∃ m, m < n ∧ I m s₃) E s₂) E s₁') E s₁) E s)
    (n : Nat) (h : I n s) :
    codeAny (model prog w) A (.compLoop (.ListComp elt [⟨target, iter, ifs, 0⟩] scope pos) 0 it acc env) R s := by
  refine codeAny_loop rfl I (fun n s hI => ?_) n h
  show wpAny _ A ((compTurn (.ListComp elt [⟨target, iter, ifs, 0⟩] scope pos) 0 it acc env).onRaise (fun x => do noteFrame x env; theTreesLotGoes x)) _ _ s
  refine wpAny_noted ?_
  rw [compTurn_list]
  refine wpAny_bind (wpAny_standAt (wpAny_bind (wpAny_mono (turn n s hI _) (fun r s₁ h₁ => ?_) fun _ _ h' => h')))
  cases r with
  | none => exact wpAny_pure h₁
  | some v =>
    refine wpAny_bind (wpAny_mono h₁ (fun _ s₁' h₁' => ?_) fun _ _ h' => h')
    refine wpAny_bind (wpAny_mono h₁' (fun _ s₂ h₂ => wpAny_bind (wpAny_mono h₂ (fun ok s₃ h₃ => ?_) fun _ _ h' => h')) fun _ _ h' => h')
    cases ok with
    | false => exact wpAny_pure ⟨rfl, h₃⟩
    | true =>
      exact wpAny_bind (wpAny_bind (wpAny_mono h₃ (fun x s₄ h₄ => wpAny_bind (wpAny_mono h₄ (fun _ s₅ h₅ => wpAny_pure (wpAny_pure ⟨rfl, h₅⟩)) fun _ _ h' => h')) fun _ _ h' => h'))
noncomputable def Ifs (c : Cx) (n : Nat) (sc : Sc) (ifs : List Expr) (st : St) (K : Bool → St → Prop) : Prop :=
  match ifs with
  | [] => K true st
  | [e] => Te c n sc e st K
  | _ => False
section
variable {c : Cx} {n : Nat} {sc : Sc} {st : St}
theorem Mov.out {env : Env} {ob1 : Ob} {s1 s' s'' : Shared} {F1 F' F'' : Heap} {st' st'' : St} (M : Mov ob1 s1 F1 st'.ob s' F') (O : Out c env F' st' s' F'' st'' s'') (hf : ∀ b, Fra env b → s1.heap.get? b = none) : Mov ob1 s1 F1 st''.ob s'' F'' :=
  ⟨Le.trans M.le O.le, fun b o h1 h2 => let ⟨h3, h4⟩ := M.keep b o h1 h2; O.keep b o h4 (fun hb => by rw [hf b hb] at h2; cases h2) h3, fun b o h => by
    cases hs : s1.heap.get? b with
    | none => exact .inr (.inl rfl)
    | some q =>
      cases ho : ob1 b with
      | some r => exact .inr (.inr (by simp))
      | none =>
        obtain ⟨h3, h4⟩ := M.keep b q ho hs
        rcases O.new b o h with h5 | h5 | h5
        · rcases M.new b o h5 with h6 | h6 | h6
          · exact .inl h6
          · rw [hs] at h6; cases h6
          · exact absurd ho h6
        · rw [h3] at h5; cases h5
        · exact absurd h4 h5⟩
theorem Mov.poke {ob1 ob' : Ob} {s1 s' : Shared} {F1 F' F'' : Heap} {W : Addr → Prop} {h'' : Heap} {tk : Nat} (M : Mov ob1 s1 F1 ob' s' F') (hW : ∀ b, W b → s1.heap.get? b = none) (hk : ∀ b o, ¬ W b → s'.heap.get? b = some o → h''.get? b = some o) (hle : Le F' F'')
    (hnew : ∀ b o, F''.get? b = some o → ¬ W b ∧ (F'.get? b = some o ∨ s'.heap.get? b = none)) : Mov ob1 s1 F1 ob' { s' with heap := h'', toks := tk } F'' :=
  ⟨Le.trans M.le hle, fun b o h1 h2 => let ⟨h3, h4⟩ := M.keep b o h1 h2; ⟨hk b o (fun hb => by rw [hW b hb] at h2; cases h2) h3, h4⟩, fun b o h => by
    rcases (hnew b o h).2 with h5 | h5
    · exact M.new b o h5
    · cases hs : s1.heap.get? b with
      | none => exact .inr (.inl rfl)
      | some q =>
        cases ho : ob1 b with
        | some r => exact .inr (.inr (by simp))
        | none => rw [(M.keep b q ho hs).1] at h5; cases h5⟩
/-- an unowned place that is alive is frozen -/
theorem Wf.add {F : Heap} {ob : Ob} {s : Shared} (S : Wf c F ob s) (a : Addr) (o : Obj) (ho : s.heap.get? a = some o) (ha : ob a = none) :
    ∃ F', Wf c F' ob s ∧ Le F F' ∧ F'.get? a = some o ∧ ∀ b q, F'.get? b = some q → F.get? b = some q ∨ b = a := by
  have hFo : ∀ b o, F.get? b = some o → ob b = none := fun b o e => by
    cases ho : ob b with
    | none => rfl
    | some q => rw [(S.own b q ho).1] at e; cases e
  have hle : Le F (keepOnly s.heap fun b => (∃ o, F.get? b = some o) ∨ b = a) := fun b q e => keepOnly_iff.mpr ⟨.inl ⟨q, e⟩, S.le b q e⟩
  refine ⟨keepOnly s.heap fun b => (∃ o, F.get? b = some o) ∨ b = a, ⟨S.gens, S.os, fun b q e => (keepOnly_iff.mp e).2, Le.trans S.base hle, fun b q e => ⟨keepOnly_none ?_, (S.own b q e).2.mono hle fun _ h => h⟩⟩, hle, keepOnly_iff.mpr ⟨.inr rfl, ho⟩, fun b q e => ?_⟩
  · rintro (⟨z, hz⟩ | rfl)
    · rw [hFo b z hz] at e; cases e
    · rw [ha] at e; cases e
  · obtain ⟨h1, h2⟩ := keepOnly_iff.mp e
    rcases h1 with ⟨z, hz⟩ | h1
    · left
      rw [hz, ← h2, S.le b z hz]
    · exact .inr h1
/-- at a turn's start the names of the comprehension itself are forgotten -/
theorem SR.reset {env : Env} {F0 F' : Heap} {V0 : Vs} {ob0 : Ob} {s0 s' : Shared} {st' : St} (S : SR c env F0 ⟨V0, ob0⟩ s0) (O : Out c env F0 ⟨V0, ob0⟩ s0 F' st' s') (hfn : env.func = none) (hV : ∀ x v, V0 x = some v → env.kindOf x = some .cell) : SR c env F' ⟨V0, st'.ob⟩ s' := by
  refine ⟨O.sr.wf, ?_, O.sr.off, O.sr.offO, fun x hx => ?_, O.sr.apart, O.sr.celoff, O.sr.celO⟩
  · obtain ⟨m, hn, _⟩ := O.sr.loc
    exact ⟨m, hn, fun x v h1 h2 => by have h3 := (hV x v h2).symm.trans h1; cases h3⟩
  · obtain ⟨a, ov, h1, ⟨o, ho, hd⟩, h3⟩ := S.cel x hx
    have hnf : ¬ Fra env a := by
      rintro (e | ⟨h, _⟩)
      · obtain ⟨m, hn, _⟩ := S.loc
        exact cell_ne_ns ⟨o, ho, hd⟩ hn e
      · exact h hfn
    refine ⟨a, ov, h1, ⟨o, (O.keep a o (S.celO x a h1).1 hnf ho).1, hd⟩, fun v hv => ?_⟩
    obtain ⟨xv, h4, h5⟩ := h3 v hv
    exact ⟨xv, h4, h5.le O.le⟩
theorem Reps.snoc {F : Heap} : ∀ {xs : List Value} {vs : List AV} {x : Value} {v : AV}, Reps c F xs vs → Rep c F x v → Reps c F (xs ++ [x]) (vs ++ [v])
  | _, _, _, _, .nil, r => .cons r .nil
  | _, _, _, _, .cons r rs, q => .cons r (Reps.snoc rs q)
end
end Mine
end
section
open PySem PySem.W PyProof.Rows PySem.Calls
namespace Mine
section
variable {c : Cx} {n : Nat} {sc : Sc} {st : St}
theorem compOk_spec {scope : Scope} {sc : Sc} (h : compOk scope sc = true) : scope.kind = .function ∧ sc.s.kind = .function ∧ (∀ y ∈ scope.names, y.2 ≠ .cell) ∧ (∀ y ∈ scope.names, y.2 = .local → scope.names.lookup y.1 = some .local) ∧
    (∀ x, (x, NameKind.free) ∈ scope.names → scope.names.lookup x = some .free ∧ sc.s.names.lookup x = some .cell) := by
  unfold compOk at h
  simp only [Bool.and_eq_true, beq_iff_eq, List.all_eq_true] at h
  obtain ⟨⟨⟨⟨h1, h2⟩, h3⟩, h4⟩, h5⟩ := h
  refine ⟨h1, h2, fun y hy => by simpa using h3 y hy, fun y hy hl => ?_, fun x hx => ?_⟩
  · have := h4 y hy
    rw [hl] at this
    simpa using this
  · have := h5 _ hx
    simpa using this
theorem comp_cell {scope : Scope} {sc : Sc} (h : compOk scope sc = true) {x : Str} (hx : (compSc scope sc).s.names.lookup x = some .cell) : (x, NameKind.free) ∈ scope.names ∧ sc.s.names.lookup x = some .cell := by
  obtain ⟨h1, h2, h3, h4, h5⟩ := compOk_spec h
  have e : (compSc scope sc).s.names.lookup x = _ := relS_lookup scope sc x
  rw [hx] at e
  cases hl : scope.names.lookup x with
  | none => rw [hl] at e; cases e
  | some k =>
    rw [hl] at e
    have hm := mem_of_lookup' hl
    have hk : k = .free := by
      simp only [Option.map_some, Option.some.injEq] at e
      split at e
      · rename_i hc
        simp only [Bool.and_eq_true, beq_iff_eq] at hc
        exact hc.1.1
      · exact absurd e.symm (h3 _ hm)
    subst hk
    exact ⟨hm, (h5 x hm).2⟩
theorem compV_some {scope : Scope} {sc : Sc} {V : Vs} {x : Str} {v : AV} (h : compV scope sc V x = some v) : (compSc scope sc).s.names.lookup x = some .cell ∧ V x = some v := by
  unfold compV at h
  split at h
  · exact ⟨by assumption, h⟩
  · cases h
theorem comp_core0 {env : Env} {F1 : Heap} {s1 : Shared} {A : Around} {x : Value} {v : AV} {items : List AV} {E : Value → Shared → Prop} {elt t iter : Expr} {ifs : List Expr} {scope : Scope} {pos : Pos}
    (hR : Room A n) (hE : EnvIs env sc) (S1 : SR c env F1 st s1) (r1 : Rep c F1 x v) (hit : itemsOf v = some items) (hsz : items.length ≤ sizeLine) (hok : compOk scope sc = true) (Inv : List AV → List AV → Ob → Prop) (hI0 : Inv items [] st.ob)
    (turn : ∀ it rest acc ob, Inv (it :: rest) acc ob → Bind c n (compSc scope sc) t it ⟨compV scope sc st.vars, ob⟩ fun st2 => Ifs c n (compSc scope sc) ifs st2 fun q st3 =>
      if q then Ev c n (compSc scope sc) elt st3 (fun v st4 => Inv rest (acc ++ [v]) st4.ob) else Inv rest acc st3.ob)
    (RR : Value → Addr → Result → Shared → Prop)
    (done : ∀ D C s' F' acc ys ob', Inv [] acc ob' → Wf c F' ob' s' → Mov st.ob s1 F1 ob' s' F' → F'.get? D = none → ob' D = none → s1.heap.get? D = none → s'.heap.PlainList D (List.toArray ys) → Reps c F' ys acc → D ≠ C → s1.heap.get? C = none → F'.get? C = none → ob' C = none → (∃ m, s'.heap.Ns C m) → RR (.ref D) C (.ok .next) s') :
    wpAny (model c.prog c.w) A (pyIter x) (fun it s₂ => wpAny (model c.prog c.w) A (newList []) (fun acc s₃ =>
      wpAny (model c.prog c.w) A (newFunctionEnv scope env.globals (frees env.cells scope.names []) [] env.qual none .none (some env)) (fun cenv s₄ =>
        codeAny (model c.prog c.w) A (.compStart (.ListComp elt [⟨t, iter, ifs, 0⟩] scope pos) 0 it acc { cenv with scope := relabel scope env }) (RR acc cenv.locals) s₄) E s₃) E s₂) E s1 := by
  obtain ⟨hkind, hkp, hcell, hloc, hfree⟩ := compOk_spec hok
  refine iter_ r1 hit S1.wf.le hR.handled fun I h2 Sx hI hle2 hno2 Wk hS0 => ?_
  refine wpAny_newList ?_ (by show ([] : List Value).length ≤ sizeLine; decide)
  refine wpAny_newFunctionEnv hcell (by intro y hy; simp at hy) (fun h4 hns hsb => ?_) hkind
  dsimp only at hns hsb ⊢
  generalize hH3 : h2.push { cls := .type "list", data := .seq ([] : List Value).toArray } = h3 at hns hsb ⊢
  have hDd : h2.get? h2.objs.size = none := size_dead h2
  have hCd : h3.get? h3.objs.size = none := size_dead h3
  have hD3 : h3.PlainList h2.objs.size #[] := ⟨0, hH3 ▸ Heap.get?_push_size _ rfl⟩
  generalize h2.objs.size = D at hDd hD3 ⊢
  generalize h3.objs.size = C at hCd hns hsb ⊢
  have hCD : D ≠ C := by rintro rfl; obtain ⟨_, e⟩ := hD3; rw [hCd] at e; cases e
  have le23 : Le h2 h3 := fun b o e => hH3 ▸ Heap.get?_push_of_some _ e
  have le34 : ∀ b o, b ≠ C → h3.get? b = some o → h4.get? b = some o := fun b o hb e => hsb.extBut b o hb (Heap.get?_push_of_some _ e)
  have le24 : Le h2 h4 := fun b o e => le34 b o (by rintro rfl; rw [le23 b o e] at hCd; cases hCd) (le23 b o e)
  have le14 : Le s1.heap h4 := Le.trans hle2 le24
  have hD1 : s1.heap.get? D = none := by
    cases e : s1.heap.get? D with
    | none => rfl
    | some o => rw [hle2 _ _ e] at hDd; cases hDd
  have hC1 : s1.heap.get? C = none := by
    cases e : s1.heap.get? C with
    | none => rfl
    | some o => rw [le23 _ _ (hle2 _ _ e)] at hCd; cases hCd
  obtain ⟨oI, hoI⟩ := Wk.live _ _ hS0
  have hID : I ≠ D := by rintro rfl; rw [hDd] at hoI; cases hoI
  have hIC : I ≠ C := by rintro rfl; rw [le23 _ _ hoI] at hCd; cases hCd
  have hDl : h4.PlainList D #[] := let ⟨k, e⟩ := hD3; ⟨k, le34 _ _ hCD e⟩
  have hcells : ∀ x, (x, NameKind.free) ∈ scope.names → (env.cells.lookup x).isSome = true := fun x hx => by
    have hk : env.kindOf x = some .cell := by unfold Env.kindOf; rw [hE.scope]; exact (hfree x hx).2
    obtain ⟨a, _, h, _⟩ := S1.cel x hk
    rw [h]; rfl
  obtain ⟨fr1, fr2⟩ := frees_lookup (cells := env.cells) scope.names [] hcells (fun _ _ h => nomatch h)
  have hFd : ∀ b, s1.heap.get? b = none → F1.get? b = none := fun b hb => by
    cases e : F1.get? b with
    | none => rfl
    | some q => rw [S1.wf.le _ _ e] at hb; cases hb
  obtain ⟨F4, W4, hF4, hnew4, _⟩ := S1.wf.poke (fun b => b = I ∨ b = D ∨ b = C) h4 s1.toks (fun b hb => by rcases hb with rfl | rfl | rfl <;> exact ⟨S1.wf.fresh (by assumption), hFd _ (by assumption)⟩) (fun b o _ e => le14 b o e)
  have hWd : ∀ b, (b = I ∨ b = D ∨ b = C) → s1.heap.get? b = none := fun b hb => by rcases hb with rfl | rfl | rfl <;> assumption
  have M4 : Mov st.ob s1 F1 st.ob { s1 with heap := h4, toks := s1.toks } F4 := (Mov.refl st.ob s1 F1).poke hWd (fun b o _ e => le14 b o e) hF4 hnew4
  have hF4n : ∀ b, (b = I ∨ b = D ∨ b = C) → F4.get? b = none := fun b hb => by
    cases e : F4.get? b with
    | none => rfl
    | some q => exact absurd hb (hnew4 b q e).1
  have hsc : ∀ x, (compEnvC scope (frees env.cells scope.names []) C env).kindOf x = (compSc scope sc).s.names.lookup x := fun x => by
    unfold Env.kindOf compEnvC compSc
    rw [relabel_eq hE.scope]
  have S4 : SR c (compEnvC scope (frees env.cells scope.names []) C env) F4 ⟨compV scope sc st.vars, st.ob⟩ { s1 with heap := h4, toks := s1.toks } := by
    refine ⟨W4, ⟨_, hns, fun x v h5 h6 => ?_⟩, hF4n _ (.inr (.inr rfl)), S1.wf.fresh hC1, fun x hx => ?_, fun h => absurd rfl h, fun h => absurd rfl h, fun x a ha => ?_⟩
    · rw [hsc] at h5
      have h7 := (compV_some h6).1
      rw [h5] at h7
      cases h7
    · rw [hsc] at hx
      obtain ⟨h5, h6⟩ := comp_cell hok hx
      have hk : env.kindOf x = some .cell := by unfold Env.kindOf; rw [hE.scope]; exact h6
      obtain ⟨a, ov, h7, h8, h9⟩ := S1.cel x hk
      have h10 := fr2 x (.inl h5)
      obtain ⟨a', ha'⟩ := Option.isSome_iff_exists.mp h10
      have h11 := fr1 x a' ha'
      rw [h7] at h11
      cases h11
      refine ⟨a, ov, ha', h8.keeps le14, fun v hv => ?_⟩
      obtain ⟨xv, h12, h13⟩ := h9 v (compV_some hv).2
      exact ⟨xv, h12, h13.le hF4⟩
    · obtain ⟨h5, o, h6⟩ := S1.celO x a (fr1 x a ha)
      exact ⟨h5, o, le14 _ _ h6⟩
  have hE4 : EnvIs (compEnvC scope (frees env.cells scope.names []) C env) (compSc scope sc) := ⟨relabel_eq hE.scope, hE.globals, hE.builtins, fun h => nomatch h⟩
  have hVc : ∀ x v, compV scope sc st.vars x = some v → (compEnvC scope (frees env.cells scope.names []) C env).kindOf x = some .cell := fun x v h => by
    rw [hsc]
    exact (compV_some h).1
  have hfra : ∀ b, Fra (compEnvC scope (frees env.cells scope.names []) C env) b → b = C := fun b hb => by
    rcases hb with h | ⟨h, _⟩
    · exact h
    · exact absurd rfl h
  have hCne : ∀ x b, (compEnvC scope (frees env.cells scope.names []) C env).cells.lookup x = some b → b ≠ I ∧ b ≠ D := fun x b hb => by
    obtain ⟨_, o, ho⟩ := S1.celO x b (fr1 x b hb)
    exact ⟨(by rintro rfl; rw [hI] at ho; cases ho), (by rintro rfl; rw [hD1] at ho; cases ho)⟩
  have loop : codeAny (model c.prog c.w) A (.compLoop (.ListComp elt [⟨t, iter, ifs, 0⟩] scope pos) 0 (.ref I) (.ref D) (compEnvC scope (frees env.cells scope.names []) C env)) (RR (.ref D) C) { s1 with heap := h4, toks := s1.toks } := by
    refine compLoop_ (fun k s' => ∃ i rest acc ys F' ob', k = rest.length + 1 ∧ (items.drop i = rest ∧ i ≤ items.length ∧ acc.length ≤ i) ∧ SR c (compEnvC scope (frees env.cells scope.names []) C env) F' ⟨compV scope sc st.vars, ob'⟩ s' ∧ Mov st.ob s1 F1 ob' s' F' ∧
      (F'.get? I = none ∧ F'.get? D = none ∧ ob' I = none ∧ ob' D = none) ∧ Sx i s'.heap ∧ s'.heap.PlainList D (List.toArray ys) ∧ Reps c F' ys acc ∧ Inv rest acc ob') ?_ (items.length + 1)
      ⟨0, items, [], [], F4, st.ob, rfl, ⟨rfl, Nat.zero_le _, Nat.le_refl _⟩, S4, M4, ⟨hF4n _ (.inl rfl), hF4n _ (.inr (.inl rfl)), S1.wf.fresh hI, S1.wf.fresh hD1⟩, Wk.fr _ _ _ hS0 (fun o e => le24 _ _ e) (Le.trans S1.wf.le hle2) (Le.trans S1.wf.le le14), hDl, .nil, hI0⟩
    rintro k s' ⟨i, rest, acc, ys, F', ob', rfl, ⟨hd, hle', hal⟩, S', M', ⟨hFI, hFD, hoI, hoD⟩, hSi, hDy, hys, hInv⟩ E'
    have hFw : Le F1 s'.heap := Le.trans M'.le S'.wf.le
    have pokeI : ∀ h'' tk, Heap.ExtBut I s'.heap h'' → ∃ F'', SR c (compEnvC scope (frees env.cells scope.names []) C env) F'' ⟨compV scope sc st.vars, ob'⟩ { s' with heap := h'', toks := tk } ∧ Mov st.ob s1 F1 ob' { s' with heap := h'', toks := tk } F'' ∧ Le F' F'' ∧ F''.get? I = none ∧ F''.get? D = none := fun h'' tk he => by
      obtain ⟨F'', a1, a2, a3, a4⟩ := S'.poke (fun b => b = I) h'' tk (fun b hb => by subst hb; exact ⟨hoI, hFI⟩) (fun e => hIC e.symm) (fun x b hb => (hCne x b hb).1) (fun b o hb e => he b o hb e)
      refine ⟨F'', a1, M'.poke (fun b hb => by subst hb; exact hI) (fun b o hb e => he b o hb e) a2 a3, a2, ?_, ?_⟩
      · cases e : F''.get? I with
        | none => rfl
        | some q => exact absurd rfl (a3 _ q e).1
      · cases e : F''.get? D with
        | none => rfl
        | some q =>
          obtain ⟨_, eD⟩ := hDy
          rcases (a3 _ q e).2 with h | h
          · rw [hFD] at h; cases h
          · rw [eD] at h; cases h
    cases rest with
    | nil =>
      have hi : i = items.length := Nat.le_antisymm hle' (by rw [List.drop_eq_nil_iff] at hd; exact hd)
      subst hi
      refine Wk.done _ _ _ hSi hFw fun h'' tk he => ?_
      obtain ⟨F'', a1, a2, a3, a4, a5⟩ := pokeI h'' tk he
      exact done D C _ F'' acc ys ob' hInv a1.wf a2 a5 hoD hD1 (hDy.extBut he (Ne.symm hID)) (hys.le a3) hCD hC1 a1.off a1.offO (let ⟨m, hm, _⟩ := a1.loc; ⟨m, hm⟩)
    | cons it rest =>
      have hv : items[i]? = some it := by
        have := congrArg List.head? hd
        rwa [List.head?_drop, List.head?_cons] at this
      refine Wk.item i _ _ _ it hv hSi hFw fun y h'' tk ry hS' he => ?_
      obtain ⟨Fa, Sa, Ma, hFa, hFaI, hFaD⟩ := pokeI h'' tk he
      refine Wk.go (i + 1) _ _ _ _ _ hS' ?_
      refine turn it rest acc ob' hInv A _ Fa _ y hR hE4 Sa (ry.le Ma.le) _ _ fun F3 s3 st3 h3 o3 => ?_
      have hIl : ∃ o, h''.get? I = some o := Wk.live _ _ hS'
      have hDy' := hDy.extBut he (Ne.symm hID)
      have hnfI : ¬ Fra (compEnvC scope (frees env.cells scope.names []) C env) I := fun h => hIC (hfra _ h)
      have hnfD : ¬ Fra (compEnvC scope (frees env.cells scope.names []) C env) D := fun h => hCD (hfra _ h)
      have hi' : i < items.length := (List.getElem?_eq_some_iff.mp hv).1
      have hd' : items.drop (i + 1) = rest := by rw [List.drop_add_one_eq_tail_drop, hd]; rfl
      have nxt : ∀ {Fb sb stb}, Out c (compEnvC scope (frees env.cells scope.names []) C env) Fa ⟨compV scope sc st.vars, ob'⟩ { s' with heap := h'', toks := tk } Fb stb sb →
          SR c (compEnvC scope (frees env.cells scope.names []) C env) Fb ⟨compV scope sc st.vars, stb.ob⟩ sb ∧ Mov st.ob s1 F1 stb.ob sb Fb ∧ Fb.get? I = none ∧ Fb.get? D = none ∧ stb.ob I = none ∧ stb.ob D = none ∧ Sx (i + 1) sb.heap ∧ sb.heap.PlainList D ys.toArray := by
        intro Fb sb stb O
        have e1 := Ma.out (st' := ⟨compV scope sc st.vars, ob'⟩) O (fun b hb => by rw [hfra b hb]; exact hC1)
        obtain ⟨oI', hoI'⟩ := hIl
        obtain ⟨kD, hDo⟩ := hDy'
        have kI := O.keep I _ hoI hnfI hoI'
        have kD' := O.keep D _ hoD hnfD hDo
        refine ⟨Sa.reset O rfl hVc, e1, O.dead hFaI ⟨_, hoI'⟩ hoI, O.dead hFaD ⟨_, hDo⟩ hoD, kI.2, kD'.2, ?_, ⟨_, kD'.1⟩⟩
        exact Wk.fr _ _ _ hS' (fun o e => (O.keep I o hoI hnfI e).1) (Le.trans Ma.le Sa.wf.le) (Le.trans Ma.le (Le.trans O.le O.sr.wf.le))
      have yes : ∀ {Fb sb stb}, Out c (compEnvC scope (frees env.cells scope.names []) C env) Fa ⟨compV scope sc st.vars, ob'⟩ { s' with heap := h'', toks := tk } Fb stb sb → Ev c n (compSc scope sc) elt stb (fun v st4 => Inv rest (acc ++ [v]) st4.ob) →
          wpAny (model c.prog c.w) A (eval elt (compEnvC scope (frees env.cells scope.names []) C env)) (fun x s₄ => wpAny (model c.prog c.w) A (call (.builtin "list.append") [.ref D, x]) (fun _ s₅ => ∃ m, m < (it :: rest).length + 1 ∧
            ∃ i rest acc ys F' ob', m = rest.length + 1 ∧ (items.drop i = rest ∧ i ≤ items.length ∧ acc.length ≤ i) ∧ SR c (compEnvC scope (frees env.cells scope.names []) C env) F' ⟨compV scope sc st.vars, ob'⟩ s₅ ∧ Mov st.ob s1 F1 ob' s₅ F' ∧
              (F'.get? I = none ∧ F'.get? D = none ∧ ob' I = none ∧ ob' D = none) ∧ Sx i s₅.heap ∧ s₅.heap.PlainList D (List.toArray ys) ∧ Reps c F' ys acc ∧ Inv rest acc ob') E' s₄) E' sb := by
        intro Fb sb stb O hev
        refine hev A _ Fb sb hR hE4 O.sr _ _ fun F5 s5 z v st5 h5 o5 r5 => ?_
        obtain ⟨S5, M5, e1, e2, e3, e4, e5, e6⟩ := nxt (O.trans o5)
        refine wpAny_list_append_plain e6 (fun h6 hl6 hs6 => ?_) (by
          have := hys.length
          simp
          omega)
        obtain ⟨F7, S7, hF7, hn7, _⟩ := S5.poke (fun b => b = D) h6 s5.toks (fun b hb => by subst hb; exact ⟨e4, e2⟩) (fun e => hCD e.symm) (fun x b hb => (hCne x b hb).2) (fun b o hb e => hs6.extBut b o hb e)
        refine ⟨rest.length + 1, by simp, i + 1, rest, acc ++ [v], ys ++ [z], F7, st5.ob, rfl, ⟨hd', hi', by simp; omega⟩, S7, M5.poke (fun b hb => by subst hb; exact hD1) (fun b o hb e => hs6.extBut b o hb e) hF7 hn7, ⟨?_, ?_, e3, e4⟩, ?_, ?_, ?_, h5⟩
        · cases e : F7.get? I with
          | none => rfl
          | some q =>
            rcases (hn7 _ q e).2 with h | h
            · rw [e1] at h; cases h
            · obtain ⟨o, ho⟩ := Wk.live _ _ e5
              rw [ho] at h; cases h
        · cases e : F7.get? D with
          | none => rfl
          | some q => exact absurd rfl (hn7 _ q e).1
        · exact Wk.fr _ _ _ e5 (fun o e => hs6.extBut _ _ hID e) (Le.trans M5.le S5.wf.le) (Le.trans M5.le (Le.trans hF7 S7.wf.le))
        · simpa using hl6
        · exact ((hys.le hFa).le (Le.trans O.le (Le.trans o5.le hF7))).snoc (r5.le hF7)
      have no : ∀ {Fb sb stb}, Out c (compEnvC scope (frees env.cells scope.names []) C env) Fa ⟨compV scope sc st.vars, ob'⟩ { s' with heap := h'', toks := tk } Fb stb sb → Inv rest acc stb.ob →
          ∃ m, m < (it :: rest).length + 1 ∧
            ∃ i rest acc ys F' ob', m = rest.length + 1 ∧ (items.drop i = rest ∧ i ≤ items.length ∧ acc.length ≤ i) ∧ SR c (compEnvC scope (frees env.cells scope.names []) C env) F' ⟨compV scope sc st.vars, ob'⟩ sb ∧ Mov st.ob s1 F1 ob' sb F' ∧
              (F'.get? I = none ∧ F'.get? D = none ∧ ob' I = none ∧ ob' D = none) ∧ Sx i sb.heap ∧ sb.heap.PlainList D (List.toArray ys) ∧ Reps c F' ys acc ∧ Inv rest acc ob' := by
        intro Fb sb stb O hinv
        obtain ⟨S5, M5, e1, e2, e3, e4, e5, e6⟩ := nxt O
        exact ⟨rest.length + 1, by simp, i + 1, rest, acc, ys, Fb, stb.ob, rfl, ⟨hd', hi', by omega⟩, S5, M5, ⟨e1, e2, e3, e4⟩, e5, e6, (hys.le hFa).le O.le, hinv⟩
      unfold Ifs at h3
      split at h3
      · refine wpAny_tests_nil ?_
        rw [if_pos rfl] at h3 ⊢
        exact yes o3 h3
      · refine wpAny_tests_one (h3 A _ F3 s3 hR hE4 o3.sr _ _ fun F4 s4 b q st4 h4 o4 r4 => ?_)
        first | (obtain ⟨_, rfl⟩ := Rep.int' r4) | (obtain ⟨_, rfl⟩ := Rep.str' r4) | (obtain rfl := Rep.bool' r4) | (obtain rfl := Rep.own' r4) | (obtain rfl := Rep.none' r4) | (obtain rfl := Rep.raw' r4) | cases r4
        cases b with
        | true => rw [if_pos rfl] at h4 ⊢; exact yes (o3.trans o4) h4
        | false => rw [if_neg (by decide)] at h4 ⊢; exact no (o3.trans o4) h4
      · exact h3.elim
  exact codeAny_compStart_list loop (Wk.self 0 _ _ _ (Wk.fr _ _ _ hS0 (fun o e => le24 _ _ e) (Le.trans S1.wf.le hle2) (Le.trans S1.wf.le le14)) loop)
theorem comp_core {env : Env} {F1 : Heap} {s1 : Shared} {A : Around} {x : Value} {v : AV} {items : List AV} {E : Value → Shared → Prop} {elt t iter : Expr} {ifs : List Expr} {scope : Scope} {pos : Pos}
    (hR : Room A n) (hE : EnvIs env sc) (S1 : SR c env F1 st s1) (r1 : Rep c F1 x v) (hit : itemsOf v = some items) (hsz : items.length ≤ sizeLine) (hok : compOk scope sc = true) (Inv : List AV → List AV → Ob → Prop) (hI0 : Inv items [] st.ob)
    (turn : ∀ it rest acc ob, Inv (it :: rest) acc ob → Bind c n (compSc scope sc) t it ⟨compV scope sc st.vars, ob⟩ fun st2 => Ifs c n (compSc scope sc) ifs st2 fun q st3 =>
      if q then Ev c n (compSc scope sc) elt st3 (fun v st4 => Inv rest (acc ++ [v]) st4.ob) else Inv rest acc st3.ob)
    (RR : Value → Addr → Result → Shared → Prop)
    (done : ∀ D C s' F' acc ob', Inv [] acc ob' → Out c env F1 st s1 F' ⟨st.vars, ob'⟩ s' → Rep c F' (.ref D) (.lst acc) → s1.heap.get? C = none → F'.get? C = none → ob' C = none → (∃ m, s'.heap.Ns C m) → RR (.ref D) C (.ok .next) s') :
    wpAny (model c.prog c.w) A (pyIter x) (fun it s₂ => wpAny (model c.prog c.w) A (newList []) (fun acc s₃ =>
      wpAny (model c.prog c.w) A (newFunctionEnv scope env.globals (frees env.cells scope.names []) [] env.qual none .none (some env)) (fun cenv s₄ =>
        codeAny (model c.prog c.w) A (.compStart (.ListComp elt [⟨t, iter, ifs, 0⟩] scope pos) 0 it acc { cenv with scope := relabel scope env }) (RR acc cenv.locals) s₄) E s₃) E s₂) E s1 := by
  refine comp_core0 hR hE S1 r1 hit hsz hok Inv hI0 turn RR fun D C s' F' acc ys ob' hv W M hFD hoD hD1 hDl hys hDC hC1 hFC hoC hns => ?_
  obtain ⟨kD, hDo⟩ := hDl
  obtain ⟨F6, W6, b1, b2, b3⟩ := W.add D _ hDo hoD
  have M6 : Mov st.ob s1 F1 ob' s' F6 := ⟨Le.trans M.le b1, M.keep, fun b q e => by
    rcases b3 b q e with h | rfl
    · exact M.new b q h
    · exact .inr (.inl hD1)⟩
  have hCF : F6.get? C = none := by
    cases e : F6.get? C with
    | none => rfl
    | some q =>
      rcases b3 _ q e with h | h
      · exact nomatch hFC.symm.trans h
      · exact absurd h.symm hDC
  exact done D C _ F6 acc ob' hv (S1.lift W6 M6) (.lst ⟨_, b2⟩ (hys.le b1)) hC1 hCF hoC hns
theorem comp_own {env : Env} {F1 : Heap} {s1 : Shared} {A : Around} {x : Value} {v : AV} {items : List AV} {E : Value → Shared → Prop} {elt t iter : Expr} {ifs : List Expr} {scope : Scope} {pos : Pos}
    (hR : Room A n) (hE : EnvIs env sc) (S1 : SR c env F1 st s1) (r1 : Rep c F1 x v) (hit : itemsOf v = some items) (hsz : items.length ≤ sizeLine) (hok : compOk scope sc = true) (Inv : List AV → List AV → Ob → Prop) (hI0 : Inv items [] st.ob)
    (turn : ∀ it rest acc ob, Inv (it :: rest) acc ob → Bind c n (compSc scope sc) t it ⟨compV scope sc st.vars, ob⟩ fun st2 => Ifs c n (compSc scope sc) ifs st2 fun q st3 =>
      if q then Ev c n (compSc scope sc) elt st3 (fun v st4 => Inv rest (acc ++ [v]) st4.ob) else Inv rest acc st3.ob)
    (RR : Value → Addr → Result → Shared → Prop)
    (done : ∀ D C s' F' acc ob', Inv [] acc ob' → Out c env F1 st s1 F' ⟨st.vars, ob'.set D (.list acc)⟩ s' → ob' D = none → s1.heap.get? C = none → F'.get? C = none → ob'.set D (.list acc) C = none → (∃ m, s'.heap.Ns C m) → RR (.ref D) C (.ok .next) s') :
    wpAny (model c.prog c.w) A (pyIter x) (fun it s₂ => wpAny (model c.prog c.w) A (newList []) (fun acc s₃ =>
      wpAny (model c.prog c.w) A (newFunctionEnv scope env.globals (frees env.cells scope.names []) [] env.qual none .none (some env)) (fun cenv s₄ =>
        codeAny (model c.prog c.w) A (.compStart (.ListComp elt [⟨t, iter, ifs, 0⟩] scope pos) 0 it acc { cenv with scope := relabel scope env }) (RR acc cenv.locals) s₄) E s₃) E s₂) E s1 := by
  refine comp_core0 hR hE S1 r1 hit hsz hok Inv hI0 turn RR fun D C s' F' acc ys ob' hv W M hFD hoD hD1 hDl hys hDC hC1 hFC hoC hns => ?_
  have hset : ∀ b, b ≠ D → ob'.set D (.list acc) b = ob' b := fun b hb => if_neg hb
  have W' : Wf c F' (ob'.set D (.list acc)) s' := ⟨W.gens, W.os, W.le, W.base, fun b o e => by
    by_cases hb : b = D
    · subst hb
      have : ob'.set b (.list acc) b = some (.list acc) := if_pos rfl
      rw [this] at e
      cases e
      exact ⟨hFD, ys, hDl, hys⟩
    · rw [hset b hb] at e
      exact W.own b o e⟩
  have M' : Mov st.ob s1 F1 (ob'.set D (.list acc)) s' F' := ⟨M.le, fun b o h1 h2 => by
    obtain ⟨h3, h4⟩ := M.keep b o h1 h2
    refine ⟨h3, ?_⟩
    rw [hset b (by rintro rfl; rw [hD1] at h2; cases h2)]
    exact h4, M.new⟩
  exact done D C _ F' acc ob' hv (S1.lift W' M') hoD hC1 hFC (by rw [hset C (Ne.symm hDC)]; exact hoC) hns
end
end Mine
end
section
open PySem PySem.W PyProof.Rows PySem.Calls
namespace Mine
section
variable {c : Cx} {n : Nat} {sc : Sc} {st : St}
/-- a comprehension's course: over items, from a state, to what K says of the list and of what is owned -/
noncomputable def Course (c : Cx) (n : Nat) (sc : Sc) (elt t : Expr) (ifs : List Expr) (scope : Scope) (v : AV) (st : St) (K : AV → Ob → Prop) : Prop :=
  ∃ items, ∃ Inv : List AV → List AV → Ob → Prop, itemsOf v = some items ∧ items.length ≤ sizeLine ∧ Inv items [] st.ob ∧
    (∀ it rest acc ob, Inv (it :: rest) acc ob → Bind c n (compSc scope sc) t it ⟨compV scope sc st.vars, ob⟩ fun st2 => Ifs c n (compSc scope sc) ifs st2 fun q st3 =>
      if q then Ev c n (compSc scope sc) elt st3 (fun v st4 => Inv rest (acc ++ [v]) st4.ob) else Inv rest acc st3.ob) ∧
    (∀ acc ob, Inv [] acc ob → K (.lst acc) ob)
theorem clos_ok {env : Env} {F : Heap} {s : Shared} {scope : Scope} (hE : EnvIs env sc) (S : SR c env F st s) (hok : compOk scope sc = true) : closureFor scope env = pure (frees env.cells scope.names []) := by
  obtain ⟨_, _, _, _, hfree⟩ := compOk_spec hok
  refine closureFor_eq fun x hx => ?_
  have hk : env.kindOf x = some .cell := by unfold Env.kindOf; rw [hE.scope]; exact (hfree x hx).2
  obtain ⟨a, _, h, _⟩ := S.cel x hk
  rw [h]; rfl
theorem Comp_ {elt t iter : Expr} {ifs : List Expr} {scope : Scope} {pos : Pos} {K : AV → St → Prop} (h : Ev c n sc iter st fun v st1 => Course c n sc elt t ifs scope v st1 fun l ob => K l ⟨st1.vars, ob⟩) (hok : compOk scope sc = true := by rfl)
    (hs : ∀ env x, foldedSetIterable iter env x = pure x := by intro _ _; rfl) : Ev c n sc (.ListComp elt [⟨t, iter, ifs, 0⟩] scope pos) st K := by
  intro A env F s hR hE S Q E hQ
  obtain ⟨hkind, _, _, hnames, _⟩ := compOk_spec hok
  rw [eval_ListComp]
  refine wpAny_comprehension_free (use := none) rfl (hs env) (clos_ok hE S hok) hkind hnames (h A env F s hR hE S _ E fun F1 s1 x v st1 h1 o1 r1 => ?_)
  obtain ⟨items, Inv, hit, hsz, hI0, hturn, hdone⟩ := h1
  refine comp_core hR hE o1.sr r1 hit hsz hok Inv hI0 hturn (fun acc C => compPost (model c.prog c.w) A E none Q acc C) fun D C s' F' acc ob' hv O r hC hFC hoC hns => ?_
  obtain ⟨m, hm⟩ := hns
  refine ⟨m, hm, fun h' hs' => ?_⟩
  obtain ⟨F'', a1, a2, _, _⟩ := Out.poke o1.sr O (fun b => b = C) h' s'.toks (fun b hb => by subst hb; exact ⟨hC, hoC, hFC⟩) (fun b o hb e => hs'.extBut b o hb e)
  exact hQ F'' _ _ _ _ (hdone _ _ hv) (o1.trans a1) (r.le a2)
/-- a comprehension's list that is kept and changed -/
theorem CompOwn_ {elt t iter : Expr} {ifs : List Expr} {scope : Scope} {pos : Pos} {K : AV → St → Prop} (h : Ev c n sc iter st fun v st1 => Course c n sc elt t ifs scope v st1 fun l ob => ∃ acc, l = .lst acc ∧ ∀ a, ob a = none → K (.own a) ⟨st1.vars, ob.set a (.list acc)⟩) (hok : compOk scope sc = true := by rfl)
    (hs : ∀ env x, foldedSetIterable iter env x = pure x := by intro _ _; rfl) : Ev c n sc (.ListComp elt [⟨t, iter, ifs, 0⟩] scope pos) st K := by
  intro A env F s hR hE S Q E hQ
  obtain ⟨hkind, _, _, hnames, _⟩ := compOk_spec hok
  rw [eval_ListComp]
  refine wpAny_comprehension_free (use := none) rfl (hs env) (clos_ok hE S hok) hkind hnames (h A env F s hR hE S _ E fun F1 s1 x v st1 h1 o1 r1 => ?_)
  obtain ⟨items, Inv, hit, hsz, hI0, hturn, hdone⟩ := h1
  refine comp_own hR hE o1.sr r1 hit hsz hok Inv hI0 hturn (fun acc C => compPost (model c.prog c.w) A E none Q acc C) fun D C s' F' acc ob' hv O hoD hC hFC hoC hns => ?_
  obtain ⟨m, hm⟩ := hns
  refine ⟨m, hm, fun h' hs' => ?_⟩
  obtain ⟨F'', a1, a2, _, _⟩ := Out.poke o1.sr O (fun b => b = C) h' s'.toks (fun b hb => by subst hb; exact ⟨hC, hoC, hFC⟩) (fun b o hb e => hs'.extBut b o hb e)
  obtain ⟨acc', e1, e2⟩ := hdone _ _ hv
  cases e1
  exact hQ F'' _ _ _ _ (e2 D hoD) (o1.trans a1) (.own D)
theorem Asg_comp {y : Str} {py pos : Pos} {elt t iter : Expr} {ifs : List Expr} {scope : Scope} {cpos : Pos} {K : AF → St → Prop}
    (h : Ev c n sc iter st fun v st1 => Course c n sc elt t ifs scope v st1 fun l ob => K .next ⟨st1.vars.set y l, ob⟩)
    (hsw : ∀ env, env.scope = sc.s → swapsWith (.ListComp elt [⟨t, iter, ifs, 0⟩] scope cpos) (some (.Name y py)) pos.line env = pure true)
    (hok : compOk scope sc = true := by rfl) (hx : stOk sc y = true := by rfl) (hk : sc.s.kind = .function := by rfl)
    (hs : ∀ env x, foldedSetIterable iter env x = pure x := by intro _ _; rfl) : Ex c n sc (.Assign [.Name y py] (.ListComp elt [⟨t, iter, ifs, 0⟩] scope cpos) pos) st K := by
  intro A env F s hR hE S Q E hQ
  obtain ⟨hkind, _, _, hnames, _⟩ := compOk_spec hok
  rw [exec_Assign_Name_used _ _ _ _ (hsw env hE.scope)]
  refine wpAny_bind (wpAny_standAt (wpAny_bind ?_))
  show wpAny _ A (do let _ ← comprehension (.ListComp elt [⟨t, iter, ifs, 0⟩] scope cpos) scope env _ (newList []) false (eval iter env) (some (assign (.Name y py) env))) _ _ s
  refine wpAny_bind (wpAny_mono (wpAny_comprehension_free (Q := fun _ s' => Q .next s') rfl (hs env) (clos_ok hE S hok) hkind hnames (h A env F s hR hE S _ E fun F1 s1 x v st1 h1 o1 r1 => ?_))
    (fun _ s' hq => wpAny_pure (wpAny_pure hq)) fun _ _ e => e)
  obtain ⟨items, Inv, hit, hsz, hI0, hturn, hdone⟩ := h1
  refine comp_core hR hE o1.sr r1 hit hsz hok Inv hI0 hturn (fun acc C => compPost (model c.prog c.w) A E (some (assign (.Name y py) env)) (fun _ s' => Q .next s') acc C) fun D C s' F' acc ob' hv O r hC hFC hoC hns => ?_
  show wpAny _ A (assign (.Name y py) env (.ref D)) _ E s'
  show wpAny _ A (standAt py >>= fun _ => bindName env y (.ref D)) _ E s'
  refine wpAny_bind (wpAny_standAt (store hE O.sr r (fun s2 o2 => ?_) hx hk))
  obtain ⟨m, hm⟩ := hns
  have hCf : ¬ Fra env C := fun hf => by
    obtain ⟨_, _, o, ho⟩ := o1.sr.fra hf
    rw [hC] at ho; cases ho
  refine ⟨m, hm.at' fun o e => (o2.keep C o hoC hCf e).1, fun h' hs' => ?_⟩
  obtain ⟨F'', a1, a2, _, _⟩ := Out.poke o1.sr (O.trans o2) (fun b => b = C) h' s2.toks (fun b hb => by subst hb; exact ⟨hC, hoC, hFC⟩) (fun b o hb e => hs'.extBut b o hb e)
  exact hQ F'' _ _ _ _ (hdone _ _ hv) (o1.trans a1) .next
end
end Mine
end
section
open PySem PySem.W PyProof.Rows PySem.Calls
namespace Mine
section
variable {c : Cx} {n : Nat} {ob : Ob}
/-- a dict: frozen, or owned -/
inductive IsD (ob : Ob) : AV → List (Str × AV) → Prop
  | fr (l) : IsD ob (.dct l) l
  | own {a l} : ob a = some (.dict l) → IsD ob (.own a) l
inductive IsL (ob : Ob) : AV → List AV → Prop
  | fr (l) : IsL ob (.lst l) l
  | own {a l} : ob a = some (.list l) → IsL ob (.own a) l
theorem IsD.get {F : Heap} {s : Shared} {x : Value} {v : AV} {l : List (Str × AV)} (h : IsD ob v l) (W : Wf c F ob s) (r : Rep c F x v) : ∃ a kvs, x = .ref a ∧ s.heap.DictOf c.sk a kvs ∧ (a == sysModules) = false ∧ Repd c F kvs l := by
  cases h with
  | fr l => cases r with
    | dct h1 h2 h3 => exact ⟨_, _, rfl, h1.keep W.le, h2, h3⟩
  | own h => cases r with
    | own a => obtain ⟨_, kvs, h1, h2, h3⟩ := W.own _ _ h; exact ⟨_, kvs, rfl, h1, h2, h3⟩
theorem IsL.getP {F : Heap} {s : Shared} {x : Value} {v : AV} {l : List AV} (h : IsL ob v l) (W : Wf c F ob s) (r : Rep c F x v) : ∃ a vs, x = .ref a ∧ s.heap.PlainList a vs.toArray ∧ Reps c F vs l := by
  cases h with
  | fr l => cases r with
    | lst h1 h2 => exact ⟨_, _, rfl, h1.at fun o e => W.le _ o e, h2⟩
  | own h => cases r with
    | own a => obtain ⟨_, vs, h1, h2⟩ := W.own _ _ h; exact ⟨_, vs, rfl, h1, h2⟩
theorem IsL.get {F : Heap} {s : Shared} {x : Value} {v : AV} {l : List AV} (h : IsL ob v l) (W : Wf c F ob s) (r : Rep c F x v) : ∃ a vs, x = .ref a ∧ s.heap.IsList a vs.toArray ∧ Reps c F vs l :=
  let ⟨a, vs, h1, h2, h3⟩ := h.getP W r; ⟨a, vs, h1, h2.isList, h3⟩
theorem reps1 {F : Heap} {xs : List Value} {a : AV} (h : Reps c F xs [a]) : ∃ x, xs = [x] ∧ Rep c F x a := by
  cases h with
  | cons r h => cases h; exact ⟨_, rfl, r⟩
theorem reps2 {F : Heap} {xs : List Value} {a b : AV} (h : Reps c F xs [a, b]) : ∃ x y, xs = [x, y] ∧ Rep c F x a ∧ Rep c F y b := by
  cases h with
  | cons r h => cases h with
    | cons r2 h => cases h; exact ⟨_, _, rfl, r, r2⟩
theorem reps3 {F : Heap} {xs : List Value} {a b d : AV} (h : Reps c F xs [a, b, d]) : ∃ x y z, xs = [x, y, z] ∧ Rep c F x a ∧ Rep c F y b ∧ Rep c F z d := by
  cases h with
  | cons r h => cases h with
    | cons r2 h => cases h with
      | cons r3 h => cases h; exact ⟨_, _, _, rfl, r, r2, r3⟩
theorem Op_i2 {α β : Type} {rel : Heap → α → β → Prop} {t : List Value → Sem α} {i j : Int} {K : β → Ob → Prop} (H : ∀ A F s u v, Room A n → Wf c F ob s → ∀ (Q : α → Shared → Prop) (E : Value → Shared → Prop),
    (∀ F' s' x v ob', K v ob' → Wf c F' ob' s' → Mov ob s F ob' s' F' → rel F' x v → Q x s') → wpAny (model c.prog c.w) A (t [.int i u, .int j v]) Q E s) : Op c n rel t [.int i, .int j] ob K := by
  intro A F s xs hR W hx Q E hQ
  obtain ⟨x, y, rfl, r1, r2⟩ := reps2 hx
  obtain ⟨_, rfl⟩ := r1.int'
  obtain ⟨_, rfl⟩ := r2.int'
  exact H A F s _ _ hR W Q E hQ
theorem Op_s2 {α β : Type} {rel : Heap → α → β → Prop} {t : List Value → Sem α} {i j : Str} {K : β → Ob → Prop} (H : ∀ A F s u v, Room A n → Wf c F ob s → ∀ (Q : α → Shared → Prop) (E : Value → Shared → Prop),
    (∀ F' s' x v ob', K v ob' → Wf c F' ob' s' → Mov ob s F ob' s' F' → rel F' x v → Q x s') → wpAny (model c.prog c.w) A (t [.str i u, .str j v]) Q E s) : Op c n rel t [.str i, .str j] ob K := by
  intro A F s xs hR W hx Q E hQ
  obtain ⟨x, y, rfl, r1, r2⟩ := reps2 hx
  obtain ⟨_, rfl⟩ := r1.str'
  obtain ⟨_, rfl⟩ := r2.str'
  exact H A F s _ _ hR W Q E hQ
/-! ints, strs, bools -/
section
variable {K : AV → Ob → Prop}
theorem O_add {i j : Int} (h : K (.int (i + j)) ob) : Op c n (Rep c) (op2 (binaryOp .Add)) [.int i, .int j] ob K := by
  refine Op_i2 fun A F s _ _ hR W Q E hQ => ?_
  exact add_int (hQ F _ _ _ ob h (W.tok _) (.tok _) (.int _ _))
theorem O_mul {i j : Int} (h : K (.int (i * j)) ob) (hm : IntMulOk i j) : Op c n (Rep c) (op2 (binaryOp .Mult)) [.int i, .int j] ob K := by
  refine Op_i2 fun A F s _ _ hR W Q E hQ => ?_
  exact mul_int (hQ F _ _ _ ob h (W.tok _) (.tok _) (.int _ _)) hm
theorem O_mod {i j : Int} (h : K (.int (i.fmod j)) ob) (hj : j ≠ 0) : Op c n (Rep c) (op2 (binaryOp .Mod)) [.int i, .int j] ob K := by
  refine Op_i2 fun A F s _ _ hR W Q E hQ => ?_
  exact mod_int' hj (hQ F _ _ _ ob h (W.tok _) (.tok _) (.int _ _))
theorem O_sub {i j : Int} (h : K (.int (i - j)) ob) : Op c n (Rep c) (op2 (binaryOp .Sub)) [.int i, .int j] ob K := by
  refine Op_i2 fun A F s _ _ hR W Q E hQ => ?_
  exact sub_int (hQ F _ _ _ ob h (W.tok _) (.tok _) (.int _ _))
theorem O_eqi {i j : Int} (h : K (.bool (i == j)) ob) : Op c n (Rep c) (op2 (compareOp .Eq)) [.int i, .int j] ob K := by
  refine Op_i2 fun A F s _ _ hR W Q E hQ => ?_
  exact eq_int (hQ F _ _ _ ob h W (.refl ..) (.bool _))
theorem O_nei {i j : Int} (h : K (.bool (i != j)) ob) : Op c n (Rep c) (op2 (compareOp .NotEq)) [.int i, .int j] ob K := by
  refine Op_i2 fun A F s _ _ hR W Q E hQ => ?_
  exact ne_int (hQ F _ _ _ ob h W (.refl ..) (.bool _))
theorem O_lti {i j : Int} (h : K (.bool (decide (i < j))) ob) : Op c n (Rep c) (op2 (compareOp .Lt)) [.int i, .int j] ob K := by
  refine Op_i2 fun A F s _ _ hR W Q E hQ => ?_
  exact lt_int (hQ F _ _ _ ob h W (.refl ..) (.bool _))
theorem O_gti {i j : Int} (h : K (.bool (decide (j < i))) ob) : Op c n (Rep c) (op2 (compareOp .Gt)) [.int i, .int j] ob K := by
  refine Op_i2 fun A F s _ _ hR W Q E hQ => ?_
  exact gt_int (hQ F _ _ _ ob h W (.refl ..) (.bool _))
theorem O_eqs {i j : Str} (h : K (.bool (i == j)) ob) : Op c n (Rep c) (op2 (compareOp .Eq)) [.str i, .str j] ob K := by
  refine Op_s2 fun A F s _ _ hR W Q E hQ => ?_
  exact eq_str (hQ F _ _ _ ob h W (.refl ..) (.bool _))
theorem O_nes {i j : Str} (h : K (.bool (i != j)) ob) : Op c n (Rep c) (op2 (compareOp .NotEq)) [.str i, .str j] ob K := by
  refine Op_s2 fun A F s _ _ hR W Q E hQ => ?_
  exact ne_str (hQ F _ _ _ ob h W (.refl ..) (.bool _))
theorem O_adds {i j : Str} (h : K (.str (i ++ j)) ob) (hl : i.length + j.length ≤ sizeLine) : Op c n (Rep c) (op2 (binaryOp .Add)) [.str i, .str j] ob K := by
  refine Op_s2 fun A F s _ _ hR W Q E hQ => ?_
  exact add_str (fun t' tk => hQ F _ _ _ ob h (W.tok _) (.tok _) (.str _ _)) hl
noncomputable def isNone : AV → Bool
  | .none => true
  | _ => false
theorem O_isNone {v : AV} (hv : ∀ x, v ≠ .raw x) (h : K (.bool (isNone v)) ob) : Op c n (Rep c) (op2 (compareOp .Is)) [v, .none] ob K := by
  intro A F s xs hR W hx Q E hQ
  obtain ⟨x, y, rfl, r1, r2⟩ := reps2 hx
  first | (obtain ⟨_, rfl⟩ := Rep.int' r2) | (obtain ⟨_, rfl⟩ := Rep.str' r2) | (obtain rfl := Rep.bool' r2) | (obtain rfl := Rep.own' r2) | (obtain rfl := Rep.none' r2) | (obtain rfl := Rep.raw' r2) | cases r2
  have e : (x == Value.none) = isNone v := by
    cases r1 <;> first | rfl | exact absurd rfl (hv _)
  show wpAny _ A (compareOp .Is x .none) Q E s
  exact is_none_gen (by rw [e]; exact hQ F _ _ _ ob h W (.refl ..) (.bool _))
theorem O_abs {i : Int} (h : K (.int (if i < 0 then -i else i)) ob) : Fn c n (.builtin "abs") [.int i] ob K := by
  intro A F s xs hR W hx Q E hQ
  obtain ⟨x, rfl, r1⟩ := reps1 hx
  first | (obtain ⟨_, rfl⟩ := Rep.int' r1) | (obtain ⟨_, rfl⟩ := Rep.str' r1) | (obtain rfl := Rep.bool' r1) | (obtain rfl := Rep.own' r1) | (obtain rfl := Rep.none' r1) | (obtain rfl := Rep.raw' r1) | cases r1
  exact call_abs_int fun u tk => hQ F _ _ _ ob h (W.tok _) (.tok _) (.int _ _)
/-! len -/
theorem O_len_tup {l : List AV} (h : K (.int l.length) ob) (hl : l.length < 2 ^ 60) : Fn c n (.builtin "len") [.tup l] ob K := by
  intro A F s xs hR W hx Q E hQ
  obtain ⟨x, rfl, r1⟩ := reps1 hx
  cases r1 with
  | @tup a vs _ h1 h2 =>
    have e : vs.toArray.size = l.length := by simp [h2.length]
    refine len_tuple (isTuple_le W.le h1) (by rw [e]; omega) ?_
    rw [e]
    exact hQ F _ _ _ ob h (W.tok _) (.tok _) (.int _ _)
theorem O_len_lst {v : AV} {l : List AV} (hv : IsL ob v l) (h : K (.int l.length) ob) (hl : l.length < 2 ^ 60) : Fn c n (.builtin "len") [v] ob K := by
  intro A F s xs hR W hx Q E hQ
  obtain ⟨x, rfl, r1⟩ := reps1 hx
  obtain ⟨a, vs, rfl, h1, h2⟩ := hv.get W r1
  have e : vs.toArray.size = l.length := by simp [h2.length]
  refine len_list h1 (by rw [e]; omega) ?_
  rw [e]
  exact hQ F _ _ _ ob h (W.tok _) (.tok _) (.int _ _)
/-! dicts -/
noncomputable def dget (l : List (Str × AV)) (k : Str) : Option AV := (l.find? fun p => p.1 = k).map (·.2)
theorem Repd.find {F : Heap} {k : Str} : ∀ {kvs : List (Str × Value)} {l : List (Str × AV)}, Repd c F kvs l → (valueAt kvs k = none ∧ dget l k = none) ∨ ∃ x v, valueAt kvs k = some x ∧ dget l k = some v ∧ Rep c F x v
  | _, _, .nil => .inl ⟨rfl, rfl⟩
  | _, _, @Repd.cons _ _ k' x v kvs l r rs => by
    by_cases hk : k' = k
    · right
      exact ⟨x, v, by simp [valueAt, hk], by simp [dget, hk], r⟩
    · have := Repd.find (k := k) rs
      simpa [valueAt, dget, hk] using this
theorem Repd.isSome {F : Heap} {k : Str} {kvs : List (Str × Value)} {l : List (Str × AV)} (h : Repd c F kvs l) : (valueAt kvs k).isSome = (dget l k).isSome := by
  rcases h.find (k := k) with ⟨h1, h2⟩ | ⟨x, v, h1, h2, _⟩ <;> simp [h1, h2]
theorem O_in {k : Str} {d : AV} {l : List (Str × AV)} (hd : IsD ob d l) (h : K (.bool (dget l k).isSome) ob) : Op c n (Rep c) (op2 (compareOp .In)) [.str k, d] ob K := by
  intro A F s xs hR W hx Q E hQ
  obtain ⟨x, y, rfl, r1, r2⟩ := reps2 hx
  first | (obtain ⟨_, rfl⟩ := Rep.int' r1) | (obtain ⟨_, rfl⟩ := Rep.str' r1) | (obtain rfl := Rep.bool' r1) | (obtain rfl := Rep.own' r1) | (obtain rfl := Rep.none' r1) | (obtain rfl := Rep.raw' r1) | cases r1
  obtain ⟨a, kvs, rfl, h1, h2, h3⟩ := hd.get W r2
  exact wpAny_in_of (strKind_is ..) h2 h1.mapOf (by rw [h3.isSome]; exact hQ F _ _ _ ob h (W.tok _) (.tok _) (.bool _))
theorem O_notin {k : Str} {d : AV} {l : List (Str × AV)} (hd : IsD ob d l) (h : K (.bool (!(dget l k).isSome)) ob) : Op c n (Rep c) (op2 (compareOp .NotIn)) [.str k, d] ob K := by
  intro A F s xs hR W hx Q E hQ
  obtain ⟨x, y, rfl, r1, r2⟩ := reps2 hx
  first | (obtain ⟨_, rfl⟩ := Rep.int' r1) | (obtain ⟨_, rfl⟩ := Rep.str' r1) | (obtain rfl := Rep.bool' r1) | (obtain rfl := Rep.own' r1) | (obtain rfl := Rep.none' r1) | (obtain rfl := Rep.raw' r1) | cases r1
  obtain ⟨a, kvs, rfl, h1, h2, h3⟩ := hd.get W r2
  exact wpAny_notIn_of (strKind_is ..) h2 h1.mapOf (by rw [h3.isSome]; exact hQ F _ _ _ ob h (W.tok _) (.tok _) (.bool _))
theorem O_getd {k : Str} {d v : AV} {l : List (Str × AV)} (hd : IsD ob d l) (hv : dget l k = some v) (h : K v ob) : Op c n (Rep c) (op2 getItem) [d, .str k] ob K := by
  intro A F s xs hR W hx Q E hQ
  obtain ⟨x, y, rfl, r1, r2⟩ := reps2 hx
  first | (obtain ⟨_, rfl⟩ := Rep.int' r2) | (obtain ⟨_, rfl⟩ := Rep.str' r2) | (obtain rfl := Rep.bool' r2) | (obtain rfl := Rep.own' r2) | (obtain rfl := Rep.none' r2) | (obtain rfl := Rep.raw' r2) | cases r2
  obtain ⟨a, kvs, rfl, h1, h2, h3⟩ := hd.get W r1
  rcases h3.find (k := k) with ⟨_, h5⟩ | ⟨x, v', h4, h5, r⟩
  · rw [hv] at h5; cases h5
  · rw [hv] at h5
    cases h5
    exact wpAny_getItem_of (strKind_is ..) h1.mapOf h4 (hQ F _ _ _ ob h (W.tok _) (.tok _) r)
noncomputable def dput (l : List (Str × AV)) (k : Str) (v : AV) : List (Str × AV) :=
  if l.any (fun p => p.1 = k) then l.map (fun p => if p.1 = k then (p.1, v) else p) else l ++ [(k, v)]
theorem Repd.any {F : Heap} {k : Str} : ∀ {kvs : List (Str × Value)} {l : List (Str × AV)}, Repd c F kvs l → kvs.any (fun p => p.1 = k) = l.any (fun p => p.1 = k)
  | _, _, .nil => rfl
  | _, _, .cons r rs => by simp [Repd.any (k := k) rs]
theorem Repd.mapk {F : Heap} {k : Str} {x : Value} {v : AV} (r0 : Rep c F x v) : ∀ {kvs : List (Str × Value)} {l : List (Str × AV)}, Repd c F kvs l → Repd c F (kvs.map fun p => if p.1 = k then (p.1, x) else p) (l.map fun p => if p.1 = k then (p.1, v) else p)
  | _, _, .nil => .nil
  | _, _, @Repd.cons _ _ k' _ _ _ _ r rs => by
    simp only [List.map_cons]
    by_cases hk : k' = k
    · simp only [hk, if_true]; exact .cons r0 (Repd.mapk r0 rs)
    · simp only [hk, if_false]; exact .cons r (Repd.mapk r0 rs)
theorem Repd.snoc {F : Heap} {k : Str} {x : Value} {v : AV} (r0 : Rep c F x v) : ∀ {kvs : List (Str × Value)} {l : List (Str × AV)}, Repd c F kvs l → Repd c F (kvs ++ [(k, x)]) (l ++ [(k, v)])
  | _, _, .nil => .cons r0 .nil
  | _, _, .cons r rs => .cons r (Repd.snoc r0 rs)
theorem Repd.put {F : Heap} {k : Str} {x : Value} {v : AV} {kvs : List (Str × Value)} {l : List (Str × AV)} (h : Repd c F kvs l) (r : Rep c F x v) : Repd c F (stored kvs k x) (dput l k v) := by
  unfold stored dput
  rw [h.any]
  split
  · exact h.mapk r
  · exact h.snoc r
theorem O_setd {k : Str} {a : Addr} {v : AV} {l : List (Str × AV)} {K : Unit → Ob → Prop} (hd : ob a = some (.dict l)) (h : K () (ob.set a (.dict (dput l k v)))) (hl : l.length ≤ sizeLine) : Op c n (fun _ (_ : Unit) (_ : Unit) => True) (op3 setItem) [.own a, .str k, v] ob K := by
  intro A F s xs hR W hx Q E hQ
  obtain ⟨x, y, z, rfl, r1, r2, r3⟩ := reps3 hx
  first | (obtain ⟨_, rfl⟩ := Rep.int' r1) | (obtain ⟨_, rfl⟩ := Rep.str' r1) | (obtain rfl := Rep.bool' r1) | (obtain rfl := Rep.own' r1) | (obtain rfl := Rep.none' r1) | (obtain rfl := Rep.raw' r1) | cases r1
  first | (obtain ⟨_, rfl⟩ := Rep.int' r2) | (obtain ⟨_, rfl⟩ := Rep.str' r2) | (obtain rfl := Rep.bool' r2) | (obtain rfl := Rep.own' r2) | (obtain rfl := Rep.none' r2) | (obtain rfl := Rep.raw' r2) | cases r2
  obtain ⟨_, kvs, h1, h2, h3⟩ := W.own _ _ hd
  refine wpAny_setItem_pairs (strKind_is ..) h1 (fun h' hd' hs' => ?_) (by rw [h3.length]; exact hl)
  obtain ⟨F', w1, w2, _⟩ := W.put a (.dict (dput l k v)) h' (s.toks + 1) (.inl (by rw [hd]; simp)) hs'.extBut fun F' hF _ => ⟨_, hd', h2, (h3.put r3).le hF⟩
  exact hQ F' _ () () _ h w1 w2 trivial
end
end
end Mine
end
section
open PySem PySem.W PyProof.Rows PySem.Calls
namespace Mine
/-- the patterns -/
inductive Tm where
  | v (i : Fin 3)
  | a
  | b
  | f (t : Tm)
  | g (t u : Tm)
  deriving DecidableEq
namespace Tm
noncomputable def hd : Tm → Str
  | .v i => match i with | 0 => "?x" | 1 => "?y" | 2 => "?z"
  | .a => "a"
  | .b => "b"
  | .f _ => "f"
  | .g _ _ => "g"
noncomputable def kids : Tm → List Tm
  | .f t => [t]
  | .g t u => [t, u]
  | _ => []
noncomputable def dp : Tm → Nat
  | .f t => t.dp + 1
  | .g t u => max t.dp u.dp + 1
  | _ => 1
noncomputable def av : Tm → AV
  | .v i => .tup [.str (hd (.v i))]
  | .a => .tup [.str "a"]
  | .b => .tup [.str "b"]
  | .f t => .tup [.str "f", t.av]
  | .g t u => .tup [.str "g", t.av, u.av]
noncomputable def pd : Tm → PyData
  | .v i => .tuple [.str (hd (.v i))]
  | .a => .tuple [.str "a"]
  | .b => .tuple [.str "b"]
  | .f t => .tuple [.str "f", t.pd]
  | .g t u => .tuple [.str "g", t.pd, u.pd]
theorem av_eq (t : Tm) : t.av = .tup (.str t.hd :: t.kids.map av) := by cases t <;> rfl
theorem kids_dp {t k : Tm} (h : k ∈ t.kids) : k.dp < t.dp := by
  cases t with
  | f t => simp [kids] at h; subst h; simp [dp]
  | g t u => simp [kids] at h; rcases h with rfl | rfl <;> simp [dp] <;> omega
  | _ => simp [kids] at h
theorem dp_pos (t : Tm) : 1 ≤ t.dp := by cases t <;> simp [dp]
theorem reads {c : Cx} {F : Heap} : ∀ (t : Tm) {x : Value}, Rep c F x t.av → ∃ as, Reads F x t.pd as := by
  have one : ∀ {s : Str} {x : Value}, Rep c F x (.tup [.str s]) → ∃ as, Reads F x (.tuple [.str s]) as := by
    intro s x h
    cases h with
    | @tup a vs _ h1 h2 =>
      obtain ⟨o, h3, h4, k, h5⟩ := h1
      obtain ⟨y, rfl, r⟩ := reps1 h2
      first | (obtain ⟨_, rfl⟩ := Rep.int' r) | (obtain ⟨_, rfl⟩ := Rep.str' r) | (obtain rfl := Rep.bool' r) | (obtain rfl := Rep.own' r) | (obtain rfl := Rep.none' r) | (obtain rfl := Rep.raw' r) | cases r
      exact ⟨_, .tuple h3 h4 h5 (.cons (.str _ _) .nil)⟩
  intro t
  induction t with
  | v i => intro x h; exact one h
  | a => intro x h; exact one h
  | b => intro x h; exact one h
  | f t ih =>
    intro x h
    cases h with
    | @tup a vs _ h1 h2 =>
      obtain ⟨o, h3, h4, k, h5⟩ := h1
      obtain ⟨y, z, rfl, r, r'⟩ := reps2 h2
      first | (obtain ⟨_, rfl⟩ := Rep.int' r) | (obtain ⟨_, rfl⟩ := Rep.str' r) | (obtain rfl := Rep.bool' r) | (obtain rfl := Rep.own' r) | (obtain rfl := Rep.none' r) | (obtain rfl := Rep.raw' r) | cases r
      obtain ⟨as, hr⟩ := ih r'
      exact ⟨_, .tuple h3 h4 h5 (.cons (.str _ _) (.cons hr .nil))⟩
  | g t u ih ih' =>
    intro x h
    cases h with
    | @tup a vs _ h1 h2 =>
      obtain ⟨o, h3, h4, k, h5⟩ := h1
      obtain ⟨y, z, w, rfl, r, r', r''⟩ := reps3 h2
      first | (obtain ⟨_, rfl⟩ := Rep.int' r) | (obtain ⟨_, rfl⟩ := Rep.str' r) | (obtain rfl := Rep.bool' r) | (obtain rfl := Rep.own' r) | (obtain rfl := Rep.none' r) | (obtain rfl := Rep.raw' r) | cases r
      obtain ⟨as, hr⟩ := ih r'
      obtain ⟨bs, hr'⟩ := ih' r''
      exact ⟨_, .tuple h3 h4 h5 (.cons (.str _ _) (.cons hr (.cons hr' .nil)))⟩
theorem canLay : ∀ t : Tm, t.pd.canLay0 = true
  | .v i => by match i with | 0 => decide +kernel | 1 => decide +kernel | 2 => decide +kernel
  | .a => by decide +kernel
  | .b => by decide +kernel
  | .f t => by
    have := canLay t
    simp only [pd, PyData.canLay0, PyData.canLayAll0, this]
    decide +kernel
  | .g t u => by
    have h1 := canLay t
    have h2 := canLay u
    simp only [pd, PyData.canLay0, PyData.canLayAll0, h1, h2]
    decide +kernel
theorem depth : ∀ t : Tm, t.pd.depth = t.dp
  | .v i => rfl
  | .a => rfl
  | .b => rfl
  | .f t => by simp only [pd, PyData.depth, PyData.depthAll, depth t, dp]; omega
  | .g t u => by simp only [pd, PyData.depth, PyData.depthAll, depth t, depth u, dp]; omega
theorem eqv : ∀ t u : Tm, PyData.eqv t.pd u.pd = decide (t = u) := by
  intro t
  induction t with
  | v i =>
    intro u
    cases u with
    | v j => match i, j with
      | 0, 0 => decide | 0, 1 => decide | 0, 2 => decide | 1, 0 => decide | 1, 1 => decide | 1, 2 => decide | 2, 0 => decide | 2, 1 => decide | 2, 2 => decide
    | a => match i with | 0 => decide | 1 => decide | 2 => decide
    | b => match i with | 0 => decide | 1 => decide | 2 => decide
    | f t => simp [pd, PyData.eqv, PyData.eqvAll]
    | g t u => simp [pd, PyData.eqv, PyData.eqvAll]
  | a =>
    intro u
    cases u with
    | v j => match j with | 0 => decide | 1 => decide | 2 => decide
    | a => decide
    | b => decide
    | f t => simp [pd, PyData.eqv, PyData.eqvAll]
    | g t u => simp [pd, PyData.eqv, PyData.eqvAll]
  | b =>
    intro u
    cases u with
    | v j => match j with | 0 => decide | 1 => decide | 2 => decide
    | a => decide
    | b => decide
    | f t => simp [pd, PyData.eqv, PyData.eqvAll]
    | g t u => simp [pd, PyData.eqv, PyData.eqvAll]
  | f t ih =>
    intro u
    cases u with
    | f s => simp [pd, PyData.eqv, PyData.eqvAll, ih s]
    | g t u => simp [pd, PyData.eqv, PyData.eqvAll]
    | _ => simp [pd, PyData.eqv, PyData.eqvAll]
  | g t s ih ih' =>
    intro u
    cases u with
    | f s => simp [pd, PyData.eqv, PyData.eqvAll]
    | g p q => simp [pd, PyData.eqv, PyData.eqvAll, ih p, ih' q]
    | _ => simp [pd, PyData.eqv, PyData.eqvAll]
end Tm
section
variable {c : Cx} {n : Nat} {ob : Ob} {K : AV → Ob → Prop}
theorem O_eqt {t u : Tm} (h : K (.bool (decide (t = u))) ob) (hd : t.dp ≤ 100) : Op c n (Rep c) (op2 (compareOp .Eq)) [t.av, u.av] ob K := by
  intro A F s xs hR W hx Q E hQ
  obtain ⟨x, y, rfl, r1, r2⟩ := reps2 hx
  obtain ⟨as, h1⟩ := t.reads r1
  obtain ⟨bs, h2⟩ := u.reads r2
  refine SeqAt.compareEq_reads (Reads.keeps W.le h1) (Reads.keeps W.le h2) t.canLay u.canLay ?_ (by rw [Tm.eqv]; exact hQ F _ _ _ ob h W (.refl ..) (.bool _))
  rw [t.depth]
  have := hR.units
  have : min t.dp u.pd.depth ≤ t.dp := Nat.min_le_left _ _
  omega
theorem O_net {t u : Tm} (h : K (.bool (!decide (t = u))) ob) (hd : t.dp ≤ 100) : Op c n (Rep c) (op2 (compareOp .NotEq)) [t.av, u.av] ob K := by
  intro A F s xs hR W hx Q E hQ
  obtain ⟨x, y, rfl, r1, r2⟩ := reps2 hx
  obtain ⟨as, h1⟩ := t.reads r1
  obtain ⟨bs, h2⟩ := u.reads r2
  refine SeqAt.compareNe_reads (Reads.keeps W.le h1) (Reads.keeps W.le h2) t.canLay u.canLay ?_ (by rw [Tm.eqv]; exact hQ F _ _ _ ob h W (.refl ..) (.bool _))
  rw [t.depth]
  have := hR.units
  have : min t.dp u.pd.depth ≤ t.dp := Nat.min_le_left _ _
  omega
/-! subscripts -/
theorem O_itup {l : List AV} {k : Int} {v : AV} (h0 : 0 ≤ k) (hk : k < 2 ^ 60) (hv : l[k.toNat]? = some v) (h : K v ob) : Op c n (Rep c) (op2 getItem) [.tup l, .int k] ob K := by
  intro A F s xs hR W hx Q E hQ
  obtain ⟨x, y, rfl, r1, r2⟩ := reps2 hx
  first | (obtain ⟨_, rfl⟩ := Rep.int' r2) | (obtain ⟨_, rfl⟩ := Rep.str' r2) | (obtain rfl := Rep.bool' r2) | (obtain rfl := Rep.own' r2) | (obtain rfl := Rep.none' r2) | (obtain rfl := Rep.raw' r2) | cases r2
  cases r1 with
  | @tup a vs _ h1 h2 =>
    obtain ⟨hlt, _⟩ := List.getElem?_eq_some_iff.mp hv
    have hx' : vs[k.toNat]? = some (vs[k.toNat]'(by rw [h2.length]; exact hlt)) := List.getElem?_eq_getElem _
    refine getItem_tuple (isTuple_le W.le h1) (by omega) (by omega) (seqIndex_of h0 (by simp [h2.length]; omega)) (by simpa using hx') (hQ F _ _ _ ob h W (.refl ..) (h2.get hx' hv))
theorem O_ilst {w : AV} {l : List AV} {k : Int} {v : AV} (hw : IsL ob w l) (h0 : 0 ≤ k) (hk : k < 2 ^ 60) (hv : l[k.toNat]? = some v) (h : K v ob) : Op c n (Rep c) (op2 getItem) [w, .int k] ob K := by
  intro A F s xs hR W hx Q E hQ
  obtain ⟨x, y, rfl, r1, r2⟩ := reps2 hx
  first | (obtain ⟨_, rfl⟩ := Rep.int' r2) | (obtain ⟨_, rfl⟩ := Rep.str' r2) | (obtain rfl := Rep.bool' r2) | (obtain rfl := Rep.own' r2) | (obtain rfl := Rep.none' r2) | (obtain rfl := Rep.raw' r2) | cases r2
  obtain ⟨a, vs, rfl, h1, h2⟩ := hw.get W r1
  obtain ⟨hlt, _⟩ := List.getElem?_eq_some_iff.mp hv
  have hx' : vs[k.toNat]? = some (vs[k.toNat]'(by rw [h2.length]; exact hlt)) := List.getElem?_eq_getElem _
  exact wpAny_getItem_list h1 h0 (by omega) (by simpa using hx') (hQ F _ _ _ ob h W (.refl ..) (h2.get hx' hv))
/-- the kinds of things that are subscripted -/
noncomputable def subTy : AV → Option String
  | .tup _ => some "tuple"
  | .lst _ => some "list"
  | .dct _ => some "dict"
  | .str _ => some "str"
  | _ => none
theorem subTy_look {T : String} {v : AV} (h : subTy v = some T) : ∃ id, typeLookup (.type T) "__getitem__" = pure (some (.builtin id)) := by
  cases v <;> cases h
  · exact ⟨_, F.slot_str_getitem.lookup⟩
  · exact ⟨_, slot_tuple_getitem.lookup⟩
  · exact ⟨_, slot_list_getitem.lookup⟩
  · exact ⟨_, slot_dict_getitem.lookup⟩
theorem subTy_is {F : Heap} {s : Shared} {x : Value} {v : AV} {T : String} (h : subTy v = some T) (hF : Le F s.heap) (r : Rep c F x v) : s.TypeIs x T := by
  cases r <;> cases h
  · exact typeIs_str _ _ _
  · rename_i h1 _; exact (isTuple_le hF h1).typeIs
  · rename_i h1 _; exact (isList_le hF h1.isList).typeIs
  · rename_i h1 _ _; exact (h1.keep hF).typeIs
end
section
variable {c : Cx} {n : Nat} {sc : Sc} {st : St}
/-- an index that is no slice -/
noncomputable def notSlice : Expr → Bool
  | .Slice .. => false
  | _ => true
theorem sub_plain {e i : Expr} (h : notSlice i = true) {o k : Value} : subscripted i false o k = operate [o, k] (getItem o k) := by
  unfold subscripted
  split
  · cases h
  · rename_i hh; cases hh
  · rfl
theorem Sub_ {e i : Expr} {pos : Pos} {K : AV → St → Prop}
    (h : Ev c n sc e st fun v st1 => Ev c n sc i st1 fun k st2 => (subTy v).isSome = true ∧ Op c n (Rep c) (op2 getItem) [v, k] st2.ob fun r ob => K r ⟨st2.vars, ob⟩) (hi : notSlice i = true := by rfl) : Ev c n sc (.Subscript e i pos) st K := by
  intro A env F s hR hE S Q E hQ
  refine Subscript_ (h A env F s hR hE S _ E fun F1 s1 x v st1 h1 o1 r1 => h1 A env F1 s1 hR hE o1.sr _ E fun F2 s2 y k st2 h2 o2 r2 => ?_)
  obtain ⟨hT, h2⟩ := h2
  obtain ⟨T, hT⟩ := Option.isSome_iff_exists.mp hT
  obtain ⟨id, hid⟩ := subTy_look hT
  refine tail_any (subTy_is hT o2.sr.wf.le (r1.le o2.le)) hid ?_ (sub_plain (e := e) hi)
  exact use h2 hR o2.sr (.cons (r1.le o2.le) (.cons r2 .nil)) fun F3 s3 z r ob' hk o3 r3 => hQ F3 s3 z r _ hk ((o1.trans o2).trans o3) r3
/-- an owned dict's item -/
theorem SubD_ {e i : Expr} {pos : Pos} {K : AV → St → Prop}
    (h : Ev c n sc e st fun v st1 => Ev c n sc i st1 fun k st2 => (∃ l, IsD st2.ob v l) ∧ Op c n (Rep c) (op2 getItem) [v, k] st2.ob fun r ob => K r ⟨st2.vars, ob⟩) (hi : notSlice i = true := by rfl) : Ev c n sc (.Subscript e i pos) st K := by
  intro A env F s hR hE S Q E hQ
  refine Subscript_ (h A env F s hR hE S _ E fun F1 s1 x v st1 h1 o1 r1 => h1 A env F1 s1 hR hE o1.sr _ E fun F2 s2 y k st2 h2 o2 r2 => ?_)
  obtain ⟨⟨l, hl⟩, h2⟩ := h2
  obtain ⟨a, kvs, rfl, h3, _, _⟩ := hl.get o2.sr.wf (r1.le o2.le)
  refine tail_any h3.typeIs slot_dict_getitem.lookup ?_ (sub_plain (e := e) hi)
  exact use h2 hR o2.sr (.cons (r1.le o2.le) (.cons r2 .nil)) fun F3 s3 z r ob' hk o3 r3 => hQ F3 s3 z r _ hk ((o1.trans o2).trans o3) r3
/-- t[1:] of a tuple -/
theorem SubFrom1 {e : Expr} {k : Nat} {cp p pos : Pos} {K : AV → St → Prop} (h : Ev c n sc e st fun v st1 => ∃ x l, v = .tup (x :: l) ∧ l.length ≤ 1000 ∧ K (.tup l) st1) :
    Ev c n sc (.Subscript e (.Slice (some (.Constant (.int 1) k cp)) none none p) pos) st K := by
  intro A env F s hR hE S Q E hQ
  refine Subscript_ (h A env F s hR hE S _ E fun F1 s1 x v st1 h1 o1 r1 => ?_)
  obtain ⟨y, l, rfl, hl, hk⟩ := h1
  refine wpAny_Slice ?_
  rw [evalPart_some, evalPart_none]
  refine wpAny_Constant_int (wpAny_pure (wpAny_pure ?_))
  cases r1 with
  | @tup a vs _ h1 h2 =>
    cases h2 with
    | @cons z _ zs _ rz h2 =>
      dsimp only
      have hF : Le F1 (s1.heap.push { cls := .type "slice", data := .fields #[.int 1 s1.toks, .none, .none] }) := fun b o e => Heap.get?_push_of_some _ (o1.sr.wf.le b o e)
      refine tail_any (ops := [.ref s1.heap.objs.size, .ref a]) (isTuple_le hF h1).typeIs slot_tuple_getitem.lookup ?_ (by with_unfolding_all rfl)
      refine getItem_tuple_from (a := 1) (u := s1.toks) (isTuple_le hF h1) ⟨_, Heap.get?_push_size _ rfl, rfl, rfl⟩ (Nat.le_refl _) (by simp) ?_ (by have := h2.length; simp [sizeLine_eq]; omega)
      dsimp only
      obtain ⟨F2, o2, hn⟩ := o1.sr.grow ((s1.heap.push { cls := .type "slice", data := .fields #[.int 1 s1.toks, .none, .none] }).push { cls := .type "tuple", data := .seq (List.drop 1 (z :: zs).toArray.toList).toArray }) (s1.toks + 1)
        (fun b o e => Heap.get?_push_of_some _ (Heap.get?_push_of_some _ e))
      refine hQ F2 _ _ _ _ hk (o1.trans o2) (.tup (vs := zs) ⟨_, hn _ _ ?_ (Heap.get?_push_size _ rfl), rfl, 0, by simp⟩ (h2.le o2.le))
      · cases e : s1.heap.get? (s1.heap.push { cls := .type "slice", data := .fields #[.int 1 s1.toks, .none, .none] }).objs.size with
        | none => rfl
        | some q =>
          have := Heap.lt_size e
          rw [Heap.size_push] at this
          exact absurd this (Nat.not_lt.mpr (Nat.le_succ _))
end
end Mine
end
section
open PySem PySem.W PyProof.Rows PySem.Calls
namespace Mine
section
variable {c : Cx} {n : Nat} {sc : Sc} {st : St}
/-- a call of a built-in function, or of a built-in class, by name -/
theorem Call_b {x : Str} {p pos : Pos} {args : List Expr} {e : Expr} {id : String} {K : AV → St → Prop} (hg : c.mg x = none) (hv : c.mb x = some (.builtin id))
    (h : Ar c n sc pos (e :: args) st fun vs st1 => Fn c n (.builtin id) vs st1.ob fun v ob => K v ⟨st1.vars, ob⟩)
    (hl : sc.s.names.lookup x = some .globalImplicit := by rfl) (hk : sc.s.kind = .function := by rfl) (hd : (x == ("__debug__" : Str)) = false := by decide)
    (he : ∀ env, starEach (e :: args) env = (false, eval e env) :: starEach args env := by intro _; rfl)
    (hp : ∀ env, (backTo pos (starEach args env)).any (·.1) = false := by intro _; rfl) : Ev c n sc (.Call (.Name x p) (e :: args) [] pos) st K := by
  intro A env F s hR hE S Q E hQ
  refine Call_ (Name_b (n := n) hg hv (K := fun v st1 => v = .raw (.builtin id) ∧ st1 = st) ⟨rfl, rfl⟩ hl hk hd A env F s hR hE S _ E fun F1 s1 f v st1 h1 o1 r1 => ?_)
  obtain ⟨rfl, rfl⟩ := h1
  first | (obtain ⟨_, rfl⟩ := Rep.int' r1) | (obtain ⟨_, rfl⟩ := Rep.str' r1) | (obtain rfl := Rep.bool' r1) | (obtain rfl := Rep.own' r1) | (obtain rfl := Rep.none' r1) | (obtain rfl := Rep.raw' r1) | cases r1
  refine callWith_builtin1 (h A env F1 s1 hR hE o1.sr _ E fun F2 s2 xs vs st2 h2 o2 r2 => ?_) (he env) (hp env)
  exact use h2 hR o2.sr r2 fun F3 s3 z v ob' hk o3 r3 => hQ F3 s3 z v _ hk ((o1.trans o2).trans o3) r3
theorem Call_t {x : Str} {p pos : Pos} {args : List Expr} {e : Expr} {id : String} {K : AV → St → Prop} (hg : c.mg x = none) (hv : c.mb x = some (.type id))
    (h : Ar c n sc pos (e :: args) st fun vs st1 => Fn c n (.type id) vs st1.ob fun v ob => K v ⟨st1.vars, ob⟩)
    (hl : sc.s.names.lookup x = some .globalImplicit := by rfl) (hk : sc.s.kind = .function := by rfl) (hd : (x == ("__debug__" : Str)) = false := by decide)
    (he : ∀ env, starEach (e :: args) env = (false, eval e env) :: starEach args env := by intro _; rfl)
    (hp : ∀ env, (backTo pos (starEach args env)).any (·.1) = false := by intro _; rfl) : Ev c n sc (.Call (.Name x p) (e :: args) [] pos) st K := by
  intro A env F s hR hE S Q E hQ
  refine Call_ (Name_b (n := n) hg hv (K := fun v st1 => v = .raw (.type id) ∧ st1 = st) ⟨rfl, rfl⟩ hl hk hd A env F s hR hE S _ E fun F1 s1 f v st1 h1 o1 r1 => ?_)
  obtain ⟨rfl, rfl⟩ := h1
  first | (obtain ⟨_, rfl⟩ := Rep.int' r1) | (obtain ⟨_, rfl⟩ := Rep.str' r1) | (obtain rfl := Rep.bool' r1) | (obtain rfl := Rep.own' r1) | (obtain rfl := Rep.none' r1) | (obtain rfl := Rep.raw' r1) | cases r1
  refine PyProof.Rows.callWith_type1 (h A env F1 s1 hR hE o1.sr _ E fun F2 s2 xs vs st2 h2 o2 r2 => ?_) (he env) (hp env)
  exact use h2 hR o2.sr r2 fun F3 s3 z v ob' hk o3 r3 => hQ F3 s3 z v _ hk ((o1.trans o2).trans o3) r3
/-- s[:j] of a str -/
theorem SubStrTo {e : Expr} {j : Int} {k : Nat} {cp p pos : Pos} {K : AV → St → Prop} (h : Ev c n sc e st fun v st1 => ∃ x, v = .str x ∧ x.length ≤ 1000 ∧ K (.str (Txt.slice x none (some j))) st1) :
    Ev c n sc (.Subscript e (.Slice none (some (.Constant (.int j) k cp)) none p) pos) st K := by
  intro A env F s hR hE S Q E hQ
  refine Subscript_ (h A env F s hR hE S _ E fun F1 s1 x v st1 h1 o1 r1 => ?_)
  obtain ⟨y, rfl, hl, hk⟩ := h1
  refine wpAny_Slice ?_
  rw [evalPart_some, evalPart_none]
  refine wpAny_pure (wpAny_Constant_int (wpAny_pure ?_))
  cases r1 with
  | str _ t =>
    dsimp only
    refine tail_any (ops := [.ref s1.heap.objs.size, .str y t]) (typeIs_str _ _ _) PySem.F.slot_str_getitem.lookup ?_ (by with_unfolding_all rfl)
    obtain ⟨T, id, h1, h2, h3⟩ := SBH.sliceItem_ns (prog := c.prog) (w := c.w) (A := A) (E := E) (P := fun h => Le s1.heap h) (s := { s1 with toks := s1.toks + 1 }) (x := y) (t := t) (j := j) (uj := s1.toks) (Q := Q)
      (fun h ob hp b o e => Heap.get?_push_of_some _ (hp b o e)) (Le.refl _) (fun h' t' k hle => by
        obtain ⟨F2, o2, hn⟩ := o1.sr.grow h' k hle
        exact hQ F2 _ _ _ _ hk (o1.trans o2) (.str _ _)) (by rw [sizeLine_eq]; omega)
    exact h3
end
end Mine
end
section
open PySem PySem.W PyProof.Rows PySem.Calls
namespace Mine
theorem le_line {n : Nat} (h : Nat.ble n 100 = true) : n ≤ sizeLine := Nat.le_trans (Nat.le_of_ble_eq_true h) (by decide)
theorem Exs_let {c : Cx} {n : Nat} {sc : Sc} {b : List Stmt} {st : St} {K : AF → St → Prop} (h : let K' := K; Exs c n sc b st K') : Exs c n sc b st K := h
noncomputable def fnAt (i : Nat) : Option (List Str × List Stmt × Scope) :=
  match (PySem.Challenge.pw_pq0036_01.main.body[i]? : Option Stmt) with
  | some (.FunctionDef _ args body _ _ _ scope _ _ _) => some (args.args.map (·.arg), body, scope)
  | _ => none
noncomputable def fnBody (i : Nat) : List Stmt := match fnAt i with | some (_, b, _) => b | none => []
noncomputable def fnSc (i : Nat) : Sc := match fnAt i with | some (_, _, s) => ⟨s, true⟩ | none => ⟨default, true⟩
noncomputable def fnPs (i : Nat) : List Str := match fnAt i with | some (p, _, _) => p | none => []
noncomputable def Gf (c : Cx) (x : Str) (i : Nat) (a : Addr) : Prop := c.mg x = some (.ref a) ∧ Def c a (fnPs i) (fnBody i) (fnSc i)
noncomputable def Gb (c : Cx) (x : Str) (id : String) : Prop := c.mg x = none ∧ c.mb x = some (.builtin id)
noncomputable def Gt (c : Cx) (x : Str) (id : String) : Prop := c.mg x = none ∧ c.mb x = some (.type id)
noncomputable def Tm.isV : Tm → Bool
  | .v _ => true
  | _ => false
section
variable {c : Cx} {n : Nat} {ob : Ob} {K : AV → Ob → Prop}
theorem O_len_tm {t : Tm} (h : K (.int (t.kids.length + 1 : Nat)) ob) : Fn c n (.builtin "len") [t.av] ob K := by
  rw [t.av_eq]
  refine O_len_tup ?_ ?_
  · simpa using h
  · cases t <;> simp [Tm.kids] <;> decide
theorem O_hd {t : Tm} (h : K (.str t.hd) ob) : Op c n (Rep c) (op2 getItem) [t.av, .int 0] ob K := by
  rw [t.av_eq]
  exact O_itup (by decide) (by decide) rfl h
theorem subTy_tm (t : Tm) : (subTy t.av).isSome = true := by cases t <;> rfl
theorem hd_len (t : Tm) : t.hd.length ≤ 1000 := by
  cases t with
  | v i => match i with | 0 => decide | 1 => decide | 2 => decide
  | a => decide
  | b => decide
  | f t => show Str.length "f" ≤ 1000; decide
  | g t u => show Str.length "g" ≤ 1000; decide
theorem slice_hd (t : Tm) : (Txt.slice t.hd none (some 1) == ("?" : Str)) = t.isV := by
  cases t with
  | v i => match i with | 0 => decide +kernel | 1 => decide +kernel | 2 => decide +kernel
  | a => decide +kernel
  | b => decide +kernel
  | f t => show (Txt.slice "f" none (some 1) == ("?" : Str)) = false; decide +kernel
  | g t u => show (Txt.slice "g" none (some 1) == ("?" : Str)) = false; decide +kernel
end
noncomputable def kidsLen1 (t : Tm) : Bool := ((t.kids.length + 1 : Nat) : Int) == 1
theorem is_variable_ {c : Cx} {a : Addr} {n : Nat} {ob : Ob} {t : Tm} (hf : Gf c "is_variable" 4 a) (hlen : Gb c "len" "len") : Fn c (n + 1) (.ref a) [t.av] ob fun v ob' => v = .bool t.isV ∧ ob' = ob := by
  refine Fn_body hf.2 (by decide +kernel) rfl ?_
  refine Exs_cons (Ret_ (EAnd_ (Cmp_ (Call_b hlen.1 hlen.2 (Ar_cons (Name_lc (v := t.av) (by rfl) (Ar_nil (O_len_tm (C_int (O_eqi ?_))))))))))
  refine ⟨_, rfl, ?_⟩
  split
  · refine Cmp_ (SubStrTo (Sub_ (Name_lc (v := t.av) (by rfl) (C_int ⟨subTy_tm t, O_hd ⟨_, rfl, hd_len t, ?_⟩⟩))))
    exact C_str (O_eqs ⟨ob, ⟨by rw [slice_hd]; rfl, rfl⟩, fun _ _ h => h⟩)
  · rename_i h
    refine ⟨ob, ⟨?_, rfl⟩, fun _ _ h => h⟩
    cases t with
    | f t => rfl
    | g t u => rfl
    | _ => exact absurd rfl h
end Mine
end
section
open PySem PySem.W PyProof.Rows PySem.Calls
namespace Mine
section
variable {prog : Program} {w : World} {A : Around} {E : Value → Shared → Prop} {s : Shared}
theorem nextOf_tup_item {it t : Addr} {i : Nat} {items : Array Value} {x : Value} {Q : Value → Shared → Prop} (hit : s.heap.IsTupleIter it t i) (ht : s.heap.IsTuple t items) (hx : items[i]? = some x)
    (hQ : ∀ h', h'.IsTupleIter it t (i + 1) → Heap.SameBut it s.heap h' → Q x { s with heap := h' }) : wpAny (model prog w) A (Builtin.SmallTypes.nextOf (.ref it)) Q E s := by
  obtain ⟨o, ho, hc, hd⟩ := id hit
  obtain ⟨q, hq, _, k, hk⟩ := ht
  unfold Builtin.SmallTypes.nextOf
  refine wpAny_bind (wpAny_callSpecial?_slot (name := Str.ofString "__next__") hit.typeIs PySem.F.slot_tuple_iterator_next (wpAny_call_entry PySem.F.slot_tuple_iterator_next hit.typeIs PySem.F.entry_tuple_iterator_next ?_ (PySem.F.args_tuple_iterator_next_1 _)))
  show wpAny _ _ (field (.ref it) 0 >>= _) _ _ s
  refine wpAny_bind (wpAny_field ho hd (x := .ref t) rfl ?_)
  show wpAny _ _ (if (Value.ref t == Value.none) = true then _ else _) _ _ s
  rw [if_neg (by exact Bool.false_ne_true)]
  show wpAny _ _ (field (.ref it) 1 >>= _) _ _ s
  refine wpAny_bind (wpAny_field ho hd (x := .int i 0) rfl ?_)
  show wpAny _ _ (seqItems? (.ref t) >>= _) _ _ s
  refine wpAny_bind (wpAny_seqItems hq hk ?_)
  simp only [Int.toNat_natCast, hx]
  refine wpAny_bind (wpAny_setField ho hd (by simp) (wpAny_pure ⟨x, rfl, wpAny_pure (hQ _ ⟨_, Heap.get?_update_self _ ho (Obj.isFreed_of_fields (Obj.data_mapFields hd _)), (Obj.cls_mapFields ..).trans hc, ?_⟩ (Heap.SameBut.update ..))⟩))
  rw [Obj.data_mapFields hd]
  simp [rawInt]
theorem nextOf_tup_end {it t : Addr} {i : Nat} {items : Array Value} {Q : Value → Shared → Prop} (hh : A.handled = none) (hit : s.heap.IsTupleIter it t i) (ht : s.heap.IsTuple t items) (hx : items[i]? = none)
    (hE : ∀ h' e, Heap.ExtBut it s.heap h' → (∃ o, h'.get? e = some o ∧ o.cls = .type "StopIteration") → E (.ref e) { s with heap := h' }) : wpAny (model prog w) A (Builtin.SmallTypes.nextOf (.ref it)) Q E s := by
  obtain ⟨o, ho, hc, hd⟩ := id hit
  obtain ⟨q, hq, _, k, hk⟩ := ht
  unfold Builtin.SmallTypes.nextOf
  refine wpAny_bind (wpAny_callSpecial?_slot (name := Str.ofString "__next__") hit.typeIs PySem.F.slot_tuple_iterator_next (wpAny_call_entry PySem.F.slot_tuple_iterator_next hit.typeIs PySem.F.entry_tuple_iterator_next ?_ (PySem.F.args_tuple_iterator_next_1 _)))
  show wpAny _ _ (field (.ref it) 0 >>= _) _ _ s
  refine wpAny_bind (wpAny_field ho hd (x := .ref t) rfl ?_)
  show wpAny _ _ (if (Value.ref t == Value.none) = true then _ else _) _ _ s
  rw [if_neg (by exact Bool.false_ne_true)]
  show wpAny _ _ (field (.ref it) 1 >>= _) _ _ s
  refine wpAny_bind (wpAny_field ho hd (x := .int i 0) rfl ?_)
  show wpAny _ _ (seqItems? (.ref t) >>= _) _ _ s
  refine wpAny_bind (wpAny_seqItems hq hk ?_)
  simp only [Int.toNat_natCast, hx]
  refine wpAny_bind (wpAny_rule (wpAny_bind (wpAny_setField ho hd (by simp) ?_)))
  show wpAny _ _ (newExc (.type "StopIteration") [] >>= _) _ _ _
  refine wpAny_bind ?_
  simp only [newExc, newTuple]
  refine wpAny_bind (wpAny_newObj_type ?_ (by size_fits))
  refine wpAny_bind (m := firstArgMember _ _) (wpAny_of_eq (a := Value.none) (by first | rfl | (simp only [firstArgMember]; rfl)) ?_)
  refine wpAny_newObj_type ?_ (by size_fits)
  simp only [raiseNew]
  refine wpAny_bind (wpAny_handled ?_)
  first | rw [show A.in1.handled = none from hh] | rw [hh]
  exact wpAny_bind (wpAny_pure (wpAny_throw (hE _ _ (((Heap.SameBut.update ..).extBut.push _).push _) ⟨_, Heap.get?_push_size _ rfl, rfl⟩)))
theorem drawsTup (hh : A.handled = none) (it t : Addr) (hne : t ≠ it) (items : Array Value) : Draws prog w A it [it, t] items.size (fun i v => items[i]? = some v) (fun i h => h.IsTupleIter it t i ∧ h.IsTuple t items) where
  live := fun _ _ st => let ⟨o, ho, _⟩ := st.1; ⟨o, ho⟩
  frame := fun _ _ _ st hk => ⟨st.1.at fun o e => hk it (by simp) o e, st.2.at fun o e => hk t (by simp) o e⟩
  item := fun i s Q E hi st hQ => nextOf_tup_item st.1 st.2 (x := items[i]) (by simp [hi]) fun h' hit' hs' => hQ _ h' s.toks (by simp [hi]) ⟨hit', st.2.extBut hs'.extBut hne⟩ hs'
  done := fun s Q E st hE => nextOf_tup_end hh st.1 st.2 (by simp) hE
theorem enum_new_tup (l : Addr) (items : Array Value) (n : Nat) (dct : Option Addr) (sl : Array (Option Value)) :
    Meets (Builtin.«enumerate.__new__» ⟨[.type "enumerate", .ref l], []⟩) (fun _ R s => s.heap.get? l = some { cls := .type "tuple", dict := dct, data := .seq items n, slots := sl } ∧
      R (.ok (.ret (.ref (s.heap.push { cls := .type "tuple_iterator", data := .fields #[.ref l, .int 0 0] }).objs.size)))
        { s with heap := (s.heap.push { cls := .type "tuple_iterator", data := .fields #[.ref l, .int 0 0] }).push { cls := .type "enumerate", data := .fields #[.none, .bool false, .ref s.heap.objs.size, rawInt 0, .none, .none] } }) :=
  .of_wp fun prog w A R s h => by
    obtain ⟨hp, g, d, tk, os⟩ := s; obtain ⟨hl, h⟩ := h
    have hsub := sub_enumerate
    have hT : Heap.IsTuple (Shared.heap ⟨hp, g, d, tk, os⟩) l items := ⟨_, hl, rfl, n, rfl⟩
    wp_walk using AutoSeq1.wpAny_loadPart' hl
    refine wpAny_stack_any fun st => wpAny_pure ?_
    split
    · rename_i c _ _ _ _ _
      cases (c == Value.type "enumerate")
      · wp_walk using AutoSeq1.wpAny_loadPart' hl, wpAny_pyIter_tuple hT
        exact ⟨_, rfl, h⟩
      · wp_walk using AutoSeq1.wpAny_loadPart' hl, wpAny_pyIter_tuple hT
        exact ⟨_, rfl, h⟩
    · wp_walk using AutoSeq1.wpAny_loadPart' hl, wpAny_pyIter_tuple hT
      exact ⟨_, rfl, h⟩
theorem call_enum_tup {l : Addr} {items : Array Value} {Q : Value → Shared → Prop} (hl : s.heap.IsTuple l items)
    (h : Q (.ref (s.heap.push { cls := .type "tuple_iterator", data := .fields #[.ref l, .int 0 0] }).objs.size)
        { s with heap := (s.heap.push { cls := .type "tuple_iterator", data := .fields #[.ref l, .int 0 0] }).push { cls := .type "enumerate", data := .fields #[.none, .bool false, .ref s.heap.objs.size, rawInt 0, .none, .none] } }) :
    wpAny (model prog w) A (call (.type "enumerate") [.ref l]) Q E s := by
  obtain ⟨⟨cls, dd, data, sl⟩, ho, hc, n, hd⟩ := hl
  simp only at hc hd
  subst hc hd
  refine callType_new PySem.F.called_enumerate (by decide) (PySem.F.typeCall_enumerate_1 _) (PySem.F.newCall_enumerate_1 _) (fun obj => PySem.F.args_object_init_2 obj _) PySem.F.entry_enumerate_new (enum_new_tup l items n dd sl) ⟨ho, ?_⟩
  exact ⟨⟨_, Heap.get?_push_size _ rfl, rfl⟩, h⟩
end
end Mine
end
section
open PySem PySem.W PyProof.Rows PySem.Calls
namespace Mine
section
variable {c : Cx} {n : Nat} {sc : Sc} {st : St}
/-- for x, y in enumerate(<a tuple>) -/
theorem For_enum {x y ename : Str} {px py pt np cp pos : Pos} {kk : Nat} {e : Expr} {body : List Stmt} {K : AF → St → Prop} (hg : c.mg ename = none) (hv : c.mb ename = some (.type "enumerate"))
    (h : Ev c n sc e st fun v st1 => ∃ l, ∃ Inv : Nat → List AV → St → Prop, v = .tup l ∧ Inv 0 l st1 ∧
      (∀ i it rest st2, Inv i (it :: rest) st2 → Exs c n sc body ⟨(st2.vars.set x (.int (i : Nat))).set y it, st2.ob⟩ fun f st4 => match f with | .next => Inv (i + 1) rest st4 | .cont => Inv (i + 1) rest st4 | .brk => K .next st4 | .ret v => K (.ret v) st4) ∧
      (∀ i st2, Inv i [] st2 → K .next st2))
    (hx : stOk sc x = true := by rfl) (hy : stOk sc y = true := by rfl) (hl : sc.s.names.lookup ename = some .globalImplicit := by rfl) (hk : sc.s.kind = .function := by rfl) (hd : (ename == ("__debug__" : Str)) = false := by decide)
    (he : ∀ env, starEach [e] env = [(false, eval e env)] := by intro _; rfl) :
    Ex c n sc (.For (.Tuple [.Name x px, .Name y py] kk pt) (.Call (.Name ename np) [e] [] cp) body [] pos) st K := by
  intro A env F s hR hE S Q E hQ
  refine wpAny_For (Call_ (Name_b (n := n) hg hv (K := fun v st1 => v = .raw (.type "enumerate") ∧ st1 = st) ⟨rfl, rfl⟩ hl hk hd A env F s hR hE S _ E fun F0 s0 f v st1 h1 o0 r0 => ?_)) (fun _ => rfl)
  obtain ⟨rfl, rfl⟩ := h1
  first | (obtain ⟨_, rfl⟩ := Rep.int' r0) | (obtain ⟨_, rfl⟩ := Rep.str' r0) | (obtain rfl := Rep.bool' r0) | (obtain rfl := Rep.own' r0) | (obtain rfl := Rep.none' r0) | (obtain rfl := Rep.raw' r0) | cases r0
  refine PyProof.Rows.callWith_type1 (args_cons (h A env F0 s0 hR hE o0.sr _ E fun F1 s1 x0 v st1 h1 o1 r1 => args_nil ?_) (he env)) (he env) rfl
  obtain ⟨l, Inv, rfl, hI0, hturn, hdone⟩ := h1
  cases r1 with
  | @tup t vs _ ht hvs =>
    have htu := isTuple_le o1.sr.wf.le ht
    refine call_enum_tup htu ?_
    generalize hH : (s1.heap.push { cls := .type "tuple_iterator", data := .fields #[.ref t, .int 0 0] }) = h1
    have hId : s1.heap.get? s1.heap.objs.size = none := size_dead _
    have hEd : h1.get? h1.objs.size = none := size_dead _
    have hit0 : h1.IsTupleIter s1.heap.objs.size t 0 := ⟨_, hH ▸ Heap.get?_push_size _ rfl, rfl, rfl⟩
    have le01 : Le s1.heap h1 := fun b o q => hH ▸ Heap.get?_push_of_some _ q
    have hes := Heap.get?_push_size h1 (o := { cls := .type "enumerate", data := .fields #[.none, .bool false, .ref s1.heap.objs.size, rawInt 0, .none, .none] }) rfl
    have le12 : ∀ o', Le h1 (h1.push o') := fun o' b o q => Heap.get?_push_of_some _ q
    generalize s1.heap.objs.size = I at hId hit0 hes ⊢
    generalize h1.objs.size = e' at hEd hes ⊢
    have hEd1 : s1.heap.get? e' = none := by
      cases q : s1.heap.get? e' with
      | none => rfl
      | some o => rw [le01 _ _ q] at hEd; cases hEd
    have hne : e' ≠ I := by
      rintro rfl
      obtain ⟨o, ho, _⟩ := hit0
      rw [hEd] at ho; cases ho
    obtain ⟨ot, hot, _⟩ := id ht
    have htI : t ≠ I := by rintro rfl; rw [o1.sr.wf.le _ _ hot] at hId; cases hId
    have hte : t ≠ e' := by rintro rfl; rw [o1.sr.wf.le _ _ hot] at hEd1; cases hEd1
    refine wpAny_pyIter_enum hes ?_
    generalize hH2 : h1.push { cls := .type "enumerate", data := .fields #[.none, .bool false, .ref I, rawInt 0, .none, .none] } = h2 at hes ⊢
    have le02 : Le s1.heap h2 := Le.trans le01 (hH2 ▸ le12 _)
    have WT := WalksT.enumerateD (prog := c.prog) (w := c.w) (A := A) (drawsTup (A := A.in1) hR.handled I t htI vs.toArray) e' hne (by simp [hne, Ne.symm hte]) (by simp)
    have hFn : ∀ b, s1.heap.get? b = none → F1.get? b = none := fun b hb => by
      cases q : F1.get? b with
      | none => rfl
      | some o => rw [o1.sr.wf.le _ _ q] at hb; cases hb
    have hWd : ∀ b, (b = e' ∨ b = I) → s1.heap.get? b = none := fun b hb => by rcases hb with rfl | rfl <;> assumption
    obtain ⟨F2, O2, hF2, hFW, _⟩ := Out.poke o1.sr (Out.refl o1.sr) (fun b => b = e' ∨ b = I) h2 s1.toks (fun b hb => ⟨hWd b hb, o1.sr.wf.fresh (hWd b hb), hFn b (hWd b hb)⟩) (fun b o _ q => le02 b o q)
    refine codeAny_forLoop_any (fun k s' => ∃ i rest F' st', k = rest.length + 1 ∧ (l.drop i = rest ∧ i ≤ l.length) ∧ Out c env F1 st1 s1 F' st' s' ∧ (∀ b, (b = e' ∨ b = I) → F'.get? b = none ∧ st'.ob b = none) ∧
      ((∃ old, IsEnum s'.heap e' I i old) ∧ s'.heap.IsTupleIter I t i ∧ s'.heap.IsTuple t vs.toArray) ∧ Inv i rest st') ?_ (l.length + 1)
      ⟨0, l, F2, st1, rfl, ⟨rfl, Nat.zero_le _⟩, O2, fun b hb => ⟨hFW b hb, o1.sr.wf.fresh (hWd b hb)⟩, ⟨⟨_, hes⟩, ?_, isTuple_le le02 htu⟩, hI0⟩
    · rintro k s' ⟨i, rest, F', st', rfl, ⟨hd', hle'⟩, O, hW, hSi, hInv⟩
      have poke : ∀ h'' tk, (∀ b o, b ∉ [e', I] → s'.heap.get? b = some o → h''.get? b = some o) → ∃ F'', Out c env F1 st1 s1 F'' st' { s' with heap := h'', toks := tk } ∧ Le F' F'' ∧ (∀ b, (b = e' ∨ b = I) → F''.get? b = none) ∧ (∀ b o, ¬ (b = e' ∨ b = I) → s'.heap.get? b = none → h''.get? b = some o → F''.get? b = some o) := fun h'' tk hk => by
        obtain ⟨F'', a1, a2, a3, a4⟩ := Out.poke o1.sr O (fun b => b = e' ∨ b = I) h'' tk (fun b hb => ⟨hWd b hb, (hW b hb).2, (hW b hb).1⟩) (fun b o hb q => hk b o (by simpa using hb) q)
        exact ⟨F'', a1, a2, a3, a4⟩
      have hsz : vs.toArray.size = l.length := by simp [hvs.length]
      cases rest with
      | nil =>
        have hi : i = l.length := Nat.le_antisymm hle' (by rw [List.drop_eq_nil_iff] at hd'; exact hd')
        refine WT.done _ _ _ (by rw [hsz, ← hi]; exact hSi) fun h'' tk hk => ?_
        obtain ⟨F'', a1, a2, a3, _⟩ := poke h'' tk hk
        exact wpAny_execs_nil (hQ F'' _ _ _ _ (hdone _ _ hInv) ((o0.trans o1).trans a1) .next)
      | cons it rest =>
        have hv' : l[i]? = some it := by
          have := congrArg List.head? hd'
          rwa [List.head?_drop, List.head?_cons] at this
        have hil : i < l.length := (List.getElem?_eq_some_iff.mp hv').1
        refine WT.item i _ _ _ (by rw [hsz]; exact hil) hSi fun T vals h'' tk hP hTs hTt hM hkk => ?_
        obtain ⟨tt, xx, hxx, rfl⟩ := hP
        have hap := WT.apart _ _ _ hM
        have hTd : s'.heap.get? T = none := by
          cases q : s'.heap.get? T with
          | none => rfl
          | some o => exact absurd (Heap.lt_size q) (Nat.not_lt.mpr hTs)
        obtain ⟨oT, hoT, hcT, kT, hdT⟩ := hTt
        refine WT.go _ _ _ _ _ _ _ _ hM fun h3 hS3 hk3 => ?_
        have hT3 := hk3 T oT hap hoT
        obtain ⟨F'', a1, a2, a3, a4⟩ := poke h3 tk (fun b o hb q => hk3 b o hb (hkk b o hb q))
        have rT : Rep c F'' (.ref T) (.tup [.int (i : Nat), it]) := by
          refine .tup (vs := [.int (i : Nat) tt, xx]) ⟨oT, a4 T oT (by simpa using hap) hTd hT3, hcT, kT, hdT⟩ (.cons (.int _ _) (.cons ?_ .nil))
          exact (hvs.get (by simpa using hxx) hv').le (Le.trans a1.le (Le.refl _))
        refine B_pair (K := fun st3 => st3 = ⟨(st'.vars.set x (.int (i : Nat))).set y it, st'.ob⟩) (n := n) rfl hx hy hk (A := A) env F'' _ _ hR hE a1.sr rT _ _ fun F3 s3 st3 h3' o3 => ?_
        subst h3'
        refine hturn i it rest st' hInv A env F3 s3 hR hE o3.sr _ _ fun F4 s4 f af st4 h4 o4 r4 => ?_
        have O4 := (a1.trans o3).trans o4
        have o34 := o3.trans o4
        have hWl : ∀ b, (b = e' ∨ b = I) → ∃ o, h3.get? b = some o := fun b hb => by
          rcases hb with rfl | rfl
          · obtain ⟨⟨old, q⟩, _⟩ := hS3; exact ⟨_, q⟩
          · obtain ⟨_, ⟨o, q, _⟩, _⟩ := hS3; exact ⟨o, q⟩
        have hnf : ∀ b, (b = e' ∨ b = I) → ¬ Fra env b := fun b hb hf => by
          obtain ⟨_, _, o, ho⟩ := o1.sr.fra hf
          rw [hWd b hb] at ho; cases ho
        have nxt : Inv (i + 1) rest st4 → ∃ m, m < (it :: rest).length + 1 ∧ ∃ i rest F' st', m = rest.length + 1 ∧ (l.drop i = rest ∧ i ≤ l.length) ∧ Out c env F1 st1 s1 F' st' s4 ∧ (∀ b, (b = e' ∨ b = I) → F'.get? b = none ∧ st'.ob b = none) ∧
            ((∃ old, IsEnum s4.heap e' I i old) ∧ s4.heap.IsTupleIter I t i ∧ s4.heap.IsTuple t vs.toArray) ∧ Inv i rest st' := fun hv4 => by
          refine ⟨rest.length + 1, by simp, i + 1, rest, F4, st4, rfl, ⟨?_, hil⟩, O4, fun b hb => ⟨?_, ?_⟩, ?_, hv4⟩
          · rw [List.drop_add_one_eq_tail_drop, hd']; rfl
          · exact o34.dead (a3 b hb) (hWl b hb) (hW b hb).2
          · obtain ⟨o, ho⟩ := hWl b hb
            exact (o34.keep b o (hW b hb).2 (hnf b hb) ho).2
          · refine WT.frame (i + 1) h3 _ hS3 fun b hb o q => ?_
            by_cases hbw : b = e' ∨ b = I
            · exact (o34.keep b o (hW b hbw).2 (hnf b hbw) q).1
            · have hbt : b = t := by simp at hb; rcases hb with rfl | rfl | rfl; exact absurd (.inl rfl) hbw; exact absurd (.inr rfl) hbw; rfl
              subst hbt
              have e1 := a1.sr.wf.le _ _ (a1.le _ _ hot)
              have e2 : o = ot := Option.some.inj (q.symm.trans e1)
              subst e2
              exact O4.sr.wf.le _ _ (O4.le _ _ hot)
        cases r4 with
        | next => exact nxt h4
        | cont => exact nxt h4
        | brk => exact hQ F4 _ _ _ _ h4 ((o0.trans o1).trans O4) .next
        | ret r => exact hQ F4 _ _ _ _ h4 ((o0.trans o1).trans O4) (.ret r)
    · obtain ⟨o, q1, q2⟩ := hit0
      exact ⟨o, hH2 ▸ le12 _ _ _ q1, q2⟩
end
end Mine
end
section
open PySem PySem.W PyProof.Rows PySem.Calls
namespace Mine
section
variable {c : Cx} {n : Nat} {sc : Sc} {st : St}
/-- what a method is called on -/
inductive Rcv (ob : Ob) : String → AV → Prop
  | list {a l} : ob a = some (.list l) → Rcv ob "list" (.own a)
  | dict {v l} : IsD ob v l → Rcv ob "dict" v
theorem Rcv.get {ob : Ob} {F : Heap} {s : Shared} {x : Value} {v : AV} {T : String} (h : Rcv ob T v) (W : Wf c F ob s) (r : Rep c F x v) : s.TypeIs x T ∧ (∀ a, x = .ref a → ∃ o, s.heap.get? a = some o ∧ o.dict = none) := by
  cases h with
  | list h =>
    cases r with
    | own a =>
      obtain ⟨_, vs, ⟨k, h1⟩, h2⟩ := W.own _ _ h
      exact ⟨⟨_, h1, rfl⟩, fun b e => by cases e; exact ⟨_, h1, rfl⟩⟩
  | dict h =>
    obtain ⟨a, kvs, rfl, h1, _, _⟩ := h.get W r
    refine ⟨h1.typeIs, fun b e => ?_⟩
    cases e
    obtain ⟨o, es, ep, ho, hx, _⟩ := h1
    exact ⟨o, ho, hx.2.1⟩
theorem Meth_ {o e : Expr} {args : List Expr} {name : Str} {T id : String} {apos pos : Pos} {K : AV → St → Prop} (pa : PlainAttrs T) (slot : Slot T name id) (hty : typeOf (.builtin id) = pure (.type "method_descriptor"))
    (h : Ev c n sc o st fun v st1 => Rcv st1.ob T v ∧ Ar c n sc pos (e :: args) st1 fun vs st2 => Fn c n (.builtin id) (v :: vs) st2.ob fun r ob => K r ⟨st2.vars, ob⟩)
    (hbase : ∀ env, attributeBase o name env (eval o env) = eval o env := by intro _; rfl)
    (hfew : ∀ env, ((backTo pos (starEach (e :: args) env)).all (fun x => !x.1) && (backToKw pos (keywordEach [] env)).all (fun x => x.1.isSome)
      && decide ((e :: args).length + ([] : List Keyword).length + (if ([] : List Keyword).isEmpty then 0 else 1) < 30)) = true := by intro _; rfl)
    (hline : (apos.endLine == pos.line) = true := by rfl)
    (he : ∀ env, starEach (e :: args) env = (false, eval e env) :: starEach args env := by intro _; rfl)
    (hp : ∀ env, (backTo pos (starEach args env)).any (·.1) = false := by intro _; rfl) : Ev c n sc (.Call (.Attribute o name apos) (e :: args) [] pos) st K := by
  intro A env F s hR hE S Q E hQ
  refine wpAny_Call_method_late (hbase env) (hfew env) hline rfl (h A env F s hR hE S _ E fun F1 s1 x v st1 h1 o1 r1 => ?_)
  obtain ⟨hrc, h1⟩ := h1
  obtain ⟨g1, g2⟩ := hrc.get o1.sr.wf r1
  refine ⟨T, id, pa, slot, hty, g1, g2, ?_⟩
  rw [he env]
  show wpAny _ A (callWith pos (.builtin id) [x] ((false, eval e env) :: backTo pos (starEach args env)) []) Q E s1
  refine callWith_builtin (by show (false || (backTo pos (starEach args env)).any (·.1)) = false; rw [hp]; rfl) (evalArgs_plain ?_)
  have h2 : wpAny (model c.prog c.w) A (spliced (backTo pos (starEach (e :: args) env))) (fun xs s2 => wpAny (model c.prog c.w) A (call (.builtin id) (x :: xs)) Q E s2) E s1 := h1 A env F1 s1 hR hE o1.sr (fun xs s2 => wpAny (model c.prog c.w) A (call (.builtin id) (x :: xs)) Q E s2) E fun F2 s2 xs vs st2 h2 o2 r2 => use h2 hR o2.sr (.cons (r1.le o2.le) r2) fun F3 s3 z v ob' hk o3 r3 => hQ F3 s3 z v _ hk ((o1.trans o2).trans o3) r3
  rw [he env] at h2
  exact h2
theorem Meth0_ {o : Expr} {name : Str} {T id : String} {apos pos : Pos} {K : AV → St → Prop} (pa : PlainAttrs T) (slot : Slot T name id) (hty : typeOf (.builtin id) = pure (.type "method_descriptor"))
    (h : Ev c n sc o st fun v st1 => Rcv st1.ob T v ∧ Fn c n (.builtin id) [v] st1.ob fun r ob => K r ⟨st1.vars, ob⟩)
    (hbase : ∀ env, attributeBase o name env (eval o env) = eval o env := by intro _; rfl)
    (hline : (apos.endLine == pos.line) = true := by rfl) : Ev c n sc (.Call (.Attribute o name apos) [] [] pos) st K := by
  intro A env F s hR hE S Q E hQ
  refine wpAny_Call_method_late (hbase env) rfl hline rfl (h A env F s hR hE S _ E fun F1 s1 x v st1 h1 o1 r1 => ?_)
  obtain ⟨hrc, h1⟩ := h1
  obtain ⟨g1, g2⟩ := hrc.get o1.sr.wf r1
  refine ⟨T, id, pa, slot, hty, g1, g2, ?_⟩
  show wpAny _ A (callWith pos (.builtin id) [x] [] []) Q E s1
  refine callWith_builtin rfl (PyProof.Rows.evalArgs_none ?_)
  exact use (xs := [x]) h1 hR o1.sr (.cons r1 .nil) fun F3 s3 z v ob' hk o3 r3 => hQ F3 s3 z v _ hk (o1.trans o3) r3
/-- a list display that is kept and changed -/
theorem Lst_own {es : List Expr} {pos : Pos} {K : AV → St → Prop} (h : Ar c n sc pos es st fun vs st1 => vs.length ≤ sizeLine ∧ ∀ a, st1.ob a = none → K (.own a) ⟨st1.vars, st1.ob.set a (.list vs)⟩) : Ev c n sc (.List es pos) st K := by
  intro A env F s hR hE S Q E hQ
  refine List_ (h A env F s hR hE S _ E fun F1 s1 xs vs st1 h1 o1 r1 => ?_)
  refine wpAny_newList ?_ (by rw [r1.length]; exact h1.1)
  have hd := size_dead s1.heap
  obtain ⟨F', w1, w2, _⟩ := o1.sr.wf.put s1.heap.objs.size (.list vs) (s1.heap.push { cls := .type "list", data := .seq xs.toArray }) s1.toks (.inr hd) (fun b o _ e => Heap.get?_push_of_some _ e) fun F' hF _ => ⟨xs, ⟨0, Heap.get?_push_size _ rfl⟩, r1.le hF⟩
  exact hQ F' _ _ _ _ (h1.2 _ (o1.sr.wf.fresh hd)) (o1.trans (o1.sr.lift w1 w2)) (.own _)
theorem Lst_fr {es : List Expr} {pos : Pos} {K : AV → St → Prop} (h : Ar c n sc pos es st fun vs st1 => vs.length ≤ sizeLine ∧ K (.lst vs) st1) : Ev c n sc (.List es pos) st K := by
  intro A env F s hR hE S Q E hQ
  refine List_ (h A env F s hR hE S _ E fun F1 s1 xs vs st1 h1 o1 r1 => ?_)
  refine wpAny_newList ?_ (by rw [r1.length]; exact h1.1)
  obtain ⟨F', o2, hn⟩ := o1.sr.grow (s1.heap.push { cls := .type "list", data := .seq xs.toArray }) s1.toks fun b o e => Heap.get?_push_of_some _ e
  exact hQ F' _ _ _ _ h1.2 (o1.trans o2) (.lst ⟨0, hn _ _ (size_dead _) (Heap.get?_push_size _ rfl)⟩ (r1.le o2.le))
/-- {} -/
theorem Dct_own {pos : Pos} {K : AV → St → Prop} (h : ∀ a, st.ob a = none → K (.own a) ⟨st.vars, st.ob.set a (.dict [])⟩) : Ev c n sc (.Dict [] [] pos) st K := by
  intro A env F s hR hE S Q E hQ
  refine wpAny_Dict_empty ?_
  have hd := size_dead s.heap
  have hsys : (s.heap.objs.size == sysModules) = false := by
    have : ∃ o, s.heap.get? sysModules = some o ∨ True := ⟨default, .inr trivial⟩
    obtain ⟨mc, ⟨o, _, _, ho, _⟩⟩ := (⟨_, c.g⟩ : ∃ m, c.s0.heap.Ns mainGlobals m)
    have h3 := Heap.lt_size (S.wf.le _ _ (S.wf.base _ _ ho))
    rw [beq_eq_false_iff_ne]
    intro e
    rw [e] at h3
    exact absurd h3 (by decide)
  obtain ⟨F', w1, w2, _⟩ := S.wf.put s.heap.objs.size (.dict []) (s.heap.push { cls := .type "dict", data := .dict #[] }) s.toks (.inr hd) (fun b o _ e => Heap.get?_push_of_some _ e) fun F' hF _ => ⟨[], Heap.DictOf.new s.heap, hsys, .nil⟩
  exact hQ F' _ _ _ _ (h _ (S.wf.fresh hd)) (S.lift w1 w2) (.own _)
end
section
variable {c : Cx} {n : Nat} {ob : Ob} {K : AV → Ob → Prop}
theorem O_append {a : Addr} {v : AV} {l : List AV} (hl : ob a = some (.list l)) (hs : l.length ≤ sizeLine) (h : K .none (ob.set a (.list (l ++ [v])))) : Fn c n (.builtin "list.append") [.own a, v] ob K := by
  intro A F s xs hR W hx Q E hQ
  obtain ⟨x, y, rfl, r1, r2⟩ := reps2 hx
  first | (obtain ⟨_, rfl⟩ := Rep.int' r1) | (obtain ⟨_, rfl⟩ := Rep.str' r1) | (obtain rfl := Rep.bool' r1) | (obtain rfl := Rep.own' r1) | (obtain rfl := Rep.none' r1) | (obtain rfl := Rep.raw' r1) | cases r1
  obtain ⟨_, vs, h1, h2⟩ := W.own _ _ hl
  refine wpAny_list_append_plain h1 (fun h' hl' hs' => ?_) (by simp [h2.length]; exact hs)
  obtain ⟨F', w1, w2, _⟩ := W.put a (.list (l ++ [v])) h' s.toks (.inl (by rw [hl]; simp)) hs'.extBut fun F' hF _ => ⟨vs ++ [y], by simpa using hl', (h2.le hF).snoc (r2.le hF)⟩
  exact hQ F' _ _ _ _ h w1 w2 .none
theorem Reps.append {F : Heap} : ∀ {xs ys : List Value} {vs us : List AV}, Reps c F xs vs → Reps c F ys us → Reps c F (xs ++ ys) (vs ++ us)
  | _, _, _, _, .nil, h => h
  | _, _, _, _, .cons r rs, h => .cons r (Reps.append rs h)
theorem mapSeq_plain (xs : Array Value) (k : Nat) (f : Array Value → Array Value) : ∃ k', Obj.mapSeq f { cls := .type "list", data := .seq xs k } = { cls := .type "list", data := .seq (f xs) k' } := ⟨_, rfl⟩
theorem O_extend {a : Addr} {v : AV} {l l2 : List AV} (hl : ob a = some (.list l)) (hv : IsL ob v l2) (hs : l.length + l2.length ≤ 1000000) (h : K .none (ob.set a (.list (l ++ l2)))) : Fn c n (.builtin "list.extend") [.own a, v] ob K := by
  intro A F s xs hR W hx Q E hQ
  obtain ⟨x, y, rfl, r1, r2⟩ := reps2 hx
  first | (obtain ⟨_, rfl⟩ := Rep.int' r1) | (obtain ⟨_, rfl⟩ := Rep.str' r1) | (obtain rfl := Rep.bool' r1) | (obtain rfl := Rep.own' r1) | (obtain rfl := Rep.none' r1) | (obtain rfl := Rep.raw' r1) | cases r1
  obtain ⟨_, vs, ⟨k1, h1⟩, h2⟩ := W.own _ _ hl
  obtain ⟨b, us, rfl, ⟨k2, h3⟩, h4⟩ := hv.getP W r2
  have e1 := h2.length
  have e2 := h4.length
  refine call_meets PySem.F.slot_list_extend ⟨_, h1, rfl⟩ PySem.F.entry_list_extend (PySem.F.args_list_extend_2 _ _) (AutoSeq1.list_extend_list_list_0 a vs.toArray k1 b us.toArray k2 ?_ (by simp [sizeLine_eq]; omega) (by simp [sizeLine_eq]; omega)) ⟨h1, h3, ?_⟩
  · intro hc
    simp only [Bool.and_eq_true] at hc
    have := hc.2
    simp only [Builtin.List.listTooLong, List.size_toArray, decide_eq_true_eq, sizeLine_eq] at this
    omega
  · have hu : Heap.SameBut a s.heap (s.heap.update a (Obj.mapSeq fun x => x ++ us.toArray)) := Heap.SameBut.update ..
    have hp : (s.heap.update a (Obj.mapSeq fun x => x ++ us.toArray)).PlainList a (vs ++ us).toArray := by
      obtain ⟨k', e⟩ := mapSeq_plain vs.toArray k1 fun x => x ++ us.toArray
      refine ⟨k', ?_⟩
      rw [Heap.get?_update_self _ h1 rfl, e]
      simp
    obtain ⟨F', w1, w2, _⟩ := W.put a (.list (l ++ l2)) (s.heap.update a (Obj.mapSeq fun x => x ++ us.toArray)) s.toks (.inl (by rw [hl]; simp)) hu.extBut fun F' hF _ => ⟨vs ++ us, hp, (h2.le hF).append (h4.le hF)⟩
    exact hQ F' _ _ _ _ h w1 w2 .none
theorem Reps.unsnoc {F : Heap} {y : Value} {v : AV} : ∀ {us : List Value} {l : List AV}, Reps c F (us ++ [y]) (l ++ [v]) → Reps c F us l ∧ Rep c F y v
  | [], [], h => by cases h with | cons r rs => exact ⟨.nil, r⟩
  | [], w :: l, h => by
    have := h.length
    simp at this
  | u :: us, [], h => by
    have := h.length
    simp at this
  | u :: us, w :: l, h => by
    cases h with
    | cons r rs =>
      obtain ⟨p, q⟩ := Reps.unsnoc rs
      exact ⟨.cons r p, q⟩
theorem O_pop {a : Addr} {v : AV} {l : List AV} (hl : ob a = some (.list (l ++ [v]))) (hs : l.length ≤ 1000000) (h : K v (ob.set a (.list l))) : Fn c n (.builtin "list.pop") [.own a] ob K := by
  intro A F s xs hR W hx Q E hQ
  obtain ⟨x, rfl, r1⟩ := reps1 hx
  first | (obtain ⟨_, rfl⟩ := Rep.int' r1) | (obtain ⟨_, rfl⟩ := Rep.str' r1) | (obtain rfl := Rep.bool' r1) | (obtain rfl := Rep.own' r1) | (obtain rfl := Rep.none' r1) | (obtain rfl := Rep.raw' r1) | cases r1
  obtain ⟨_, vs, ⟨k1, h1⟩, h2⟩ := W.own _ _ hl
  have e1 : vs.length = l.length + 1 := by simpa using h2.length
  obtain ⟨us, y, rfl⟩ : ∃ us y, vs = us ++ [y] := ⟨vs.dropLast, vs.getLast (by intro h; simp [h] at e1), (List.dropLast_concat_getLast _).symm⟩
  have e2 : us.length = l.length := by simpa using e1
  have h3 : Reps c F us l ∧ Rep c F y v := Reps.unsnoc h2
  obtain ⟨h3, h4⟩ := h3
  refine call_meets PySem.F.slot_list_pop ⟨_, h1, rfl⟩ PySem.F.entry_list_pop (PySem.F.args_list_pop_1 _) (MeetsSeq.list_pop_last a (us ++ [y]).toArray k1 y (by simp) (by simp [sizeLine_eq]; omega)) ⟨h1, ?_⟩
  have hu : Heap.SameBut a s.heap (s.heap.update a (Obj.mapSeq fun xs => xs.eraseIdxIfInBounds ((us ++ [y]).toArray.size - 1))) := Heap.SameBut.update ..
  have hp : (s.heap.update a (Obj.mapSeq fun xs => xs.eraseIdxIfInBounds ((us ++ [y]).toArray.size - 1))).PlainList a us.toArray := by
    obtain ⟨k', e⟩ := mapSeq_plain (us ++ [y]).toArray k1 fun xs => xs.eraseIdxIfInBounds ((us ++ [y]).toArray.size - 1)
    refine ⟨k', ?_⟩
    rw [Heap.get?_update_self _ h1 rfl, e]
    simp [Array.eraseIdxIfInBounds, List.eraseIdx_append_of_length_le]
  obtain ⟨F', w1, w2, _⟩ := W.put a (.list l) _ s.toks (.inl (by rw [hl]; simp)) hu.extBut fun F' hF _ => ⟨us, hp, h3.le hF⟩
  exact hQ F' _ _ _ _ h w1 w2 (h4.le w2.le)
theorem O_get2 {k : Str} {d v : AV} {l : List (Str × AV)} (hd : IsD ob d l) (h : K ((dget l k).getD v) ob) : Fn c n (.builtin "dict.get") [d, .str k, v] ob K := by
  intro A F s xs hR W hx Q E hQ
  obtain ⟨x, y, z, rfl, r1, r2, r3⟩ := reps3 hx
  first | (obtain ⟨_, rfl⟩ := Rep.int' r2) | (obtain ⟨_, rfl⟩ := Rep.str' r2) | (obtain rfl := Rep.bool' r2) | (obtain rfl := Rep.own' r2) | (obtain rfl := Rep.none' r2) | (obtain rfl := Rep.raw' r2) | cases r2
  obtain ⟨a, kvs, rfl, h1, h2, h3⟩ := hd.get W r1
  refine call_meetsIn PySem.F.slot_dict_get h1.typeIs PySem.F.entry_dict_get (PySem.F.args_dict_get_3 _ _ _) (meets_dict_get_default c.sk a (strKind_is ..) h2 z) ⟨_, h1.mapOf, ?_⟩
  rcases h3.find (k := k) with ⟨h4, h5⟩ | ⟨x, v', h4, h5, r⟩
  · rw [h4]
    rw [h5] at h
    exact hQ F _ _ _ ob h (W.tok _) (.tok _) r3
  · rw [h4]
    rw [h5] at h
    exact hQ F _ _ _ ob h (W.tok _) (.tok _) r
end
end Mine
end
section
open PySem PySem.W PyProof.Rows PySem.Calls
namespace Mine
section
variable {c : Cx} {n : Nat} {ob : Ob} {K : AV → Ob → Prop}
theorem O_addt {l1 l2 : List AV} (hs : l1.length + l2.length ≤ 1000000) (h : K (.tup (l1 ++ l2)) ob) : Op c n (Rep c) (op2 (binaryOp .Add)) [.tup l1, .tup l2] ob K := by
  intro A F s xs hR W hx Q E hQ
  obtain ⟨x, y, rfl, r1, r2⟩ := reps2 hx
  have r1' := r1
  have r2' := r2
  cases r1 with
  | @tup a vs _ h1 h2 =>
    cases r2 with
    | @tup b us _ h3 h4 =>
      have e1 := h2.length
      have e2 := h4.length
      obtain ⟨⟨cls, dd, data, sl⟩, ho, hc, k, hd⟩ := isTuple_le W.le h1
      obtain ⟨⟨cls2, dd2, data2, sl2⟩, ho2, hc2, k2, hd2⟩ := isTuple_le W.le h3
      simp only at hc hd hc2 hd2
      subst hc hd hc2 hd2
      show wpAny _ A (binaryOp .Add (.ref a) (.ref b)) Q E s
      by_cases hv : vs = []
      · subst hv
        have hl1 : l1 = [] := by cases h2; rfl
        subst hl1
        refine concat_meets ⟨_, ho, rfl⟩ ⟨_, ho2, rfl⟩ noFill_tuple_add seq_tuple_add PySem.F.slot_tuple_add PySem.F.entry_tuple_add (PySem.F.args_tuple_add_2 _ _) (tuple_addW0 a b _ _ k k2 dd dd2 sl sl2 rfl) ⟨ho, ho2, ?_⟩
        exact hQ F _ _ _ ob h W (.refl ..) r2'
      · by_cases hu : us = []
        · subst hu
          have hl2 : l2 = [] := by cases h4; rfl
          subst hl2
          rw [List.append_nil] at h
          refine concat_meets ⟨_, ho, rfl⟩ ⟨_, ho2, rfl⟩ noFill_tuple_add seq_tuple_add PySem.F.slot_tuple_add PySem.F.entry_tuple_add (PySem.F.args_tuple_add_2 _ _) (tuple_addW1 a b _ _ k k2 dd dd2 sl sl2 (by simpa using hv) rfl) ⟨ho, ho2, ?_⟩
          exact hQ F _ _ _ ob h W (.refl ..) r1'
        · refine concat_meets ⟨_, ho, rfl⟩ ⟨_, ho2, rfl⟩ noFill_tuple_add seq_tuple_add PySem.F.slot_tuple_add PySem.F.entry_tuple_add (PySem.F.args_tuple_add_2 _ _) (tuple_addW2 a b _ _ k k2 dd dd2 sl sl2 (by simpa using hv) (by simpa using hu) (by simp [sizeLine_eq]; omega)) ⟨ho, ho2, ?_⟩
          obtain ⟨F', w1, w2, w3⟩ := W.ext (s.heap.push { cls := .type "tuple", data := .seq (vs.toArray ++ us.toArray) }) s.toks fun b o e => Heap.get?_push_of_some _ e
          refine hQ F' _ _ _ _ h w1 w2 (.tup (vs := vs ++ us) ⟨_, w3 _ _ (size_dead _) (Heap.get?_push_size _ rfl), rfl, 0, by simp⟩ ((h2.le w2.le).append (h4.le w2.le)))
theorem O_addl {v u : AV} {l1 l2 : List AV} (hv : IsL ob v l1) (hu : IsL ob u l2) (hs : l1.length + l2.length ≤ 1000000) (h : K (.lst (l1 ++ l2)) ob) : Op c n (Rep c) (op2 (binaryOp .Add)) [v, u] ob K := by
  intro A F s xs hR W hx Q E hQ
  obtain ⟨x, y, rfl, r1, r2⟩ := reps2 hx
  obtain ⟨a, vs, rfl, ⟨k, ho⟩, h2⟩ := hv.getP W r1
  obtain ⟨b, us, rfl, ⟨k2, ho2⟩, h4⟩ := hu.getP W r2
  have e1 := h2.length
  have e2 := h4.length
  refine concat_meets ⟨_, ho, rfl⟩ ⟨_, ho2, rfl⟩ noFill_list_add seq_list_add PySem.F.slot_list_add PySem.F.entry_list_add (PySem.F.args_list_add_2 _ _) (list_addW a b vs.toArray us.toArray k k2 none none #[] #[] (by simp [sizeLine_eq]; omega)) ⟨ho, ho2, ?_⟩
  obtain ⟨F', w1, w2, w3⟩ := W.ext (s.heap.push { cls := .type "list", data := .seq (vs.toArray ++ us.toArray) }) s.toks fun b o e => Heap.get?_push_of_some _ e
  refine hQ F' _ _ _ _ h w1 w2 (.lst (vs := vs ++ us) ⟨0, ?_⟩ ((h2.le w2.le).append (h4.le w2.le)))
  have := w3 _ _ (size_dead _) (Heap.get?_push_size s.heap (o := { cls := .type "list", data := .seq (vs.toArray ++ us.toArray) }) rfl)
  simpa using this
theorem O_tuple {v : AV} {l : List AV} (hv : IsL ob v l) (hs : l.length ≤ 1000000) (h : K (.tup l) ob) : Fn c n (.type "tuple") [v] ob K := by
  intro A F s xs hR W hx Q E hQ
  obtain ⟨x, rfl, r1⟩ := reps1 hx
  obtain ⟨a, vs, rfl, h1, h2⟩ := hv.get W r1
  have e1 := h2.length
  refine call_tuple_list h1 (fun h' hk => ?_) (by simp [sizeLine_eq]; omega)
  obtain ⟨F', w1, w2, w3⟩ := W.ext (h'.push { cls := .type "tuple", data := .seq vs.toArray }) s.toks fun b o e => Heap.get?_push_of_some _ (hk b o e)
  refine hQ F' _ _ _ _ h w1 w2 (.tup (vs := vs) ⟨_, w3 _ _ ?_ (Heap.get?_push_size _ rfl), rfl, 0, rfl⟩ (h2.le w2.le))
  cases e : s.heap.get? h'.objs.size with
  | none => rfl
  | some q => exact absurd (Heap.lt_size (hk _ _ e)) (Nat.lt_irrefl _)
end
end Mine
end
section
open PySem PySem.W PyProof.Rows PySem.Calls
namespace Mine
section
variable {c : Cx} {n : Nat} {sc : Sc} {st : St}
theorem Op.mono {α β : Type} {rel : Heap → α → β → Prop} {t : List Value → Sem α} {args : List AV} {ob : Ob} {K K' : β → Ob → Prop} (h : Op c n rel t args ob K) (hk : ∀ v ob', K v ob' → K' v ob') : Op c n rel t args ob K' :=
  fun A F s xs hR W hx Q E hQ => h A F s xs hR W hx Q E fun F' s' x v ob' k => hQ F' s' x v ob' (hk _ _ k)
theorem Room.less {A : Around} {m : Nat} (h : Room A n) (hm : m ≤ n) : Room A m := ⟨h.handled, by have := h.depth; omega, by have := h.units; omega⟩
theorem Op.room {α β : Type} {rel : Heap → α → β → Prop} {t : List Value → Sem α} {args : List AV} {ob : Ob} {K : β → Ob → Prop} {m : Nat} (h : Op c m rel t args ob K) (hm : m ≤ n) : Op c n rel t args ob K :=
  fun A F s xs hR W hx Q E hQ => h A F s xs (hR.less hm) W hx Q E hQ
/-- a statement that is an expression of no object -/
theorem Expr_ {e : Expr} {pos : Pos} {K : AF → St → Prop} (h : Ev c n sc e st fun v st1 => v = .none ∧ K .next st1) (hc : isComp e = false := by rfl) (hk : sc.s.kind = .function := by rfl) : Ex c n sc (.Expr e pos) st K := by
  intro A env F s hR hE S Q E hQ
  have hi : interactive env = false := by unfold interactive; rw [hE.scope, hk]; rfl
  refine wpAny_Expr (h A env F s hR hE S _ E fun F1 s1 x v st1 h1 o1 r1 => ?_) hi (swaps_not hc)
  obtain ⟨rfl, h1⟩ := h1
  first | (obtain ⟨_, rfl⟩ := Rep.int' r1) | (obtain ⟨_, rfl⟩ := Rep.str' r1) | (obtain rfl := Rep.bool' r1) | (obtain rfl := Rep.own' r1) | (obtain rfl := Rep.none' r1) | (obtain rfl := Rep.raw' r1) | cases r1
  exact hQ F1 s1 _ _ _ h1 o1 .next
/-- a list, or dict, that was owned is given back -/
theorem Ret_fz {e : Expr} {pos : Pos} {K : AF → St → Prop} (h : Ev c n sc e st fun v st1 => ∃ a l, v = .own a ∧ st1.ob a = some (.list l) ∧ K (.ret (.lst l)) ⟨st1.vars, fun b => if b = a then none else st1.ob b⟩) : Ex c n sc (.Return (some e) pos) st K := by
  intro A env F s hR hE S Q E hQ
  refine wpAny_Return_some (h A env F s hR hE S _ E fun F1 s1 x v st1 h1 o1 r1 => ?_)
  obtain ⟨a, l, rfl, ha, hk⟩ := h1
  first | (obtain ⟨_, rfl⟩ := Rep.int' r1) | (obtain ⟨_, rfl⟩ := Rep.str' r1) | (obtain rfl := Rep.bool' r1) | (obtain rfl := Rep.own' r1) | (obtain rfl := Rep.none' r1) | (obtain rfl := Rep.raw' r1) | cases r1
  obtain ⟨_, vs, ⟨k, h2⟩, h3⟩ := o1.sr.wf.own _ _ ha
  obtain ⟨F', w1, w2, w3⟩ := o1.sr.wf.freeze a _ h2 (by rw [ha]; simp)
  exact hQ F' _ _ _ _ hk (o1.trans (o1.sr.lift w1 w2)) (.ret (.lst ⟨k, w3⟩ (h3.le w2.le)))
theorem Ret_fzd {e : Expr} {pos : Pos} {K : AF → St → Prop} (h : Ev c n sc e st fun v st1 => ∃ a l, v = .own a ∧ st1.ob a = some (.dict l) ∧ K (.ret (.dct l)) ⟨st1.vars, fun b => if b = a then none else st1.ob b⟩) : Ex c n sc (.Return (some e) pos) st K := by
  intro A env F s hR hE S Q E hQ
  refine wpAny_Return_some (h A env F s hR hE S _ E fun F1 s1 x v st1 h1 o1 r1 => ?_)
  obtain ⟨a, l, rfl, ha, hk⟩ := h1
  first | (obtain ⟨_, rfl⟩ := Rep.int' r1) | (obtain ⟨_, rfl⟩ := Rep.str' r1) | (obtain rfl := Rep.bool' r1) | (obtain rfl := Rep.own' r1) | (obtain rfl := Rep.none' r1) | (obtain rfl := Rep.raw' r1) | cases r1
  obtain ⟨_, kvs, ⟨o, es, ep, ho, hr⟩, h2, h3⟩ := o1.sr.wf.own _ _ ha
  obtain ⟨F', w1, w2, w3⟩ := o1.sr.wf.freeze a _ ho (by rw [ha]; simp)
  exact hQ F' _ _ _ _ hk (o1.trans (o1.sr.lift w1 w2)) (.ret (.dct ⟨o, es, ep, w3, hr⟩ h2 (h3.le w2.le)))
end
theorem Ob.set_set (ob : Ob) (a : Addr) (x y : AO) : (ob.set a x).set a y = ob.set a y := by
  funext b
  unfold Ob.set
  split <;> rfl
theorem Ob.set_get (ob : Ob) (a : Addr) (x : AO) : (ob.set a x) a = some x := if_pos rfl
theorem Ob.set_ne (ob : Ob) {a b : Addr} (x : AO) (h : b ≠ a) : (ob.set a x) b = ob b := if_neg h
theorem Ob.erase_set (ob : Ob) {a : Addr} (x : AO) (h : ob a = none) : (fun b => if b = a then none else (ob.set a x) b) = ob := by
  funext b
  by_cases hb : b = a
  · subst hb; simp [h]
  · simp [hb, Ob.set]
namespace Tm
noncomputable def pts : Tm → List (List Int × Tm)
  | .f t => ([], .f t) :: t.pts.map (fun p => (0 :: p.1, p.2))
  | .g t u => ([], .g t u) :: (t.pts.map (fun p => (0 :: p.1, p.2)) ++ u.pts.map (fun p => (1 :: p.1, p.2)))
  | t => [([], t)]
noncomputable def rp : Nat → List Tm → List (List Int × Tm)
  | _, [] => []
  | i, k :: ks => k.pts.map (fun p => ((i : Int) :: p.1, p.2)) ++ rp (i + 1) ks
theorem pts_eq (t : Tm) : t.pts = ([], t) :: rp 0 t.kids := by cases t <;> simp [pts, rp, kids]
noncomputable def size : Tm → Nat
  | .f t => t.size + 1
  | .g t u => t.size + u.size + 1
  | _ => 1
theorem pts_len : ∀ t : Tm, t.pts.length = t.size
  | .f t => by simp [pts, size, pts_len t]
  | .g t u => by simp [pts, size, pts_len t, pts_len u]
  | .v _ => rfl
  | .a => rfl
  | .b => rfl
theorem kids_size {t k : Tm} (h : k ∈ t.kids) : k.size < t.size := by
  cases t with
  | f t => simp [kids] at h; subst h; simp [size]
  | g t u => simp [kids] at h; rcases h with rfl | rfl <;> simp [size] <;> omega
  | _ => simp [kids] at h
end Tm
noncomputable def pav (p : List Int × Tm) : AV := .tup [.tup (p.1.map .int), p.2.av]
noncomputable def ptsAV (t : Tm) : List AV := t.pts.map pav
theorem pts_path : ∀ (t : Tm) (p : List Int × Tm), p ∈ t.pts → p.1.length < t.dp := by
  intro t
  induction t with
  | f t ih =>
    intro p hp
    simp only [Tm.pts, List.mem_cons, List.mem_map] at hp
    rcases hp with rfl | ⟨q, hq, rfl⟩
    · simp [Tm.dp]
    · have := ih q hq; simp [Tm.dp]; omega
  | g t u ih ih' =>
    intro p hp
    simp only [Tm.pts, List.mem_cons, List.mem_append, List.mem_map] at hp
    rcases hp with rfl | ⟨q, hq, rfl⟩ | ⟨q, hq, rfl⟩
    · simp [Tm.dp]
    · have := ih q hq; simp [Tm.dp]; omega
    · have := ih' q hq; simp [Tm.dp]; omega
  | _ => intro p hp; simp [Tm.pts] at hp; subst hp; simp [Tm.dp]
theorem parts_ {c : Cx} {a : Addr} (hf : Gf c "parts" 6 a) (hen : Gt c "enumerate" "enumerate") : ∀ (t : Tm) (n : Nat) (ob : Ob), t.dp ≤ n → t.size ≤ 100000 → t.dp ≤ 1000 → Fn c n (.ref a) [t.av] ob fun v ob' => v = .lst (ptsAV t) ∧ ob' = ob := by
  have main : ∀ (m : Nat) (t : Tm) (n : Nat) (ob : Ob), t.dp ≤ m → t.dp ≤ n → t.size ≤ 100000 → t.dp ≤ 1000 → Fn c n (.ref a) [t.av] ob fun v ob' => v = .lst (ptsAV t) ∧ ob' = ob := by
    intro m
    induction m with
    | zero => intro t n ob h; have := t.dp_pos; omega
    | succ m ih =>
      intro t n ob hm hn hs hd
      cases n with
      | zero => have := t.dp_pos; omega
      | succ n =>
      refine Fn_body hf.2 (by decide +kernel) rfl ?_
      try (refine Exs_let ?_; intro KL)
      refine Exs_cons (Asg_ (Lst_own (Ar_cons (Tup_ (Ar_cons (Tup_ (Ar_nil ⟨by first | exact le_line rfl | simp [sizeLine_eq], Ar_cons (Name_lc (v := t.av) (by rfl) (Ar_nil ⟨by first | exact le_line rfl | simp [sizeLine_eq], Ar_nil ⟨by first | exact le_line rfl | simp [sizeLine_eq], fun b hb => ?_⟩⟩))⟩)))))))
      refine Exs_cons (For_enum hen.1 hen.2 (SubFrom1 (Name_lc (v := t.av) (by rfl) ⟨_, _, t.av_eq, ?_, ?_⟩)))
      · cases t <;> simp [Tm.kids]
      refine ⟨_, fun i rest st2 => ∃ ks ps, st2.vars "t" = some t.av ∧ st2.vars "found" = some (.own b) ∧ st2.ob = ob.set b (.list (ps.map pav)) ∧ rest = ks.map Tm.av ∧ (∀ k ∈ ks, k ∈ t.kids) ∧ ps ++ Tm.rp i ks = t.pts, rfl, ⟨t.kids, [([], t)], rfl, rfl, rfl, rfl, fun _ h => h, (t.pts_eq).symm⟩, ?_, ?_⟩
      · rintro i it rest st2 ⟨ks, ps, h1, h2, h3, h4, h5, h6⟩
        try (refine Exs_let ?_; intro KL)
        cases ks with
        | nil => cases h4
        | cons k ks =>
          cases h4
          have hk := h5 k List.mem_cons_self
          have hkd := Tm.kids_dp hk
          refine Exs_cons (Expr_ (Meth_ PySem.F.plainAttrs_list PySem.F.slot_list_extend PySem.F.type_list_extend (Name_lc (v := .own b) ?_ ⟨.list (l := ps.map pav) ?_, ?_⟩)))
          · exact h2
          · show st2.ob b = _
            rw [h3]
            exact Ob.set_get ..
          have hks := Tm.kids_size hk
          have hpl := k.pts_len
          have hlen : ps.length + k.pts.length ≤ 100000 := by
            have h7 := congrArg List.length h6
            rw [t.pts_len] at h7
            simp [Tm.rp] at h7
            omega
          refine Ar_cons (Comp_ (Call_fn hf.2 hf.1 (Ar_cons (Name_lc (v := k.av) (by rfl) (Ar_nil (Op.mono (ih k n _ (by omega) (by omega) (by omega) (by omega)) ?_))))))
          rintro v ob' ⟨rfl, rfl⟩
          refine ⟨_, fun rest acc ob'' => ∃ ps' qs, rest = qs.map pav ∧ acc = ps'.map (fun p => pav ((i : Int) :: p.1, p.2)) ∧ ps' ++ qs = k.pts ∧ ob'' = st2.ob, rfl, ?_, ⟨[], k.pts, rfl, rfl, rfl, rfl⟩, ?_, ?_⟩
          · simp [ptsAV, sizeLine_eq]; omega
          · rintro it rest acc ob'' ⟨ps', qs, q1, q2, q3, rfl⟩
            cases qs with
            | nil => cases q1
            | cons q qs =>
              cases q1
              have hq : q.1.length < k.dp := pts_path k q (by rw [← q3]; simp)
              refine B_pair ?_
              try (refine Exs_let ?_; intro KL)
              refine Tup_ (Ar_cons (BinOp_ (Tup_ (Ar_cons (Name_lc (v := .int i) (by rfl) (Ar_nil ⟨by first | exact le_line rfl | simp [sizeLine_eq], ?_⟩))))))
              refine Name_lc (v := .tup (q.1.map .int)) (by rfl) (O_addt (by simp; omega) ?_)
              refine Ar_cons (Name_lc (v := q.2.av) (by rfl) (Ar_nil ⟨by first | exact le_line rfl | simp [sizeLine_eq], ps' ++ [q], qs, rfl, ?_, by simpa using q3, rfl⟩))
              rw [q2]
              simp [pav]
          · rintro acc ob'' ⟨ps', qs, q1, q2, q3, rfl⟩
            have hq : qs = [] := by simpa using q1.symm
            subst hq
            rw [List.append_nil] at q3
            subst q3
            refine Ar_nil (O_extend (l := ps.map pav) ?_ (.fr _) ?_ ⟨rfl, Exs_nil ⟨ks, ps ++ k.pts.map (fun p => ((i : Int) :: p.1, p.2)), ?_, ?_, ?_, rfl, fun k' hk' => h5 k' (List.mem_cons_of_mem _ hk'), ?_⟩⟩)
            · show st2.ob b = _
              rw [h3]
              exact Ob.set_get ..
            · rw [q2]; simp; omega
            · exact h1
            · exact h2
            · show st2.ob.set b _ = _
              rw [h3, Ob.set_set, q2]
              simp
              rfl
            · rw [← h6]
              simp [Tm.rp]
      · rintro i st2 ⟨ks, ps, h1, h2, h3, h4, h5, h6⟩
        try (refine Exs_let ?_; intro KL)
        have hk : ks = [] := by simpa using h4.symm
        subst hk
        refine Exs_cons (Ret_fz (Name_lc (v := .own b) h2 ⟨b, ps.map pav, rfl, ?_, ?_⟩))
        · rw [h3]; exact Ob.set_get ..
        · rw [h3, Ob.erase_set _ _ hb]
          refine ⟨ob, ⟨?_, rfl⟩, fun _ _ h => h⟩
          simp only [Tm.rp, List.append_nil] at h6
          rw [h6]
          rfl
  exact fun t n ob => main t.dp t n ob (Nat.le_refl _)
end Mine
end
section
open PySem PySem.W PyProof.Rows PySem.Calls
namespace Mine
/-- first meetings, in their order -/
noncomputable def met : List Str → List Str → List Str
  | acc, [] => acc
  | acc, x :: r => if acc.contains x then met acc r else met (acc ++ [x]) r
theorem met_mem : ∀ (l acc : List Str) (x : Str), x ∈ met acc l ↔ x ∈ acc ∨ x ∈ l
  | [], acc, x => by simp [met]
  | y :: r, acc, x => by
    unfold met
    split
    · rename_i h
      rw [met_mem r acc x]
      have hy : y ∈ acc := by simpa using h
      constructor
      · rintro (h1 | h1); exact .inl h1; exact .inr (List.mem_cons_of_mem _ h1)
      · rintro (h1 | h1)
        · exact .inl h1
        · rcases List.mem_cons.mp h1 with rfl | h1; exact .inl hy; exact .inr h1
    · rw [met_mem r _ x]
      simp only [List.mem_append, List.mem_cons, List.not_mem_nil, or_false]
      constructor
      · rintro ((h1 | h1) | h1); exact .inl h1; exact .inr (.inl h1); exact .inr (.inr h1)
      · rintro (h1 | h1 | h1); exact .inl (.inl h1); exact .inl (.inr h1); exact .inr h1
theorem met_nodup : ∀ (l acc : List Str), acc.Nodup → (met acc l).Nodup
  | [], acc, h => h
  | y :: r, acc, h => by
    unfold met
    split
    · exact met_nodup r acc h
    · rename_i hn
      refine met_nodup r _ ?_
      rw [List.nodup_append]
      refine ⟨h, by simp, fun a ha b hb => ?_⟩
      simp at hb
      subst hb
      rintro rfl
      exact hn (by simpa using ha)
theorem layNew_led (t : SetTable) (es : Array (Int × Value)) (h : Int) (x : Value) : (layNew t es h x).2.1.led = t.led := by
  unfold layNew
  split
  · dsimp only
    unfold SetTable.orStandIn
    split <;> rfl
  · rfl
theorem laid_led {mask finger moves : Nat} {led plain : Bool} {hs : Array Int} {r : SetTable × Array Nat} (h : SetTable.laid mask finger moves led plain hs = some r) : r.1.led = led ∧ r.1.plain = plain := by
  unfold SetTable.laid at h
  cases e : SetTable.layClean mask hs with
  | none => rw [e] at h; cases h
  | some o => rw [e] at h; cases h; exact ⟨rfl, rfl⟩
theorem relayAll_led (t : SetTable) (es : Array (Int × Value)) (wanted : Nat) : (relayAll t es wanted).2.1.led = t.led ∧ (t.plain = false → (relayAll t es wanted).2.1.plain = false) := by
  unfold relayAll
  split
  · rename_i t' order e
    have h := laid_led e
    dsimp only
    split
    · exact ⟨h.1, fun hp => h.2.trans hp⟩
    · exact ⟨rfl, fun _ => rfl⟩
  · exact ⟨rfl, fun _ => rfl⟩
section
variable {prog : Program} {w : World} {A : Around} {s : Shared}
/-- a set of strs, filled one by one -/
structure SetObj (prog : Program) (w : World) (L : Bool) (acc : List Str) (o : Obj) (es : Array (Int × Value)) (ep : Nat) (t : SetTable) : Prop where
  ex : o.ExactSet
  data : o.data = .set es ep t
  el : ElemsOf (PySem.strKind prog w) es.toList
  perm : (es.toList.map fun e => strOf e.2).Perm acc
  few : es.size < scanBound
  fits : t.fits es.size = true
  led : t.led = L
  plain : es.size ≠ 0 → t.plain = false
noncomputable def SetSt (prog : Program) (w : World) (L : Bool) (acc : List Str) (o : Obj) : Prop := ∃ es ep t, SetObj prog w L acc o es ep t
theorem SetObj.mem {L : Bool} {acc : List Str} {o : Obj} {es : Array (Int × Value)} {ep : Nat} {t : SetTable} (S : SetObj prog w L acc o es ep t) (x : Str) : (∃ e ∈ es.toList, (PySem.strKind prog w).is x e.2 = true) ↔ x ∈ acc := by
  rw [← S.perm.mem_iff, List.mem_map]
  constructor
  · rintro ⟨e, he, hx⟩
    refine ⟨e, he, ?_⟩
    obtain ⟨u, hu⟩ := Value.isStrOf_shape hx
    rw [hu]; rfl
  · rintro ⟨e, he, rfl⟩
    obtain ⟨⟨k, hk, _⟩, _⟩ := S.el e he
    obtain ⟨u, hu⟩ := Value.isStrOf_shape hk
    refine ⟨e, he, ?_⟩
    have : strOf e.2 = k := by rw [hu]; rfl
    rw [this]; exact hk
theorem add_tail {E : Value → Shared → Prop} {g : Bool → Sem Unit} (hg : ∀ (b : Bool) (s₁ : Shared) (Q' : Unit → Shared → Prop), Q' () s₁ → wpAny (model prog w) A (g b) Q' E s₁) {L : Bool} {acc : List Str}
    {a : Addr} {o : Obj} {es : Array (Int × Value)} {ep : Nat} {t : SetTable} (ho : s.heap.get? a = some o) (hex : o.ExactSet) (hd : o.data = .set es ep t) {es1 : Array (Int × Value)} {t2 : SetTable}
    (S1 : ∀ o' ep', o'.ExactSet → o'.data = .set es1 ep' t2 → SetObj prog w L acc o' es1 ep' t2) (hp2 : t2.plain = false) {wasDummy : Bool} {R : Option Bool → Shared → Prop}
    (h : ∀ h' o', Heap.SameBut a s.heap h' → h'.get? a = some o' → SetSt prog w L acc o' → R (some true) { s with heap := h' }) :
    wpAny (model prog w) A (do
        storeSet a es1 t2
        if (!wasDummy && t2.tooFull) = true then do
            g (relayAll t2 es1 (SetTable.grown es1.size)).2.2
            storeSet a (relayAll t2 es1 (SetTable.grown es1.size)).1 (relayAll t2 es1 (SetTable.grown es1.size)).2.1
            pure (some true)
          else pure (some true)) R E s := by
  have put : ∀ {hp : Heap} {o : Obj} {es : Array (Int × Value)} {ep : Nat} {t : SetTable} (es' : Array (Int × Value)) (t' : SetTable), hp.get? a = some o → o.ExactSet → o.data = .set es ep t →
      (hp.update a (Obj.putSet es' t')).get? a = some { o with data := .set es' (ep + 1) t' } := by
    intro hp o es ep t es' t' h1 h2 h3
    have := Heap.get?_update_self (Obj.putSet es' t') h1 (by rw [putSet_of es' t' h3]; rfl)
    rw [putSet_of es' t' h3] at this
    exact this
  have ho1 := put es1 t2 ho hex hd
  have hex1 : ({ o with data := .set es1 (ep + 1) t2 } : Obj).ExactSet := hex
  have S1' := S1 _ (ep + 1) hex1 rfl
  refine wpAny_bind (wpAny_storeSet_of ho hd ?_ (fits_of_scanBound S1'.few))
  have hsb1 := Heap.SameBut.update s.heap a (Obj.putSet es1 t2)
  split
  · have hp := relayAll_perm t2 es1 (SetTable.grown es1.size)
    have hfr := relayAll_fits t2 es1 (SetTable.grown es1.size)
    have hled := relayAll_led t2 es1 (SetTable.grown es1.size)
    generalize hRl : relayAll t2 es1 (SetTable.grown es1.size) = Rl at hp hfr hled ⊢
    obtain ⟨es2, t3, gave2⟩ := Rl
    dsimp only at hp hfr hled ⊢
    have hsz : es2.size = es1.size := by rw [← Array.length_toList, hp.length_eq, Array.length_toList]
    have hb2 : es2.size < scanBound := by rw [hsz]; exact S1'.few
    refine wpAny_bind (hg _ _ _ ?_)
    refine wpAny_bind (wpAny_storeSet_of ho1 rfl ?_ (fits_of_scanBound hb2))
    refine wpAny_pure (h _ _ (hsb1.trans (Heap.SameBut.update _ a _)) (put es2 t3 ho1 hex1 rfl) ⟨es2, _, t3, hex, rfl, S1'.el.perm hp, (hp.map _).trans S1'.perm, hb2, hfr, hled.1.trans S1'.led, fun _ => hled.2 hp2⟩)
  · exact wpAny_pure (h _ _ hsb1 ho1 ⟨es1, _, t2, S1'⟩)
theorem add_step {E : Value → Shared → Prop} {a : Addr} {L : Bool} {acc : List Str} {x : Str} {tx : Tok} {o : Obj} {Q : Bool → Shared → Prop} (ho : s.heap.get? a = some o) (hS : SetSt prog w L acc o) (hroom : acc.length + 1 < scanBound)
    (h : ∀ b h' o', Heap.SameBut a s.heap h' → h'.get? a = some o' → SetSt prog w L (if acc.contains x then acc else acc ++ [x]) o' → Q b { s with heap := h' }) :
    wpAny (model prog w) A (setAddHashed a (.str x tx) ((PySem.strKind prog w).hash x)) Q E s := by
  obtain ⟨es, ep, t, S⟩ := hS
  have hkey : (PySem.strKind prog w).is x (.str x tx) = true := strKind_is ..
  have hsc : (Value.str x tx).scannable = true := rfl
  have hn : es.size = acc.length := by rw [← Array.length_toList, ← List.length_map (f := fun e : Int × Value => strOf e.2), S.perm.length_eq]
  unfold setAddHashed setAddHashedIn
  refine wpAny_holding (wpAny_bind (wpAny_setState_of ho S.data S.fits ?_))
  dsimp only
  rw [byScan_of hsc S.few S.el]
  simp only [↓reduceIte]
  unfold setAddByScan
  refine wpAny_bind ?_
  refine wpAny_bind (wpAny_rule ?_)
  refine wpAny_bind (wpAny_setScan_of hkey ho S.data S.fits S.el ?_)
  cases hr : List.findIdx? (fun e => (PySem.strKind prog w).is x e.2) es.toList with
  | some j =>
    dsimp only
    obtain ⟨hj, hpj, _⟩ := List.findIdx?_eq_some_iff_getElem.mp hr
    have hx : x ∈ acc := (S.mem x).mp ⟨es.toList[j], List.getElem_mem hj, hpj⟩
    refine wpAny_pure (wpAny_pure ?_)
    have e : s = { s with heap := s.heap } := by cases s; rfl
    rw [e]
    refine h _ s.heap o (Heap.SameBut.refl a s.heap) ho ?_
    rw [if_pos (by simpa using hx)]
    exact ⟨es, ep, t, S⟩
  | none =>
    dsimp only
    have hx : x ∉ acc := fun hx => by
      obtain ⟨e, he, hp⟩ := (S.mem x).mpr hx
      have := List.findIdx?_eq_none_iff.mp hr e he
      rw [hp] at this; exact Bool.noConfusion this
    have hacc : (if acc.contains x then acc else acc ++ [x]) = acc ++ [x] := if_neg (by simpa using hx)
    rw [hacc] at h
    have hgw : ∀ (b : Bool) {s₁ : Shared} {Q' : Unit → Shared → Prop}, Q' () s₁ → wpAny (model prog w) A (match b with | true => rule "set.scan.the-table-gave-way" | false => pure ()) Q' E s₁ :=
      fun b s₁ Q' hq => by cases b <;> first | exact wpAny_pure hq | exact wpAny_rule hq
    have hperm := layNew_perm t es ((PySem.strKind prog w).hash x) (.str x tx)
    have hfits := layNew_fits t es ((PySem.strKind prog w).hash x) (.str x tx)
    have hled := layNew_led t es ((PySem.strKind prog w).hash x) (.str x tx)
    generalize hL : layNew t es ((PySem.strKind prog w).hash x) (.str x tx) = R1 at hperm hfits hled ⊢
    obtain ⟨es1, t1, wasDummy, gave⟩ := R1
    dsimp only at hperm hfits hled ⊢
    rw [Array.toList_push] at hperm
    have hsz1 : es1.size = acc.length + 1 := by rw [← Array.length_toList, hperm.length_eq, List.length_append, Array.length_toList, hn]; rfl
    refine wpAny_bind (hgw _ ?_)
    have mk : ∀ t2 : SetTable, t2.fits es1.size = true → t2.led = L → t2.plain = false → ∀ o' ep', o'.ExactSet → o'.data = .set es1 ep' t2 → SetObj prog w L (acc ++ [x]) o' es1 ep' t2 := by
      intro t2 h1 h2 h3 o' ep' h4 h5
      refine ⟨h4, h5, (S.el.push hkey hsc).perm hperm, ?_, by rw [hsz1]; exact hroom, h1, h2, fun _ => h3⟩
      refine (hperm.map _).trans ?_
      rw [List.map_append]
      exact S.perm.append (.refl _)
    split
    · refine wpAny_bind ?_
      rw [hashByValue_scannable 8 hsc]
      refine wpAny_pure ?_
      have e : plainKind (.str x tx) = false := rfl
      rw [e]
      refine add_tail ?_ ho S.ex S.data (mk _ (SetTable.fits_plain_off hfits) (hled.trans S.led) rfl) rfl ?_
      · intro b s₁ Q' hq; cases b <;> first | exact wpAny_pure hq | exact wpAny_rule hq
      · intro h' o' hsb h1 h2; dsimp only; exact wpAny_pure (h _ _ _ hsb h1 h2)
    · rename_i hpl
      have hpl' : t1.plain = false := by simpa using hpl
      refine wpAny_bind (wpAny_pure ?_)
      simp only [↓reduceIte]
      refine add_tail ?_ ho S.ex S.data (mk _ hfits (hled.trans S.led) hpl') hpl' ?_
      · intro b s₁ Q' hq; cases b <;> first | exact wpAny_pure hq | exact wpAny_rule hq
      · intro h' o' hsb h1 h2; dsimp only; exact wpAny_pure (h _ _ _ hsb h1 h2)
end
end Mine
end
section
open PySem PySem.W PyProof.Rows PySem.Calls
namespace Mine
/-- sets are led where their order is no part of the text -/
noncomputable def ledOf (w : World) : Bool := !(w.params.followText "set-order")
section
variable {prog : Program} {w : World} {A : Around} {R : Result → Shared → Prop} {I : Addr} {fp wr : List Addr} {G : Array GenState → Array GenState → Prop} {n : Nat} {P : Nat → Value → Prop} {St : Nat → Shared → Prop}
theorem set_loop (W : WalksS prog w A.in1 I fp wr G n P St) (S : Addr) (hSf : S ∉ fp) (L : Bool) (ss : List Str) (hn : n = ss.length) (hval : ∀ i v x, P i v → ss[i]? = some x → ∃ t, v = .str x t) (hb : n + 1 < scanBound) :
    ∀ (k i : Nat) (s : Shared) (acc : List Str), n - i = k → i ≤ n → St i s → (∃ o, s.heap.get? S = some o ∧ SetSt prog w L acc o) → acc.length ≤ i →
      (∀ s', Moved (S :: wr) G s s' → (∃ o, s'.heap.get? S = some o ∧ SetSt prog w L (met acc (ss.drop i)) o) → R (.ok (.ret .none)) s') →
      codeAny (model prog w) A (.builtin "set.update.loop" ⟨[.ref S, .ref I], []⟩) R s := by
  have hSw : S ∉ wr := fun h => hSf (W.sub _ h)
  have hsub : ∀ b ∈ wr, b ∈ S :: wr := fun b hb => List.mem_cons_of_mem _ hb
  intro k
  induction k with
  | zero =>
    intro i s acc hk hi hst hS ha hR
    have hin : i = n := by omega
    subst hin
    refine codeAny_builtin PyProof.Rows.F.entry_set_update_loop ?_
    rw [Around.under_plainId PyProof.Rows.F.plain_set_update_loop _]
    show wpAny _ A.in1 (pyNext (.ref I) >>= _) _ _ s
    refine wpAny_bind (W.done s _ _ hst fun s' hm => ?_)
    show wpAny _ A.in1 (ret Value.none) _ _ s'
    refine wpAny_pure (hR s' (hm.mono hsub) ?_)
    obtain ⟨o, ho, hS⟩ := hS
    rw [hn, List.drop_length]
    exact ⟨o, hm.heap S _ hSw ho, hS⟩
  | succ k ih =>
    intro i s acc hk hi hst hS ha hR
    have hlt : i < n := by omega
    refine codeAny_builtin PyProof.Rows.F.entry_set_update_loop ?_
    rw [Around.under_plainId PyProof.Rows.F.plain_set_update_loop _]
    show wpAny _ A.in1 (pyNext (.ref I) >>= _) _ _ s
    refine wpAny_bind (W.item i s _ _ hlt hst fun v s' hP hst' hm => ?_)
    have hx : ss[i]? = some (ss[i]'(by omega)) := List.getElem?_eq_getElem _
    obtain ⟨t, rfl⟩ := hval i v _ hP hx
    generalize hxx : ss[i]'(by omega) = x at hx
    obtain ⟨o, ho, hS⟩ := hS
    have hS' : s'.heap.get? S = some o := hm.heap S _ hSw ho
    show wpAny _ A.in1 (holding [Value.str x t] (setAdd S (.str x t)) >>= _) _ _ s'
    refine wpAny_bind (wpAny_holding ?_)
    unfold setAdd
    refine wpAny_holding ?_
    refine wpAny_bind ((PySem.strKind prog w).pyHash (k := x) (strKind_is ..) ?_)
    refine add_step (s := { s' with toks := s'.toks + 1 }) hS' hS (by omega) fun b h' o' hsb ho' hS2 => ?_
    have hd : ss.drop i = x :: ss.drop (i + 1) := by
      rw [List.drop_eq_getElem_cons (by omega), hxx]
    refine wpAny_pure ⟨plainId_quiet PyProof.Rows.F.plain_set_update_loop _, ih (i + 1) _ _ (by omega) hlt (W.frame _ s' _ _ hst' (Nat.le_succ _) fun b hb o e => ?_) ⟨o', ho', hS2⟩ (by split <;> (try simp only [List.length_append, List.length_cons, List.length_nil]) <;> omega) fun s'' hm'' hS'' => ?_⟩
    · rw [hsb.2 b (fun h : b = S => hSf (by rw [← h]; exact hb))]; exact e
    · refine hR s'' (Moved.trans W.gtrans ((hm.mono hsub).then_heap (Nat.le_succ _) fun b o hb e => ?_) hm'') ?_
      · rw [hsb.2 b (fun h : b = S => hb (by rw [h]; exact List.mem_cons_self))]; exact e
      · rw [hd]
        show ∃ o, _ ∧ SetSt prog w L (if acc.contains x then met acc _ else met (acc ++ [x]) _) o
        split at hS'' <;> rename_i hc
        · rw [if_pos hc]; exact hS''
        · rw [if_neg hc]; exact hS''
end
section
variable {prog : Program} {w : World} {A : Around} {E : Value → Shared → Prop} {s : Shared}
theorem set_new_1 (a : Value) {Q₁ : Value → Shared → Prop}
    (h : Q₁ (.ref s.heap.objs.size) { s with heap := s.heap.push { cls := .type "set", dict := none, data := .set #[] 0 (.fresh 0 0 (ledOf w)) } }) :
    codeAny (model prog w) A (.call (.builtin "set.__new__") ⟨[.type "set", a], []⟩) (wants Q₁ E) s := by
  refine codeAny_of_tree ?_
  show wpAny _ A.in1 (do checkBuiltinCall "set.__new__" ⟨[.type "set", a], []⟩; again (.builtin "set.__new__" ⟨[.type "set", a], []⟩)) _ _ s
  refine wpAny_bind (wpAny_of_eq (PySem.F.newCall_set_1 a) (wpAny_pure ⟨plainId_quiet PySem.F.plain_set_new _, codeAny_builtin PySem.F.entry_set_new ?_⟩))
  rw [Around.under_plainId PySem.F.plain_set_new _]
  unfold Builtin.«set.__new__» Builtin.Frozenset.newClass
  have hsub := sub_set_self
  obtain ⟨hp, g, d, tk, os⟩ := s
  dsimp only
  wp_walk
  refine wpAny_askSetting (wpAny_pure ?_)
  dsimp only
  simp only [newObj]
  refine wpAny_bind (wpAny_alloc (wpAny_pure ?_))
  exact wpAny_pure h
theorem SetSt.fresh (L : Bool) : SetSt prog w L [] { cls := .type "set", dict := none, data := .set #[] 0 (.fresh 0 0 L) } :=
  ⟨#[], 0, .fresh 0 0 L, SetObj.mk ⟨rfl, rfl, rfl⟩ rfl (fun e he => nomatch he) (List.Perm.refl _) (by decide) rfl rfl fun h => absurd rfl h⟩
set_option maxHeartbeats 3200000 in
theorem call_set_strs {l : Addr} {vs : List Value} {ss : List Str} {Q : Value → Shared → Prop}
    (hh : A.handled = none) (hl : s.heap.IsList l vs.toArray) (hlen : vs.length = ss.length) (hi : ∀ (i : Nat) (v : Value) (x : Str), vs[i]? = some v → ss[i]? = some x → ∃ t, v = Value.str x t) (hb : ss.length + 1 < scanBound)
    (h : ∀ (h' : Heap) (tk : Nat) o, h'.get? s.heap.objs.size = some o → SetSt prog w (ledOf w) (met [] ss) o →
      (∀ b o, b < s.heap.objs.size → s.heap.get? b = some o → h'.get? b = some o) → Q (.ref s.heap.objs.size) { s with heap := h', toks := tk }) :
    wpAny (model prog w) A (call (.type "set") [.ref l]) Q E s := by
  obtain ⟨c, tl, hmro⟩ := PySem.F.called_set.mro
  have hmade := PySem.F.called_set.made
  have hsub := PySem.F.called_set.sub
  refine wpAny_call (codeAny_of_tree ?_)
  show wpAny _ _ (callAny (.type "set") _) _ _ _
  refine wpAny_pure ⟨Code.quiet_builtin _ (by decide +kernel), codeAny_builtin PySem.F.entry_type_call ?_⟩
  rw [Around.under_plain (weight_type_call_type "set" [.ref l] []) rfl]
  have h1 := PySem.F.called_set.notType
  have h2 := PySem.F.called_set.canCreate
  have hct := PySem.F.typeCall_set_1 (.ref l)
  repeat (any_goals (first | assumption | wp_step))
  refine codeAny_mono (set_new_1 (.ref l) (E := E) (Q₁ := fun obj s₁ => obj = .ref s.heap.objs.size ∧ s₁ = { s with heap := s.heap.push { cls := .type "set", dict := none, data := .set #[] 0 (.fresh 0 0 (ledOf w)) } }) ⟨rfl, rfl⟩) fun r s₁ hr => ?_
  cases r with
  | error e => exact hr
  | ok fl =>
    cases fl with
    | ret obj =>
      obtain ⟨rfl, rfl⟩ := hr
      have hS : (s.heap.push { cls := .type "set", dict := none, data := .set #[] 0 (.fresh 0 0 (ledOf w)) }).get? s.heap.objs.size = some { cls := .type "set", dict := none, data := .set #[] 0 (.fresh 0 0 (ledOf w)) } := Heap.get?_push_size _ rfl
      have hT : Shared.TypeIs { s with heap := s.heap.push { cls := .type "set", dict := none, data := .set #[] 0 (.fresh 0 0 (ledOf w)) } } (.ref s.heap.objs.size) "set" := ⟨_, hS, rfl⟩
      have hli := PySem.F.called_set.init.lookup
      have hbi := PySem.F.called_set.init.bind (.ref s.heap.objs.size)
      repeat (any_goals (first | assumption | wp_step))
      refine codeAny_mono (codeAny_call_builtin (R := wants (fun r s₂ => r = .none ∧ ∃ h' tk o, s₂ = { s with heap := h', toks := tk } ∧
          h'.get? s.heap.objs.size = some o ∧ SetSt prog w (ledOf w) (met [] ss) o ∧
          (∀ b o, b < s.heap.objs.size → s.heap.get? b = some o → h'.get? b = some o)) E) PySem.F.called_set.init.plain PySem.F.entry_set_init (check_set_init_1 hT ?_)) fun r₂ s₂ hr₂ => ?_
      · obtain ⟨ol, hol, hcl, nl, hdl⟩ := hl
        obtain ⟨ocls, odict, odata, oslots⟩ := ol
        simp only at hcl hdl
        subst hcl; subst hdl
        have hol' : (s.heap.push { cls := .type "set", dict := none, data := .set #[] 0 (.fresh 0 0 (ledOf w)) }).get? l = some { cls := .type "list", dict := odict, data := .seq vs.toArray nl, slots := oslots } := Heap.get?_push_of_some _ hol
        have hsls := PySem.F.sub_list_set
        have hslf := PySem.F.sub_list_frozenset
        have hne : (Value.type "list" == Value.type "dict") = false := by decide
        have hl1 : (s.heap.push { cls := .type "set", dict := none, data := .set #[] 0 (.fresh 0 0 (ledOf w)) }).IsList l vs.toArray := ⟨_, hol', rfl, nl, rfl⟩
        unfold Builtin.«set.__init__» noKeywords Builtin.Frozenset.updateFrom
        generalize hPI : pyIter = PI
        wp_walk
        subst hPI
        refine wpAny_pyIter_list hl1 ?_
        refine wpAny_bind (wpAny_runValue ?_)
        have hlS : l < s.heap.objs.size := Heap.lt_size hol
        have hh3 : A.in1.in1.in1.handled = none := by simp [hh]
        have hneI : l ≠ (s.heap.push { cls := .type "set", dict := none, data := .set #[] 0 (.fresh 0 0 (ledOf w)) }).objs.size := by
          rw [Heap.size_push]; exact Nat.ne_of_lt (Nat.lt_succ_of_lt hlS)
        have hSf : s.heap.objs.size ∉ [(s.heap.push { cls := .type "set", dict := none, data := .set #[] 0 (.fresh 0 0 (ledOf w)) }).objs.size, l] := by
          rw [Heap.size_push]; simp only [List.mem_cons, List.mem_singleton, List.not_mem_nil, or_false, not_or]
          exact ⟨Nat.ne_of_lt (Nat.lt_succ_self _), Nat.ne_of_gt hlS⟩
        refine set_loop (s := { s with heap := (s.heap.push { cls := .type "set", dict := none, data := .set #[] 0 (.fresh 0 0 (ledOf w)) }).push { cls := .type "list_iterator", data := .fields #[.ref l, .int 0 0] } }) ((Walks.list hh3 _ l hneI vs.toArray).toS) s.heap.objs.size hSf (ledOf w) ss (by simp [hlen]) (fun i v x hv hx => hi i v x (by simpa using hv) hx) (by simp [hlen]; exact hb)
          vs.toArray.size 0 [] (by omega) (Nat.zero_le _) ⟨⟨_, Heap.get?_push_size _ rfl, rfl, rfl⟩, (hl1.push _)⟩ ⟨_, Heap.get?_push_of_some _ hS, SetSt.fresh _⟩ (Nat.le_refl _) ?hR
        case hR =>
          rintro s' hm ⟨o', ho', hS'⟩
          obtain ⟨h', g', d', tk', os'⟩ := s'
          have eg : g' = s.gens := hm.gens
          have ed : d' = s.drawn := hm.drawn
          have eo : os' = s.os := hm.os
          subst eg; subst ed; subst eo
          show wpAny _ _ _ _ _ _
          refine wpAny_pure ?_
          show wpAny _ _ (ret Value.none) _ _ _
          refine wpAny_pure ⟨rfl, h', tk', o', rfl, ho', by simpa using hS', fun b o hb e => ?_⟩
          have hb1 : b ≠ s.heap.objs.size := Nat.ne_of_lt hb
          have hb2 : b ≠ (s.heap.push { cls := .type "set", dict := none, data := .set #[] 0 (.fresh 0 0 (ledOf w)) }).objs.size := by
            rw [Heap.size_push]; exact Nat.ne_of_lt (Nat.lt_succ_of_lt hb)
          exact hm.heap b o (by simp only [List.mem_cons, List.mem_singleton, List.not_mem_nil, or_false, not_or]; exact ⟨hb1, hb2⟩) (Heap.get?_push_of_some _ (Heap.get?_push_of_some _ e))
      · cases r₂ with
        | error e => exact hr₂
        | ok fl₂ =>
          cases fl₂ with
          | ret r =>
            obtain ⟨rfl, h', tk, o', rfl, ho', hS', hk'⟩ := hr₂
            repeat (any_goals (first | assumption | wp_step))
            exact h _ _ _ ho' hS' hk'
          | _ => exact hr₂.elim
    | _ => exact hr.elim
end
end Mine
end
section
open PySem PySem.W PyProof.Rows PySem.Calls
namespace Mine
section
variable {c : Cx} {n : Nat} {ob : Ob} {K : AV → Ob → Prop}
theorem Reps.strs {F : Heap} : ∀ {xs : List Value} {ss : List Str}, Reps c F xs (ss.map AV.str) → ∀ (i : Nat) (v : Value) (x : Str), xs[i]? = some v → ss[i]? = some x → ∃ t, v = Value.str x t := by
  intro xs ss h i v x hv hx
  have := h.get hv (v := .str x) (by simp [hx])
  cases this
  exact ⟨_, rfl⟩
theorem O_set {v : AV} {ss : List Str} (hv : IsL ob v (ss.map AV.str)) (hs : ss.length ≤ 4000) (h : ∀ a, ob a = none → K (.own a) (ob.set a (.obj (SetSt c.prog c.w (ledOf c.w) (met [] ss))))) : Fn c n (.type "set") [v] ob K := by
  intro A F s xs hR W hx Q E hQ
  obtain ⟨x, rfl, r1⟩ := reps1 hx
  obtain ⟨a, vs, rfl, h1, h2⟩ := hv.get W r1
  refine call_set_strs hR.handled h1 (by simpa using h2.length) (Reps.strs h2) (by unfold scanBound; omega) fun h' tk o ho hS hk => ?_
  have hd := size_dead s.heap
  obtain ⟨F', w1, w2, w3⟩ := W.put s.heap.objs.size (.obj (SetSt c.prog c.w (ledOf c.w) (met [] ss))) h' tk (.inr hd) (fun b o hb e => hk b o (Heap.lt_size e) e) fun F' hF _ => ⟨o, ho, hS⟩
  exact hQ F' _ _ _ _ (h _ (W.fresh hd)) w1 w2 (.own _)
end
end Mine
end
section
open PySem PySem.W PyProof.Rows PySem.Calls
namespace Mine
theorem owner_si : Manifest.owners.lookup (String.ofList ['r', 'o', 't', 'a', 'r', 'e', 't', 'i', '_', 't', 'e', 's'].reverse) = some Manifest.sig_set_iterator := by kernel_rfl
theorem slot_si_next : Slot "set_iterator" "__next__" "set_iterator.__next__" :=
  .of (owner := "set_iterator") (n := "__next__") (by rw [typeLookup_type, builtinLookup_eq_fast]; kernel_rfl) (by decide +kernel) (by decide +kernel) (by decide +kernel)
    (by first | exact .inl (by decide +kernel) | exact .inr (by decide +kernel)) (by rw [isSubtype_type]; kernel_rfl)
theorem entry_si_next : entryFor table "set_iterator.__next__" = some Builtin.«set_iterator.__next__» := entryFor_of_tree (by kernel_rfl)
theorem args_si_next (a : Value) : argsOk "set_iterator.__next__" ⟨[a], []⟩ := by
  unfold argsOk; rw [signature?_of (id := "set_iterator.__next__") (n := ['_', '_', 't', 'x', 'e', 'n', '_', '_']) (o := ['r', 'o', 't', 'a', 'r', 'e', 't', 'i', '_', 't', 'e', 's']) (by kernel_rfl) owner_si]; kernel_rfl
theorem slot_si_iter : Slot "set_iterator" "__iter__" "set_iterator.__iter__" :=
  .of (owner := "set_iterator") (n := "__iter__") (by rw [typeLookup_type, builtinLookup_eq_fast]; kernel_rfl) (by decide +kernel) (by decide +kernel) (by decide +kernel)
    (by first | exact .inl (by decide +kernel) | exact .inr (by decide +kernel)) (by rw [isSubtype_type]; kernel_rfl)
theorem args_si_iter (a : Value) : argsOk "set_iterator.__iter__" ⟨[a], []⟩ := by
  unfold argsOk; rw [signature?_of (id := "set_iterator.__iter__") (n := ['_', '_', 'r', 'e', 't', 'i', '_', '_']) (o := ['r', 'o', 't', 'a', 'r', 'e', 't', 'i', '_', 't', 'e', 's']) (by kernel_rfl) owner_si]; kernel_rfl
theorem entry_si_iter : entryFor table "set_iterator.__iter__" = some Builtin.«dict_keyiterator.__iter__» :=
  entryFor_alias (id' := "dict_keyiterator.__iter__") (by kernel_rfl) rfl (by decide +kernel) (by kernel_rfl)
theorem entry_set_iter : entryFor table "set.__iter__" = some Builtin.«frozenset.__iter__» :=
  entryFor_alias (id' := "frozenset.__iter__") (by kernel_rfl) rfl (by decide +kernel) (by kernel_rfl)
theorem perm_erase {α : Type} : ∀ (l : List α) (i : Nat) (h : i < l.length), (l[i] :: l.eraseIdx i).Perm l
  | [], i, h => by simp at h
  | x :: l, 0, h => by simp
  | x :: l, i + 1, h => by
    simp only [List.getElem_cons_succ, List.eraseIdx_cons_succ]
    exact (List.Perm.swap x _ _).trans ((perm_erase l i (by simpa using h)).cons x)
section
variable {prog : Program} {w : World} {A : Around} {E : Value → Shared → Prop} {s : Shared}
theorem wpAny_choose {M : Model} {src : Source} {n : Nat} {Q : Nat → Shared → Prop} (hn : n ≠ 0) (h : ∀ i d, i < n → Q i { s with drawn := d }) : wpAny M A (choose src n) Q E s := fun Γ p _ => by
  unfold choose
  rw [Sem.wp_choose]
  exact ⟨hn, h _ _ (Nat.mod_lt _ (Nat.pos_of_ne_zero hn))⟩
theorem wpAny_drawOrder {M : Model} {α : Type} {Q : List α → Shared → Prop} : ∀ (n : Nat) (xs : List α) (s : Shared), xs.length = n → (∀ ys d, ys.Perm xs → Q ys { s with drawn := d }) → wpAny M A (drawOrder n xs) Q E s
  | 0, xs, s, hl, h => by
    have : xs = [] := List.length_eq_zero_iff.mp hl
    subst this
    exact wpAny_pure (h [] s.drawn (.refl _))
  | n + 1, [], s, hl, h => by simp at hl
  | n + 1, x :: xs, s, hl, h => by
    unfold drawOrder
    refine wpAny_bind (wpAny_choose (by simp) fun i d hi => ?_)
    have e : (x :: xs)[i]? = some ((x :: xs)[i]) := List.getElem?_eq_getElem hi
    rw [e]
    dsimp only
    refine wpAny_bind (wpAny_drawOrder n _ _ (by rw [List.length_eraseIdx_of_lt hi]; omega) fun ys d' hp => wpAny_pure (h _ _ ?_))
    exact (List.Perm.cons _ hp).trans (perm_erase _ _ hi)
theorem pickGo_perm {α : Type} (next : Nat → Nat) : ∀ (fuel k : Nat) (left : List α) (out : Array α), left.length = fuel → (pickOrder.go next fuel k left out).toList.Perm (out.toList ++ left)
  | 0, k, left, out, hl => by
    have : left = [] := List.length_eq_zero_iff.mp hl
    subst this
    simp [pickOrder.go]
  | fuel + 1, k, left, out, hl => by
    unfold pickOrder.go
    have hi : next k % left.length < left.length := Nat.mod_lt _ (by omega)
    rw [List.getElem?_eq_getElem hi]
    dsimp only
    refine (pickGo_perm next fuel _ _ _ (by rw [List.length_eraseIdx_of_lt hi]; omega)).trans ?_
    rw [Array.toList_push, List.append_assoc]
    exact List.Perm.append_left _ (perm_erase _ _ hi)
theorem pickOrder_perm {α : Type} (next : Nat → Nat) (xs : Array α) : (pickOrder next xs).toList.Perm xs.toList := by
  have := pickGo_perm next xs.size 0 xs.toList #[] (by simp)
  simpa [pickOrder] using this
noncomputable def IsSI (h : Heap) (I : Addr) (first : Value) (i : Nat) (a : Addr) (n ep : Nat) : Prop :=
  ∃ o, h.get? I = some o ∧ o.cls = .type "set_iterator" ∧ o.data = .fields #[first, .int i 0, .ref a, .int n 0, .int ep 0]
theorem IsSI.typeIs {I : Addr} {first : Value} {i : Nat} {a : Addr} {n ep : Nat} (x : IsSI s.heap I first i a n ep) : s.TypeIs (.ref I) "set_iterator" := let ⟨o, ho, hc, _⟩ := x; ⟨o, ho, hc⟩
noncomputable def SetAt (h : Heap) (a : Addr) (es : Array (Int × Value)) (ep : Nat) (t : SetTable) : Prop := ∃ o, h.get? a = some o ∧ o.data = .set es ep t ∧ t.fits es.size = true
theorem pyNext_si_item {I : Addr} {v : Value} {Q : Option Value → Shared → Prop} (hT : s.TypeIs (.ref I) "set_iterator")
    (h : wpAny (model prog w) A.in1 (Builtin.«set_iterator.__next__» ⟨[.ref I], []⟩) (fun fin s' => fin = .done (.ret v) ∧ Q (some v) s') (fun _ _ => False) s) : wpAny (model prog w) A (pyNext (.ref I)) Q E s := by
  unfold pyNext
  refine wpAny_bind (wpAny_attempt (wpAny_callSpecial?_slot (name := Str.ofString "__next__") hT slot_si_next (wpAny_call_entry slot_si_next hT entry_si_next (wpAny_mono h (fun fin s' hf => ?_) fun _ _ e => e.elim) (args_si_next _))))
  obtain ⟨rfl, hq⟩ := hf
  exact ⟨v, rfl, wpAny_pure hq⟩
theorem pyNext_si_end {I : Addr} {Q : Option Value → Shared → Prop} (hT : s.TypeIs (.ref I) "set_iterator")
    (h : wpAny (model prog w) A.in1 (Builtin.«set_iterator.__next__» ⟨[.ref I], []⟩) (fun _ _ => False) (fun e s' => s'.TypeIs e "StopIteration" ∧ Q none s') s) : wpAny (model prog w) A (pyNext (.ref I)) Q E s := by
  unfold pyNext
  refine wpAny_bind (wpAny_attempt (wpAny_callSpecial?_slot (name := Str.ofString "__next__") hT slot_si_next (wpAny_call_entry slot_si_next hT entry_si_next (wpAny_mono h (fun fin s' hf => hf.elim) fun e s' hf => ?_) (args_si_next _))))
  obtain ⟨h1, h2⟩ := hf
  exact wpAny_bind (wpAny_isInstance (T := "StopIteration") (b := true) h1 isSubtype_stop (wpAny_pure h2))
theorem stop_new {Q : Fin → Shared → Prop} {E : Value → Shared → Prop} (hh : A.handled = none) (h : ∀ h' e, (∀ b o, s.heap.get? b = some o → h'.get? b = some o) → Shared.TypeIs { s with heap := h' } (.ref e) "StopIteration" → E (.ref e) { s with heap := h' }) :
    wpAny (model prog w) A (newExc (.type "StopIteration") [] >>= raiseNew) Q E s := by
  refine wpAny_bind ?_
  simp only [newExc, newTuple]
  refine wpAny_bind (wpAny_newObj_type ?_ (by size_fits))
  refine wpAny_bind (m := firstArgMember _ _) (wpAny_of_eq (a := Value.none) (by first | rfl | (simp only [firstArgMember]; rfl)) ?_)
  refine wpAny_newObj_type ?_ (by size_fits)
  simp only [raiseNew]
  refine wpAny_bind (wpAny_handled ?_)
  rw [hh]
  refine wpAny_bind (wpAny_pure (wpAny_throw (h _ _ (fun b o e => Heap.get?_push_of_some _ (Heap.get?_push_of_some _ e)) ⟨_, Heap.get?_push_size _ rfl, rfl⟩)))
theorem SetAt.state {α : Type} {a : Addr} {es : Array (Int × Value)} {ep : Nat} {t : SetTable} {Q : α → Shared → Prop} {f : Array (Int × Value) × Nat × SetTable → Sem α} (x : SetAt s.heap a es ep t) (h : wpAny (model prog w) A (f (es, ep, t)) Q E s) : wpAny (model prog w) A (setState a >>= f) Q E s := by
  obtain ⟨o, ho, hd, hf⟩ := x
  exact wpAny_bind (wpAny_setState_of ho hd hf h)
theorem SetAt.entries {a : Addr} {es : Array (Int × Value)} {ep : Nat} {t : SetTable} {Q : Array (Int × Value) → Shared → Prop} (x : SetAt s.heap a es ep t) (h : Q es s) : wpAny (model prog w) A (setEntries a) Q E s := by
  obtain ⟨o, ho, hd, hf⟩ := x
  exact wpAny_setEntries_of ho hd hf h
/-- the common start of a step -/
theorem si_next {I a : Addr} {first : Value} {i ep : Nat} {es : Array (Int × Value)} {t : SetTable} {Q : Fin → Shared → Prop} (hI : IsSI s.heap I first i a es.size ep) (hS : SetAt s.heap a es ep t)
    (h : wpAny (model prog w) A (if let .int slot _ := first then do
        match ← setNext a slot.toNat (i : Int).toNat (ep : Int).toNat with
        | some (x, next) =>
          setField (.ref I) 0 (rawInt next)
          setField (.ref I) 1 (rawInt ((i : Int) + 1))
          ret x
        | none => do setField (.ref I) 2 .none; raiseNew (← newExc (.type "StopIteration") [])
      else do
        let some places ← seqItems? first | unsupported "internal:set_iterator"
        match places[(i : Int).toNat]? with
        | some (.int place _) => do
          let x ← setNextDrawn a place.toNat (ep : Int).toNat
          setField (.ref I) 1 (rawInt ((i : Int) + 1))
          ret x
        | some _ => unsupported "internal:set_iterator"
        | none => do setField (.ref I) 0 (rawInt 0); setField (.ref I) 2 .none; raiseNew (← newExc (.type "StopIteration") [])) Q E s) :
    wpAny (model prog w) A (Builtin.«set_iterator.__next__» ⟨[.ref I], []⟩) Q E s := by
  obtain ⟨o, ho, hc, hd⟩ := hI
  unfold Builtin.«set_iterator.__next__»
  refine wpAny_bind (m := slotArgs "__next__" 0 _) (wpAny_pure ?_)
  refine wpAny_bind (wpAny_fieldsOf ho hd ?_)
  dsimp only
  refine wpAny_bind (hS.entries ?_)
  rw [if_neg (by simp)]
  exact h
end
end Mine
end
section
open PySem PySem.W PyProof.Rows PySem.Calls
namespace Mine
section
variable {prog : Program} {w : World} {A : Around} {E : Value → Shared → Prop} {s : Shared}
theorem IsSI.at {h h' : Heap} {I : Addr} {first : Value} {i : Nat} {a : Addr} {n ep : Nat} (x : IsSI h I first i a n ep) (e : ∀ o, h.get? I = some o → h'.get? I = some o) : IsSI h' I first i a n ep := let ⟨o, ho, r⟩ := x; ⟨o, e _ ho, r⟩
theorem SetAt.at {h h' : Heap} {a : Addr} {es : Array (Int × Value)} {ep : Nat} {t : SetTable} (x : SetAt h a es ep t) (e : ∀ o, h.get? a = some o → h'.get? a = some o) : SetAt h' a es ep t := let ⟨o, ho, r⟩ := x; ⟨o, e _ ho, r⟩
theorem IsSI.set {I : Addr} {k : Nat} {v : Value} {Q : Unit → Shared → Prop} {fs : Array Value} {o : Obj} (ho : s.heap.get? I = some o) (hd : o.data = .fields fs) (hk : k < fs.size)
    (h : ∀ h' o', Heap.SameBut I s.heap h' → h'.get? I = some o' → o'.cls = o.cls → o'.data = .fields (fs.setIfInBounds k v) → Q () { s with heap := h' }) : wpAny (model prog w) A (setField (.ref I) k v) Q E s := by
  refine wpAny_setField ho hd hk (h _ _ (Heap.SameBut.update ..) (Heap.get?_update_self _ ho (Obj.isFreed_of_fields (Obj.data_mapFields hd _))) (Obj.cls_mapFields ..) ?_)
  rw [Obj.data_mapFields hd]
theorem byText_ {Q : Bool → Shared → Prop} (h : Q (w.params.followText "set-order") s) : wpAny (model prog w) A setsByText Q E s := by
  unfold setsByText
  exact wpAny_bind (wpAny_askSetting (wpAny_pure h))
theorem si_iter_self {I : Addr} {first : Value} {i : Nat} {a : Addr} {n ep : Nat} {Q : Value → Shared → Prop} (hit : IsSI s.heap I first i a n ep) (h : Q (.ref I) s) : wpAny (model prog w) A (pyIter (.ref I)) Q E s := by
  refine wpAny_pyIter_slot hit.typeIs slot_si_iter (wpAny_call_entry slot_si_iter hit.typeIs entry_si_iter ?_ (args_si_iter _))
  show wpAny _ _ (ret (.ref I)) _ _ s
  exact wpAny_pure ⟨_, rfl, "set_iterator", _, hit.typeIs, slot_si_next.lookup, h⟩
theorem si_stop {I a : Addr} {first : Value} {i n ep : Nat} {Q : Fin → Shared → Prop} {Q' : Option Value → Shared → Prop} (hh : A.handled = none) (hI : IsSI s.heap I first i a n ep)
    (hQ : ∀ h', (∀ b o, b ≠ I → s.heap.get? b = some o → h'.get? b = some o) → Q' none { s with heap := h' }) :
    wpAny (model prog w) A (do setField (.ref I) 2 .none; raiseNew (← newExc (.type "StopIteration") [])) Q (fun e s' => s'.TypeIs e "StopIteration" ∧ Q' none s') s := by
  obtain ⟨o, ho, hc, hd⟩ := hI
  refine wpAny_bind (IsSI.set ho hd (by simp) fun h' o' hs _ _ _ => ?_)
  exact stop_new (s := { s with heap := h' }) hh fun h'' e hk hT => ⟨hT, hQ _ fun b o hb e => hk b o (hs.extBut b o hb e)⟩
/-- by text: the order that the text gives -/
theorem walks_text (hh : A.handled = none) (hT : w.params.followText "set-order" = true) (I a : Addr) (hne : a ≠ I) (es : Array (Int × Value)) (ep : Nat) (t : SetTable) :
    Walks prog w A I [I, a] [I] es.size (fun i v => ((pickOrder (w.params.setOrder a ep) es).toList.map (·.2))[i]? = some v) (fun i h => IsSI h I (.int 0 0) i a es.size ep ∧ SetAt h a es ep t) where
  sub := fun b hb => by simp at hb; simp [hb]
  frame := fun _ _ _ st hk => ⟨st.1.at fun o e => hk I (by simp) o e, st.2.at fun o e => hk a (by simp) o e⟩
  item := fun i s Q E hi st hQ => by
    have hp := pickOrder_perm (w.params.setOrder a ep) es
    have hsz : (pickOrder (w.params.setOrder a ep) es).size = es.size := by
      have := hp.length_eq
      simpa using this
    have hx : (pickOrder (w.params.setOrder a ep) es)[i]? = some ((pickOrder (w.params.setOrder a ep) es)[i]'(by omega)) := Array.getElem?_eq_getElem _
    generalize (pickOrder (w.params.setOrder a ep) es)[i]'(by omega) = x at hx
    refine pyNext_si_item (v := x.2) st.1.typeIs (si_next st.1 st.2 ?_)
    dsimp only
    refine wpAny_bind (m := setNext a _ _ _) ?_
    unfold setNext
    refine st.2.state ?_
    dsimp only
    refine wpAny_bind (byText_ ?_)
    rw [if_pos hT]
    simp only [Int.toNat_natCast, bne_self_eq_false, Bool.false_eq_true, if_false]
    refine wpAny_bind (m := setWalk a) ?_
    unfold setWalk
    refine st.2.state ?_
    dsimp only
    refine wpAny_bind (byText_ ?_)
    rw [if_pos hT]
    refine wpAny_bind (wpAny_askSetting (wpAny_pure (wpAny_pure ?_)))
    dsimp only
    rw [show (model prog w).w = w from rfl, hx]
    dsimp only [Option.map_some]
    obtain ⟨o, ho, hc, hd⟩ := st.1
    refine wpAny_bind (IsSI.set ho hd (by simp) fun h1 o1 hs1 ho1 hc1 hd1 => ?_)
    refine wpAny_bind (IsSI.set (s := { s with heap := h1 }) ho1 hd1 (by simp) fun h2 o2 hs2 ho2 hc2 hd2 => ?_)
    refine wpAny_pure ⟨rfl, hQ x.2 h2 s.toks (by simp [hx]) ⟨⟨o2, ho2, hc2.trans (hc1.trans hc), ?_⟩, st.2.at fun o e => hs2.extBut a o hne (hs1.extBut a o hne e)⟩ fun b o hb e => ?_⟩
    · rw [hd2]; simp [rawInt]
    · simp at hb
      exact hs2.extBut b o hb (hs1.extBut b o hb e)
  done := fun s Q E st hQ => by
    have hp := pickOrder_perm (w.params.setOrder a ep) es
    have hsz : (pickOrder (w.params.setOrder a ep) es).size = es.size := by
      have := hp.length_eq
      simpa using this
    refine pyNext_si_end st.1.typeIs (si_next st.1 st.2 ?_)
    dsimp only
    refine wpAny_bind (m := setNext a _ _ _) ?_
    unfold setNext
    refine st.2.state ?_
    dsimp only
    refine wpAny_bind (byText_ ?_)
    rw [if_pos hT]
    simp only [Int.toNat_natCast, bne_self_eq_false, Bool.false_eq_true, if_false]
    refine wpAny_bind (m := setWalk a) ?_
    unfold setWalk
    refine st.2.state ?_
    dsimp only
    refine wpAny_bind (byText_ ?_)
    rw [if_pos hT]
    refine wpAny_bind (wpAny_askSetting (wpAny_pure (wpAny_pure ?_)))
    dsimp only
    rw [show (model prog w).w = w from rfl, Array.getElem?_eq_none (by omega)]
    dsimp only [Option.map_none]
    exact si_stop (A := A.in1) hh st.1 fun h' hk => hQ h' s.toks fun b o hb e => hk b o (by simpa using hb) e
  self := fun _ _ _ _ st hQ => si_iter_self st.1 hQ
/-- drawn: the order that the start has drawn -/
theorem walks_drawn (hh : A.handled = none) (I a T : Addr) (hne : a ≠ I) (hnT : T ≠ I) (es : Array (Int × Value)) (ep : Nat) (t : SetTable) (pl : List Nat) (hpl : pl.Perm (List.range es.size)) :
    Walks prog w A I [I, a, T] [I] es.size (fun i v => ((pl.map fun k => (es.getD k (0, .none)).2))[i]? = some v) (fun i h => IsSI h I (.ref T) i a es.size ep ∧ SetAt h a es ep t ∧ h.IsTuple T (pl.map fun (i : Nat) => rawInt (i : Int)).toArray) where
  sub := fun b hb => by simp at hb; simp [hb]
  frame := fun _ _ _ st hk => ⟨st.1.at fun o e => hk I (by simp) o e, st.2.1.at fun o e => hk a (by simp) o e, st.2.2.at fun o e => hk T (by simp) o e⟩
  item := fun i s Q E hi st hQ => by
    have hl : pl.length = es.size := by simpa using hpl.length_eq
    have hx : pl[i]? = some (pl[i]'(by omega)) := List.getElem?_eq_getElem _
    have hk : pl[i]'(by omega) < es.size := by
      have := hpl.mem_iff.mp (List.getElem_mem (l := pl) (n := i) (by omega))
      simpa using this
    generalize pl[i]'(by omega) = k at hx hk
    refine pyNext_si_item (v := (es[k]).2) st.1.typeIs (si_next st.1 st.2.1 ?_)
    dsimp only
    obtain ⟨q, hq, _, kk, hqd⟩ := st.2.2
    refine wpAny_bind (wpAny_seqItems hq hqd ?_)
    dsimp only
    have e1 : (pl.map fun (i : Nat) => rawInt (i : Int)).toArray[(i : Int).toNat]? = some (rawInt k) := by simp [hx]
    rw [e1]
    show wpAny _ _ (setNextDrawn a _ _ >>= _) _ _ _
    refine wpAny_bind ?_
    unfold setNextDrawn
    refine st.2.1.state ?_
    dsimp only
    simp only [Int.toNat_natCast, bne_self_eq_false, Bool.false_eq_true, if_false]
    rw [Array.getElem?_eq_getElem hk]
    dsimp only
    refine wpAny_pure ?_
    obtain ⟨o, ho, hc, hd⟩ := st.1
    refine wpAny_bind (IsSI.set ho hd (by simp) fun h1 o1 hs1 ho1 hc1 hd1 => ?_)
    refine wpAny_pure ⟨rfl, hQ _ h1 s.toks (by simp [hx, hk]) ⟨⟨o1, ho1, hc1.trans hc, ?_⟩, st.2.1.at fun o e => hs1.extBut a o hne e, st.2.2.at fun o e => hs1.extBut T o hnT e⟩ fun b o hb e => ?_⟩
    · rw [hd1]; simp [rawInt]
    · simp at hb
      exact hs1.extBut b o hb e
  done := fun s Q E st hQ => by
    have hl : pl.length = es.size := by simpa using hpl.length_eq
    refine pyNext_si_end st.1.typeIs (si_next st.1 st.2.1 ?_)
    dsimp only
    obtain ⟨q, hq, _, kk, hqd⟩ := st.2.2
    refine wpAny_bind (wpAny_seqItems hq hqd ?_)
    dsimp only
    have e1 : (pl.map fun (i : Nat) => rawInt (i : Int)).toArray[(es.size : Int).toNat]? = none := by simp [hl]
    rw [e1]
    show wpAny _ _ (setField (.ref I) 0 (rawInt 0) >>= fun _ => (do setField (.ref I) 2 .none; raiseNew (← newExc (.type "StopIteration") []))) _ _ _
    obtain ⟨o, ho, hc, hd⟩ := st.1
    refine wpAny_bind (IsSI.set ho hd (by simp) fun h1 o1 hs1 ho1 hc1 hd1 => ?_)
    refine si_stop (A := A.in1) (s := { s with heap := h1 }) (first := rawInt 0) (a := a) (i := es.size) (n := es.size) (ep := ep) hh ⟨o1, ho1, hc1.trans hc, by rw [hd1]; simp [rawInt]⟩ fun h' hk => hQ h' s.toks fun b o hb e => ?_
    simp at hb
    exact hk b o hb (hs1.extBut b o hb e)
  self := fun _ _ _ _ st hQ => si_iter_self st.1 hQ
/-- one thing at most -/
theorem walks_few (hh : A.handled = none) (hT : w.params.followText "set-order" = false) (I a : Addr) (hne : a ≠ I) (es : Array (Int × Value)) (ep : Nat) (t : SetTable) (h1 : es.size ≤ 1) (hled : t.led = true) (hpl : t.place.size = es.size) :
    Walks prog w A I [I, a] [I] es.size (fun i v => (es.toList.map (·.2))[i]? = some v) (fun i h => (∃ k : Nat, IsSI h I (.int k 0) i a es.size ep ∧ SetTable.below t.place k = i) ∧ SetAt h a es ep t) where
  sub := fun b hb => by simp at hb; simp [hb]
  frame := fun _ _ _ st hk => ⟨let ⟨k, h1, h2⟩ := st.1; ⟨k, h1.at fun o e => hk I (by simp) o e, h2⟩, st.2.at fun o e => hk a (by simp) o e⟩
  item := fun i s Q E hi st hQ => by
    obtain ⟨⟨k, st1, hk⟩, st2⟩ := st
    have hi0 : i = 0 := by omega
    subst hi0
    have hx : es[0]? = some (es[0]'(by omega)) := Array.getElem?_eq_getElem _
    generalize es[0]'(by omega) = x at hx
    have hpx : t.place[0]? = some (t.place[0]'(by omega)) := Array.getElem?_eq_getElem _
    have hpe : t.place = #[t.place[0]'(by omega)] := by
      apply Array.ext
      · simp; omega
      · intro j hj hj2
        have : j = 0 := by omega
        subst this
        rfl
    generalize t.place[0]'(by omega) = p at hpx hpe
    refine pyNext_si_item (v := x.2) st1.typeIs (si_next st1 st2 ?_)
    dsimp only
    refine wpAny_bind (m := setNext a _ _ _) ?_
    unfold setNext
    refine st2.state ?_
    dsimp only
    refine wpAny_bind (byText_ ?_)
    rw [if_neg (by rw [hT]; exact Bool.false_ne_true)]
    refine wpAny_ite_split (fun hd => ?_) (fun _ => ?_)
    · have hd' : (!t.plain && decide (es.size > 1)) = true := hd
      simp at hd'
      omega
    refine wpAny_bind (m := if (!t.led && !es.isEmpty) = true then unsupported "set:maker-not-led" else pure ()) ?_
    rw [hled, if_neg (by simp)]
    refine wpAny_pure (wpAny_pure ?_)
    simp only [Int.toNat_natCast, hk, hx, hpx]
    obtain ⟨o, ho, hc, hd⟩ := st1
    refine wpAny_bind (IsSI.set ho hd (by simp) fun h1 o1 hs1 ho1 hc1 hd1 => ?_)
    refine wpAny_bind (IsSI.set (s := { s with heap := h1 }) ho1 hd1 (by simp) fun h2 o2 hs2 ho2 hc2 hd2 => ?_)
    refine wpAny_pure ⟨rfl, hQ x.2 h2 s.toks ?_ ⟨⟨p + 1, ⟨o2, ho2, hc2.trans (hc1.trans hc), ?_⟩, ?_⟩, st2.at fun o e => hs2.extBut a o hne (hs1.extBut a o hne e)⟩ fun b o hb e => ?_⟩
    · rw [List.getElem?_map, Array.getElem?_toList, hx]; rfl
    · rw [hd2]; simp [rawInt]
    · rw [hpe]; simp [SetTable.below, SetTable.below.go]
    · simp at hb
      exact hs2.extBut b o hb (hs1.extBut b o hb e)
  done := fun s Q E st hQ => by
    obtain ⟨⟨k, st1, hk⟩, st2⟩ := st
    refine pyNext_si_end st1.typeIs (si_next st1 st2 ?_)
    dsimp only
    refine wpAny_bind (m := setNext a _ _ _) ?_
    unfold setNext
    refine st2.state ?_
    dsimp only
    refine wpAny_bind (byText_ ?_)
    rw [if_neg (by rw [hT]; exact Bool.false_ne_true)]
    refine wpAny_ite_split (fun hd => ?_) (fun _ => ?_)
    · have hd' : (!t.plain && decide (es.size > 1)) = true := hd
      simp at hd'
      omega
    refine wpAny_bind (m := if (!t.led && !es.isEmpty) = true then unsupported "set:maker-not-led" else pure ()) ?_
    rw [hled, if_neg (by simp)]
    refine wpAny_pure (wpAny_pure ?_)
    simp only [Int.toNat_natCast, hk, Array.getElem?_eq_none (Nat.le_refl es.size)]
    exact si_stop (A := A.in1) hh st1 fun h' hk => hQ h' s.toks fun b o hb e => hk b o (by simpa using hb) e
  self := fun _ _ _ _ st hQ => let ⟨k, h1, _⟩ := st.1; si_iter_self h1 hQ
theorem strs_of {L : Bool} {acc : List Str} {o : Obj} {es : Array (Int × Value)} {ep : Nat} {t : SetTable} (S : SetObj prog w L acc o es ep t) {es' : List (Int × Value)} (hp : es'.Perm es.toList) : ∃ ss : List Str, ss.Perm acc ∧ StrsAre (es'.map (·.2)) ss := by
  refine ⟨es'.map fun e => strOf e.2, (hp.map _).trans S.perm, ?_⟩
  have hall : ∀ e ∈ es', ∃ x u, e.2 = Value.str x u := fun e he => by
    obtain ⟨⟨k, hk, _⟩, _⟩ := S.el e (hp.mem_iff.mp he)
    obtain ⟨u, hu⟩ := Value.isStrOf_shape hk
    exact ⟨k, u, hu⟩
  clear hp
  induction es' with
  | nil => exact .nil
  | cons e r ih =>
    obtain ⟨x, u, he⟩ := hall e List.mem_cons_self
    simp only [List.map_cons, he]
    exact .cons _ _ (ih fun e he => hall e (List.mem_cons_of_mem _ he))
theorem range_map_perm (es : Array (Int × Value)) {pl : List Nat} (h : pl.Perm (List.range es.size)) : (pl.map fun k => es.getD k (0, .none)).Perm es.toList := by
  refine (h.map _).trans (.of_eq ?_)
  apply List.ext_getElem
  · simp
  · intro i h1 h2
    simp at h1
    simp [h1]
/-- the start of a walk over a set of strs -/
theorem pyIter_set (hh : A.handled = none) {a : Addr} {o : Obj} {acc : List Str} {Q : Value → Shared → Prop} (ho : s.heap.get? a = some o) (hS : SetSt prog w (ledOf w) acc o)
    (hQ : ∀ I h' d fp (vs : List Value) ss St, s.heap.objs.size ≤ I → (∀ b o, s.heap.get? b = some o → h'.get? b = some o) → (∀ b ∈ fp, b = a ∨ s.heap.objs.size ≤ b) → ss.Perm acc → StrsAre vs ss →
      (∀ A : Around, A.handled = none → Walks prog w A I fp [I] vs.length (fun i v => vs[i]? = some v) St) → St 0 h' → (∀ b ∈ fp, b < h'.objs.size) → Q (.ref I) { s with heap := h', drawn := d }) : wpAny (model prog w) A (pyIter (.ref a)) Q E s := by
  obtain ⟨es, ep, t, S⟩ := hS
  have hT : s.TypeIs (.ref a) "set" := ⟨o, ho, S.ex.1⟩
  have hAt : SetAt s.heap a es ep t := ⟨o, ho, S.data, S.fits⟩
  have ha : a < s.heap.objs.size := Heap.lt_size ho
  refine wpAny_pyIter_slot hT PySem.F.slot_set_iter (wpAny_call_entry PySem.F.slot_set_iter hT entry_set_iter ?_ (PySem.F.args_set_iter_1 _))
  unfold Builtin.«frozenset.__iter__» Builtin.Frozenset.slot0
  refine wpAny_bind (m := slotArgs "__iter__" 0 _ >>= _) (wpAny_bind (wpAny_pure ?_))
  refine wpAny_pure ?_
  unfold Builtin.Frozenset.sizeOf
  refine wpAny_bind (wpAny_bind (hAt.entries (wpAny_pure ?_)))
  refine wpAny_bind (m := setDrawn a) ?_
  unfold setDrawn
  refine hAt.state ?_
  dsimp only
  refine wpAny_bind (byText_ (wpAny_pure ?_))
  have iter_new : ∀ (h1 : Heap) (d : Drawn) (first : Value) (R : Fin → Shared → Prop), SetAt h1 a es ep t → (∀ h' I, (∀ b o, h1.get? b = some o → h'.get? b = some o) → h1.objs.size = I → I < h'.objs.size → IsSI h' I first 0 a es.size ep → R (.done (.ret (.ref I))) { s with heap := h', drawn := d }) →
      wpAny (model prog w) A.in1 (do ret (← newFields "set_iterator" [first, rawInt 0, .ref a, rawInt es.size, rawInt (← setEpoch a)])) R E { s with heap := h1, drawn := d } := by
    intro h1 d first R hA hR
    refine wpAny_bind (m := setEpoch a) ?_
    unfold setEpoch
    refine SetAt.state (s := { s with heap := h1, drawn := d }) hA (wpAny_pure ?_)
    refine wpAny_bind (wpAny_newObj_type (wpAny_pure (hR _ _ (fun b o e => Heap.get?_push_of_some _ e) rfl (Heap.lt_size (Heap.get?_push_size _ rfl)) ⟨_, Heap.get?_push_size _ rfl, rfl, rfl⟩)))
  have fin : ∀ (h1 h' : Heap) (d : Drawn) (I : Addr) (first : Value) (fp : List Addr) (vs : List Value) (ss : List Str) (St : Nat → Heap → Prop), (∀ b o, s.heap.get? b = some o → h1.get? b = some o) → s.heap.objs.size ≤ h1.objs.size → (∀ b o, h1.get? b = some o → h'.get? b = some o) → h1.objs.size = I → IsSI h' I first 0 a es.size ep →
      (∀ b ∈ fp, b = a ∨ s.heap.objs.size ≤ b) → ss.Perm acc → StrsAre vs ss → (∀ A : Around, A.handled = none → Walks prog w A I fp [I] vs.length (fun i v => vs[i]? = some v) St) → St 0 h' → (∀ b ∈ fp, b < h'.objs.size) →
      ∃ v, Fin.done (.ret (.ref I)) = .done (.ret v) ∧ ∃ T' r, Shared.TypeIs { s with heap := h', drawn := d } v T' ∧ typeLookup (.type T') "__next__" = pure (some r) ∧ Q v { s with heap := h', drawn := d } := by
    intro h1 h' d I first fp vs ss St k1 k2 k3 k4 hI k5 k6 k7 k8 k9 k10
    exact ⟨_, rfl, "set_iterator", _, IsSI.typeIs (s := { s with heap := h', drawn := d }) hI, slot_si_next.lookup, hQ I h' d fp vs ss St (by omega) (fun b o e => k3 b o (k1 b o e)) k5 k6 k7 k8 k9 k10⟩
  cases hB : w.params.followText "set-order" with
  | true =>
    rw [if_neg (by simp)]
    refine wpAny_bind (wpAny_pure (iter_new s.heap s.drawn (rawInt 0) _ hAt fun h' I k1 k2 k3 hI => ?_))
    obtain ⟨ss, hp, hss⟩ := strs_of S (pickOrder_perm (w.params.setOrder a ep) es)
    have hlen : ((pickOrder (w.params.setOrder a ep) es).toList.map (·.2)).length = es.size := by
      have := (pickOrder_perm (w.params.setOrder a ep) es).length_eq
      simpa using this
    refine fin s.heap h' s.drawn I _ [I, a] _ ss (fun i h => IsSI h I (.int 0 0) i a es.size ep ∧ SetAt h a es ep t) (fun _ _ e => e) (Nat.le_refl _) k1 k2 hI (by intro b hb; simp at hb; rcases hb with rfl | rfl; right; omega; exact .inl rfl) hp hss (fun A hA => ?_) ?_ (by intro b hb; simp at hb; rcases hb with rfl | rfl; exact k3; exact Heap.lt_size (k1 _ _ ho))
    · rw [hlen]
      exact walks_text hA hB I a (Nat.ne_of_lt (Nat.lt_of_lt_of_eq ha k2)) es ep t
    · exact ⟨hI, hAt.at fun o e => k1 a o e⟩
  | false =>
    refine wpAny_ite_split (fun hd => ?_) (fun hd => ?_)
    · refine wpAny_bind (wpAny_drawOrder _ _ _ (by simp) fun pl d hpl => ?_)
      refine wpAny_bind (wpAny_newTuple ?_ ?_)
      · dsimp only
        refine iter_new _ d (.ref s.heap.objs.size) _ (hAt.at fun o e => Heap.get?_push_of_some _ e) fun h' I k1 k2 k3 hI => ?_
        obtain ⟨ss, hp, hss⟩ := strs_of S (range_map_perm es hpl)
        rw [List.map_map] at hss
        have hlen : (pl.map ((·.2) ∘ fun k => es.getD k (0, .none))).length = es.size := by
          have := hpl.length_eq
          simpa using this
        have hs1 : (s.heap.push { cls := .type "tuple", data := .seq (pl.map fun (i : Nat) => rawInt (i : Int)).toArray }).objs.size = s.heap.objs.size + 1 := Heap.size_push ..
        have hk0 : ∀ b o, s.heap.get? b = some o → (s.heap.push { cls := .type "tuple", data := .seq (pl.map fun (i : Nat) => rawInt (i : Int)).toArray }).get? b = some o := fun b o e => Heap.get?_push_of_some _ e
        have k2' : I = s.heap.objs.size + 1 := by rw [← k2]; exact hs1
        have hTt : (s.heap.push { cls := .type "tuple", data := .seq (pl.map fun (i : Nat) => rawInt (i : Int)).toArray }).IsTuple s.heap.objs.size (pl.map fun (i : Nat) => rawInt (i : Int)).toArray := ⟨_, Heap.get?_push_size _ rfl, rfl, _, rfl⟩
        have hTt' : h'.IsTuple s.heap.objs.size (pl.map fun (i : Nat) => rawInt (i : Int)).toArray := let ⟨o, q1, q2⟩ := hTt; ⟨o, k1 _ _ q1, q2⟩
        refine fin _ h' d I _ [I, a, s.heap.objs.size] _ ss (fun i h => IsSI h I (.ref s.heap.objs.size) i a es.size ep ∧ SetAt h a es ep t ∧ h.IsTuple s.heap.objs.size (pl.map fun (i : Nat) => rawInt (i : Int)).toArray) hk0 (by omega) k1 k2 hI (by intro b hb; simp at hb; rcases hb with rfl | rfl | rfl; right; omega; exact .inl rfl; right; omega) hp hss (fun A hA => ?_) ?_ (by intro b hb; simp at hb; rcases hb with rfl | rfl | rfl; exact k3; exact Heap.lt_size (k1 _ _ (hk0 _ _ ho)); rw [k2'] at k3; exact Nat.lt_of_succ_lt k3)
        · rw [hlen]
          exact walks_drawn hA I a _ (Nat.ne_of_lt (Nat.lt_trans ha (by rw [k2']; exact Nat.lt_succ_self _))) (by rw [k2']; exact Nat.ne_of_lt (Nat.lt_succ_self _)) es ep t pl hpl
        · exact ⟨hI, hAt.at fun o e => k1 a o (hk0 _ _ e), hTt'⟩
      · have := hpl.length_eq
        have h4 := S.few
        unfold scanBound at h4
        simp at this ⊢
        rw [sizeLine_eq]
        omega
    · have hfew : es.size ≤ 1 := by
        have hd' : ¬ (!false && (!t.plain && decide (es.size > 1))) = true := hd
        by_cases h0 : es.size = 0
        · omega
        · have := S.plain h0
          simp [this] at hd'
          omega
      refine wpAny_bind (wpAny_pure (iter_new s.heap s.drawn (rawInt 0) _ hAt fun h' I k1 k2 k3 hI => ?_))
      obtain ⟨ss, hp, hss⟩ := strs_of S (es' := es.toList) (.refl _)
      have hlen : (es.toList.map (·.2)).length = es.size := by simp
      have hpl : t.place.size = es.size := by
        have := S.fits
        simp [SetTable.fits] at this
        exact this.1
      refine fin s.heap h' s.drawn I _ [I, a] _ ss (fun i h => (∃ k : Nat, IsSI h I (.int k 0) i a es.size ep ∧ SetTable.below t.place k = i) ∧ SetAt h a es ep t) (fun _ _ e => e) (Nat.le_refl _) k1 k2 hI (by intro b hb; simp at hb; rcases hb with rfl | rfl; right; omega; exact .inl rfl) hp hss (fun A hA => ?_) ?_ (by intro b hb; simp at hb; rcases hb with rfl | rfl; exact k3; exact Heap.lt_size (k1 _ _ ho))
      · rw [hlen]
        exact walks_few hA hB I a (Nat.ne_of_lt (Nat.lt_of_lt_of_eq ha k2)) es ep t hfew (by rw [S.led]; unfold ledOf; rw [hB]; rfl) hpl
      · refine ⟨⟨0, hI, ?_⟩, hAt.at fun o e => k1 a o e⟩
        match hsz : t.place, hpl with
          | ⟨[]⟩, _ => rfl
          | ⟨[p]⟩, _ => simp [SetTable.below, SetTable.below.go]
          | ⟨_ :: _ :: _⟩, hpl => simp at hpl; omega
end
end Mine
end
section
open PySem PySem.W PyProof.Rows PySem.Calls
namespace Mine
section
variable {prog : Program} {w : World} {A : Around} {E : Value → Shared → Prop} {s : Shared}
theorem strs_len : ∀ {vs : List Value} {ss : List Str}, StrsAre vs ss → vs.length = ss.length
  | _, _, .nil => rfl
  | _, _, .cons _ _ h => by simp [strs_len h]
theorem hint_set {r : Addr} {Q : Bool → Shared → Prop} (hT : s.TypeIs (.ref r) "set") (h : Q false s) : wpAny (model prog w) A (Builtin.List.listLengthHint (.ref r)) Q E s := by
  unfold Builtin.List.listLengthHint
  refine wpAny_bind (wpAny_specialOf hT PySem.F.slot_set_len.lookup ?_)
  generalize hid : ("set.__len__" : String) = id0
  wp_delta
  rw [show splitId id0 = some ("set", "__len__") from by subst hid; decide +kernel]
  subst hid
  refine wpAny_bind (wpAny_isInstance (T := "set") (b := true) hT (by rw [isSubtype_type]; kernel_rfl) ?_)
  refine wpAny_ite_split (fun hab => absurd hab (by decide)) (fun _ => ?_)
  refine wpAny_ite_split (fun _ => ?_) (fun hab => absurd (by decide +kernel) hab)
  refine wpAny_bind (wpAny_typeOf hT ?_)
  exact wpAny_pure h
theorem itemsOf_eq {vs : List Value} {acc : Array Value} (h : ItemsOf (fun i v => vs[i]? = some v) acc vs.length) : acc.toList = vs := by
  apply List.ext_getElem?
  intro i
  obtain ⟨h1, h2⟩ := h
  by_cases hi : i < acc.size
  · have e : acc[i]? = some acc[i] := Array.getElem?_eq_getElem hi
    have := h2 i _ e
    rw [Array.getElem?_toList, e, this]
  · rw [List.getElem?_eq_none (by simpa using hi), List.getElem?_eq_none (by omega)]
theorem extend_set {R : Result → Shared → Prop} (hh : A.handled = none) {r S : Addr} {o : Obj} {acc : List Str} (ho : s.heap.get? r = some o) (hO : SetSt prog w (ledOf w) acc o) (hSr : S ≠ r) (res : Value) (c₀ : Nat) (hS : s.heap.get? S = some { cls := .type "list", data := .seq #[] c₀ }) (hn : acc.length ≤ 4000)
    (hR : ∀ h' d tk (vs : List Value) c' ss, (∀ b o, b ≠ S → s.heap.get? b = some o → h'.get? b = some o) → h'.get? S = some { cls := .type "list", dict := none, data := .seq vs.toArray c', slots := #[] } → StrsAre vs ss → ss.Perm acc → R (.ok (.ret res)) { s with heap := h', toks := tk, drawn := d }) :
    wpAny (model prog w) A.in1 (Builtin.List.listExtendWith (.ref S) (.ref r) res)
      (fun fin s' => match fin with | .done f => R (.ok f) s' | .again c' => c'.quiet = true ∧ codeAny (model prog w) A c' R s') (fun e s' => R (.error e) s') s := by
  have hex : s.TypeIs (.ref r) "set" := by obtain ⟨_, _, _, O⟩ := hO; exact ⟨o, ho, O.ex.1⟩
  unfold Builtin.List.listExtendWith
  refine wpAny_bind (wpAny_typeOf (T := "set") hex ?_)
  have h1 : Builtin.List.listSameRef (.ref S) (.ref r) = false := by simp [Builtin.List.listSameRef, hSr]
  have h2 : (Value.type "set" == Value.type "list") = false := by decide
  have h3 : (Value.type "set" == Value.type "tuple") = false := by decide
  simp only [h1, h2, h3, Bool.or_false, Bool.false_eq_true, if_false]
  refine wpAny_bind (pyIter_set (A := A.in1) hh ho hO fun I h' d fp vs ss St kI kold kfp kp kss W st0 klt => ?_)
  have hS₁ := kold _ _ hS
  have hSlt : S < s.heap.objs.size := Heap.lt_size hS
  have hSf : S ∉ fp := fun hm => by
    rcases kfp S hm with e | e
    · exact hSr e
    · exact absurd hSlt (Nat.not_lt.mpr e)
  have hlen : vs.length ≤ sizeLine := by
    have e1 : vs.length = ss.length := strs_len kss
    rw [e1, kp.length_eq, sizeLine_eq]
    omega
  have key : ∀ (h : Heap) (c₁ tk : Nat), St 0 h → (∀ b o, b ≠ S → s.heap.get? b = some o → h.get? b = some o) →
      h.get? S = some { cls := .type "list", data := .seq #[] c₁ } → codeAny (model prog w) A (.builtin "list.extend.loop" ⟨[.ref S, .ref I, res], []⟩) R { s with heap := h, toks := tk, drawn := d } := by
    intro h c₁ tk hst hk hS₁
    refine codeAny_extend_loopS (W A.in1 hh).toS hlen S hSf res vs.length 0 _ #[] c₁ rfl (Nat.zero_le _) hst hS₁ (ItemsOf.nil _) fun s' acc' c' hm hS' hacc => ?_
    rw [Moved.eq_with hm]
    have e := itemsOf_eq hacc
    refine hR s'.heap d s'.toks vs c' ss (fun b o hb e => hm.heap b o (fun hmem => ?_) (hk b o hb e)) ?_ kss kp
    · rcases List.mem_cons.mp hmem with e' | hmem
      · exact hb e'
      · exact absurd (Heap.lt_size e) (by rw [List.mem_singleton.mp hmem]; exact Nat.not_lt.mpr kI)
    · rw [hS', ← e]
  refine wpAny_bind (wpAny_holding (hint_set (s := { s with heap := h', drawn := d }) (r := r) ⟨o, kold _ _ ho, by obtain ⟨_, _, _, O⟩ := hO; exact O.ex.1⟩ ?_))
  refine wpAny_ite_split (fun _ => ?_) (fun _ => wpAny_pure ⟨plainId_quiet PySem.F.plain_extend_loop _, key _ c₀ _ st0 (fun b o _ e => kold b o e) hS₁⟩)
  refine wpAny_bind (wpAny_rule ?_)
  refine wpAny_bind ?_
  show wpAny _ _ (updateSeq S (·.push .none) >>= fun _ => updateSeq S (·.pop)) _ _ _
  refine wpAny_bind (wpAny_updateSeq (s := { s with heap := h', drawn := d }) hS₁ rfl ?_)
  have hS₂ := Heap.get?_update_self (Obj.mapSeq (·.push Value.none)) hS₁ rfl
  refine wpAny_updateSeq (hz := by seq_fits) hS₂ rfl ?_
  have hS₃ := Heap.get?_update_self (Obj.mapSeq (·.pop)) hS₂ rfl
  refine wpAny_pure ⟨plainId_quiet PySem.F.plain_extend_loop _, key _ _ _ ?_ (fun b o hb e => ?_) hS₃⟩
  · refine (W A.in1 hh).frame 0 _ _ st0 fun b hb o e => ?_
    have hbS : b ≠ S := fun h => hSf (h ▸ hb)
    exact (Heap.get?_update_other _ _ (Ne.symm hbS)).trans ((Heap.get?_update_other _ _ (Ne.symm hbS)).trans e)
  · exact (Heap.get?_update_other _ _ (Ne.symm hb)).trans ((Heap.get?_update_other _ _ (Ne.symm hb)).trans (kold _ _ e))
theorem collect_set {R : List Value → Shared → Prop} (hh : A.handled = none) {r : Addr} {o : Obj} {acc : List Str} (ho : s.heap.get? r = some o) (hO : SetSt prog w (ledOf w) acc o) (hn : acc.length ≤ 4000)
    (h : ∀ h' d tk vs ss, Le s.heap h' → StrsAre vs ss → ss.Perm acc → R vs { s with heap := h', toks := tk, drawn := d }) : wpAny (model prog w) A (collect (.ref r)) R E s := by
  have hlt : r < s.heap.objs.size := Heap.lt_size ho
  unfold collect
  refine wpAny_bind (wpAny_runValue (codeAny_builtin entry_proto_collect' ?_))
  rw [Around.under_plainId PySem.F.plain_proto_collect _]
  show wpAny _ A.in1 (newList [] >>= fun l => again (.builtin "list.__iadd__" ⟨[l, .ref r], []⟩)) _ _ s
  refine wpAny_bind (wpAny_newObj_type ?_)
  refine wpAny_pure ⟨plainId_quiet PySem.F.plain_list_iadd _, codeAny_builtin entry_list_iadd' ?_⟩
  rw [Around.under_plainId PySem.F.plain_list_iadd _]
  have hS₁ : (s.heap.push { cls := .type "list", data := .seq ([] : List Value).toArray }).get? s.heap.objs.size = some { cls := .type "list", data := .seq #[] } := Heap.get?_push_size _ rfl
  show wpAny _ A.in1 (Builtin.List.listExtendWith (.ref s.heap.objs.size) (.ref r) (.ref s.heap.objs.size)) _ _ _
  have key := extend_set (A := A) (s := { s with heap := s.heap.push { cls := .type "list", data := .seq ([] : List Value).toArray } }) (S := s.heap.objs.size)
    (R := fun (q : Result) (s' : Shared) => ∃ (h' : Heap) (d : Drawn) (tk : Nat) (vs : List Value) (c' : Nat) (ss : List Str), q = .ok (.ret (.ref s.heap.objs.size)) ∧ s' = { s with heap := h', toks := tk, drawn := d } ∧
      Le s.heap h' ∧ h'.get? s.heap.objs.size = some { cls := .type "list", dict := none, data := .seq vs.toArray c', slots := #[] } ∧ StrsAre vs ss ∧ ss.Perm acc)
    hh (Heap.get?_push_of_some _ ho) hO (Nat.ne_of_gt hlt) (.ref s.heap.objs.size) 0 hS₁ hn
    (fun h' d tk vs c' ss hk hS' h1 h2 => ⟨h', d, tk, vs, c', ss, rfl, rfl, fun b o e => hk b o (Nat.ne_of_lt (Heap.lt_size e)) (Heap.get?_push_of_some _ e), hS', h1, h2⟩)
  refine wpAny_mono key (fun fin s' x => ?_) fun e s' x => ?_
  · cases fin with
    | done f =>
      obtain ⟨h', d, tk, vs, c', ss, e, rfl, hk, hS', h1, h2⟩ := x
      cases e
      show wpAny _ A (load s.heap.objs.size >>= _) _ _ _
      refine wpAny_bind (wpAny_load hS' ?_)
      exact wpAny_pure (h h' d tk vs ss hk h1 h2)
    | again c₁ =>
      refine ⟨x.1, codeAny_mono x.2 fun q s₂ y => ?_⟩
      obtain ⟨h', d, tk, vs, c', ss, rfl, rfl, hk, hS', h1, h2⟩ := y
      show wpAny _ A (load s.heap.objs.size >>= _) _ _ _
      refine wpAny_bind (wpAny_load hS' ?_)
      exact wpAny_pure (h h' d tk vs ss hk h1 h2)
  · obtain ⟨_, _, _, _, _, _, e', _⟩ := x
    cases e'
theorem sorted_via {x : Value} {acc : List Str} {Q : Value → Shared → Prop}
    (h : ∀ R : List Value → Shared → Prop, (∀ h' d tk vs ss, Le s.heap h' → StrsAre vs ss → ss.Perm acc → R vs { s with heap := h', toks := tk, drawn := d }) → wpAny (model prog w) A.in1 (collect x) R E s) (h64 : acc.length < 64)
    (hQ : ∀ h' d tk a vs ss, Le s.heap h' → s.heap.get? a = none → h'.PlainList a (List.toArray vs) → StrsAre vs ss → ss.Perm acc → sortedS ss = true → Q (.ref a) { s with heap := h', toks := tk, drawn := d }) : wpAny (model prog w) A (call (.builtin "sorted") [x]) Q E s := by
  refine call_function_entry kind_sorted plain_sorted entry_sorted (args_sorted1 _) ?_
  unfold Builtin.«sorted»
  refine wpAny_bind (m := checkCount "sorted" 1 1 _) (wpAny_pure ?_)
  refine wpAny_bind (h _ fun h1 d tk vs ss k1 k2 k3 => ?_)
  have hlen : vs.length < 64 := by
    have e1 : vs.length = ss.length := strs_len k2
    rw [e1, k3.length_eq]
    exact h64
  refine wpAny_bind (wpAny_newList ?_ (by rw [sizeLine_eq]; omega))
  have hoL : (h1.push { cls := .type "list", data := .seq vs.toArray }).get? h1.objs.size = some (seqObj "list" vs.toArray 0) := Heap.get?_push_size _ rfl
  refine wpAny_bind (wpAny_holding (wpAny_call_entry slot_list_sort (s := { s with heap := h1.push { cls := .type "list", data := .seq vs.toArray }, toks := tk, drawn := d }) ⟨_, hoL, rfl⟩ entry_list_sort (list_sort_treeK (s := { s with heap := h1.push { cls := .type "list", data := .seq vs.toArray }, toks := tk, drawn := d }) strKind_oneLt hoL k2.keysOf (fun v₁ v₂ rest e => keyKind_strs (by rw [← e]; exact k2)) hlen fun st' a1 a2 => ⟨_, rfl, ?_⟩) (args_list_sort _)))
  obtain ⟨ss', b1, b2, b3⟩ := sorted_out_str k2 a1 a2
  refine wpAny_pure ⟨_, rfl, ?_⟩
  obtain ⟨e, he⟩ := sortedHeap_at (vs := vs) (out := (arrOf st').map (·.2)) hoL
  refine hQ _ d tk h1.objs.size ((arrOf st').map (·.2)).toList ss' (fun b o ho => ?_) ?_ ⟨e, by rw [Array.toArray_toList]; exact he⟩ b1 (b2.trans k3) b3
  · have hb := Heap.lt_size (k1 _ _ ho)
    rw [sortedHeap_old (Nat.ne_of_lt hb) (by rw [size_push']; exact Nat.lt_succ_of_lt hb)]
    exact Heap.get?_push_of_some _ (k1 _ _ ho)
  · cases e2 : s.heap.get? h1.objs.size with
    | none => rfl
    | some q => exact absurd (Heap.lt_size (k1 _ _ e2)) (Nat.lt_irrefl _)
end
end Mine
end
section
open PySem PySem.W PyProof.Rows PySem.Calls
namespace Mine
noncomputable def nm (i : _root_.Fin 3) : Str := Tm.hd (.v i)
noncomputable def unnm (s : Str) : _root_.Fin 3 := if s = nm 0 then 0 else if s = nm 1 then 1 else 2
theorem unnm_nm : ∀ i, unnm (nm i) = i := by decide +kernel
theorem nm_inj {i j : _root_.Fin 3} (h : nm i = nm j) : i = j := by rw [← unnm_nm i, h, unnm_nm]
noncomputable def inOrder (p : _root_.Fin 3 → Bool) : List (_root_.Fin 3) := [0, 1, 2].filter p
theorem inOrder_mem (p : _root_.Fin 3 → Bool) (i : _root_.Fin 3) : i ∈ inOrder p ↔ p i = true := by
  unfold inOrder
  rw [List.mem_filter]
  constructor
  · exact fun h => h.2
  · exact fun h => ⟨(by decide : ∀ i : _root_.Fin 3, i ∈ [0, 1, 2]) i, h⟩
theorem no4 : ∀ a b d e : _root_.Fin 3, ¬ [a, b, d, e].Nodup := by decide
theorem nodup_of_map {α β : Type} (f : α → β) {l : List α} (h : (l.map f).Nodup) : l.Nodup := List.Pairwise.of_map f (fun _ _ h e => h (congrArg f e)) h
theorem sorted_names (l : List (_root_.Fin 3)) (nd : l.Nodup) (h : sortedS (l.map nm) = true) : l = inOrder fun i => l.contains i := by
  match l, nd, h with
  | [], _, _ => rfl
  | [a], nd, h => revert a; decide +kernel
  | [a, b], nd, h => revert nd h; revert a b; decide +kernel
  | [a, b, d], nd, h => revert nd h; revert a b d; decide +kernel
  | a :: b :: d :: e :: r, nd, _ =>
    have h4 : [a, b, d, e].Nodup := List.Nodup.sublist (by simp) nd
    exact absurd h4 (no4 a b d e)
theorem sorted_eq {acc : List Str} {p : _root_.Fin 3 → Bool} {ss : List Str} (nd : acc.Nodup) (ha : ∀ x, x ∈ acc ↔ ∃ i, p i = true ∧ x = nm i) (hp : ss.Perm acc) (h : sortedS ss = true) : ss = (inOrder p).map nm := by
  have e : (ss.map unnm).map nm = ss := by
    rw [List.map_map]
    have : ss.map (nm ∘ unnm) = ss.map id := List.map_congr_left fun x hx => by
      obtain ⟨i, _, rfl⟩ := (ha x).mp (hp.mem_iff.mp hx)
      simp [unnm_nm]
    rw [this, List.map_id]
  have nd' : (ss.map unnm).Nodup := by
    have h1 : ss.Nodup := hp.nodup_iff.mpr nd
    rw [← e] at h1
    exact nodup_of_map nm h1
  have h2 := sorted_names (ss.map unnm) nd' (by rw [e]; exact h)
  rw [← e]
  have h3 : (inOrder fun i => (ss.map unnm).contains i) = inOrder p := by
    unfold inOrder
    refine List.filter_congr fun i _ => ?_
    rw [Bool.eq_iff_iff]
    rw [List.contains_iff_mem, List.mem_map]
    constructor
    · rintro ⟨x, hx, rfl⟩
      obtain ⟨i, hi, rfl⟩ := (ha x).mp (hp.mem_iff.mp hx)
      rwa [unnm_nm]
    · intro hi
      exact ⟨nm i, hp.mem_iff.mpr ((ha _).mpr ⟨i, hi, rfl⟩), unnm_nm i⟩
  rw [← h3, ← h2]
section
variable {c : Cx} {n : Nat} {ob : Ob} {K : AV → Ob → Prop}
theorem reps_strs {F : Heap} : ∀ {vs : List Value} {ss : List Str}, StrsAre vs ss → Reps c F vs (ss.map AV.str)
  | _, _, .nil => .nil
  | _, _, .cons x t h => .cons (.str x t) (reps_strs h)
theorem Wf.draw {F : Heap} {s : Shared} (S : Wf c F ob s) (d : Drawn) : Wf c F ob { s with drawn := d } := ⟨S.gens, S.os, S.le, S.base, S.own⟩
theorem fresh_list {F : Heap} {s : Shared} (W : Wf c F ob s) {h' : Heap} {d : Drawn} {tk : Nat} {a : Addr} {vs : List Value} {l : List AV} (hle : Le s.heap h') (ha : s.heap.get? a = none) (hp : h'.PlainList a vs.toArray) (hr : Reps c F vs l) :
    ∃ F', Wf c F' ob { s with heap := h', toks := tk, drawn := d } ∧ Mov ob s F ob { s with heap := h', toks := tk, drawn := d } F' ∧ Rep c F' (.ref a) (.lst l) := by
  obtain ⟨F', w1, w2, w3⟩ := W.ext h' tk hle
  obtain ⟨k, hk⟩ := hp
  exact ⟨F', w1.draw d, ⟨w2.le, w2.keep, w2.new⟩, .lst ⟨k, w3 _ _ ha hk⟩ (hr.le w2.le)⟩
theorem met_len (l : List Str) : ∀ acc : List Str, (met acc l).length ≤ acc.length + l.length := by
  induction l with
  | nil => intro acc; simp [met]
  | cons x r ih =>
    intro acc
    unfold met
    split
    · have := ih acc; simp; omega
    · have := ih (acc ++ [x]); simp at this ⊢; omega
theorem names_few {acc : List Str} {p : _root_.Fin 3 → Bool} (nd : acc.Nodup) (ha : ∀ x, x ∈ acc ↔ ∃ i, p i = true ∧ x = nm i) : acc.length ≤ 3 := by
  have h1 : (acc.map unnm).Nodup := by
    have e : (acc.map unnm).map nm = acc := by
      rw [List.map_map]
      have : acc.map (nm ∘ unnm) = acc.map id := List.map_congr_left fun x hx => by
        obtain ⟨i, _, rfl⟩ := (ha x).mp hx
        simp [unnm_nm]
      rw [this, List.map_id]
    exact nodup_of_map nm (by rw [e]; exact nd)
  have h2 : ∀ l : List (_root_.Fin 3), l.Nodup → l.length ≤ 3 := by
    intro l nd
    match l, nd with
    | [], _ => simp
    | [_], _ => simp
    | [_, _], _ => simp
    | [_, _, _], _ => simp
    | a :: b :: d :: e :: r, nd =>
      have h4 : [a, b, d, e].Nodup := List.Nodup.sublist (by simp) nd
      exact absurd h4 (no4 a b d e)
  simpa using h2 _ h1
/-- sorted(<a set of names>) -/
theorem O_sorted_set {a : Addr} {ss : List Str} {p : _root_.Fin 3 → Bool} (ho : ob a = some (.obj (SetSt c.prog c.w (ledOf c.w) (met [] ss)))) (hp : ∀ x, x ∈ ss ↔ ∃ i, p i = true ∧ x = nm i) (h : K (.lst ((inOrder p).map fun i => .str (nm i))) ob) :
    Fn c n (.builtin "sorted") [.own a] ob K := by
  intro A F s xs hR W hx Q E hQ
  obtain ⟨x, rfl, r1⟩ := reps1 hx
  first | (obtain ⟨_, rfl⟩ := Rep.int' r1) | (obtain ⟨_, rfl⟩ := Rep.str' r1) | (obtain rfl := Rep.bool' r1) | (obtain rfl := Rep.own' r1) | (obtain rfl := Rep.none' r1) | (obtain rfl := Rep.raw' r1) | cases r1
  obtain ⟨_, o, hho, hS⟩ := W.own _ _ ho
  have nd := met_nodup ss [] .nil
  have hm : ∀ x, x ∈ met [] ss ↔ ∃ i, p i = true ∧ x = nm i := fun x => by rw [met_mem]; simpa using hp x
  have hfew := names_few nd hm
  refine sorted_via (acc := met [] ss) (fun R hR' => collect_set (A := A.in1) hR.handled hho hS (by omega) hR') (by omega) fun h' d tk b vs ss' k1 k2 k3 k4 k5 k6 => ?_
  have e := sorted_eq nd hm k5 k6
  subst e
  have hr : Reps c F vs ((inOrder p).map fun i => .str (nm i)) := by
    have := reps_strs (c := c) (F := F) k4
    rwa [List.map_map] at this
  obtain ⟨F', w1, w2, w3⟩ := fresh_list W (tk := tk) (d := d) k1 k2 k3 hr
  exact hQ F' _ _ _ _ h w1 w2 w3
theorem strs_of_keys {kvs : List (Str × Value)} {acc : Array Value} (h : ItemsOf (fun i v => ∃ k x, kvs[i]? = some (k, x) ∧ c.sk.is k v = true) acc kvs.length) : StrsAre acc.toList (kvs.map (·.1)) := by
  obtain ⟨acc⟩ := acc
  obtain ⟨h1, h2⟩ := h
  simp only [List.size_toArray, List.getElem?_toArray] at h1 h2
  show StrsAre acc _
  induction acc generalizing kvs with
  | nil =>
    have : kvs = [] := List.length_eq_zero_iff.mp h1.symm
    subst this
    exact .nil
  | cons v acc ih =>
    cases kvs with
    | nil => simp at h1
    | cons q kvs =>
      obtain ⟨k, x, h3, h4⟩ := h2 0 v rfl
      simp at h3
      subst h3
      obtain ⟨t, rfl⟩ := Value.isStrOf_shape h4
      refine .cons _ _ (ih (by simpa using h1) fun i u hu => ?_)
      obtain ⟨k, x, h5, h6⟩ := h2 (i + 1) u (by simpa using hu)
      exact ⟨k, x, by simpa using h5, h6⟩
theorem Repd.keys {F : Heap} : ∀ {kvs : List (Str × Value)} {l : List (Str × AV)}, Repd c F kvs l → kvs.map (·.1) = l.map (·.1)
  | _, _, .nil => rfl
  | _, _, .cons _ r => by simp [Repd.keys r]
/-- sorted(<a dict by names>) -/
theorem O_sorted_dict {v : AV} {l : List (Str × AV)} {p : _root_.Fin 3 → Bool} (hv : IsD ob v l) (nd : (l.map (·.1)).Nodup) (hp : ∀ x, x ∈ l.map (·.1) ↔ ∃ i, p i = true ∧ x = nm i) (h : K (.lst ((inOrder p).map fun i => .str (nm i))) ob) :
    Fn c n (.builtin "sorted") [v] ob K := by
  intro A F s xs hR W hx Q E hQ
  obtain ⟨x, rfl, r1⟩ := reps1 hx
  obtain ⟨a, kvs, rfl, h1, h2, h3⟩ := hv.get W r1
  obtain ⟨ep, hat⟩ := h1.dictAt
  have hfew := names_few nd hp
  have hl : kvs.length ≤ 3 := by rw [h3.length]; simpa using hfew
  refine sorted_via (acc := l.map (·.1)) (fun R hR' => kdu_collect (A := A.in1) (kdl_dict (knd := c.sk) (kvs := kvs) (ep := ep) h2) hR.handled hat (by rw [sizeLine_eq]; omega) fun h' tk acc hk hacc => ?_) (by omega) fun h' d tk b vs ss' k1 k2 k3 k4 k5 k6 => ?_
  · have := hR' h' s.drawn tk acc.toList (kvs.map (·.1)) hk (strs_of_keys hacc) (by rw [h3.keys])
    exact this
  · have e := sorted_eq nd hp k5 k6
    subst e
    have hr : Reps c F vs ((inOrder p).map fun i => .str (nm i)) := by
      have := reps_strs (c := c) (F := F) k4
      rwa [List.map_map] at this
    obtain ⟨F', w1, w2, w3⟩ := fresh_list W (tk := tk) (d := d) k1 k2 k3 hr
    exact hQ F' _ _ _ _ h w1 w2 w3
/-- list(<a dict>) -/
theorem O_list_dict {v : AV} {l : List (Str × AV)} (hv : IsD ob v l) (hl : l.length ≤ 1000) (h : K (.lst (l.map fun q => .str q.1)) ob) : Fn c n (.type "list") [v] ob K := by
  intro A F s xs hR W hx Q E hQ
  obtain ⟨x, rfl, r1⟩ := reps1 hx
  obtain ⟨a, kvs, rfl, h1, h2, h3⟩ := hv.get W r1
  obtain ⟨ep, hat⟩ := h1.dictAt
  refine kdl_call (kdl_dict (knd := c.sk) (kvs := kvs) (ep := ep) h2) hR.handled hat (by rw [sizeLine_eq, h3.length]; omega) fun h' tk acc c' hk hD hacc => ?_
  have hr : Reps c F acc.toList (l.map fun q => .str q.1) := by
    have := reps_strs (c := c) (F := F) (strs_of_keys hacc)
    rw [h3.keys, List.map_map] at this
    exact this
  obtain ⟨F', w1, w2, w3⟩ := fresh_list W (tk := tk) (d := s.drawn) hk (size_dead _) ⟨c', by rw [Array.toArray_toList]; exact hD⟩ hr
  exact hQ F' _ _ _ _ h w1 w2 w3
end
end Mine
end
section
open PySem PySem.W PyProof.Rows PySem.Calls
namespace Mine
noncomputable abbrev ZipAt (h : Heap) (z TI TO : Addr) (f0 f1 : Value) : Prop :=
  h.get? z = some { cls := .type "zip", dict := none, data := .fields #[f0, f1, .bool false, .ref TI, .ref TO], slots := #[] }
section
variable {prog : Program} {w : World} {A : Around} {E : Value → Shared → Prop} {s : Shared}
theorem IsTupleIter.bt {h h' : Heap} {it t b : Addr} {i : Nat} (x : h.IsTupleIter it t i) (hs : Heap.ExtBut b h h') (hab : it ≠ b) : h'.IsTupleIter it t i := let ⟨o, ho, r⟩ := x; ⟨o, hs it o hab ho, r⟩
theorem IsTuple.bt {h h' : Heap} {t b : Addr} {xs : Array Value} (x : h.IsTuple t xs) (hs : Heap.ExtBut b h h') (hab : t ≠ b) : h'.IsTuple t xs := let ⟨o, ho, r⟩ := x; ⟨o, hs t o hab ho, r⟩
theorem zipT_first {z TI TO i1 i2 l1 l2 : Addr} {k1 k2 : Nat} {xs ys : Array Value} {x y a b : Value} {Q : Value → Shared → Prop} (D : ZipApart z TI TO i1 i2 l1 l2)
    (hz : ZipAt s.heap z TI TO .none (.bool false)) (hTI : IsPair s.heap TI (.ref i1) (.ref i2)) (hTO : IsPair s.heap TO a b)
    (h1 : s.heap.IsTupleIter i1 l1 k1) (h2 : s.heap.IsTupleIter i2 l2 k2) (hl1 : s.heap.IsTuple l1 xs) (hl2 : s.heap.IsTuple l2 ys) (hx : xs[k1]? = some x) (hy : ys[k2]? = some y)
    (hQ : ∀ h', ZipAt h' z TI TO (rawInt s.heap.objs.size) (.bool false) → h'.IsTupleIter i1 l1 (k1 + 1) → h'.IsTupleIter i2 l2 (k2 + 1) → IsPair h' s.heap.objs.size x y → (∃ a b, IsPair h' TO a b) →
      (∀ c o, c ≠ z → c ≠ TO → c ≠ i1 → c ≠ i2 → s.heap.get? c = some o → h'.get? c = some o) → Q (.ref s.heap.objs.size) { s with heap := h' }) :
    wpAny (model prog w) A (Builtin.«zip.__next__» ⟨[.ref z], []⟩) (fun fin s' => ∃ v, fin = .done (.ret v) ∧ Q v s') E s := by
  show wpAny _ _ (field (.ref z) 2 >>= _) _ _ _
  refine wpAny_bind (wpAny_field hz rfl (x := .bool false) rfl ?_)
  show wpAny _ _ (field (.ref z) 3 >>= _) _ _ _
  refine wpAny_bind (wpAny_field hz rfl (x := .ref TI) rfl ?_)
  refine wpAny_bind (wpAny_seqItems hTI rfl ?_)
  show wpAny _ _ (Builtin.SmallTypes.ownedTupleIsFree (.ref z) >>= _) _ _ _
  refine wpAny_bind ?_
  unfold Builtin.SmallTypes.ownedTupleIsFree
  refine wpAny_bind (wpAny_field hz rfl (x := .none) rfl (wpAny_pure ?_))
  simp only [if_true]
  refine wpAny_bind (wpAny_rule ?_)
  refine wpAny_bind (wpAny_field hz rfl (x := .ref TO) rfl ?_)
  refine wpAny_bind (wpAny_setField_rec hz (by simp) fun h₁ hz₁ hs₁ => ?_)
  replace hz₁ : ZipAt h₁ z TI TO .ellipsis (.bool false) := hz₁
  refine wpAny_bind ?_
  simp only [List.zipIdx_cons, List.zipIdx_nil, List.forIn_cons, List.forIn_nil]
  refine wpAny_bind (wpAny_bind (wpAny_onRaise ?_))
  show wpAny _ _ (Builtin.SmallTypes.nextOf (.ref i1) >>= _) _ _ _
  refine wpAny_bind (nextOf_tup_item (IsTupleIter.bt h1 hs₁.extBut D.i1z) (IsTuple.bt hl1 hs₁.extBut D.l1z) hx fun h₂ h1₂ hs₂ => wpAny_pure ?_)
  have hTO₂ : IsPair h₂ TO a b := hs₂.extBut _ _ D.TOi1 (hs₁.extBut _ _ D.TOz hTO)
  refine wpAny_bind (wpAny_seqItems hTO₂ rfl ?_)
  refine wpAny_bind (wpAny_updateSeq_pair hTO₂ fun h₃ hTO₃ hs₃ => ?_)
  replace hTO₃ : IsPair h₃ TO x b := hTO₃
  refine wpAny_bind (wpAny_letGo (wpAny_pure ?_))
  refine wpAny_bind (wpAny_bind (wpAny_onRaise ?_))
  show wpAny _ _ (Builtin.SmallTypes.nextOf (.ref i2) >>= _) _ _ _
  refine wpAny_bind (nextOf_tup_item (IsTupleIter.bt (IsTupleIter.bt (IsTupleIter.bt h2 hs₁.extBut D.i2z) hs₂.extBut D.i12.symm) hs₃.extBut D.TOi2.symm)
    (IsTuple.bt (IsTuple.bt (IsTuple.bt hl2 hs₁.extBut D.l2z) hs₂.extBut D.l2i1) hs₃.extBut D.l2TO) hy fun h₄ h2₄ hs₄ => wpAny_pure ?_)
  have hTO₄ : IsPair h₄ TO x b := hs₄.extBut _ _ D.TOi2 hTO₃
  refine wpAny_bind (wpAny_seqItems hTO₄ rfl ?_)
  refine wpAny_bind (wpAny_updateSeq_pair hTO₄ fun h₅ hTO₅ hs₅ => ?_)
  replace hTO₅ : IsPair h₅ TO x y := hTO₅
  refine wpAny_bind (wpAny_letGo (wpAny_pure (wpAny_pure ?_)))
  refine wpAny_bind (wpAny_seqItems hTO₅ rfl ?_)
  refine wpAny_bind (wpAny_newTuple ?_)
  have hsz : h₅.objs.size = s.heap.objs.size := by rw [hs₅.1, hs₄.1, hs₃.1, hs₂.1, hs₁.1]
  have hz₅ : ZipAt h₅ z TI TO .ellipsis (.bool false) := hs₅.extBut _ _ D.TOz.symm (hs₄.extBut _ _ D.i2z.symm (hs₃.extBut _ _ D.TOz.symm (hs₂.extBut _ _ D.i1z.symm hz₁)))
  have hk₅ : ∀ c o, c ≠ z → c ≠ TO → c ≠ i1 → c ≠ i2 → s.heap.get? c = some o → h₅.get? c = some o := fun c o c1 c2 c3 c4 e =>
    hs₅.extBut _ _ c2 (hs₄.extBut _ _ c4 (hs₃.extBut _ _ c2 (hs₂.extBut _ _ c3 (hs₁.extBut _ _ c1 e))))
  have h1₅ : h₅.IsTupleIter i1 l1 (k1 + 1) := IsTupleIter.bt (IsTupleIter.bt (IsTupleIter.bt h1₂ hs₃.extBut D.TOi1.symm) hs₄.extBut D.i12) hs₅.extBut D.TOi1.symm
  have h2₅ : h₅.IsTupleIter i2 l2 (k2 + 1) := IsTupleIter.bt h2₄ hs₅.extBut D.TOi2.symm
  have hzlt : z < h₅.objs.size := Heap.lt_size hz₅
  show wpAny _ _ (Builtin.SmallTypes.ownedTupleHandOut (.ref z) (.ref h₅.objs.size) >>= _) _ _ _
  refine wpAny_bind ?_
  unfold Builtin.SmallTypes.ownedTupleHandOut
  have hz₆ : ZipAt (h₅.push { cls := .type "tuple", data := .seq #[x, y] }) z TI TO .ellipsis (.bool false) := Heap.get?_push_of_some _ hz₅
  refine wpAny_bind (wpAny_setField_rec hz₆ (by simp) fun h₇ hz₇ hs₇ => ?_)
  replace hz₇ : ZipAt h₇ z TI TO (rawInt h₅.objs.size) (.bool false) := hz₇
  refine wpAny_setField_rec hz₇ (by simp) fun h₈ hz₈ hs₈ => ?_
  replace hz₈ : ZipAt h₈ z TI TO (rawInt h₅.objs.size) (.bool false) := hz₈
  have up : ∀ c o, c ≠ z → h₅.get? c = some o → h₈.get? c = some o := fun c o c1 e => hs₈.extBut _ _ c1 (hs₇.extBut _ _ c1 (Heap.get?_push_of_some _ e))
  have hT₈ : IsPair h₈ h₅.objs.size x y := hs₈.extBut _ _ (Nat.ne_of_gt hzlt) (hs₇.extBut _ _ (Nat.ne_of_gt hzlt) (Heap.get?_push_size _ rfl))
  rw [hsz] at hz₈ hT₈
  refine wpAny_pure ⟨_, rfl, ?_⟩
  show Q (.ref h₅.objs.size) _
  rw [hsz]
  exact hQ h₈ hz₈ (let ⟨o, ho, r⟩ := h1₅; ⟨o, up _ o D.i1z ho, r⟩) (let ⟨o, ho, r⟩ := h2₅; ⟨o, up _ o D.i2z ho, r⟩) hT₈ ⟨_, _, up _ _ D.TOz hTO₅⟩ fun c o c1 c2 c3 c4 e => up c o c1 (hk₅ c o c1 c2 c3 c4 e)
theorem wpAny_loadIfAlive {M : Model} {a : Addr} {Q : Option Obj → Shared → Prop} (h : Q (s.heap.get? a) s) : wpAny M A (loadIfAlive a) Q E s := fun Γ p _ => by
  unfold loadIfAlive
  rw [Sem.wp_loadIfAlive]
  exact h
theorem notFree {z TI TO T : Addr} {f1 : Value} {Q : Bool → Shared → Prop} (hz : ZipAt s.heap z TI TO (rawInt T) f1) (hT : ∃ o, s.heap.get? T = some o)
    (hQ : ∀ h' f1, ZipAt h' z TI TO (rawInt T) f1 → Heap.SameBut z s.heap h' → Q false { s with heap := h' }) : wpAny (model prog w) A (Builtin.SmallTypes.ownedTupleIsFree (.ref z)) Q E s := by
  obtain ⟨oT, hoT⟩ := hT
  unfold Builtin.SmallTypes.ownedTupleIsFree
  refine wpAny_bind (wpAny_field hz rfl (x := rawInt T) rfl ?_)
  show wpAny _ _ (loadIfAlive T >>= _) _ _ _
  refine wpAny_bind (wpAny_loadIfAlive ?_)
  rw [hoT]
  show wpAny _ _ (field (.ref z) 1 >>= _) _ _ _
  refine wpAny_bind (wpAny_field hz rfl (x := f1) rfl ?_)
  refine wpAny_ite_split (fun _ => ?_) (fun _ => ?_)
  · refine wpAny_bind (wpAny_setField_rec hz (by simp) fun h₁ hz₁ hs₁ => ?_)
    exact wpAny_pure (hQ h₁ (.bool true) hz₁ hs₁)
  · have e : s = { s with heap := s.heap } := by cases s; rfl
    refine wpAny_pure ?_
    rw [e]
    exact hQ s.heap f1 hz (Heap.SameBut.refl ..)
theorem zipT_later {z TI TO i1 i2 l1 l2 T : Addr} {f1 : Value} {k1 k2 : Nat} {xs ys : Array Value} {x y : Value} {Q : Value → Shared → Prop} (D : ZipApart z TI TO i1 i2 l1 l2)
    (hz : ZipAt s.heap z TI TO (rawInt T) f1) (hT : ∃ o, s.heap.get? T = some o) (hTI : IsPair s.heap TI (.ref i1) (.ref i2))
    (h1 : s.heap.IsTupleIter i1 l1 k1) (h2 : s.heap.IsTupleIter i2 l2 k2) (hl1 : s.heap.IsTuple l1 xs) (hl2 : s.heap.IsTuple l2 ys) (hx : xs[k1]? = some x) (hy : ys[k2]? = some y)
    (hQ : ∀ h' f1, ZipAt h' z TI TO (rawInt T) f1 → h'.IsTupleIter i1 l1 (k1 + 1) → h'.IsTupleIter i2 l2 (k2 + 1) → IsPair h' s.heap.objs.size x y →
      (∀ c o, c ≠ z → c ≠ i1 → c ≠ i2 → s.heap.get? c = some o → h'.get? c = some o) → Q (.ref s.heap.objs.size) { s with heap := h' }) :
    wpAny (model prog w) A (Builtin.«zip.__next__» ⟨[.ref z], []⟩) (fun fin s' => ∃ v, fin = .done (.ret v) ∧ Q v s') E s := by
  show wpAny _ _ (field (.ref z) 2 >>= _) _ _ _
  refine wpAny_bind (wpAny_field hz rfl (x := .bool false) rfl ?_)
  show wpAny _ _ (field (.ref z) 3 >>= _) _ _ _
  refine wpAny_bind (wpAny_field hz rfl (x := .ref TI) rfl ?_)
  refine wpAny_bind (wpAny_seqItems hTI rfl ?_)
  show wpAny _ _ (Builtin.SmallTypes.ownedTupleIsFree (.ref z) >>= _) _ _ _
  refine wpAny_bind (notFree hz hT fun h₁ g1 hz₁ hs₁ => ?_)
  simp only [Bool.false_eq_true, if_false, ← Array.forIn_toList, List.forIn_cons, List.forIn_nil]
  refine wpAny_bind (wpAny_bind (wpAny_bind (wpAny_holding ?_)))
  show wpAny _ _ (Builtin.SmallTypes.nextOf (.ref i1) >>= _) _ _ _
  refine wpAny_bind (nextOf_tup_item (IsTupleIter.bt h1 hs₁.extBut D.i1z) (IsTuple.bt hl1 hs₁.extBut D.l1z) hx fun h₂ h1₂ hs₂ => wpAny_pure ?_)
  refine wpAny_pure ?_
  dsimp only
  refine wpAny_bind (wpAny_bind (wpAny_holding ?_))
  show wpAny _ _ (Builtin.SmallTypes.nextOf (.ref i2) >>= _) _ _ _
  refine wpAny_bind (nextOf_tup_item (IsTupleIter.bt (IsTupleIter.bt h2 hs₁.extBut D.i2z) hs₂.extBut D.i12.symm)
    (IsTuple.bt (IsTuple.bt hl2 hs₁.extBut D.l2z) hs₂.extBut D.l2i1) hy fun h₃ h2₃ hs₃ => wpAny_pure ?_)
  refine wpAny_pure (wpAny_pure ?_)
  dsimp only
  refine wpAny_bind (wpAny_newTuple (wpAny_pure ⟨_, rfl, ?_⟩) (by simp [sizeLine_eq]))
  have hsz : h₃.objs.size = s.heap.objs.size := by rw [hs₃.1, hs₂.1, hs₁.1]
  show Q (.ref h₃.objs.size) { s with heap := h₃.push { cls := .type "tuple", data := .seq #[x, y] } }
  have up : ∀ c o, h₃.get? c = some o → (h₃.push { cls := .type "tuple", data := .seq #[x, y] }).get? c = some o := fun c o e => Heap.get?_push_of_some _ e
  have hT : IsPair (h₃.push { cls := .type "tuple", data := .seq #[x, y] }) h₃.objs.size x y := Heap.get?_push_size _ rfl
  have hz₃ : ZipAt h₃ z TI TO (rawInt T) g1 := hs₃.extBut _ _ D.i2z.symm (hs₂.extBut _ _ D.i1z.symm hz₁)
  have h1₃ : h₃.IsTupleIter i1 l1 (k1 + 1) := IsTupleIter.bt h1₂ hs₃.extBut D.i12
  rw [hsz] at hT ⊢
  exact hQ _ g1 (up _ _ hz₃) (let ⟨o, ho, r⟩ := h1₃; ⟨o, up _ o ho, r⟩) (let ⟨o, ho, r⟩ := h2₃; ⟨o, up _ o ho, r⟩) hT fun c o c1 c3 c4 e => up c o (hs₃.extBut _ _ c4 (hs₂.extBut _ _ c3 (hs₁.extBut _ _ c1 e)))
theorem zipT_end {z TI TO i1 i2 l1 l2 : Addr} {f0 f1 : Value} {k1 : Nat} {xs : Array Value} {Q : Fin → Shared → Prop} (hh : A.handled = none) (D : ZipApart z TI TO i1 i2 l1 l2)
    (hz : ZipAt s.heap z TI TO f0 f1) (hf : f0 = .none ∨ ∃ T o, f0 = rawInt (T : Nat) ∧ s.heap.get? T = some o) (hTI : IsPair s.heap TI (.ref i1) (.ref i2))
    (h1 : s.heap.IsTupleIter i1 l1 k1) (hl1 : s.heap.IsTuple l1 xs) (hend : xs[k1]? = none)
    (hE : ∀ h' e, (∀ c o, c ≠ z → c ≠ i1 → s.heap.get? c = some o → h'.get? c = some o) → (∃ o, h'.get? e = some o ∧ o.cls = .type "StopIteration") → E (.ref e) { s with heap := h' }) :
    wpAny (model prog w) A (Builtin.«zip.__next__» ⟨[.ref z], []⟩) Q E s := by
  show wpAny _ _ (field (.ref z) 2 >>= _) _ _ _
  refine wpAny_bind (wpAny_field hz rfl (x := .bool false) rfl ?_)
  show wpAny _ _ (field (.ref z) 3 >>= _) _ _ _
  refine wpAny_bind (wpAny_field hz rfl (x := .ref TI) rfl ?_)
  refine wpAny_bind (wpAny_seqItems hTI rfl ?_)
  show wpAny _ _ (Builtin.SmallTypes.ownedTupleIsFree (.ref z) >>= _) _ _ _
  rcases hf with rfl | ⟨T, oT, rfl, hT⟩
  · refine wpAny_bind ?_
    unfold Builtin.SmallTypes.ownedTupleIsFree
    refine wpAny_bind (wpAny_field hz rfl (x := .none) rfl (wpAny_pure ?_))
    simp only [if_true]
    refine wpAny_bind (wpAny_rule ?_)
    refine wpAny_bind (wpAny_field hz rfl (x := .ref TO) rfl ?_)
    refine wpAny_bind (wpAny_setField_rec hz (by simp) fun h₁ hz₁ hs₁ => ?_)
    replace hz₁ : ZipAt h₁ z TI TO .ellipsis f1 := hz₁
    refine wpAny_bind ?_
    simp only [List.zipIdx_cons, List.zipIdx_nil, List.forIn_cons, List.forIn_nil]
    refine wpAny_bind (wpAny_bind (wpAny_onRaise ?_))
    show wpAny _ _ (Builtin.SmallTypes.nextOf (.ref i1) >>= _) _ _ _
    refine wpAny_bind (nextOf_tup_end hh (IsTupleIter.bt h1 hs₁.extBut D.i1z) (IsTuple.bt hl1 hs₁.extBut D.l1z) hend fun h₂ e hs₂ he => ?_)
    obtain ⟨oe, hoe, hce⟩ := he
    have hz₂ : ZipAt h₂ z TI TO .ellipsis f1 := hs₂ _ _ D.i1z.symm hz₁
    have hez : e ≠ z := fun x => by subst x; rw [hz₂] at hoe; cases hoe; simp at hce
    exact wpAny_setField_rec hz₂ (by simp) fun h₃ _ hs₃ => hE h₃ e (fun c o c1 c3 x => hs₃.extBut _ _ c1 (hs₂ _ _ c3 (hs₁.extBut _ _ c1 x))) ⟨oe, hs₃.extBut _ _ hez hoe, hce⟩
  · refine wpAny_bind (notFree hz ⟨_, hT⟩ fun h₁ g1 hz₁ hs₁ => ?_)
    simp only [Bool.false_eq_true, if_false, ← Array.forIn_toList, List.forIn_cons, List.forIn_nil]
    refine wpAny_bind (wpAny_bind (wpAny_bind (wpAny_holding ?_)))
    show wpAny _ _ (Builtin.SmallTypes.nextOf (.ref i1) >>= _) _ _ _
    exact wpAny_bind (nextOf_tup_end hh (IsTupleIter.bt h1 hs₁.extBut D.i1z) (IsTuple.bt hl1 hs₁.extBut D.l1z) hend fun h₂ e hs₂ he => hE h₂ e (fun c o c1 c3 x => hs₂ _ _ c3 (hs₁.extBut _ _ c1 x)) he)
structure ZS (h : Heap) (z TI TO i1 i2 l1 l2 : Addr) (xs ys : Array Value) (k : Nat) : Prop where
  zip : ∃ f0 f1, ZipAt h z TI TO f0 f1 ∧ ((f0 = .none ∧ f1 = .bool false) ∨ ∃ T o, f0 = rawInt (T : Nat) ∧ h.get? T = some o ∧ T ≠ z ∧ T ≠ TO ∧ T ≠ i1 ∧ T ≠ i2)
  TI : IsPair h TI (.ref i1) (.ref i2)
  TO : ∃ a b, IsPair h TO a b
  i1 : h.IsTupleIter i1 l1 k
  i2 : h.IsTupleIter i2 l2 k
  l1 : h.IsTuple l1 xs
  l2 : h.IsTuple l2 ys
theorem ZS.bt {h h' : Heap} {z TI TO i1 i2 l1 l2 S : Addr} {xs ys : Array Value} {k : Nat} (x : ZS h z TI TO i1 i2 l1 l2 xs ys k) (hk : ∀ b, b ≠ S → ∀ o, h.get? b = some o → h'.get? b = some o) (hS : S ∉ [z, TI, TO, i1, i2, l1, l2])
    (hl : ∃ o, h'.get? S = some o) : ZS h' z TI TO i1 i2 l1 l2 xs ys k := by
  simp only [List.mem_cons, List.not_mem_nil, or_false, not_or] at hS
  obtain ⟨s1, s2, s3, s4, s5, s6, s7⟩ := hS
  obtain ⟨⟨f0, f1, a1, a2⟩, b1, ⟨p, q, b2⟩, b3, b4, b5, b6⟩ := x
  refine ⟨⟨f0, f1, hk _ (Ne.symm s1) _ a1, ?_⟩, hk _ (Ne.symm s2) _ b1, ⟨p, q, hk _ (Ne.symm s3) _ b2⟩, IsTupleIter.bt b3 (fun b o hb e => hk b hb o e) (Ne.symm s4), IsTupleIter.bt b4 (fun b o hb e => hk b hb o e) (Ne.symm s5), IsTuple.bt b5 (fun b o hb e => hk b hb o e) (Ne.symm s6), IsTuple.bt b6 (fun b o hb e => hk b hb o e) (Ne.symm s7)⟩
  rcases a2 with a2 | ⟨T, o, a2, a3, a4⟩
  · exact .inl a2
  · by_cases hT : T = S
    · subst hT
      obtain ⟨o', ho'⟩ := hl
      exact .inr ⟨_, o', a2, ho', a4⟩
    · exact .inr ⟨T, o, a2, hk _ hT _ a3, a4⟩
theorem zip_loop {z TI TO i1 i2 l1 l2 S : Addr} {xs ys : Array Value} {res : Value} {R : Result → Shared → Prop} (hh : A.handled = none) (D : ZipApart z TI TO i1 i2 l1 l2) (hsz : xs.size = ys.size) (hS : S ∉ [z, TI, TO, i1, i2, l1, l2]) :
    ∀ (n k : Nat) (s : Shared) (acc : Array Value) (c : Nat), xs.size - k = n → k ≤ xs.size → ZS s.heap z TI TO i1 i2 l1 l2 xs ys k → s.heap.get? S = some { cls := .type "list", data := .seq acc c } → acc.size + n ≤ sizeLine →
      (∀ h' c' (Ts : List Addr), (∀ b o, b ∉ [z, TO, i1, i2, S] → s.heap.get? b = some o → h'.get? b = some o) → h'.get? S = some { cls := .type "list", data := .seq (acc ++ (Ts.map Value.ref).toArray) c' } →
        Ts.length = n → (∀ j T, Ts[j]? = some T → s.heap.get? T = none ∧ T ≠ S ∧ ∃ x y, xs[k + j]? = some x ∧ ys[k + j]? = some y ∧ IsPair h' T x y) → R (.ok (.ret res)) { s with heap := h' }) →
      codeAny (model prog w) A (.builtin "list.extend.loop" ⟨[.ref S, .ref z, res], []⟩) R s := by
  have hS' := hS
  simp only [List.mem_cons, List.not_mem_nil, or_false, not_or] at hS'
  obtain ⟨s1, s2, s3, s4, s5, s6, s7⟩ := hS'
  have D' := D
  intro n
  induction n with
  | zero =>
    intro k s acc c hn hk Z hSl hfit hR
    have hkk : k = xs.size := by omega
    refine codeAny_builtin PySem.F.entry_extend_loop ?_
    rw [Around.under_plainId PySem.F.plain_extend_loop _]
    show wpAny _ A.in1 (pyNext (.ref z) >>= _) _ _ s
    obtain ⟨⟨f0, f1, a1, a2⟩, b1, b2, b3, b4, b5, b6⟩ := Z
    have hT : s.TypeIs (.ref z) "zip" := ⟨_, a1, rfl⟩
    refine wpAny_bind ?_
    unfold pyNext
    refine wpAny_bind (wpAny_attempt (wpAny_callSpecial?_slot (name := Str.ofString "__next__") hT PySem.F.slot_zip_next
      (wpAny_call_entry PySem.F.slot_zip_next hT PySem.F.entry_zip_next (zipT_end hh D a1 (by rcases a2 with a2 | ⟨T, o, a2, a3, _⟩; exact .inl a2.1; exact .inr ⟨T, o, a2, a3⟩) b1 b3 b5 (by rw [hkk]; exact Array.getElem?_eq_none (Nat.le_refl _)) fun h' e hk he => ?_) (PySem.F.args_zip_next_1 _))))
    refine wpAny_bind (wpAny_isInstance (T := "StopIteration") (b := true) he isSubtype_stop (wpAny_pure ?_))
    show wpAny _ A.in1 (ret res) _ _ _
    refine wpAny_pure (hR h' c [] (fun b o hb e => ?_) ?_ rfl (fun j T e => by simp at e))
    · simp only [List.mem_cons, List.not_mem_nil, or_false, not_or] at hb
      exact hk b o hb.1 hb.2.2.1 e
    · simpa using hk S _ s1 s4 hSl
  | succ n ih =>
    intro k s acc c hn hk Z hSl hfit hR
    have hkx : k < xs.size := by omega
    have hx : xs[k]? = some xs[k] := Array.getElem?_eq_getElem hkx
    have hy : ys[k]? = some (ys[k]'(by omega)) := Array.getElem?_eq_getElem (by omega)
    refine codeAny_builtin PySem.F.entry_extend_loop ?_
    rw [Around.under_plainId PySem.F.plain_extend_loop _]
    show wpAny _ A.in1 (pyNext (.ref z) >>= _) _ _ s
    have hT : s.TypeIs (.ref z) "zip" := let ⟨_, _, a1, _⟩ := Z.zip; ⟨_, a1, rfl⟩
    have lt : ∀ {c o}, s.heap.get? c = some o → c ≠ s.heap.objs.size := fun e => Nat.ne_of_lt (Heap.lt_size e)
    have step : ∀ h', (∃ f1, ZipAt h' z TI TO (rawInt (s.heap.objs.size : Nat)) f1) ∨ (∃ f1 T o, ZipAt h' z TI TO (rawInt (T : Nat)) f1 ∧ h'.get? T = some o ∧ T ≠ z ∧ T ≠ TO ∧ T ≠ i1 ∧ T ≠ i2) → h'.IsTupleIter i1 l1 (k + 1) → h'.IsTupleIter i2 l2 (k + 1) → IsPair h' s.heap.objs.size xs[k] (ys[k]'(by omega)) → (∃ a b, IsPair h' TO a b) →
        (∀ c o, c ≠ z → c ≠ TO → c ≠ i1 → c ≠ i2 → s.heap.get? c = some o → h'.get? c = some o) →
        wpAny (model prog w) A.in1 (Builtin.List.listUpdate (.ref S) (·.push (.ref s.heap.objs.size)) >>= fun _ => again (.builtin "list.extend.loop" ⟨[.ref S, .ref z, res], []⟩))
          (fun fin s' => match fin with | .done f => R (.ok f) s' | .again c' => c'.quiet = true ∧ codeAny (model prog w) A c' R s') (fun e s' => R (.error e) s') { s with heap := h' } := by
      intro h' hzz q1 q2 q3 q4 hk'
      have hSl' : h'.get? S = _ := hk' S _ s1 s3 s4 s5 hSl
      refine wpAny_bind ?_
      show wpAny _ _ (updateSeq S (·.push (.ref s.heap.objs.size))) _ _ _
      refine wpAny_updateSeq (s := { s with heap := h' }) hSl' rfl ?_ (by omega) (by rw [Array.size_push]; omega)
      have hSl2 := Heap.get?_update_self (Obj.mapSeq (·.push (Value.ref s.heap.objs.size))) hSl' rfl
      have hoth : ∀ b, b ≠ S → ∀ o, h'.get? b = some o → (h'.update S (Obj.mapSeq (·.push (Value.ref s.heap.objs.size)))).get? b = some o := fun b hb o e => (Heap.get?_update_other _ _ (Ne.symm hb)).trans e
      have hnS : s.heap.objs.size ≠ S := (lt hSl).symm
      have Z' : ZS h' z TI TO i1 i2 l1 l2 xs ys (k + 1) := by
        refine ⟨?_, hk' _ _ D.TIz D.TITO D.TIi1 D.TIi2 Z.TI, q4, q1, q2, let ⟨o, ho, r⟩ := Z.l1; ⟨o, hk' _ _ D.l1z D.l1TO D.l1i1 D.l1i2 ho, r⟩, let ⟨o, ho, r⟩ := Z.l2; ⟨o, hk' _ _ D.l2z D.l2TO D.l2i1 D.l2i2 ho, r⟩⟩
        rcases hzz with ⟨f1, e1⟩ | ⟨f1, T, o, e1, e2, e3⟩
        · refine ⟨_, f1, e1, .inr ⟨_, _, rfl, q3, ?_, ?_, ?_, ?_⟩⟩
          · obtain ⟨_, _, a1, _⟩ := Z.zip; exact (lt a1).symm
          · obtain ⟨_, _, a1⟩ := Z.TO; exact (lt a1).symm
          · obtain ⟨_, a1, _⟩ := Z.i1; exact (lt a1).symm
          · obtain ⟨_, a1, _⟩ := Z.i2; exact (lt a1).symm
        · exact ⟨_, f1, e1, .inr ⟨T, o, rfl, e2, e3⟩⟩
      refine wpAny_pure ⟨plainId_quiet PySem.F.plain_extend_loop _, ih (k + 1) _ (acc.push (.ref s.heap.objs.size)) _ (by omega) hkx (Z'.bt hoth hS ⟨_, hSl2⟩) hSl2 (by simp; omega) fun h'' c' Ts k1 k2 k3 k4 => ?_⟩
      refine hR h'' c' (s.heap.objs.size :: Ts) (fun b o hb e => k1 b o hb ?_) ?_ (by simp [k3]) fun j T hj => ?_
      · simp only [List.mem_cons, List.not_mem_nil, or_false, not_or] at hb
        exact hoth b hb.2.2.2.2 o (hk' b o hb.1 hb.2.1 hb.2.2.1 hb.2.2.2.1 e)
      · rw [k2]; simp
      · cases j with
        | zero =>
          simp at hj
          subst hj
          refine ⟨size_dead _, hnS, _, _, by simpa using hx, by simpa using hy, k1 _ _ ?_ (hoth _ hnS _ q3)⟩
          simp only [List.mem_cons, List.not_mem_nil, or_false, not_or]
          refine ⟨?_, ?_, ?_, ?_, hnS⟩
          · obtain ⟨_, _, a1, _⟩ := Z.zip; exact (lt a1).symm
          · obtain ⟨_, _, a1⟩ := Z.TO; exact (lt a1).symm
          · obtain ⟨_, a1, _⟩ := Z.i1; exact (lt a1).symm
          · obtain ⟨_, a1, _⟩ := Z.i2; exact (lt a1).symm
        | succ j =>
          obtain ⟨r1, r2, x, y, r3, r4, r5⟩ := k4 j T (by simpa using hj)
          refine ⟨?_, r2, x, y, by rw [← r3]; congr 1; omega, by rw [← r4]; congr 1; omega, r5⟩
          cases e : s.heap.get? T with
          | none => rfl
          | some o =>
            have e3 : (h'.update S (Obj.mapSeq (·.push (Value.ref s.heap.objs.size)))).get? T = none := r1
            exfalso
            by_cases h4 : T = z ∨ T = TO ∨ T = i1 ∨ T = i2
            · have : ∃ o, h'.get? T = some o := by
                rcases h4 with rfl | rfl | rfl | rfl
                · rcases hzz with ⟨_, q⟩ | ⟨_, _, _, q, _⟩ <;> exact ⟨_, q⟩
                · obtain ⟨_, _, q⟩ := q4; exact ⟨_, q⟩
                · obtain ⟨_, q, _⟩ := q1; exact ⟨_, q⟩
                · obtain ⟨_, q, _⟩ := q2; exact ⟨_, q⟩
              obtain ⟨o', ho'⟩ := this
              rw [hoth T r2 o' ho'] at e3
              cases e3
            · simp only [not_or] at h4
              rw [hoth T r2 o (hk' T o h4.1 h4.2.1 h4.2.2.1 h4.2.2.2 e)] at e3
              cases e3
    refine wpAny_bind ?_
    unfold pyNext
    refine wpAny_bind (wpAny_attempt (wpAny_callSpecial?_slot (name := Str.ofString "__next__") hT PySem.F.slot_zip_next
      (wpAny_call_entry PySem.F.slot_zip_next hT PySem.F.entry_zip_next ?_ (PySem.F.args_zip_next_1 _))))
    obtain ⟨⟨f0, f1, a1, a2⟩, b1, ⟨p, q, b2⟩, b3, b4, b5, b6⟩ := Z
    rcases a2 with ⟨rfl, rfl⟩ | ⟨T, o, rfl, a3, a4, a5, a6, a7⟩
    · exact zipT_first D a1 b1 b2 b3 b4 b5 b6 hx hy fun h' c1 c2 c3 c4 c5 c6 => wpAny_pure (step h' (.inl ⟨_, c1⟩) c2 c3 c4 c5 c6)
    · exact zipT_later D a1 ⟨o, a3⟩ b1 b3 b4 b5 b6 hx hy fun h' g1 c1 c2 c3 c4 c6 => wpAny_pure (step h' (.inr ⟨g1, T, o, c1, c6 T o a4 a6 a7 a3, a4, a5, a6, a7⟩) c2 c3 c4 ⟨p, q, c6 _ _ D'.TOz D'.TOi1 D'.TOi2 b2⟩ fun c o d1 d2 d3 d4 e => c6 c o d1 d3 d4 e)
end
end Mine
end
section
open PySem PySem.W PyProof.Rows PySem.Calls
namespace Mine
noncomputable abbrev zH1 (h : Heap) (l1 : Addr) : Heap := h.push { cls := .type "tuple_iterator", data := .fields #[.ref l1, .int 0 0] }
noncomputable abbrev zH2 (h : Heap) (l1 l2 : Addr) : Heap := (zH1 h l1).push { cls := .type "tuple_iterator", data := .fields #[.ref l2, .int 0 0] }
noncomputable abbrev zH3 (h : Heap) (l1 l2 : Addr) : Heap := (zH2 h l1 l2).push { cls := .type "tuple", data := .seq #[.ref h.objs.size, .ref (zH1 h l1).objs.size] }
noncomputable abbrev zH4 (h : Heap) (l1 l2 : Addr) : Heap := (zH3 h l1 l2).push { cls := .type "tuple", data := .seq #[.none, .none] }
noncomputable abbrev zH5 (h : Heap) (l1 l2 : Addr) : Heap := (zH4 h l1 l2).push { cls := .type "zip", data := .fields #[.none, .bool false, .bool false, .ref (zH2 h l1 l2).objs.size, .ref (zH3 h l1 l2).objs.size] }
theorem meets_zipT (l1 l2 : Addr) (xs ys : Array Value) :
    Meets (Builtin.«zip.__new__» ⟨[.type "zip", .ref l1, .ref l2], []⟩) (fun _ R s => s.heap.IsTuple l1 xs ∧ s.heap.IsTuple l2 ys ∧
      R (.ok (.ret (.ref (zH4 s.heap l1 l2).objs.size))) { s with heap := zH5 s.heap l1 l2 }) :=
  .of_wp fun prog w A R s h => by
    obtain ⟨hp, g, d, tk, os⟩ := s; obtain ⟨hl1, hl2, h⟩ := h
    have hsub := sub_zip
    have hL1 : Heap.IsTuple (Shared.heap ⟨hp, g, d, tk, os⟩) l1 xs := hl1
    have hL2 : Heap.IsTuple (Shared.heap ⟨hp.push { cls := .type "tuple_iterator", data := .fields #[.ref l1, .int 0 0] }, g, d, tk, os⟩) l2 ys := Heap.IsTuple.push hl2 _
    wp_walk using wpAny_pyIter_tuple hL1, wpAny_pyIter_tuple hL2
    exact ⟨_, rfl, h⟩
section
variable {prog : Program} {w : World} {A : Around} {E : Value → Shared → Prop} {s : Shared}
theorem call_zipT {l1 l2 : Addr} {xs ys : Array Value} {Q : Value → Shared → Prop} (hl1 : s.heap.IsTuple l1 xs) (hl2 : s.heap.IsTuple l2 ys)
    (h : ∀ h', ZipAt h' (s.heap.objs.size + 4) (s.heap.objs.size + 2) (s.heap.objs.size + 3) .none (.bool false) → IsPair h' (s.heap.objs.size + 2) (.ref s.heap.objs.size) (.ref (s.heap.objs.size + 1)) →
      IsPair h' (s.heap.objs.size + 3) .none .none → h'.IsTupleIter s.heap.objs.size l1 0 → h'.IsTupleIter (s.heap.objs.size + 1) l2 0 →
      (∀ c o, s.heap.get? c = some o → h'.get? c = some o) → Q (.ref (s.heap.objs.size + 4)) { s with heap := h' }) :
    wpAny (model prog w) A (call (.type "zip") [.ref l1, .ref l2]) Q E s := by
  refine callType_new PySem.F.called_zip (by decide) (PySem.F.typeCall_zip_2 _ _) (PySem.F.newCall_zip_2 _ _) (fun obj => PySem.F.args_object_init_3 obj _ _) PySem.F.entry_zip_new
    (meets_zipT l1 l2 xs ys) ⟨hl1, hl2, ?_⟩
  have z1 : (zH1 s.heap l1).objs.size = s.heap.objs.size + 1 := Heap.size_push ..
  have z2 : (zH2 s.heap l1 l2).objs.size = s.heap.objs.size + 2 := by rw [Heap.size_push, z1]
  have z3 : (zH3 s.heap l1 l2).objs.size = s.heap.objs.size + 3 := by rw [Heap.size_push, z2]
  have z4 : (zH4 s.heap l1 l2).objs.size = s.heap.objs.size + 4 := by rw [Heap.size_push, z3]
  have g5 : (zH5 s.heap l1 l2).get? (zH4 s.heap l1 l2).objs.size = some _ := Heap.get?_push_size _ rfl
  have g4 : (zH5 s.heap l1 l2).get? (zH3 s.heap l1 l2).objs.size = some _ := Heap.get?_push_of_some _ (Heap.get?_push_size _ rfl)
  have g3 : (zH5 s.heap l1 l2).get? (zH2 s.heap l1 l2).objs.size = some _ := Heap.get?_push_of_some _ (Heap.get?_push_of_some _ (Heap.get?_push_size _ rfl))
  have g2 : (zH5 s.heap l1 l2).get? (zH1 s.heap l1).objs.size = some _ := Heap.get?_push_of_some _ (Heap.get?_push_of_some _ (Heap.get?_push_of_some _ (Heap.get?_push_size _ rfl)))
  have g1 : (zH5 s.heap l1 l2).get? s.heap.objs.size = some _ := Heap.get?_push_of_some _ (Heap.get?_push_of_some _ (Heap.get?_push_of_some _ (Heap.get?_push_of_some _ (Heap.get?_push_size _ rfl))))
  show _ ∧ _
  rw [z2, z3, z4] at g5
  rw [z1, z2] at g3
  rw [z3] at g4
  rw [z1] at g2
  rw [z4]
  exact ⟨⟨_, g5, rfl⟩, h _ g5 g3 g4 ⟨_, g1, rfl, rfl⟩ ⟨_, g2, rfl, rfl⟩ fun c o x =>
    Heap.get?_push_of_some _ (Heap.get?_push_of_some _ (Heap.get?_push_of_some _ (Heap.get?_push_of_some _ (Heap.get?_push_of_some _ x))))⟩
theorem ne_add {x N : Nat} (k : Nat) (h : x < N) : x ≠ N + k := by omega
theorem zip_no_len : typeLookup (.type "zip") (Str.ofString "__len__") = pure none := by rw [typeLookup_type, builtinLookup_eq_fast]; kernel_rfl
theorem zip_no_hint : typeLookup (.type "zip") (Str.ofString "__length_hint__") = pure none := by rw [typeLookup_type, builtinLookup_eq_fast]; kernel_rfl
theorem zip_extend {a b S : Addr} {xs ys vs : Array Value} {Q : Value → Shared → Prop} (hh : A.handled = none) (h1 : s.heap.IsTuple a xs) (h2 : s.heap.IsTuple b ys) (hsz : xs.size = ys.size) (hS : s.heap.PlainList S vs) (hne : S ≠ a ∧ S ≠ b) (hfit : vs.size + xs.size ≤ 1000000)
    (hQ : ∀ h' (Ts : List Addr), (∀ b o, b ≠ S → s.heap.get? b = some o → h'.get? b = some o) → h'.PlainList S (vs ++ (Ts.map Value.ref).toArray) → Ts.length = xs.size →
      (∀ (j : Nat) (T : Addr), Ts[j]? = some T → s.heap.get? T = none ∧ T ≠ S ∧ ∃ x y, xs[j]? = some x ∧ ys[j]? = some y ∧ IsPair h' T x y) → Q .none { s with heap := h' }) :
    wpAny (model prog w) A (call (.type "zip") [.ref a, .ref b]) (fun z s2 => wpAny (model prog w) A (call (.builtin "list.extend") [.ref S, z]) Q E s2) E s := by
  have lt : ∀ {c o}, s.heap.get? c = some o → c < s.heap.objs.size := fun e => Heap.lt_size e
  obtain ⟨cS, hS⟩ := hS
  have hSlt := lt hS
  have halt : a < s.heap.objs.size := let ⟨_, e, _⟩ := h1; lt e
  have hblt : b < s.heap.objs.size := let ⟨_, e, _⟩ := h2; lt e
  refine call_zipT h1 h2 fun h3 e1 e2 e3 e4 e5 e6 => ?_
  generalize hN : s.heap.objs.size = N at *
  have D : ZipApart (N + 4) (N + 2) (N + 3) N (N + 1) a b := zipApart_new halt hblt
  have hSn : S ∉ [N + 4, N + 2, N + 3, N, N + 1, a, b] := by
    simp only [List.mem_cons, List.not_mem_nil, or_false, not_or]
    exact ⟨ne_add 4 hSlt, ne_add 2 hSlt, ne_add 3 hSlt, ne_add 0 hSlt, ne_add 1 hSlt, hne.1, hne.2⟩
  have Z0 : ZS h3 (N + 4) (N + 2) (N + 3) N (N + 1) a b xs ys 0 := ⟨⟨_, _, e1, .inl ⟨rfl, rfl⟩⟩, e2, ⟨_, _, e3⟩, e4, e5, let ⟨o, ho, r⟩ := h1; ⟨o, e6 _ _ ho, r⟩, let ⟨o, ho, r⟩ := h2; ⟨o, e6 _ _ ho, r⟩⟩
  have hSl := e6 _ _ hS
  have hTz : Shared.TypeIs { s with heap := h3 } (.ref (N + 4)) "zip" := ⟨_, e1, rfl⟩
  refine wpAny_call (codeAny_call_builtin (s := { s with heap := h3 }) PySem.F.slot_list_extend.plain PySem.F.entry_list_extend (PySem.F.slot_list_extend.check _ _ _ _ _ _ _ _ ⟨_, hSl, rfl⟩ (PySem.F.args_list_extend_2 _ _) ?_))
  show wpAny _ A.in1 (Builtin.List.listExtendWith (.ref S) (.ref (N + 4)) .none) _ _ _
  unfold Builtin.List.listExtendWith
  refine wpAny_bind (wpAny_typeOf hTz ?_)
  have q1 : Builtin.List.listSameRef (.ref S) (.ref (N + 4)) = false := by
    simp only [List.mem_cons, List.not_mem_nil, or_false, not_or] at hSn
    simp [Builtin.List.listSameRef, hSn.1]
  have q2 : (Value.type "zip" == Value.type "list") = false := by decide
  have q3 : (Value.type "zip" == Value.type "tuple") = false := by decide
  simp only [q1, q2, q3, Bool.or_false, Bool.false_eq_true, if_false]
  refine wpAny_bind (wpAny_pyIter_zip (s := { s with heap := h3 }) e1 ?_)
  refine wpAny_bind (wpAny_holding ?_)
  unfold Builtin.List.listLengthHint
  refine wpAny_bind (wpAny_specialOf hTz zip_no_len ?_)
  show wpAny _ A.in1 (specialOf (Value.ref (N + 4)) (Str.ofString "__length_hint__") >>= _) _ _ _
  refine wpAny_bind (wpAny_specialOf hTz zip_no_hint ?_)
  refine wpAny_pure ?_
  show wpAny _ A.in1 (rule "list.extend.makes-room" >>= fun _ => Builtin.List.listTouch (.ref S) >>= fun _ =>
    again (.builtin "list.extend.loop" ⟨[.ref S, .ref (N + 4), .none], []⟩)) _ _ _
  refine wpAny_bind (wpAny_rule ?_)
  refine wpAny_bind ?_
  show wpAny _ A.in1 (updateSeq S (·.push .none) >>= fun _ => updateSeq S (·.pop)) _ _ _
  have f1 : vs.size ≤ sizeLine := by rw [sizeLine_eq]; omega
  refine wpAny_bind (wpAny_updateSeq (s := { s with heap := h3 }) hSl rfl ?_ f1 (by rw [Array.size_push]; omega))
  have hS₂ := Heap.get?_update_self (Obj.mapSeq (·.push Value.none)) hSl rfl
  refine wpAny_updateSeq (s := { s with heap := h3.update S (Obj.mapSeq (·.push Value.none)) }) hS₂ rfl ?_ (by show (vs.push Value.none).size ≤ sizeLine; rw [Array.size_push, sizeLine_eq]; omega) (by show ((vs.push Value.none).pop).size ≤ sizeLine + 1; simp; omega)
  have hS₃ := Heap.get?_update_self (Obj.mapSeq (·.pop)) hS₂ rfl
  have oth : ∀ b, b ≠ S → ∀ o, h3.get? b = some o → ((h3.update S (Obj.mapSeq (·.push Value.none))).update S (Obj.mapSeq (·.pop))).get? b = some o :=
    fun b hb o e => (Heap.get?_update_other _ _ (Ne.symm hb)).trans ((Heap.get?_update_other _ _ (Ne.symm hb)).trans e)
  have hpp : (vs.push Value.none).pop = vs := Array.pop_push ..
  have hS4 : ((h3.update S (Obj.mapSeq (·.push Value.none))).update S (Obj.mapSeq (·.pop))).get? S = some { cls := .type "list", data := .seq vs (cS + 1 + 1) } := by
    rw [hS₃]
    simp [Obj.mapSeq]
  refine wpAny_pure ⟨plainId_quiet PySem.F.plain_extend_loop _, zip_loop (A := A) hh D hsz hSn xs.size 0 _ vs _ (by omega) (Nat.zero_le _) (Z0.bt oth hSn ⟨_, hS4⟩) hS4 (by rw [sizeLine_eq]; omega) fun h' c' Ts k1 k2 k3 k4 => ?_⟩
  refine hQ h' Ts (fun b o hb e => k1 b o ?_ (oth b hb o (e6 _ _ e))) ⟨c', k2⟩ k3 fun j T hj => ?_
  · have := lt e
    simp only [List.mem_cons, List.not_mem_nil, or_false, not_or]
    exact ⟨ne_add 4 this, ne_add 3 this, ne_add 0 this, ne_add 1 this, hb⟩
  · obtain ⟨r1, r2, x, y, r3, r4, r5⟩ := k4 j T hj
    refine ⟨?_, r2, x, y, by simpa using r3, by simpa using r4, r5⟩
    cases e : s.heap.get? T with
    | none => rfl
    | some o =>
      have r1' : ((h3.update S (Obj.mapSeq (·.push Value.none))).update S (Obj.mapSeq (·.pop))).get? T = none := r1
      rw [oth T r2 o (e6 _ _ e)] at r1'
      cases r1'
end
end Mine
end
section
open PySem PySem.W PyProof.Rows PySem.Calls
namespace Mine
section
variable {c : Cx} {n : Nat} {sc : Sc} {st : St}
/-- names may change their reading -/
theorem SR.vars {env : Env} {F : Heap} {V V' : Vs} {ob : Ob} {s : Shared} (S : SR c env F ⟨V, ob⟩ s) (h : ∀ x v, V' x = some v → ∃ u, V x = some u ∧ ∀ xv, Rep c F xv u → Rep c F xv v) : SR c env F ⟨V', ob⟩ s := by
  refine ⟨S.wf, ?_, S.off, S.offO, fun x hx => ?_, S.apart, S.celoff, S.celO⟩
  · obtain ⟨m, hn, hm⟩ := S.loc
    refine ⟨m, hn, fun x v h1 h2 => ?_⟩
    obtain ⟨u, h3, h4⟩ := h x v h2
    obtain ⟨xv, h5, h6⟩ := hm x u h1 h3
    exact ⟨xv, h5, h4 _ h6⟩
  · obtain ⟨a, ov, h1, h2, h3⟩ := S.cel x hx
    refine ⟨a, ov, h1, h2, fun v hv => ?_⟩
    obtain ⟨u, h4, h5⟩ := h x v hv
    obtain ⟨xv, h6, h7⟩ := h3 u h4
    exact ⟨xv, h6, h5 _ h7⟩
theorem Tr.start {α β : Type} {rel : Heap → α → β → Prop} {t : Env → Sem α} {K : β → St → Prop} {st' : St} (h : Tr c n sc rel t st' K)
    (hs : ∀ env F s, SR c env F st s → ∃ F', Out c env F st s F' st' s) : Tr c n sc rel t st K := by
  intro A env F s hR hE S Q E hQ
  obtain ⟨F', O⟩ := hs env F s S
  exact h A env F' s hR hE O.sr Q E fun F2 s2 x v st2 hk O2 r => hQ F2 s2 x v st2 hk (O.trans O2) r
/-- what a frozen thing reads as -/
noncomputable def froz : AO → AV
  | .list l => .lst l
  | .dict l => .dct l
  | .obj _ => .none
noncomputable def Ob.del (ob : Ob) (a : Addr) : Ob := fun b => if b = a then none else ob b
/-- an owned thing is frozen: the names that held it read it now -/
theorem Frz {α β : Type} {rel : Heap → α → β → Prop} {t : Env → Sem α} {K : β → St → Prop} {a : Addr} {o : AO} (ha : st.ob a = some o) (ho : ∀ P, o ≠ .obj P) (V' : Vs) (hV : ∀ x v, V' x = some v → st.vars x = some v ∨ (v = froz o ∧ st.vars x = some (.own a)))
    (h : Tr c n sc rel t ⟨V', st.ob.del a⟩ K) : Tr c n sc rel t st K := by
  refine h.start fun env F s S => ?_
  have main : ∃ F', Wf c F' (st.ob.del a) s ∧ Mov st.ob s F (st.ob.del a) s F' ∧ Rep c F' (.ref a) (froz o) := by
    obtain ⟨_, how⟩ := S.wf.own _ _ ha
    cases o with
    | list l =>
      obtain ⟨vs, ⟨k, h2⟩, h3⟩ := how
      obtain ⟨F', w1, w2, w3⟩ := S.wf.freeze a _ h2 (by rw [ha]; simp)
      exact ⟨F', w1, w2, .lst ⟨k, w3⟩ (h3.le w2.le)⟩
    | dict l =>
      obtain ⟨kvs, ⟨o, es, ep, ho, hr⟩, h2, h3⟩ := how
      obtain ⟨F', w1, w2, w3⟩ := S.wf.freeze a _ ho (by rw [ha]; simp)
      exact ⟨F', w1, w2, .dct ⟨o, es, ep, w3, hr⟩ h2 (h3.le w2.le)⟩
    | obj P => exact absurd rfl (ho P)
  obtain ⟨F', w1, w2, w3⟩ := main
  have O := S.lift w1 w2
  refine ⟨F', ⟨O.sr.vars fun x v hv => ?_, O.le, O.keep, O.new⟩⟩
  rcases hV x v hv with h | ⟨rfl, h⟩
  · exact ⟨v, h, fun _ r => r⟩
  · refine ⟨.own a, h, fun xv r => ?_⟩
    first | (obtain ⟨_, rfl⟩ := Rep.int' r) | (obtain ⟨_, rfl⟩ := Rep.str' r) | (obtain rfl := Rep.bool' r) | (obtain rfl := Rep.own' r) | (obtain rfl := Rep.none' r) | (obtain rfl := Rep.raw' r) | cases r
    exact w3
/-- what is owned is forgotten -/
theorem Drp {α β : Type} {rel : Heap → α → β → Prop} {t : Env → Sem α} {K : β → St → Prop} (V' : Vs) (ob' : Ob) (hV : ∀ x v, V' x = some v → st.vars x = some v) (ho : ∀ a o, ob' a = some o → st.ob a = some o)
    (h : Tr c n sc rel t ⟨V', ob'⟩ K) : Tr c n sc rel t st K := by
  refine h.start fun env F s S => ?_
  obtain ⟨w1, w2⟩ := S.wf.drop ho
  have O := S.lift w1 w2
  exact ⟨F, ⟨O.sr.vars fun x v hv => ⟨v, hV x v hv, fun _ r => r⟩, O.le, O.keep, O.new⟩⟩
theorem Vs.set_comm (m : Vs) {x y : Str} (a b : AV) (h : x ≠ y) : (m.set x a).set y b = (m.set y b).set x a := by
  funext z
  unfold Vs.set
  by_cases h1 : z = y
  · subst h1; simp [Ne.symm h]
  · simp [h1]
theorem unpack2 {prog : Program} {w : World} {A : Around} {E : Value → Shared → Prop} {s : Shared} {t : Addr} {u v : Value} {Q : List Value → Shared → Prop} (hh : A.handled = none) (ht : s.heap.IsTuple t #[u, v])
    (hQ : ∀ h', Heap.ExtBut s.heap.objs.size s.heap h' → Q [u, v] { s with heap := h' }) : wpAny (model prog w) A (unpackItems (.ref t) 2 none) Q E s :=
  unpackItems_tuple (items := #[u, v]) hh ht hQ
theorem Asg2_ {x y : Str} {px py tp pos : Pos} {k : Nat} {e : Expr} {K : AF → St → Prop} (h : Ev c n sc e st fun v st1 => ∃ a b, v = .tup [a, b] ∧ K .next ⟨(st1.vars.set x a).set y b, st1.ob⟩) (hxy : x ≠ y) (sw : Option (List Str))
    (hw : ∀ env, env.scope = sc.s → swappedStores [.Tuple [.Name x px, .Name y py] k tp] e env = pure sw) (hsw : sw = none ∨ sw = some [x, y]) (hc : isComp e = false := by rfl)
    (hx : stOk sc x = true := by rfl) (hy : stOk sc y = true := by rfl) (hk : sc.s.kind = .function := by rfl) : Ex c n sc (.Assign [.Tuple [.Name x px, .Name y py] k tp] e pos) st K := by
  intro A env F s hR hE S Q E hQ
  have hs : swapsWithSole [.Tuple [.Name x px, .Name y py] k tp] e pos.line env = pure false := by
    show swapsWith e (some (.Tuple [.Name x px, .Name y py] k tp)) pos.line env = _
    exact swaps_not hc
  rcases hsw with rfl | rfl
  · refine Assign_Tuple (h A env F s hR hE S _ E fun F1 s1 xv v st1 h1 o1 r1 => ?_) hs (hw env hE.scope)
    obtain ⟨a, b, rfl, hk1⟩ := h1
    exact B_pair (K := fun st2 => st2 = ⟨(st1.vars.set x a).set y b, st1.ob⟩) (n := n) rfl hx hy hk A env F1 s1 xv hR hE o1.sr r1 _ _ fun F2 s2 st2 e2 o2 => hQ F2 s2 _ _ _ (e2 ▸ hk1) (o1.trans o2) .next
  · refine Assign_Tuple_swapped (h A env F s hR hE S _ E fun F1 s1 xv v st1 h1 o1 r1 => ?_) hs (hw env hE.scope)
    obtain ⟨a, b, rfl, hk1⟩ := h1
    cases r1 with
    | @tup t vs _ ht hvs =>
      cases hvs with
      | cons r1 hvs =>
        cases hvs with
        | cons r2 hvs =>
          cases hvs
          refine unpack2 hR.handled (isTuple_le o1.sr.wf.le ht) fun h' he => ?_
          show wpAny _ A (assignInOrder [fun v => bindName env y v, fun v => bindName env x v] [_, _]) _ E _
          obtain ⟨F', o2, _⟩ := o1.sr.grow h' s1.toks fun b o e => he b o (Nat.ne_of_lt (Heap.lt_size e)) e
          refine wpAny_assignInOrder_cons (t := fun v => bindName env y v) (store hE o2.sr (r2.le o2.le) (fun s3 o3 => ?_) hy hk)
          refine wpAny_assignInOrder_cons (t := fun v => bindName env x v) (store hE o3.sr (r1.le o2.le) (fun s4 o4 => ?_) hx hk)
          have o5 := ((o1.trans o2).trans o3).trans o4
          rw [← Vs.set_comm _ _ _ hxy] at o5
          exact wpAny_assignInOrder_nil (hQ F' s4 _ _ _ hk1 o5 .next)
end
end Mine
end
section
open PySem PySem.W PyProof.Rows PySem.Calls PySem.SeqAt
namespace Mine
section
variable {c : Cx} {n : Nat} {ob : Ob} {K : AV → Ob → Prop}
/-! lists against the empty list -/
theorem O_eqnil {v u : AV} {l : List AV} (hv : IsL ob v l) (hu : IsL ob u []) (h : K (.bool l.isEmpty) ob) : Op c n (Rep c) (op2 (compareOp .Eq)) [v, u] ob K := by
  intro A F s xs hR W hx Q E hQ
  obtain ⟨x, y, rfl, r1, r2⟩ := reps2 hx
  obtain ⟨a, vs, rfl, h1, h2⟩ := hv.get W r1
  obtain ⟨b, us, rfl, h3, h4⟩ := hu.get W r2
  have hun : A.units < cLine := by have := hR.units; omega
  have e1 := h2.length
  cases h4
  cases h2 with
  | nil => exact eq_listAt (e := fun _ => true) h1 h3 rfl hun (fun j hj => absurd hj (Nat.not_lt_zero _)) (hQ F _ _ _ ob h W (.refl ..) (.bool _))
  | cons r rs => exact eq_list_lengthsAt h1 h3 (by simp) hun (hQ F _ _ _ ob h W (.refl ..) (.bool _))
theorem O_nenil {v u : AV} {l : List AV} (hv : IsL ob v l) (hu : IsL ob u []) (h : K (.bool (!l.isEmpty)) ob) : Op c n (Rep c) (op2 (compareOp .NotEq)) [v, u] ob K := by
  intro A F s xs hR W hx Q E hQ
  obtain ⟨x, y, rfl, r1, r2⟩ := reps2 hx
  obtain ⟨a, vs, rfl, h1, h2⟩ := hv.get W r1
  obtain ⟨b, us, rfl, h3, h4⟩ := hu.get W r2
  have hun : A.units < cLine := by have := hR.units; omega
  cases h4
  show wpAny _ A (richCompare .NotEq (.ref a) (.ref b)) Q E s
  cases h2 with
  | nil => exact RcNeAt.lists (e := fun _ => true) h1 h3 rfl hun (fun j hj => absurd hj (Nat.not_lt_zero _)) _ _ _ _ (hQ F _ _ _ ob h W (.refl ..) (.bool _))
  | cons r rs => exact RcNeAt.lists_lengths h1 h3 (by simp) hun _ _ _ _ (hQ F _ _ _ ob h W (.refl ..) (.bool _))
/-! a str in a list of strs -/
theorem any_strs {F : Heap} {k : Str} : ∀ {vs : List Value} {ss : List Str}, Reps c F vs (ss.map AV.str) → vs.any (fun v => strOf v == k) = ss.contains k
  | _, [], .nil => rfl
  | _, s :: ss, .cons r rs => by
    first | (obtain ⟨_, rfl⟩ := Rep.int' r) | (obtain ⟨_, rfl⟩ := Rep.str' r) | (obtain rfl := Rep.bool' r) | (obtain rfl := Rep.own' r) | (obtain rfl := Rep.none' r) | (obtain rfl := Rep.raw' r) | cases r
    simp only [List.any_cons, List.contains_cons, any_strs rs]
    congr 1
    show (s == k) = (k == s)
    rw [Bool.eq_iff_iff, beq_iff_eq, beq_iff_eq]
    exact eq_comm
theorem eqAts {F : Heap} {A : Around} {s : Shared} {k : Str} {t : Tok} : ∀ {vs : List Value} {ss : List Str}, Reps c F vs (ss.map AV.str) → ∀ y ∈ vs, EqAt A s y (.str k t) (strOf y == k)
  | _, [], .nil, y, h => nomatch h
  | _, _ :: _, .cons r rs, y, h => by
    rcases List.mem_cons.mp h with rfl | h
    · first | (obtain ⟨_, rfl⟩ := Rep.int' r) | (obtain ⟨_, rfl⟩ := Rep.str' r) | (obtain rfl := Rep.bool' r) | (obtain rfl := Rep.own' r) | (obtain rfl := Rep.none' r) | (obtain rfl := Rep.raw' r) | cases r
      exact EqAt.str_str _ _ _ _
    · exact eqAts rs y h
theorem O_inl {k : Str} {v : AV} {ss : List Str} (hv : IsL ob v (ss.map AV.str)) (h : K (.bool (ss.contains k)) ob) : Op c n (Rep c) (op2 (compareOp .In)) [.str k, v] ob K := by
  intro A F s xs hR W hx Q E hQ
  obtain ⟨x, y, rfl, r1, r2⟩ := reps2 hx
  first | (obtain ⟨_, rfl⟩ := Rep.int' r1) | (obtain ⟨_, rfl⟩ := Rep.str' r1) | (obtain rfl := Rep.bool' r1) | (obtain rfl := Rep.own' r1) | (obtain rfl := Rep.none' r1) | (obtain rfl := Rep.raw' r1) | cases r1
  obtain ⟨a, vs, rfl, h1, h2⟩ := hv.get W r2
  refine in_listAt (fun y => strOf y == k) h1 (fun y hy => eqAts h2 y (by simpa using hy)) ?_
  rw [← any_strs (c := c) h2] at h
  refine hQ F _ _ _ ob (by simpa using h) W (.refl ..) ?_
  simp
  exact .bool _
theorem O_notinl {k : Str} {v : AV} {ss : List Str} (hv : IsL ob v (ss.map AV.str)) (h : K (.bool (!ss.contains k)) ob) : Op c n (Rep c) (op2 (compareOp .NotIn)) [.str k, v] ob K := by
  intro A F s xs hR W hx Q E hQ
  obtain ⟨x, y, rfl, r1, r2⟩ := reps2 hx
  first | (obtain ⟨_, rfl⟩ := Rep.int' r1) | (obtain ⟨_, rfl⟩ := Rep.str' r1) | (obtain rfl := Rep.bool' r1) | (obtain rfl := Rep.own' r1) | (obtain rfl := Rep.none' r1) | (obtain rfl := Rep.raw' r1) | cases r1
  obtain ⟨a, vs, rfl, h1, h2⟩ := hv.get W r2
  refine notIn_listAt (fun y => strOf y == k) h1 (fun y hy => eqAts h2 y (by simpa using hy)) ?_
  rw [← any_strs (c := c) h2] at h
  refine hQ F _ _ _ ob (by simpa using h) W (.refl ..) ?_
  simp
  exact .bool _
theorem O_neb {a b : Bool} (h : K (.bool (a != b)) ob) : Op c n (Rep c) (op2 (compareOp .NotEq)) [.bool a, .bool b] ob K := by
  intro A F s xs hR W hx Q E hQ
  obtain ⟨x, y, rfl, r1, r2⟩ := reps2 hx
  first | (obtain ⟨_, rfl⟩ := Rep.int' r1) | (obtain ⟨_, rfl⟩ := Rep.str' r1) | (obtain rfl := Rep.bool' r1) | (obtain rfl := Rep.own' r1) | (obtain rfl := Rep.none' r1) | (obtain rfl := Rep.raw' r1) | cases r1
  first | (obtain ⟨_, rfl⟩ := Rep.int' r2) | (obtain ⟨_, rfl⟩ := Rep.str' r2) | (obtain rfl := Rep.bool' r2) | (obtain rfl := Rep.own' r2) | (obtain rfl := Rep.none' r2) | (obtain rfl := Rep.raw' r2) | cases r2
  exact ne_bool (hQ F _ _ _ ob h W (.refl ..) (.bool _))
/-! sum, list, dict, range, a char -/
theorem sums {F : Heap} : ∀ {vs : List Value} {ns : List Int}, Reps c F vs (ns.map AV.int) → IntsAre vs ns
  | _, [], .nil => .nil
  | _, _ :: _, .cons r rs => by
    first | (obtain ⟨_, rfl⟩ := Rep.int' r) | (obtain ⟨_, rfl⟩ := Rep.str' r) | (obtain rfl := Rep.bool' r) | (obtain rfl := Rep.own' r) | (obtain rfl := Rep.none' r) | (obtain rfl := Rep.raw' r) | cases r
    exact .cons _ _ (sums rs)
theorem preSum_eq (ns : List Int) : preSum (fun i => ns.getD i 0) ns.length = ns.sum := by
  have key : ∀ (ns : List Int) (f : Nat → Int), (∀ i, i < ns.length → f i = ns.getD i 0) → preSum f ns.length = ns.sum := by
    intro ns
    induction ns with
    | nil => intro f _; rfl
    | cons x r ih =>
      intro f hf
      show preSum f (r.length + 1) = _
      rw [kdu_shift, ih (fun i => f (i + 1)) fun i hi => by rw [hf (i + 1) (by simpa using hi)]; simp]
      rw [hf 0 (by simp)]
      simp
  exact key ns _ fun _ _ => rfl
theorem O_sum {v : AV} {ns : List Int} (hv : IsL ob v (ns.map AV.int)) (h : K (.int ns.sum) ob) : Fn c n (.builtin "sum") [v] ob K := by
  intro A F s xs hR W hx Q E hQ
  obtain ⟨x, rfl, r1⟩ := reps1 hx
  obtain ⟨a, vs, rfl, h1, h2⟩ := hv.get W r1
  have hi := sums h2
  have hlen : vs.length = ns.length := by simpa using h2.length
  refine call_sum_walkAnyS (wpAny_pyIter_list h1 ?_)
  refine ⟨s.heap.objs.size, [s.heap.objs.size, a], [s.heap.objs.size], _, vs.toArray.size, _, _, fun i => ns.getD i 0, rfl, (Walks.list (A := A.in1) hR.handled _ a ?_ vs.toArray).toS, ⟨⟨_, Heap.get?_push_size _ rfl, rfl, rfl⟩, h1.push _⟩, fun b hb => ?_, fun i v hv => ?_, fun s' t' hm => ?_⟩
  · obtain ⟨o, ho, _⟩ := h1
    exact Nat.ne_of_lt (Heap.lt_size ho)
  · show b < (s.heap.push _).objs.size
    rw [Heap.size_push]
    simp at hb
    rcases hb with rfl | rfl
    · exact Nat.lt_succ_self _
    · obtain ⟨o, ho, _⟩ := h1
      exact Nat.lt_succ_of_lt (Heap.lt_size ho)
  · exact hi.int_at i v (by simpa using hv)
  · have e : preSum (fun i => ns.getD i 0) vs.toArray.size = ns.sum := by
      rw [← preSum_eq]
      simp [hlen]
    rw [e, Moved.eq_with hm]
    obtain ⟨F', w1, w2, _⟩ := W.ext s'.heap s'.toks fun b o eb => hm.heap b o (by simp; rintro rfl; exact absurd (Heap.lt_size eb) (Nat.lt_irrefl _)) (Heap.get?_push_of_some _ eb)
    exact hQ F' _ _ _ _ h w1 w2 (.int _ _)
theorem O_list {v : AV} {l : List AV} (hv : IsL ob v l) (hl : l.length ≤ 1000000) (h : K (.lst l) ob) : Fn c n (.type "list") [v] ob K := by
  intro A F s xs hR W hx Q E hQ
  obtain ⟨x, rfl, r1⟩ := reps1 hx
  obtain ⟨a, vs, rfl, ⟨o, ho, hc, nn, hd⟩, h2⟩ := hv.get W r1
  have hlen := h2.length
  refine call_list_seq (hsz := by simp [sizeLine_eq]; omega) a (.inl rfl) ho hc hd fun h' c' hk hD => ?_
  obtain ⟨F', w1, w2, w3⟩ := fresh_list W (tk := s.toks) (d := s.drawn) hk (size_dead _) ⟨c', hD⟩ h2
  exact hQ F' _ _ _ _ h w1 w2 w3
theorem O_dict {v : AV} {l : List (Str × AV)} (hv : IsD ob v l) (hl : l.length ≤ 1000000) (h : ∀ a, ob a = none → K (.own a) (ob.set a (.dict l))) : Fn c n (.type "dict") [v] ob K := by
  intro A F s xs hR W hx Q E hQ
  obtain ⟨x, rfl, r1⟩ := reps1 hx
  obtain ⟨a, kvs, rfl, h1, h2, h3⟩ := hv.get W r1
  refine kt_call_dict h2 h1 (by rw [h3.length, sizeLine_eq]; omega) fun h' hm hs => ?_
  have hd := size_dead s.heap
  have hsys : (s.heap.objs.size == sysModules) = false := by
    obtain ⟨mc, ⟨o, _, _, ho, _⟩⟩ := (⟨_, c.g⟩ : ∃ m, c.s0.heap.Ns mainGlobals m)
    have h3 := Heap.lt_size (W.le _ _ (W.base _ _ ho))
    rw [beq_eq_false_iff_ne]
    intro e
    rw [e] at h3
    exact absurd h3 (by decide)
  obtain ⟨F', w1, w2, _⟩ := W.put s.heap.objs.size (.dict l) h' s.toks (.inr hd) (fun b o hb e => hs.extBut b o hb (Heap.get?_push_of_some _ e)) fun F' hF _ => ⟨kvs, hm, hsys, h3.le hF⟩
  exact hQ F' _ _ _ _ (h _ (W.fresh hd)) w1 w2 (.own _)
theorem O_range {i j : Int} (hs : Builtin.Range.small i j 1 = true) (h : K (.rng i j) ob) : Fn c n (.type "range") [.int i, .int j] ob K := by
  refine Op_i2 fun A F s _ _ hR W Q E hQ => ?_
  refine call_range_2 ?_
  obtain ⟨F', w1, w2, w3⟩ := W.ext (s.heap.push { cls := .type "range", data := .fields #[.int i _, .int j _, .int 1 s.toks] }) (s.toks + 1) fun b o e => Heap.get?_push_of_some _ e
  exact hQ F' _ _ _ _ h w1 w2 (.rng (w3 _ _ (size_dead _) (Heap.get?_push_size _ rfl)) hs)
theorem O_char {x : Str} {k : Int} {d : Nat} (h0 : 0 ≤ k) (hk : k < 2 ^ 60) (hx : x.cps[k.toNat]? = some d) (h : K (.str ⟨#[d]⟩) ob) : Op c n (Rep c) (op2 getItem) [.str x, .int k] ob K := by
  intro A F s xs hR W hx' Q E hQ
  obtain ⟨y, z, rfl, r1, r2⟩ := reps2 hx'
  first | (obtain ⟨_, rfl⟩ := Rep.int' r1) | (obtain ⟨_, rfl⟩ := Rep.str' r1) | (obtain rfl := Rep.bool' r1) | (obtain rfl := Rep.own' r1) | (obtain rfl := Rep.none' r1) | (obtain rfl := Rep.raw' r1) | cases r1
  first | (obtain ⟨_, rfl⟩ := Rep.int' r2) | (obtain ⟨_, rfl⟩ := Rep.str' r2) | (obtain rfl := Rep.bool' r2) | (obtain rfl := Rep.own' r2) | (obtain rfl := Rep.none' r2) | (obtain rfl := Rep.raw' r2) | cases r2
  have hlt : k.toNat < x.cps.size := by
    rw [Array.getElem?_eq_some_iff] at hx
    exact hx.1
  refine getItem_str (by simp; omega) ?_ (hQ F _ _ _ ob h (W.tok _) (.tok _) (.str _ _))
  have e : seqIndex? k x.length = some k.toNat := seqIndex_of h0 (by show k < ((x.cps.size : Nat) : Int); omega)
  rw [e]
  exact hx
end
end Mine
end
section
open PySem PySem.W PyProof.Rows PySem.Calls
namespace Mine
section
variable {prog : Program} {w : World} {A : Around} {E : Value → Shared → Prop} {s : Shared}
theorem adjust_to (b n : Nat) (hb : b ≤ n) : Builtin.Slice.sliceAdjust none (some (b : Int)) 1 (n : Int) = (0, (b : Int)) := by
  unfold Builtin.Slice.sliceAdjust
  have h1 : ¬ ((1 : Int) < 0) := by omega
  have h2 : ¬ ((b : Int) < 0) := by omega
  simp only [h1, h2, if_false]
  congr 1
  omega
theorem places_to (b : Nat) : Builtin.Slice.slicePlaces 0 (b : Int) 1 = b := by
  unfold Builtin.Slice.slicePlaces
  have h1 : (1 : Int) > 0 := by omega
  simp only [h1, if_true, Int.ediv_one]
  split <;> omega
theorem sliceApplied_to {sl : Addr} {b n : Nat} {u : Tok} {Q : Int × Int × Nat → Shared → Prop} (hs : s.heap.IsSliceOf sl .none (.int b u) .none) (hb : b ≤ n) (h : Q (0, 1, b) s) :
    wpAny (model prog w) A (Builtin.Slice.sliceApplied (.ref sl) (pure (n : Int))) Q E s := by
  obtain ⟨os, hos, hcs, hds⟩ := id hs
  unfold Builtin.Slice.sliceApplied Builtin.Slice.sliceFields
  refine wpAny_bind (wpAny_bind (wpAny_field hos hds (x := .none) rfl (wpAny_bind (wpAny_field hos hds (x := .int b u) rfl (wpAny_bind (wpAny_field hos hds (x := .none) rfl (wpAny_pure ?_)))))))
  refine wpAny_bind (slicePart_none ?_)
  show wpAny _ _ (if ((1 : Int) == 0) = true then _ else _) _ _ s
  rw [if_neg (by decide)]
  refine wpAny_bind (slicePart_none (wpAny_bind (slicePart_int (wpAny_bind (wpAny_pure ?_)))))
  show wpAny _ _ (match Builtin.Slice.sliceAdjust none (some (b : Int)) 1 (n : Int) with | (lo, hi) => pure (lo, (1 : Int), Builtin.Slice.slicePlaces lo hi 1)) _ _ s
  rw [adjust_to b n hb]
  show wpAny _ _ (pure ((0 : Int), (1 : Int), Builtin.Slice.slicePlaces 0 (b : Int) 1)) _ _ s
  rw [places_to b]
  exact wpAny_pure h
theorem pick_to (xs : Array Value) (b : Nat) : ((List.range b).filterMap fun (k : Nat) => xs[((0 : Int) + (k : Int) * 1).toNat]?).toArray = (xs.toList.take b).toArray := by
  have e : (fun (k : Nat) => xs[((0 : Int) + (k : Int) * 1).toNat]?) = fun k => xs[0 + k]? := by
    funext k
    have : ((0 : Int) + (k : Int) * 1).toNat = 0 + k := by omega
    rw [this]
  rw [e]
  have := pick_run xs 0 b
  rw [List.filterMap_map] at this
  have e2 : ((fun x => xs[x]?) ∘ fun x => 0 + x) = fun k => xs[0 + k]? := rfl
  rw [e2] at this
  rw [this, List.drop_zero]
theorem isExact_ {t : Addr} {items : Array Value} {Q : Bool → Shared → Prop} (ht : s.heap.IsTuple t items) (h : Q true s) : wpAny (model prog w) A (Builtin.Tuple.tupleIsExact (.ref t)) Q E s := by
  unfold Builtin.Tuple.tupleIsExact
  exact wpAny_bind (wpAny_typeOf ht.typeIs (wpAny_pure h))
theorem getItem_tuple_to {t sl : Addr} {items : Array Value} {b : Nat} {u : Tok} {Q : Value → Shared → Prop} (ht : s.heap.IsTuple t items) (hs : s.heap.IsSliceOf sl .none (.int b u) .none) (hb : b ≤ items.size)
    (h1 : b = items.size → Q (.ref t) s) (h : Q (.ref s.heap.objs.size) { s with heap := s.heap.push { cls := .type "tuple", data := .seq (items.toList.take b).toArray } })
    (hsz : items.size ≤ sizeLine) : wpAny (model prog w) A (getItem (.ref t) (.ref sl)) Q E s := by
  have hdrop : sizeOk (.seq (items.toList.take b).toArray) := by
    show (items.toList.take b).toArray.size ≤ sizeLine
    rw [List.size_toArray, List.length_take, Array.length_toList]
    omega
  obtain ⟨os, hos, hcs, hds⟩ := id hs
  have hTs : s.TypeIs (.ref sl) "slice" := ⟨os, hos, hcs⟩
  unfold getItem
  try with_reducible refine wpAny_holding ?_
  first | refine wpAny_bind (wpAny_pure ?_) | skip
  refine wpAny_bind (wpAny_sequenceKey ht.typeIs (by decide) ?_)
  refine wpAny_bind (wpAny_callSpecial?_slot (name := Str.ofString "__getitem__") ht.typeIs slot_tuple_getitem
    (wpAny_call_entry slot_tuple_getitem ht.typeIs entry_tuple_getitem ?_ (args_tuple_getitem _ _)))
  show wpAny _ _ (Builtin.Tuple.tupleItemsOf (.ref t) >>= _) _ _ s
  refine wpAny_bind (tupleItemsOf_ ht ?_)
  refine wpAny_bind (wpAny_typeOf hTs ?_)
  rw [if_pos (by decide)]
  refine wpAny_bind (sliceApplied_to hs hb ?_)
  show wpAny _ _ (if ((0 : Int) == 0 && (1 : Int) == 1 && b == items.size) = true then _ else _) _ _ s
  refine wpAny_ite_split (fun hc => ?_) (fun hc => ?_)
  · have hb' : b = items.size := by simpa using hc
    refine wpAny_bind (isExact_ ht ?_)
    rw [if_pos rfl]
    exact wpAny_bind (wpAny_rule (wpAny_pure ⟨_, rfl, wpAny_pure (h1 hb')⟩))
  · rw [pick_to items b]
    first
      | exact wpAny_bind (m := Builtin.Tuple.tupleExact _) (wpAny_newObj_type (wpAny_pure ⟨_, rfl, wpAny_pure h⟩) hdrop)
      | exact wpAny_bind (m := Builtin.Tuple.tupleExact _) (wpAny_newObj_type (wpAny_bind (wpAny_pure (wpAny_pure ⟨_, rfl, wpAny_pure h⟩))) hdrop)
      | exact wpAny_bind (wpAny_bind (m := Builtin.Tuple.tupleExact _) (wpAny_newObj_type (wpAny_pure (wpAny_pure ⟨_, rfl, wpAny_pure h⟩)) hdrop))
      | exact wpAny_bind (wpAny_bind (m := Builtin.Tuple.tupleExact _) (wpAny_newObj_type (wpAny_pure ⟨_, rfl, wpAny_pure h⟩) hdrop))
end
section
variable {c : Cx} {n : Nat} {sc : Sc} {st : St}
theorem Reps.take {F : Heap} : ∀ {xs : List Value} {vs : List AV}, Reps c F xs vs → ∀ k : Nat, Reps c F (xs.take k) (vs.take k)
  | _, _, _, 0 => .nil
  | _, _, .nil, _ + 1 => .nil
  | _, _, .cons r rs, k + 1 => .cons r (Reps.take rs k)
/-- t[:k] of a tuple -/
theorem SubTupTo {e ie : Expr} {p pos : Pos} {K : AV → St → Prop} (h : Ev c n sc e st fun v st1 => Ev c n sc ie st1 fun k st2 => ∃ (l : List AV) (j : Nat), v = .tup l ∧ k = .int j ∧ j ≤ l.length ∧ l.length ≤ 1000 ∧ K (.tup (l.take j)) st2) :
    Ev c n sc (.Subscript e (.Slice none (some ie) none p) pos) st K := by
  intro A env F s hR hE S Q E hQ
  refine Subscript_ (h A env F s hR hE S _ E fun F1 s1 x v st1 h1 o1 r1 => ?_)
  refine wpAny_Slice ?_
  rw [evalPart_some, evalPart_none]
  refine wpAny_pure (h1 A env F1 s1 hR hE o1.sr _ E fun F2 s2 y k st2 h2 o2 r2 => wpAny_pure ?_)
  obtain ⟨l, j, rfl, rfl, hj, hl, hk⟩ := h2
  have r1' := r1.le o2.le
  cases r2 with
  | int _ t =>
  cases r1' with
  | @tup a vs _ h1 h2 =>
    have hlen := h2.length
    have hF : Le F2 (s2.heap.push { cls := .type "slice", data := .fields #[.none, .int j t, .none] }) := fun b o e => Heap.get?_push_of_some _ (o2.sr.wf.le b o e)
    refine tail_any (ops := [.ref s2.heap.objs.size, .ref a]) (isTuple_le hF h1).typeIs slot_tuple_getitem.lookup ?_ (by with_unfolding_all rfl)
    refine getItem_tuple_to (b := j) (u := t) (isTuple_le hF h1) ⟨_, Heap.get?_push_size _ rfl, rfl, rfl⟩ (by simp [hlen]; exact hj) (fun hjj => ?_) ?_ (by simp [sizeLine_eq]; omega)
    · obtain ⟨F3, o3, hn⟩ := o2.sr.grow (s2.heap.push { cls := .type "slice", data := .fields #[.none, .int j t, .none] }) s2.toks (fun b o e => Heap.get?_push_of_some _ e)
      rw [List.take_of_length_le (by simp [hlen] at hjj; omega)] at hk
      exact hQ F3 _ _ _ _ hk ((o1.trans o2).trans o3) (.tup (isTuple_le o3.le h1) (h2.le o3.le))
    · dsimp only
      obtain ⟨F3, o3, hn⟩ := o2.sr.grow ((s2.heap.push { cls := .type "slice", data := .fields #[.none, .int j t, .none] }).push { cls := .type "tuple", data := .seq (List.take j vs.toArray.toList).toArray }) s2.toks
        (fun b o e => Heap.get?_push_of_some _ (Heap.get?_push_of_some _ e))
      refine hQ F3 _ _ _ _ hk ((o1.trans o2).trans o3) (.tup (vs := vs.take j) ⟨_, hn _ _ ?_ (Heap.get?_push_size _ rfl), rfl, 0, by simp⟩ ((h2.take j).le o3.le))
      cases e : s2.heap.get? (s2.heap.push { cls := .type "slice", data := .fields #[.none, .int j t, .none] }).objs.size with
      | none => rfl
      | some q =>
        have := Heap.lt_size e
        rw [Heap.size_push] at this
        exact absurd this (Nat.not_lt.mpr (Nat.le_succ _))
/-- l[:j] of a list -/
theorem SubLstTo {e : Expr} {j : Nat} {k : Nat} {cp p pos : Pos} {K : AV → St → Prop} (h : Ev c n sc e st fun v st1 => ∃ l, v = .lst l ∧ l.length ≤ 100000 ∧ K (.lst (l.take j)) st1) :
    Ev c n sc (.Subscript e (.Slice none (some (.Constant (.int (j : Nat)) k cp)) none p) pos) st K := by
  intro A env F s hR hE S Q E hQ
  refine Subscript_ (h A env F s hR hE S _ E fun F1 s1 x v st1 h1 o1 r1 => ?_)
  obtain ⟨l, rfl, hl, hk⟩ := h1
  refine wpAny_Slice ?_
  rw [evalPart_some, evalPart_none]
  refine wpAny_pure (wpAny_Constant_int (wpAny_pure ?_))
  cases r1 with
  | @lst a vs _ h1 h2 =>
    dsimp only
    have hlen := h2.length
    have hF : Le F1 (s1.heap.push { cls := .type "slice", data := .fields #[.none, .int (j : Nat) s1.toks, .none] }) := fun b o e => Heap.get?_push_of_some _ (o1.sr.wf.le b o e)
    have hl' : (s1.heap.push { cls := .type "slice", data := .fields #[.none, .int (j : Nat) s1.toks, .none] }).IsList a vs.toArray := isList_le hF h1.isList
    refine tail_any (ops := [.ref s1.heap.objs.size, .ref a]) (Heap.IsList.typeIs hl') slot_list_getitem.lookup ?_ (by with_unfolding_all rfl)
    refine wpAny_getItem_list_slice hl' ⟨_, Heap.get?_push_size _ rfl, rfl, rfl⟩ .none (.int _ _) .none (by simp) ?_ (by simp [sizeLine_eq]; omega)
    rw [slicePick_upto']
    dsimp only
    obtain ⟨F3, o3, hn⟩ := o1.sr.grow ((s1.heap.push { cls := .type "slice", data := .fields #[.none, .int (j : Nat) s1.toks, .none] }).push { cls := .type "list", data := .seq (List.take j vs.toArray.toList).toArray }) (s1.toks + 1)
      (fun b o e => Heap.get?_push_of_some _ (Heap.get?_push_of_some _ e))
    refine hQ F3 _ _ _ _ hk (o1.trans o3) (.lst (vs := vs.take j) ⟨0, ?_⟩ ((h2.take j).le o3.le))
    have := hn _ _ ?_ (Heap.get?_push_size _ rfl)
    · simpa using this
    · cases e : s1.heap.get? (s1.heap.push { cls := .type "slice", data := .fields #[.none, .int (j : Nat) s1.toks, .none] }).objs.size with
      | none => rfl
      | some q =>
        have := Heap.lt_size e
        rw [Heap.size_push] at this
        exact absurd this (Nat.not_lt.mpr (Nat.le_succ _))
/-- {<str>: .., <str>: ..} -/
theorem Dct2_ {s1 s2 : Str} {k1 k2 : Nat} {p1 p2 pos : Pos} {e1 e2 : Expr} {K : AV → St → Prop} (hne : s1 ≠ s2)
    (h : ∀ D, st.ob D = none → Ev c n sc e1 ⟨st.vars, st.ob.set D (.dict [])⟩ fun v1 st1 => Ev c n sc e2 st1 fun v2 st2 => st2.ob D = some (.dict []) ∧ K (.own D) ⟨st2.vars, st2.ob.set D (.dict [(s1, v1), (s2, v2)])⟩) :
    Ev c n sc (.Dict [some (.Constant (.str s1) k1 p1), some (.Constant (.str s2) k2 p2)] [e1, e2] pos) st K := by
  intro A env F s hR hE S Q E hQ
  refine wpAny_Dict_walk (knd := c.sk) rfl rfl (by simp) (by simp) ?_
  have hd := size_dead s.heap
  have hsys : (s.heap.objs.size == sysModules) = false := by
    obtain ⟨mc, ⟨o, _, _, ho, _⟩⟩ := (⟨_, c.g⟩ : ∃ m, c.s0.heap.Ns mainGlobals m)
    have h3 := Heap.lt_size (S.wf.le _ _ (S.wf.base _ _ ho))
    rw [beq_eq_false_iff_ne]
    intro e
    rw [e] at h3
    exact absurd h3 (by decide)
  obtain ⟨F0, w1, w2, _⟩ := S.wf.put s.heap.objs.size (.dict []) (s.heap.push { cls := .type "dict", data := .dict #[] }) s.toks (.inr hd) (fun b o _ e => Heap.get?_push_of_some _ e) fun F' hF _ => ⟨[], Heap.DictOf.new s.heap, hsys, .nil⟩
  have O0 := S.lift w1 w2
  refine pairTrees_cons_walk (C_str (n := n) (i := s1) (K := fun v st1 => v = .str s1 ∧ st1 = ⟨st.vars, st.ob.set s.heap.objs.size (.dict [])⟩) ⟨rfl, rfl⟩ A env F0 _ hR hE O0.sr _ E fun F1 q1 x1 v1 st1 g1 o1 r1 => ?_)
  obtain ⟨rfl, rfl⟩ := g1
  refine h _ (S.wf.fresh hd) A env F1 q1 hR hE o1.sr _ E fun F2 q2 x2 v2 st2 g2 o2 r2 => ?_
  refine pairTrees_cons_walk (C_str (n := n) (i := s2) (K := fun v st3 => v = .str s2 ∧ st3 = st2) ⟨rfl, rfl⟩ A env F2 q2 hR hE o2.sr _ E fun F3 q3 x3 v3 st3 g3 o3 r3 => ?_)
  obtain ⟨rfl, rfl⟩ := g3
  refine g2 A env F3 q3 hR hE o3.sr _ E fun F4 q4 x4 v4 st4 g4 o4 r4 => ?_
  refine pairTrees_nil_walk ?_
  obtain ⟨g4, g5⟩ := g4
  first | (obtain ⟨_, rfl⟩ := Rep.int' r1) | (obtain ⟨_, rfl⟩ := Rep.str' r1) | (obtain rfl := Rep.bool' r1) | (obtain rfl := Rep.own' r1) | (obtain rfl := Rep.none' r1) | (obtain rfl := Rep.raw' r1) | cases r1
  first | (obtain ⟨_, rfl⟩ := Rep.int' r3) | (obtain ⟨_, rfl⟩ := Rep.str' r3) | (obtain rfl := Rep.bool' r3) | (obtain rfl := Rep.own' r3) | (obtain rfl := Rep.none' r3) | (obtain rfl := Rep.raw' r3) | cases r3
  obtain ⟨_, kvs, d1, d2, d3⟩ := o4.sr.wf.own _ _ g4
  cases d3
  refine ⟨[(s1, x2), (s2, x4)], ⟨strKind_is .., rfl, strKind_is .., rfl, trivial⟩, d1, fun h' hm hs' => ?_⟩
  have e : merged [] [(s1, x2), (s2, x4)] = [(s1, x2), (s2, x4)] := by
    simp [merged, stored, hne]
  rw [e] at hm
  obtain ⟨F5, w3, w4, _⟩ := o4.sr.wf.put s.heap.objs.size (.dict [(s1, v2), (s2, v4)]) h' (q4.toks + 2) (.inl (by rw [g4]; simp)) hs'.extBut fun F' hF _ => ⟨_, hm, hsys, .cons (r2.le (Le.trans (Le.trans o3.le o4.le) hF)) (.cons (r4.le hF) .nil)⟩
  exact hQ F5 _ _ _ _ g5 ((((O0.trans o1).trans o2).trans (o3.trans o4)).trans (o4.sr.lift w3 w4)) (.own _)
end
end Mine
end
section
open PySem PySem.W PyProof.Rows PySem.Calls
namespace Mine
section
variable {c : Cx} {n : Nat} {sc : Sc} {st : St}
theorem zip_reps {F F' : Heap} : ∀ {xs ys : List Value} {l1 l2 : List AV} (k : Nat) (Zs : List Addr), Reps c F xs l1 → Reps c F ys l2 → xs.length = ys.length → Zs.length = xs.length → Le F F' →
    (∀ (j : Nat) (T : Addr), Zs[j]? = some T → ∃ x y, xs[j]? = some x ∧ ys[j]? = some y ∧ IsPair F' T x y) → Reps c F' (Zs.map Value.ref) (List.zipWith (fun a b => AV.tup [a, b]) l1 l2)
  | [], ys, _, _, k, Zs, .nil, r2, h1, h2, hF, hZ => by
    have : Zs = [] := List.length_eq_zero_iff.mp h2
    subst this
    exact .nil
  | x :: xs, [], _, _, k, Zs, .cons r rs, r2, h1, h2, hF, hZ => by simp at h1
  | x :: xs, y :: ys, _, _, k, [], .cons r rs, r2, h1, h2, hF, hZ => by simp at h2
  | x :: xs, y :: ys, _, _, k, T :: Zs, .cons r rs, .cons q qs, h1, h2, hF, hZ => by
    obtain ⟨x', y', e1, e2, e3⟩ := hZ 0 T rfl
    simp at e1 e2
    subst e1 e2
    refine .cons (.tup (vs := [x, y]) ⟨_, e3, rfl, 0, rfl⟩ (.cons (r.le hF) (.cons (q.le hF) .nil))) (zip_reps k Zs rs qs (by simpa using h1) (by simpa using h2) hF fun j T' hj => ?_)
    obtain ⟨x', y', e1, e2, e3⟩ := hZ (j + 1) T' (by simpa using hj)
    exact ⟨x', y', by simpa using e1, by simpa using e2, e3⟩
/-- <a list>.extend(zip(<a tuple>, <a tuple>)) -/
theorem ExtZip_ {o e1 e2 : Expr} {zname ename : Str} {np cp apos pos : Pos} {K : AV → St → Prop} (hg : c.mg zname = none) (hv : c.mb zname = some (.type "zip")) (hen : ename = Str.ofString "extend")
    (h : Ev c n sc o st fun v st1 => ∃ a l0, v = .own a ∧ st1.ob a = some (.list l0) ∧ Ar c n sc cp [e1, e2] st1 fun vs st2 => ∃ l l1 l2, vs = [.tup l1, .tup l2] ∧ st2.ob a = some (.list l) ∧ l1.length = l2.length ∧ l.length + l1.length ≤ 1000000 ∧
      K .none ⟨st2.vars, st2.ob.set a (.list (l ++ List.zipWith (fun a b => .tup [a, b]) l1 l2))⟩)
    (hbase : ∀ env, attributeBase o ename env (eval o env) = eval o env := by intro _; rfl)
    (hfew : ∀ env, ((backTo pos (starEach [.Call (.Name zname np) [e1, e2] [] cp] env)).all (fun x => !x.1) && (backToKw pos (keywordEach [] env)).all (fun x => x.1.isSome)
      && decide (([.Call (.Name zname np) [e1, e2] [] cp] : List Expr).length + ([] : List Keyword).length + (if ([] : List Keyword).isEmpty then 0 else 1) < 30)) = true := by intro _; rfl)
    (hline : (apos.endLine == pos.line) = true := by rfl)
    (he : ∀ env, starEach [e1, e2] env = (false, eval e1 env) :: starEach [e2] env := by intro _; rfl)
    (hp : ∀ env, (backTo cp (starEach [e2] env)).any (·.1) = false := by intro _; rfl)
    (hl : sc.s.names.lookup zname = some .globalImplicit := by rfl) (hk : sc.s.kind = .function := by rfl) (hd : (zname == ("__debug__" : Str)) = false := by decide) :
    Ev c n sc (.Call (.Attribute o ename apos) [.Call (.Name zname np) [e1, e2] [] cp] [] pos) st K := by
  intro A env F s hR hE S Q E hQ
  subst hen
  refine wpAny_Call_method_late (hbase env) (hfew env) hline rfl (h A env F s hR hE S _ E fun F1 s1 x v st1 h1 o1 r1 => ?_)
  obtain ⟨a, l0, rfl, ha, h1⟩ := h1
  first | (obtain ⟨_, rfl⟩ := Rep.int' r1) | (obtain ⟨_, rfl⟩ := Rep.str' r1) | (obtain rfl := Rep.bool' r1) | (obtain rfl := Rep.own' r1) | (obtain rfl := Rep.none' r1) | (obtain rfl := Rep.raw' r1) | cases r1
  obtain ⟨g1, g2⟩ := (Rcv.list ha).get o1.sr.wf (.own a)
  refine ⟨"list", "list.extend", PySem.F.plainAttrs_list, PySem.F.slot_list_extend, PySem.F.type_list_extend, g1, g2, ?_⟩
  rw [show starEach [.Call (.Name zname np) [e1, e2] [] cp] env = (false, eval (.Call (.Name zname np) [e1, e2] [] cp) env) :: starEach [] env from rfl]
  show wpAny _ A (callWith pos (.builtin "list.extend") [.ref a] ((false, eval (.Call (.Name zname np) [e1, e2] [] cp) env) :: backTo pos (starEach [] env)) []) Q E s1
  refine callWith_builtin rfl (evalArgs_plain ?_)
  refine spliced_cons ((Call_ (Name_b (n := n) hg hv (K := fun v st2 => v = .raw (.type "zip") ∧ st2 = st1) ⟨rfl, rfl⟩ hl hk hd A env F1 s1 hR hE o1.sr _ E fun F2 s2 f v st2 h2 o2 r2 => ?_)))
  obtain ⟨rfl, rfl⟩ := h2
  first | (obtain ⟨_, rfl⟩ := Rep.int' r2) | (obtain ⟨_, rfl⟩ := Rep.str' r2) | (obtain rfl := Rep.bool' r2) | (obtain rfl := Rep.own' r2) | (obtain rfl := Rep.none' r2) | (obtain rfl := Rep.raw' r2) | cases r2
  refine PyProof.Rows.callWith_type1 (h1 A env F2 s2 hR hE o2.sr _ E fun F3 s3 xs vs st3 h3 o3 r3 => ?_) (he env) (hp env)
  obtain ⟨l, l1, l2, rfl, hal, hlen, hfit, hK⟩ := h3
  obtain ⟨y, z, rfl, q1, q2⟩ := reps2 r3
  cases q1 with
  | @tup b1 xs1 _ t1 u1 =>
  cases q2 with
  | @tup b2 xs2 _ t2 u2 =>
    obtain ⟨hFa, vs, hpl, hvs⟩ := o3.sr.wf.own _ _ hal
    have n1 := u1.length
    have n2 := u2.length
    have n3 := hvs.length
    have hne : ∀ {b : Addr} {ys : Array Value}, F3.IsTuple b ys → a ≠ b := by
      rintro b ys ⟨o, ho, _⟩ rfl
      rw [hFa] at ho; cases ho
    refine wpAny_mono (zip_extend hR.handled (isTuple_le o3.sr.wf.le t1) (isTuple_le o3.sr.wf.le t2) (by simp; omega) hpl ⟨hne t1, hne t2⟩ (by simp; omega) fun h' Ts k1 k2 k3 k4 => ?_) (fun z s4 hz => spliced_nil hz) fun _ _ e => e
    have hown : ∀ F', Le F3 F' → (∀ b o, b ≠ a → s3.heap.get? b = none → h'.get? b = some o → F'.get? b = some o) → OwnIs c F' h' a (.list (l ++ List.zipWith (fun a b => .tup [a, b]) l1 l2)) := fun F' hF hnew => by
      refine ⟨vs ++ Ts.map Value.ref, by simpa using k2, (hvs.le hF).append (zip_reps 0 Ts u1 u2 (by omega) (by simpa using k3) hF fun j T hj => ?_)⟩
      obtain ⟨e1, e2, x, y, e3, e4, e5⟩ := k4 j T hj
      exact ⟨x, y, by simpa using e3, by simpa using e4, hnew T _ e2 e1 e5⟩
    obtain ⟨F4, w1, w2, _⟩ := o3.sr.wf.put a (.list (l ++ List.zipWith (fun a b => .tup [a, b]) l1 l2)) h' s3.toks (.inl (by rw [hal]; simp)) (fun b o hb e => k1 b o hb e) hown
    exact hQ F4 _ _ _ _ hK (((o1.trans o2).trans o3).trans (o3.sr.lift w1 w2)) .none
end
end Mine
end
section
open PySem PySem.W PyProof.Rows PySem.Calls
namespace Mine
noncomputable abbrev V3 := _root_.Fin 3
noncomputable def fnames : List (Str × Nat) := [("is_variable", 4), ("variables", 5), ("parts", 6), ("filled", 9), ("followed", 10), ("is_within", 11), ("begun", 12), ("in_turn", 13), ("worked_out", 14), ("unified", 15), ("_law_taken", 18), ("_law_pattern", 19), ("_law_names", 20), ("_law_put", 21), ("_law_learnt", 22), ("_law_ways", 23), ("_law_is_by", 24), ("law", 25)]
noncomputable def bnames : List (Str × String) := [("len", "len"), ("sorted", "sorted"), ("abs", "abs"), ("sum", "sum")]
noncomputable def tnames : List (Str × String) := [("set", "set"), ("enumerate", "enumerate"), ("tuple", "tuple"), ("list", "list"), ("dict", "dict"), ("range", "range"), ("zip", "zip")]
noncomputable def smalls : List Tm := [.a, .b, .f .a, .g .a .b, .f .b, .g .b .a, .f (.f .a), .g .a .a]
/-- what the top holds -/
structure Gl (c : Cx) where
  ad : Nat → Addr
  fn : ∀ x i, (x, i) ∈ fnames → Gf c x i (ad i)
  bf : ∀ x id, (x, id) ∈ bnames → Gb c x id
  tf : ∀ x id, (x, id) ∈ tnames → Gt c x id
  sv : Value
  small : c.mg "_law_small" = some sv
  smallR : Rep c c.s0.heap sv (.tup (smalls.map Tm.av))
  mt : Tok
  most : c.mg "MOST_SIZE" = some (.int 10000 mt)
theorem Gl.f {c : Cx} (G : Gl c) (x : Str) (i : Nat) (h : (x, i) ∈ fnames := by decide +kernel) : Gf c x i (G.ad i) := G.fn x i h
theorem Gl.b {c : Cx} (G : Gl c) (x : Str) (id : String) (h : (x, id) ∈ bnames := by decide +kernel) : Gb c x id := G.bf x id h
theorem Gl.t {c : Cx} (G : Gl c) (x : Str) (id : String) (h : (x, id) ∈ tnames := by decide +kernel) : Gt c x id := G.tf x id h
/-! tables -/
noncomputable abbrev Tbl := List (V3 × Tm)
noncomputable def Tbl.get (T : Tbl) (i : V3) : Option Tm := (T.find? fun p => p.1 = i).map (·.2)
noncomputable def tav (T : Tbl) : List (Str × AV) := T.map fun p => (nm p.1, p.2.av)
theorem dget_tav (T : Tbl) (i : V3) : dget (tav T) (nm i) = (T.get i).map Tm.av := by
  induction T with
  | nil => rfl
  | cons p r ih =>
    obtain ⟨j, t⟩ := p
    unfold dget tav Tbl.get at *
    simp only [List.map_cons, List.find?_cons]
    by_cases h : j = i
    · simp [h]
    · have h' : nm j ≠ nm i := fun e => h (nm_inj e)
      simp [h, h']
      simpa using ih
noncomputable def Tbl.put (T : Tbl) (i : V3) (t : Tm) : Tbl := if T.any (fun p => p.1 = i) then T.map (fun p => if p.1 = i then (p.1, t) else p) else T ++ [(i, t)]
theorem dput_tav (T : Tbl) (i : V3) (t : Tm) : dput (tav T) (nm i) t.av = tav (T.put i t) := by
  have e : (tav T).any (fun p => p.1 = nm i) = T.any (fun p => p.1 = i) := by
    unfold tav
    rw [List.any_map]
    congr 1
    funext p
    simp only [Function.comp]
    by_cases h : p.1 = i
    · simp [h]
    · have h' : nm p.1 ≠ nm i := fun e => h (nm_inj e)
      simp [h, h']
  unfold dput Tbl.put
  rw [e]
  split
  · unfold tav
    rw [List.map_map, List.map_map]
    refine List.map_congr_left fun p _ => ?_
    simp only [Function.comp]
    by_cases h : p.1 = i
    · simp [h]
    · have h' : nm p.1 ≠ nm i := fun e => h (nm_inj e)
      simp [h, h']
  · unfold tav
    simp
namespace Tm
noncomputable def has (i : V3) : Tm → Bool
  | .v j => i == j
  | .f t => t.has i
  | .g t u => t.has i || u.has i
  | _ => false
noncomputable def fill (T : V3 → Option Tm) : Tm → Tm
  | .v i => (T i).getD (.v i)
  | .a => .a
  | .b => .b
  | .f t => .f (t.fill T)
  | .g t u => .g (t.fill T) (u.fill T)
theorem fill_kids (T : V3 → Option Tm) (t : Tm) (h : t.isV = false) : (t.fill T).hd = t.hd ∧ (t.fill T).kids = t.kids.map (fill T) := by
  cases t with
  | v i => cases h
  | a => exact ⟨rfl, rfl⟩
  | b => exact ⟨rfl, rfl⟩
  | f t => exact ⟨rfl, rfl⟩
  | g t u => exact ⟨rfl, rfl⟩
theorem pts_vars : ∀ (t : Tm) (i : V3), t.has i = true ↔ ∃ p ∈ t.pts, p.2 = .v i := by
  intro t i
  induction t with
  | v j =>
    constructor
    · intro h
      have e : i = j := beq_iff_eq.mp h
      subst e
      exact ⟨_, List.mem_singleton.mpr rfl, rfl⟩
    · rintro ⟨p, hp, e⟩
      have hp' := List.mem_singleton.mp hp
      subst hp'
      cases e
      exact beq_self_eq_true _
  | a =>
    constructor
    · intro h; cases h
    · rintro ⟨p, hp, e⟩
      have hp' := List.mem_singleton.mp hp
      subst hp'
      cases e
  | b =>
    constructor
    · intro h; cases h
    · rintro ⟨p, hp, e⟩
      have hp' := List.mem_singleton.mp hp
      subst hp'
      cases e
  | f t ih =>
    simp only [has, pts, ih, List.mem_cons, List.mem_map]
    constructor
    · rintro ⟨p, h1, h2⟩; exact ⟨_, .inr ⟨p, h1, rfl⟩, h2⟩
    · rintro ⟨p, rfl | ⟨q, h1, rfl⟩, h2⟩
      · cases h2
      · exact ⟨q, h1, h2⟩
  | g t u ih ih' =>
    simp only [has, pts, Bool.or_eq_true, ih, ih', List.mem_cons, List.mem_append, List.mem_map]
    constructor
    · rintro (⟨p, h1, h2⟩ | ⟨p, h1, h2⟩)
      · exact ⟨_, .inr (.inl ⟨p, h1, rfl⟩), h2⟩
      · exact ⟨_, .inr (.inr ⟨p, h1, rfl⟩), h2⟩
    · rintro ⟨p, rfl | ⟨q, h1, rfl⟩ | ⟨q, h1, rfl⟩, h2⟩
      · cases h2
      · exact .inl ⟨q, h1, h2⟩
      · exact .inr ⟨q, h1, h2⟩
end Tm
noncomputable def namesAV (p : V3 → Bool) : List AV := (inOrder p).map fun i => .str (nm i)
section
variable {c : Cx}
theorem variables_ (G : Gl c) (t : Tm) (n : Nat) (ob : Ob) (hn : t.dp ≤ n) (hs : t.size ≤ 4000) (hd : t.dp ≤ 100) : Fn c (n + 1) (.ref (G.ad 5)) [t.av] ob fun v ob' => v = .lst (namesAV fun i => t.has i) ∧ ob' = ob := by
  have hn1 : 1 ≤ n := Nat.le_trans t.dp_pos hn
  obtain ⟨m, rfl⟩ : ∃ m, n = m + 1 := ⟨n - 1, by omega⟩
  refine Fn_body (G.f "variables" 5).2 (by decide +kernel) rfl ?_
  refine Exs_cons (Ret_ (Call_b (G.b "sorted" "sorted").1 (G.b "sorted" "sorted").2 (Ar_cons (Call_t (G.t "set" "set").1 (G.t "set" "set").2 (Ar_cons (Comp_ (Call_fn (G.f "parts" 6).2 (G.f "parts" 6).1 (Ar_cons (Name_lc (v := t.av) (by rfl) (Ar_nil (Op.mono (parts_ (G.f "parts" 6) (G.t "enumerate" "enumerate") t (m + 1) _ (by omega) (by omega) (by omega)) ?_)))))))))))
  rintro v ob ⟨rfl, rfl⟩
  refine ⟨_, fun rest acc ob'' => ∃ ps qs, rest = qs.map pav ∧ acc = ((ps.filter fun p : List Int × Tm => p.2.isV).map fun p => AV.str p.2.hd) ∧ ps ++ qs = t.pts ∧ ob'' = ob, rfl, ?_, ⟨[], t.pts, rfl, rfl, rfl, rfl⟩, ?_, ?_⟩
  · have := t.pts_len
    simp [ptsAV, sizeLine_eq]; omega
  · rintro it rest acc ob'' ⟨ps, qs, q1, q2, q3, rfl⟩
    cases qs with
    | nil => cases q1
    | cons q qs =>
      cases q1
      refine B_pair ?_
      refine TVal_ (Call_fn (G.f "is_variable" 4).2 (G.f "is_variable" 4).1 (Ar_cons (Name_lc (v := q.2.av) (by rfl) (Ar_nil (Op.mono (is_variable_ (n := m) (G.f "is_variable" 4) (G.b "len" "len")) ?_)))))
      rintro v ob' ⟨rfl, rfl⟩
      refine ⟨_, rfl, ?_⟩
      split
      · rename_i hv
        refine Sub_ (Name_lc (v := q.2.av) (by rfl) (C_int ⟨subTy_tm _, O_hd ⟨ps ++ [q], qs, rfl, ?_, by simpa using q3, rfl⟩⟩))
        rw [q2]
        simp [hv]
      · rename_i hv
        refine ⟨ps ++ [q], qs, rfl, ?_, by simpa using q3, rfl⟩
        rw [q2]
        simp [hv]
  · rintro acc ob'' ⟨ps, qs, q1, q2, q3, rfl⟩
    have hq : qs = [] := by simpa using q1.symm
    subst hq
    rw [List.append_nil] at q3
    subst q3
    have e : acc = ((t.pts.filter fun p : List Int × Tm => p.2.isV).map fun p => p.2.hd).map AV.str := by rw [q2, List.map_map]; rfl
    rw [e]
    refine Ar_nil (O_set (.fr _) ?_ fun a ha => Ar_nil (O_sorted_set (p := fun i => t.has i) (Ob.set_get ..) (fun x => ?_) ⟨ob'', ⟨rfl, rfl⟩, fun b o hb => ?_⟩))
    · have h1 := t.pts_len
      have h2 := List.length_filter_le (fun p : List Int × Tm => p.2.isV) t.pts
      simp
      omega
    · rw [List.mem_map]
      constructor
      · rintro ⟨p, hp, rfl⟩
        rw [List.mem_filter] at hp
        obtain ⟨path, u⟩ := p
        obtain ⟨hp, hv⟩ := hp
        cases u with
        | v i => exact ⟨i, (t.pts_vars i).mpr ⟨_, hp, rfl⟩, rfl⟩
        | _ => cases hv
      · rintro ⟨i, hi, rfl⟩
        obtain ⟨p, hp, e⟩ := (t.pts_vars i).mp hi
        exact ⟨p, List.mem_filter.mpr ⟨hp, by rw [e]; rfl⟩, by rw [e]; rfl⟩
    · show Ob.set ob'' a _ b = some o
      rw [Ob.set_ne]
      · exact hb
      · rintro rfl
        exact nomatch ha.symm.trans hb
end
end Mine
end
section
open PySem PySem.W PyProof.Rows PySem.Calls
namespace Mine
theorem is_v {c : Cx} (G : Gl c) {t : Tm} {n : Nat} {ob : Ob} (hn : 1 ≤ n) {K : AV → Ob → Prop} (h : K (.bool t.isV) ob) : Fn c n (.ref (G.ad 4)) [t.av] ob K := by
  obtain ⟨m, rfl⟩ : ∃ m, n = m + 1 := ⟨n - 1, by omega⟩
  refine Op.mono (is_variable_ (n := m) (G.f "is_variable" 4) (G.b "len" "len")) ?_
  rintro v ob ⟨rfl, rfl⟩
  exact h
theorem fill_av (T : V3 → Option Tm) (t : Tm) (h : t.isV = false) : AV.tup ([AV.str t.hd] ++ t.kids.map fun k => (k.fill T).av) = (t.fill T).av := by
  rw [(t.fill T).av_eq, (t.fill_kids T h).1, (t.fill_kids T h).2, List.map_map]
  rfl
section
variable {c : Cx}
theorem filled_ (G : Gl c) : ∀ (t : Tm) (n : Nat) (ob : Ob) (d : AV) (T : Tbl), IsD ob d (tav T) → t.dp + 1 ≤ n → Fn c n (.ref (G.ad 9)) [t.av, d] ob fun v ob' => v = (t.fill T.get).av ∧ ob' = ob := by
  have main : ∀ (m : Nat) (t : Tm) (n : Nat) (ob : Ob) (d : AV) (T : Tbl), t.dp ≤ m → IsD ob d (tav T) → t.dp + 1 ≤ n → Fn c n (.ref (G.ad 9)) [t.av, d] ob fun v ob' => v = (t.fill T.get).av ∧ ob' = ob := by
    intro m
    induction m with
    | zero => intro t n ob d T h; have := t.dp_pos; omega
    | succ m ih =>
      intro t n ob d T hm hT hn
      obtain ⟨n, rfl⟩ : ∃ k, n = k + 1 := ⟨n - 1, by omega⟩
      have hn1 : 1 ≤ n := by have := t.dp_pos; omega
      refine Fn_body (G.f "filled" 9).2 (by decide +kernel) rfl ?_
      try (refine Exs_let ?_; intro KL)
      refine Exs_cons (If_ (TVal_ (Call_fn (G.f "is_variable" 4).2 (G.f "is_variable" 4).1 (Ar_cons (Name_lc (v := t.av) (by rfl) (Ar_nil (is_v G hn1 ⟨_, rfl, ?_⟩)))))))
      split
      · rename_i hv
        cases t with
        | v i =>
          refine Exs_cons (Ret_ (Meth_ PySem.F.plainAttrs_dict PySem.F.slot_dict_get PySem.F.type_dict_get (Name_lc (v := d) (by rfl) ⟨.dict hT, ?_⟩)))
          refine Ar_cons (Sub_ (Name_lc (v := (Tm.v i).av) (by rfl) (C_int ⟨subTy_tm _, O_hd ?_⟩)))
          refine Ar_cons (Name_lc (v := (Tm.v i).av) (by rfl) (Ar_nil (O_get2 (k := nm i) hT ⟨ob, ⟨?_, rfl⟩, fun _ _ h => h⟩)))
          rw [dget_tav]
          show ((T.get i).map Tm.av).getD (Tm.v i).av = ((T.get i).getD (.v i)).av
          cases T.get i <;> rfl
        | _ => cases hv
      · rename_i hv
        have hv' : t.isV = false := by simpa using hv
        refine Exs_nil ?_
        refine Exs_cons (Ret_ (BinOp_ (Tup_ (Ar_cons (Sub_ (Name_lc (v := t.av) (by rfl) (C_int ⟨subTy_tm _, O_hd (Ar_nil ⟨by first | exact le_line rfl | simp [sizeLine_eq], ?_⟩)⟩)))))))
        refine Call_t (G.t "tuple" "tuple").1 (G.t "tuple" "tuple").2 (Ar_cons (Comp_ (SubFrom1 (Name_lc (v := t.av) (by rfl) ⟨_, _, t.av_eq, ?_, ?_⟩))))
        · cases t <;> simp [Tm.kids]
        refine ⟨t.kids.map Tm.av, fun rest acc ob'' => ∃ ps qs, rest = qs.map Tm.av ∧ acc = ps.map (fun k => (k.fill T.get).av) ∧ ps ++ qs = t.kids ∧ ob'' = ob, rfl, ?_, ⟨[], t.kids, rfl, rfl, rfl, rfl⟩, ?_, ?_⟩
        · cases t <;> simp [Tm.kids, sizeLine_eq]
        · rintro it rest acc ob'' ⟨ps, qs, q1, q2, q3, rfl⟩
          cases qs with
          | nil => cases q1
          | cons q qs =>
            cases q1
            have hq := Tm.kids_dp (t := t) (k := q) (by rw [← q3]; simp)
            refine B_name ?_
            try (refine Exs_let ?_; intro KL)
            refine Call_fn (G.f "filled" 9).2 (G.f "filled" 9).1 (Ar_cons (Name_lc (v := q.av) (by rfl) (Ar_cons (Name_lc (v := d) (by rfl) (Ar_nil (Op.mono (ih q n _ d T (by omega) hT (by omega)) ?_))))))
            rintro v ob3 ⟨rfl, rfl⟩
            exact ⟨ps ++ [q], qs, rfl, by rw [q2]; simp, by simpa using q3, rfl⟩
        · rintro acc ob'' ⟨ps, qs, q1, q2, q3, rfl⟩
          have hq : qs = [] := by simpa using q1.symm
          subst hq
          rw [List.append_nil] at q3
          subst q3
          refine Ar_nil (O_tuple (.fr _) ?_ (O_addt ?_ ⟨_, ⟨?_, rfl⟩, fun _ _ h => h⟩))
          · rw [q2]; cases t <;> simp [Tm.kids]
          · rw [q2]; cases t <;> simp [Tm.kids]
          · rw [q2]
            exact fill_av T.get t hv'
  exact fun t n ob d T => main t.dp t n ob d T (Nat.le_refl _)
end
end Mine
end
section
open PySem PySem.W PyProof.Rows PySem.Calls
namespace Mine
/-- a table without cycles -/
noncomputable def Acy (T : Tbl) : Prop := ∃ r : V3 → Nat, (∀ i, r i < 2 ^ T.length) ∧ ∀ i t, T.get i = some t → ∀ j, t.has j = true → r j < r i
inductive Wk (T : Tbl) : Tm → Tm → Prop
  | refl (t : Tm) : Wk T t t
  | step {i : V3} {u w : Tm} : T.get i = some u → Wk T u w → Wk T (.v i) w
noncomputable def Free (T : Tbl) (t : Tm) : Prop := ∀ i, t = .v i → T.get i = none
theorem Wk.snoc {T : Tbl} {t : Tm} {i : V3} {u : Tm} (h : Wk T t (.v i)) (e : T.get i = some u) : Wk T t u := by
  generalize hx : Tm.v i = x at h
  induction h with
  | refl t => subst hx; exact .step e (.refl _)
  | step e2 _ ih => exact .step e2 (ih hx)
inductive Occ (T : Tbl) (i : V3) : Tm → Prop
  | here {t : Tm} : t.has i = true → Occ T i t
  | there {t : Tm} {j : V3} {u : Tm} : t.has j = true → T.get j = some u → Occ T i u → Occ T i t
noncomputable def mrank (r : V3 → Nat) : Tm → Nat
  | .v i => r i + 1
  | _ => 0
theorem IsD.ext {ob ob' : Ob} {d : AV} {l : List (Str × AV)} (h : IsD ob d l) (hk : ∀ b o, ob b = some o → ob' b = some o) : IsD ob' d l := by
  cases h with
  | fr l => exact .fr l
  | own h => exact .own (hk _ _ h)
section
variable {c : Cx}
theorem followed_ (G : Gl c) {t : Tm} {n : Nat} {ob : Ob} {d : AV} {T : Tbl} (hT : IsD ob d (tav T)) (ha : Acy T) (hn : 2 ≤ n) : Fn c n (.ref (G.ad 10)) [t.av, d] ob fun v ob' => ∃ u : Tm, v = u.av ∧ Wk T t u ∧ Free T u ∧ ob' = ob := by
  obtain ⟨n, rfl⟩ : ∃ k, n = k + 1 := ⟨n - 1, by omega⟩
  obtain ⟨r, _, hr⟩ := ha
  refine Fn_body (G.f "followed" 10).2 (by decide +kernel) rfl ?_
  try (refine Exs_let ?_; intro KL)
  refine Exs_cons (While_ (fun m st => ∃ p : Tm, st.vars "pattern" = some p.av ∧ st.vars "table" = some d ∧ st.ob = ob ∧ Wk T t p ∧ m = mrank r p) (mrank r t) ⟨t, rfl, rfl, rfl, .refl t, rfl⟩ ?_)
  rintro m st1 ⟨p, h1, h2, h3, h4, rfl⟩
  try (refine Exs_let ?_; intro KL)
  refine TAnd_ (TVal_ (Call_fn (G.f "is_variable" 4).2 (G.f "is_variable" 4).1 (Ar_cons (Name_lc (v := p.av) h1 (Ar_nil (is_v G (by omega) ⟨_, rfl, ?_⟩))))))
  split
  · rename_i hv
    cases p with
    | v i =>
      refine TCmp_ (Sub_ (Name_lc (v := (Tm.v i).av) h1 (C_int ⟨subTy_tm _, O_hd (Name_lc (v := d) h2 (O_in (k := nm i) (l := tav T) ?_ ⟨_, rfl, ?_⟩))⟩)))
      · show IsD st1.ob d _
        rw [h3]; exact hT
      rw [dget_tav]
      cases e : T.get i with
      | none =>
        rw [Option.map_none, Option.isSome_none, if_neg (by decide)]
        try (refine Exs_let ?_; intro KL)
        refine Exs_cons (Ret_ (Name_lc (v := (Tm.v i).av) h1 ⟨ob, ⟨_, rfl, h4, fun j hj => ?_, rfl⟩, fun b o hb => ?_⟩))
        · cases hj; exact e
        · show st1.ob b = _
          rw [h3]; exact hb
      | some u =>
        rw [Option.map_some, Option.isSome_some, if_pos rfl]
        try (refine Exs_let ?_; intro KL)
        refine Exs_cons (Asg_ (SubD_ (Name_lc (v := d) h2 (Sub_ (Name_lc (v := (Tm.v i).av) h1 (C_int ⟨subTy_tm _, O_hd ⟨⟨tav T, ?_⟩, O_getd (k := nm i) (v := u.av) (l := tav T) ?_ ?_ (Exs_nil ⟨mrank r u, ?_, u, rfl, h2, h3, h4.snoc e, rfl⟩)⟩⟩))))))
        · show IsD st1.ob d _
          rw [h3]; exact hT
        · show IsD st1.ob d _
          rw [h3]; exact hT
        · rw [dget_tav, e]; rfl
        · cases u with
          | v j => exact Nat.succ_lt_succ (hr i _ e j (beq_self_eq_true _))
          | _ => exact Nat.succ_pos _
    | _ => cases hv
  · rename_i hv
    rw [if_neg (by decide)]
    try (refine Exs_let ?_; intro KL)
    refine Exs_cons (Ret_ (Name_lc (v := p.av) h1 ⟨ob, ⟨_, rfl, h4, fun j hj => ?_, rfl⟩, fun b o hb => ?_⟩))
    · subst hj; exact absurd rfl hv
    · show st1.ob b = _
      rw [h3]; exact hb
end
end Mine
end
section
open PySem PySem.W PyProof.Rows PySem.Calls
namespace Mine
noncomputable def un (sl : List V3) : Nat := (inOrder fun i => !sl.contains i).length
theorem un_le (sl : List V3) : un sl ≤ 3 := by
  unfold un inOrder
  exact List.length_filter_le _ _
theorem un_snoc {sl : List V3} {j : V3} (h : sl.contains j = false) : un (sl ++ [j]) + 1 = un sl := by
  have e : ∀ i, (sl ++ [j]).contains i = (sl.contains i || i == j) := fun i => by
    rw [Bool.eq_iff_iff]
    simp
  unfold un inOrder
  simp only [e]
  generalize hp : (fun i => sl.contains i) = p
  have hpi : ∀ i, sl.contains i = p i := fun i => by rw [← hp]
  simp only [hpi] at h ⊢
  clear hp hpi e
  have : ∀ (a b d : Bool) (j : V3), [a, b, d].getD j.val true = false → ([0, 1, 2].filter fun i : V3 => !([a, b, d].getD i.val true || i == j)).length + 1 = ([0, 1, 2].filter fun i : V3 => ![a, b, d].getD i.val true).length := by decide
  have e2 : ∀ i : V3, [p 0, p 1, p 2].getD i.val true = p i := by
    intro i
    match i with
    | 0 => rfl
    | 1 => rfl
    | 2 => rfl
  have h3 := this (p 0) (p 1) (p 2) j (by rw [e2]; exact h)
  simp only [e2] at h3
  exact h3
noncomputable def small (u : Tm) : Prop := u.dp ≤ 40 ∧ u.size ≤ 4000
noncomputable def ob2 (ob : Ob) (w s : Addr) (X Y : AO) : Ob := fun b => if b = w then some X else if b = s then some Y else ob b
theorem ob2_set {ob : Ob} {w s : Addr} {X Y : AO} (h : w ≠ s) : (ob.set w X).set s Y = ob2 ob w s X Y := by
  funext b
  unfold Ob.set ob2
  by_cases h1 : b = w
  · subst h1; simp [h]
  · simp [h1]
theorem ob2_w {ob : Ob} {w s : Addr} {X Y : AO} : ob2 ob w s X Y w = some X := if_pos rfl
theorem ob2_s {ob : Ob} {w s : Addr} {X Y : AO} (h : w ≠ s) : ob2 ob w s X Y s = some Y := by
  unfold ob2
  rw [if_neg (Ne.symm h), if_pos rfl]
  try (refine Exs_let ?_; intro KL)
theorem ob2_setw {ob : Ob} {w s : Addr} {X Y X' : AO} : (ob2 ob w s X Y).set w X' = ob2 ob w s X' Y := by
  funext b
  unfold Ob.set ob2
  by_cases h1 : b = w <;> simp [h1]
theorem ob2_sets {ob : Ob} {w s : Addr} {X Y Y' : AO} (h : w ≠ s) : (ob2 ob w s X Y).set s Y' = ob2 ob w s X Y' := by
  funext b
  unfold Ob.set ob2
  by_cases h1 : b = w
  · subst h1; simp [h]
  · by_cases h2 : b = s
    · subst h2; simp [h1]
    · simp [h1, h2]
theorem ob2_ext {ob : Ob} {w s : Addr} {X Y : AO} (hw : ob w = none) (hs : ob s = none) : ∀ b o, ob b = some o → ob2 ob w s X Y b = some o := by
  intro b o hb
  unfold ob2
  rw [if_neg (by rintro rfl; rw [hw] at hb; cases hb), if_neg (by rintro rfl; rw [hs] at hb; cases hb)]
  exact hb
noncomputable def seenAV (sl : List V3) : List (Str × AV) := sl.map fun j => (nm j, .bool true)
theorem dget_seen (sl : List V3) (i : V3) : (dget (seenAV sl) (nm i)).isSome = sl.contains i := by
  induction sl with
  | nil => rfl
  | cons j r ih =>
    unfold dget seenAV at *
    simp only [List.map_cons, List.find?_cons, List.contains_cons]
    by_cases h : i = j
    · subst h; simp
    · have h' : nm j ≠ nm i := fun e => h (nm_inj e).symm
      have h2 : (i == j) = false := beq_eq_false_iff_ne.mpr h
      simp only [h', decide_false, h2, Bool.false_or]
      simpa using ih
theorem dput_seen {sl : List V3} {i : V3} (h : sl.contains i = false) : dput (seenAV sl) (nm i) (.bool true) = seenAV (sl ++ [i]) := by
  unfold dput
  rw [if_neg]
  try (refine Exs_let ?_; intro KL)
  · simp [seenAV]
  · intro hc
    unfold seenAV at hc
    rw [List.any_map, List.any_eq_true] at hc
    obtain ⟨j, hj, e⟩ := hc
    have e' : nm j = nm i := by simpa using e
    have : sl.contains i = true := by rw [List.contains_iff_mem, ← nm_inj e']; exact hj
    rw [h] at this
    cases this
/-- what a walk through a table keeps -/
structure WI (T : Tbl) (i : V3) (t : Tm) (wl : List Tm) (sl : List V3) (P : Tm → Prop) (cur : Tm → Prop) : Prop where
  yes : ∀ x, x ∈ wl → Occ T i x → Occ T i t
  done : ∀ x, P x → ∀ j, x.has j = true → j ≠ i ∧ (∀ u, T.get j = some u → sl.contains j = true)
  seen : ∀ j, sl.contains j = true → ∀ u, T.get j = some u → u ∈ wl ∨ P u ∨ cur u
  start : t ∈ wl ∨ P t ∨ cur t
  small : ∀ x, x ∈ wl → Mine.small x
section
variable {c : Cx}
theorem is_within_ (G : Gl c) {t : Tm} {i : V3} {n : Nat} {ob : Ob} {d : AV} {T : Tbl} (hT : IsD ob d (tav T)) (hs : small t) (hTs : ∀ j u, T.get j = some u → small u) (hn : 60 ≤ n) :
    Fn c n (.ref (G.ad 11)) [.str (nm i), t.av, d] ob fun v ob' => ∃ b : Bool, v = .bool b ∧ (b = true ↔ Occ T i t) ∧ ob' = ob := by
  obtain ⟨n, rfl⟩ : ∃ k, n = k + 1 := ⟨n - 1, by omega⟩
  refine Fn_body (G.f "is_within" 11).2 (by decide +kernel) rfl ?_
  try (refine Exs_let ?_; intro KL)
  refine Exs_cons (Asg2_ (Tup_ (Ar_cons (Lst_own (Ar_cons (Name_lc (v := t.av) (by rfl) (Ar_nil ⟨by first | exact le_line rfl | simp [sizeLine_eq], fun w hw => Ar_cons (Dct_own fun s hs' => Ar_nil ⟨by first | exact le_line rfl | simp [sizeLine_eq], _, _, rfl, ?_⟩)⟩)))))) (by decide) (some ["waiting", "seen"]) (by intro env h; unfold swappedStores Env.kindOf Env.blockKind; rw [h]; rfl) (.inr rfl))
  have hws : w ≠ s := by
    rintro rfl
    have : (ob.set w (.list [t.av])) w = none := hs'
    rw [Ob.set_get] at this
    cases this
  have hw0 : ob w = none := hw
  have hs0 : ob s = none := by
    have : (ob.set w (.list [t.av])) s = none := hs'
    rwa [Ob.set_ne _ _ (Ne.symm hws)] at this
  have hext : ∀ {X Y} b o, ob b = some o → ob2 ob w s X Y b = some o := fun b o => ob2_ext hw0 hs0 b o
  refine Exs_cons (While_ (fun m st => ∃ (wl : List Tm) (sl : List V3) (P : Tm → Prop), st.vars "name" = some (.str (nm i)) ∧ st.vars "table" = some d ∧ st.vars "waiting" = some (.own w) ∧ st.vars "seen" = some (.own s) ∧ st.ob = ob2 ob w s (.list (wl.map Tm.av)) (.dict (seenAV sl)) ∧ m = wl.length + un sl ∧ wl.length + un sl ≤ 4 ∧ sl.length + un sl = 3 ∧ WI T i t wl sl P fun _ => False)
    4 ⟨[t], [], fun _ => False, rfl, rfl, rfl, rfl, ob2_set hws, by show 4 = 1 + un []; decide, by show 1 + un [] ≤ 4; decide, by decide, fun x hx h => by simp at hx; subst hx; exact h, fun _ h => h.elim, fun j hj => by simp at hj, .inl (by simp), fun x hx => by simp at hx; subst hx; exact hs⟩ ?_)
  rintro m st1 ⟨wl, sl, P, v1, v2, v3, v4, v5, rfl, hm4, hsl3, I⟩
  try (refine Exs_let ?_; intro KL)
  refine TCmp_ (Call_b (G.b "len" "len").1 (G.b "len" "len").2 (Ar_cons (Name_lc (v := .own w) v3 (Ar_nil (O_len_lst (l := wl.map Tm.av) (.own (by show st1.ob w = _; rw [v5]; exact ob2_w)) (C_int (O_gti ⟨_, rfl, ?_⟩)) (by simp; omega))))))
  have hlt : decide ((0 : Int) < ((wl.map Tm.av).length : Nat)) = !wl.isEmpty := by cases wl <;> simp
  rw [hlt]
  rcases List.eq_nil_or_concat wl with rfl | ⟨wl, cur, rfl⟩
  · rw [if_neg (by decide)]
    try (refine Exs_let ?_; intro KL)
    refine Exs_cons (Ret_ (C_bool ⟨ob, ⟨_, rfl, ⟨(fun h => by cases h), fun h => ?_⟩, rfl⟩, fun b o hb => ?_⟩))
    · exfalso
      have key : ∀ x, Occ T i x → ¬ P x := by
        intro x hx
        induction hx with
        | here h => intro hp; exact (I.done _ hp _ h).1 rfl
        | @there x j u h e _ ih =>
          intro hp
          have h2 := (I.done _ hp _ h).2 u e
          rcases I.seen j h2 u e with h3 | h3 | h3
          · cases h3
          · exact ih h3
          · exact h3
      rcases I.start with h3 | h3 | h3
      · cases h3
      · exact key _ h h3
      · exact h3
    · show st1.ob b = _
      rw [v5]; exact hext b o hb
  · rw [List.concat_eq_append] at *
    rw [show (!(wl ++ [cur]).isEmpty) = true from by simp, if_pos rfl]
    try (refine Exs_let ?_; intro KL)
    have hcs : small cur := I.small cur (by simp)
    have hlen : (wl ++ [cur]).length = wl.length + 1 := by simp
    refine Exs_cons (For_ (Call_fn (G.f "variables" 5).2 (G.f "variables" 5).1 (Ar_cons (Meth0_ PySem.F.plainAttrs_list PySem.F.slot_list_pop PySem.F.type_list_pop (Name_lc (v := .own w) v3 ⟨.list (l := (wl ++ [cur]).map Tm.av) (by show st1.ob w = _; rw [v5]; exact ob2_w), O_pop (l := wl.map Tm.av) (v := cur.av) (by show st1.ob w = _; rw [v5, ob2_w]; simp) (by simp; omega) (Ar_nil (Op.mono (variables_ G cur (n - 1) _ (by have := hcs.1; omega) hcs.2 (by have := hcs.1; omega) |>.room (by omega)) ?_))⟩)))))
    rintro v ob' ⟨rfl, rfl⟩
    refine ⟨(inOrder fun j => cur.has j).map fun j => .str (nm j), fun items st => ∃ (js : List V3) (wl' : List Tm) (sl' : List V3), items = js.map (fun j => .str (nm j)) ∧ st.vars "name" = some (.str (nm i)) ∧ st.vars "table" = some d ∧ st.vars "waiting" = some (.own w) ∧ st.vars "seen" = some (.own s) ∧
      st.ob = ob2 ob w s (.list (wl'.map Tm.av)) (.dict (seenAV sl')) ∧ wl'.length + un sl' ≤ wl.length + un sl ∧ sl'.length + un sl' = 3 ∧ WI T i t wl' sl' P (fun x => x = cur) ∧ (∀ j ∈ js, cur.has j = true) ∧ (∀ j, cur.has j = true → j ∉ js → j ≠ i ∧ ∀ u, T.get j = some u → sl'.contains j = true), rfl, ?_, ?_, ?_⟩
    · refine ⟨_, wl, sl, rfl, v1, v2, v3, v4, ?_, Nat.le_refl _, hsl3, ⟨fun x hx => I.yes x (by simp [hx]), I.done, fun j hj u e => ?_, ?_, fun x hx => I.small x (by simp [hx])⟩, fun j hj => (inOrder_mem _ j).mp hj, fun j hj hn => absurd ((inOrder_mem _ j).mpr hj) hn⟩
      · show st1.ob.set w _ = _
        rw [v5, ob2_setw]
      · rcases I.seen j hj u e with h | h | h
        · simp at h
          rcases h with h | h
          · exact .inl h
          · exact .inr (.inr h)
        · exact .inr (.inl h)
        · exact h.elim
      · rcases I.start with h | h | h
        · simp at h
          rcases h with h | h
          · exact .inl h
          · exact .inr (.inr h)
        · exact .inr (.inl h)
        · exact h.elim
    · rintro it rest st2 ⟨js, wl', sl', e1, u1, u2, u3, u4, u5, u6, u9, J, u7, u8⟩
      try (refine Exs_let ?_; intro KL)
      cases js with
      | nil => cases e1
      | cons j js =>
        cases e1
        have hj := u7 j List.mem_cons_self
        refine B_name ?_
        try (refine Exs_let ?_; intro KL)
        refine Exs_cons (If_ (TCmp_ (Name_lc (v := .str (nm j)) (by rfl) (Name_lc (v := .str (nm i)) u1 (O_eqs ⟨_, rfl, ?_⟩)))))
        by_cases hji : j = i
        · subst hji
          rw [show (nm j == nm j) = true from beq_self_eq_true _, if_pos rfl]
          try (refine Exs_let ?_; intro KL)
          refine Exs_cons (Ret_ (C_bool ⟨ob, ⟨_, rfl, ⟨fun _ => ?_, fun _ => rfl⟩, rfl⟩, fun b o hb => ?_⟩))
          · exact I.yes cur (by simp) (.here hj)
          · show st2.ob b = _
            rw [u5]; exact hext b o hb
        · rw [show (nm j == nm i) = false from beq_eq_false_iff_ne.mpr fun e => hji (nm_inj e), if_neg (by decide)]
          try (refine Exs_let ?_; intro KL)
          refine Exs_nil ?_
          refine Exs_cons (If_ (TAnd_ (TCmp_ (Name_lc (v := .str (nm j)) (by rfl) (Name_lc (v := d) u2 (O_in (l := tav T) (hT.ext (by show ∀ b o, ob b = some o → st2.ob b = some o; rw [u5]; exact hext)) ⟨_, rfl, ?_⟩))))))
          rw [dget_tav]
          cases eT : T.get j with
          | none =>
            rw [Option.map_none, Option.isSome_none, if_neg (by decide), if_neg (by decide)]
            try (refine Exs_let ?_; intro KL)
            refine Exs_nil (Exs_nil ⟨js, wl', sl', rfl, u1, u2, u3, u4, u5, u6, u9, J, fun k hk => u7 k (List.mem_cons_of_mem _ hk), fun k hk hnk => ?_⟩)
            by_cases hkj : k = j
            · subst hkj; exact ⟨hji, fun u e => by rw [eT] at e; cases e⟩
            · exact u8 k hk (by simp [hkj, hnk])
          | some u =>
            rw [Option.map_some, Option.isSome_some, if_pos rfl]
            try (refine Exs_let ?_; intro KL)
            refine TCmp_ (Name_lc (v := .str (nm j)) (by rfl) (Name_lc (v := .own s) u4 (O_notin (l := seenAV sl') (.own (by show st2.ob s = _; rw [u5]; exact ob2_s hws)) ⟨_, rfl, ?_⟩)))
            rw [dget_seen]
            cases hsl : sl'.contains j with
            | true =>
              rw [Bool.not_true, if_neg (by decide)]
              try (refine Exs_let ?_; intro KL)
              refine Exs_nil (Exs_nil ⟨js, wl', sl', rfl, u1, u2, u3, u4, u5, u6, u9, J, fun k hk => u7 k (List.mem_cons_of_mem _ hk), fun k hk hnk => ?_⟩)
              by_cases hkj : k = j
              · subst hkj; exact ⟨hji, fun _ _ => hsl⟩
              · exact u8 k hk (by simp [hkj, hnk])
            | false =>
              rw [Bool.not_false, if_pos rfl]
              try (refine Exs_let ?_; intro KL)
              have hun := un_snoc hsl
              refine Exs_cons (Sub_set (C_bool (Name_lc (v := .own s) u4 (Name_lc (v := .str (nm j)) (by rfl) (O_setd (l := seenAV sl') (by show st2.ob s = _; rw [u5]; exact ob2_s hws) ?_ ?_)))))
              · refine Exs_cons (Expr_ (Meth_ PySem.F.plainAttrs_list PySem.F.slot_list_append PySem.F.type_list_append (Name_lc (v := .own w) u3 ⟨.list (l := wl'.map Tm.av) ?_, Ar_cons (SubD_ (Name_lc (v := d) u2 (Name_lc (v := .str (nm j)) (by rfl) ⟨⟨tav T, ?_⟩, O_getd (v := u.av) (l := tav T) ?_ ?_ (Ar_nil (O_append (l := wl'.map Tm.av) ?_ ?_ ⟨rfl, ?_⟩))⟩)))⟩)))
                · show st2.ob.set s _ w = _
                  rw [u5, ob2_sets hws]; exact ob2_w
                · refine hT.ext ?_
                  show ∀ b o, ob b = some o → st2.ob.set s _ b = some o
                  rw [u5, ob2_sets hws]; exact hext
                · refine hT.ext ?_
                  show ∀ b o, ob b = some o → st2.ob.set s _ b = some o
                  rw [u5, ob2_sets hws]; exact hext
                · rw [dget_tav, eT]; rfl
                · show st2.ob.set s _ w = _
                  rw [u5, ob2_sets hws]; exact ob2_w
                · have := un_le sl'
                  simp [sizeLine_eq]; omega
                · refine Exs_nil (Exs_nil ⟨js, wl' ++ [u], sl' ++ [j], rfl, u1, u2, u3, u4, ?_, by simp; omega, by simp; omega, ⟨?_, ?_, ?_, ?_, ?_⟩, fun k hk => u7 k (List.mem_cons_of_mem _ hk), fun k hk hnk => ?_⟩)
                  · show (st2.ob.set s _).set w _ = _
                    rw [u5, ob2_sets hws, ob2_setw, dput_seen hsl]
                    simp
                  · intro x hx hO
                    simp at hx
                    rcases hx with hx | rfl
                    · exact J.yes x hx hO
                    · exact I.yes cur (by simp) (.there hj eT hO)
                  · intro x hx k hk
                    obtain ⟨a1, a2⟩ := J.done x hx k hk
                    refine ⟨a1, fun u' e => ?_⟩
                    have := a2 u' e
                    simp at this ⊢
                    exact .inl this
                  · intro k hk u' e
                    have hk' : sl'.contains k = true ∨ k = j := by simpa using hk
                    rcases hk' with hk' | rfl
                    · rcases J.seen k hk' u' e with h | h
                      · exact .inl (by simp [h])
                      · exact .inr h
                    · rw [eT] at e; cases e
                      exact .inl (by simp)
                  · rcases J.start with h | h
                    · exact .inl (by simp [h])
                    · exact .inr h
                  · intro x hx
                    simp at hx
                    rcases hx with hx | rfl
                    · exact J.small x hx
                    · exact hTs j _ eT
                  · by_cases hkj : k = j
                    · subst hkj; exact ⟨hji, fun _ _ => by simp⟩
                    · obtain ⟨a1, a2⟩ := u8 k hk (by simp [hkj, hnk])
                      refine ⟨a1, fun u' e => ?_⟩
                      have := a2 u' e
                      simp at this ⊢
                      exact .inl this
              · simp [seenAV, sizeLine_eq]
                omega
    · rintro st2 ⟨js, wl', sl', e1, u1, u2, u3, u4, u5, u6, u9, J, u7, u8⟩
      try (refine Exs_let ?_; intro KL)
      have hjs : js = [] := by simpa using e1.symm
      subst hjs
      refine Exs_nil ⟨wl'.length + un sl', by simp; omega, wl', sl', fun x => P x ∨ x = cur, u1, u2, u3, u4, u5, rfl, by simp at hm4; omega, u9, ⟨J.yes, fun x hx k hk => ?_, fun k hk u e => ?_, ?_, J.small⟩⟩
      · rcases hx with hx | rfl
        · exact J.done x hx k hk
        · exact u8 k hk (by simp)
      · rcases J.seen k hk u e with h | h | h
        · exact .inl h
        · exact .inr (.inl (.inl h))
        · exact .inr (.inl (.inr h))
      · rcases J.start with h | h | h
        · exact .inl h
        · exact .inr (.inl (.inl h))
        · exact .inr (.inl (.inr h))
end
end Mine
end
section
open PySem PySem.W PyProof.Rows PySem.Calls
namespace Mine
noncomputable def pairAV (p : Tm × Tm) : AV := .tup [p.1.av, p.2.av]
noncomputable def optAV : Option Tbl → AV
  | none => .none
  | some T => .dct (tav T)
theorem put_new {T : Tbl} {i : V3} {t : Tm} (h : T.get i = none) : T.put i t = T ++ [(i, t)] := by
  unfold Tbl.put
  rw [if_neg]
  try (refine Exs_let ?_; intro KL)
  intro hc
  rw [List.any_eq_true] at hc
  obtain ⟨p, hp, e⟩ := hc
  unfold Tbl.get at h
  rw [Option.map_eq_none_iff, List.find?_eq_none] at h
  exact h p hp e
theorem zip_kids (a b : Tm) : List.zipWith (fun x y => AV.tup [x, y]) (a.kids.map Tm.av) (b.kids.map Tm.av) = (a.kids.zip b.kids).map pairAV := by
  cases a <;> cases b <;> rfl
section
variable {c : Cx}
theorem begun_ (G : Gl c) {one other : Tm} {n : Nat} {ob : Ob} (I : Nat → Tbl → List (Tm × Tm) → Prop) (Res : Option Tbl → Prop) (m0 : Nat) (h0 : I m0 [] [(one, other)])
    (hok : ∀ m T w, I m T w → Acy T ∧ (∀ j u, T.get j = some u → small u) ∧ (∀ p ∈ w, small p.1 ∧ small p.2) ∧ w.length ≤ 1000 ∧ T.length ≤ 3)
    (hsm : ∀ m T w p a, I m T (w ++ [p]) → (Wk T p.1 a ∨ Wk T p.2 a) → small a)
    (hvar : ∀ m T w p a b i t, I m T (w ++ [p]) → Wk T p.1 a → Wk T p.2 b → Free T a → Free T b → ((a = .v i ∧ b = t) ∨ (b = .v i ∧ a = t)) →
      (t = .v i → ∃ m', m' < m ∧ I m' T w) ∧ (t ≠ .v i → Occ T i t → Res none) ∧ (t ≠ .v i → ¬ Occ T i t → ∃ m', m' < m ∧ I m' (T ++ [(i, t)]) w))
    (hnon : ∀ m T w p a b, I m T (w ++ [p]) → Wk T p.1 a → Wk T p.2 b → a.isV = false → b.isV = false →
      ((a.hd ≠ b.hd ∨ a.kids.length ≠ b.kids.length) → Res none) ∧ (a.hd = b.hd → a.kids.length = b.kids.length → ∃ m', m' < m ∧ I m' T (w ++ a.kids.zip b.kids)))
    (hend : ∀ m T, I m T [] → Res (some T)) (hn : 70 ≤ n) :
    Fn c n (.ref (G.ad 12)) [one.av, other.av] ob fun v ob' => ∃ r, Res r ∧ v = optAV r ∧ ob' = ob := by
  obtain ⟨n, rfl⟩ : ∃ k, n = k + 1 := ⟨n - 1, by omega⟩
  refine Fn_body (G.f "begun" 12).2 (by decide +kernel) rfl ?_
  try (refine Exs_let ?_; intro KL)
  refine Exs_cons (Asg2_ ?_ (by decide) (some ["table", "waiting"]) (by intro env h; unfold swappedStores Env.kindOf Env.blockKind; rw [h]; rfl) (.inr rfl))
  refine Tup_ (Ar_cons (Dct_own fun d hd => ?_))
  refine Ar_cons (Lst_own (Ar_cons (Tup_ (Ar_cons (Name_lc (v := one.av) (by rfl) ?_)))))
  refine Ar_cons (Name_lc (v := other.av) (by rfl) (Ar_nil ⟨by first | exact le_line rfl | simp [sizeLine_eq], ?_⟩))
  refine Ar_nil ⟨by first | exact le_line rfl | simp [sizeLine_eq], fun w hw => Ar_nil ⟨by first | exact le_line rfl | simp [sizeLine_eq], _, _, rfl, ?_⟩⟩
  have hd0 : ob d = none := hd
  have hdw : d ≠ w := by
    rintro rfl
    have : (ob.set d (.dict [])) d = none := hw
    rw [Ob.set_get] at this
    cases this
  have hw0 : ob w = none := by
    have : (ob.set d (.dict [])) w = none := hw
    rwa [Ob.set_ne _ _ (Ne.symm hdw)] at this
  have hext : ∀ {X Y} b o, ob b = some o → ob2 ob d w X Y b = some o := fun b o => ob2_ext hd0 hw0 b o
  refine Exs_cons (While_ (fun m st => ∃ (T : Tbl) (wl : List (Tm × Tm)), st.vars "table" = some (.own d) ∧ st.vars "waiting" = some (.own w) ∧ st.ob = ob2 ob d w (.dict (tav T)) (.list (wl.map pairAV)) ∧ I m T wl)
    m0 ⟨[], [(one, other)], rfl, rfl, ob2_set hdw, h0⟩ ?_)
  rintro m st1 ⟨T, wl, v1, v2, v5, hI⟩
  try (refine Exs_let ?_; intro KL)
  obtain ⟨k1, k2, k3, k4, k5⟩ := hok _ _ _ hI
  refine TCmp_ (Call_b (G.b "len" "len").1 (G.b "len" "len").2 (Ar_cons (Name_lc (v := .own w) v2 (Ar_nil (O_len_lst (l := wl.map pairAV) (.own (by show st1.ob w = _; rw [v5]; exact ob2_s hdw)) (C_int (O_gti ⟨_, rfl, ?_⟩)) (by simp; omega))))))
  have hlt : decide ((0 : Int) < ((wl.map pairAV).length : Nat)) = !wl.isEmpty := by cases wl <;> simp
  rw [hlt]
  rcases List.eq_nil_or_concat wl with rfl | ⟨wl, p, rfl⟩
  · rw [if_neg (by decide)]
    try (refine Exs_let ?_; intro KL)
    refine Exs_cons (Ret_fzd (Name_lc (v := .own d) v1 ⟨d, tav T, rfl, ?_, ob, ⟨some T, hend _ _ hI, rfl, rfl⟩, fun b o hb => ?_⟩))
    · show st1.ob d = _
      rw [v5]; exact ob2_w
    · show (if b = d then none else st1.ob b) = _
      rw [if_neg (by rintro rfl; rw [hd0] at hb; cases hb), v5]
      exact hext b o hb
  · rw [List.concat_eq_append] at *
    rw [show (!(wl ++ [p]).isEmpty) = true from by simp, if_pos rfl]
    try (refine Exs_let ?_; intro KL)
    have hlen : (wl ++ [p]).length = wl.length + 1 := by simp
    refine Exs_cons (Asg2_ (Meth0_ PySem.F.plainAttrs_list PySem.F.slot_list_pop PySem.F.type_list_pop (Name_lc (v := .own w) v2 ⟨.list (l := (wl ++ [p]).map pairAV) (by show st1.ob w = _; rw [v5]; exact ob2_s hdw), O_pop (l := wl.map pairAV) (v := pairAV p) (by show st1.ob w = _; rw [v5, ob2_s hdw]; simp) (by simp; omega) ⟨p.1.av, p.2.av, rfl, ?_⟩⟩)) (by decide) none (by intro env h; rfl) (.inl rfl))
    have hob : st1.ob.set w (.list (wl.map pairAV)) = ob2 ob d w (.dict (tav T)) (.list (wl.map pairAV)) := by rw [v5, ob2_sets hdw]
    have hTD : IsD (st1.ob.set w (.list (wl.map pairAV))) (.own d) (tav T) := .own (by rw [hob]; exact ob2_w)
    refine Exs_cons (Asg2_ (Tup_ (Ar_cons (Call_fn (G.f "followed" 10).2 (G.f "followed" 10).1 (Ar_cons (Name_lc (v := p.1.av) (by rfl) (Ar_cons (Name_lc (v := .own d) v1 (Ar_nil (Op.mono (followed_ G hTD k1 (by omega)) ?_)))))))) ) (by decide) (some ["here", "there"]) (by intro env h; unfold swappedStores Env.kindOf Env.blockKind; rw [h]; rfl) (.inr rfl))
    rintro v ob1 ⟨a, rfl, wa, fa, rfl⟩
    refine Ar_cons (Call_fn (G.f "followed" 10).2 (G.f "followed" 10).1 (Ar_cons (Name_lc (v := p.2.av) (by rfl) (Ar_cons (Name_lc (v := .own d) v1 (Ar_nil (Op.mono (followed_ G hTD k1 (by omega)) ?_)))))))
    rintro v ob1 ⟨b, rfl, wb, fb, rfl⟩
    refine Ar_nil ⟨by first | exact le_line rfl | simp [sizeLine_eq], _, _, rfl, ?_⟩
    have sa := hsm _ _ _ _ a hI (.inl wa)
    have sb := hsm _ _ _ _ b hI (.inr wb)
    refine Exs_cons (Tr.mono (K := fun f st => f = .next ∧ ∃ hh tt : Tm, ((hh = a ∧ tt = b ∧ (b.isV = true → a.isV = true)) ∨ (hh = b ∧ tt = a ∧ b.isV = true)) ∧ st.vars "here" = some hh.av ∧ st.vars "there" = some tt.av ∧ st.vars "table" = some (.own d) ∧ st.vars "waiting" = some (.own w) ∧ st.ob = ob2 ob d w (.dict (tav T)) (.list (wl.map pairAV)))
      (If_ (TAnd_ (TVal_ (Call_fn (G.f "is_variable" 4).2 (G.f "is_variable" 4).1 (Ar_cons (Name_lc (v := b.av) (by rfl) (Ar_nil (is_v G (by omega) ⟨_, rfl, ?_⟩)))))))) ?_)
    · cases hb : b.isV with
      | false =>
        rw [if_neg (by decide), if_neg (by decide)]
        try (refine Exs_let ?_; intro KL)
        exact Exs_nil ⟨rfl, a, b, .inl ⟨rfl, rfl, fun h => by cases h⟩, rfl, rfl, v1, v2, hob⟩
      | true =>
        rw [if_pos rfl]
        try (refine Exs_let ?_; intro KL)
        refine TNot_ (TVal_ (Call_fn (G.f "is_variable" 4).2 (G.f "is_variable" 4).1 (Ar_cons (Name_lc (v := a.av) (by rfl) (Ar_nil (is_v G (by omega) ⟨_, rfl, ?_⟩))))))
        cases ha : a.isV with
        | true =>
          rw [Bool.not_true, if_neg (by decide)]
          try (refine Exs_let ?_; intro KL)
          exact Exs_nil ⟨rfl, a, b, .inl ⟨rfl, rfl, fun _ => rfl⟩, rfl, rfl, v1, v2, hob⟩
        | false =>
          rw [Bool.not_false, if_pos rfl]
          try (refine Exs_let ?_; intro KL)
          refine Exs_cons (Asg2_ (Tup_ (Ar_cons (Name_lc (v := b.av) (by rfl) (Ar_cons (Name_lc (v := a.av) (by rfl) (Ar_nil ⟨by first | exact le_line rfl | simp [sizeLine_eq], _, _, rfl, ?_⟩)))))) (by decide) (some ["here", "there"]) (by intro env h; unfold swappedStores Env.kindOf Env.blockKind; rw [h]; rfl) (.inr rfl))
          exact Exs_nil ⟨rfl, b, a, .inr ⟨rfl, rfl, rfl⟩, rfl, rfl, v1, v2, hob⟩
    rintro f st ⟨rfl, hh, tt, hc, u1, u2, u3, u4, u5⟩
    try (refine Exs_let ?_; intro KL)
    have shh : small hh := by rcases hc with ⟨rfl, rfl, _⟩ | ⟨rfl, rfl, _⟩ <;> assumption
    have stt : small tt := by rcases hc with ⟨rfl, rfl, _⟩ | ⟨rfl, rfl, _⟩ <;> assumption
    refine Exs_cons (If_ (TVal_ (Call_fn (G.f "is_variable" 4).2 (G.f "is_variable" 4).1 (Ar_cons (Name_lc (v := hh.av) u1 (Ar_nil (is_v G (by omega) ⟨_, rfl, ?_⟩)))))))
    cases hv : hh.isV with
    | true =>
      rw [if_pos rfl]
      try (refine Exs_let ?_; intro KL)
      obtain ⟨i, rfl⟩ : ∃ i, hh = .v i := by cases hh <;> first | exact ⟨_, rfl⟩ | cases hv
      obtain ⟨g1, g2, g3⟩ := hvar _ _ _ _ a b i tt hI wa wb fa fb (by rcases hc with ⟨e1, e2, _⟩ | ⟨e1, e2, _⟩; exact .inl ⟨e1.symm, e2.symm⟩; exact .inr ⟨e1.symm, e2.symm⟩)
      have hfree : T.get i = none := by rcases hc with ⟨e1, _, _⟩ | ⟨e1, _, _⟩; exact fa i e1.symm; exact fb i e1.symm
      refine Exs_cons (If_ (TAnd_ (TCmp_ (Name_lc (v := (Tm.v i).av) u1 (Name_lc (v := tt.av) u2 (O_net ⟨_, rfl, ?_⟩ (by have := shh.1; omega)))))))
      by_cases he : tt = .v i
      · subst he
        rw [decide_eq_true rfl, Bool.not_true, if_neg (by decide), if_neg (by decide)]
        try (refine Exs_let ?_; intro KL)
        refine Exs_nil (Exs_cons (If_ (TCmp_ (Name_lc (v := (Tm.v i).av) u1 (Name_lc (v := (Tm.v i).av) u2 (O_net ⟨_, rfl, ?_⟩ (by have := shh.1; omega)))))))
        rw [decide_eq_true rfl, Bool.not_true, if_neg (by decide)]
        try (refine Exs_let ?_; intro KL)
        obtain ⟨m', h1, h2⟩ := g1 rfl
        exact Exs_nil (Exs_nil (Exs_nil ⟨m', h1, T, wl, u3, u4, u5, h2⟩))
      · have he' : Tm.v i ≠ tt := fun e => he e.symm
        rw [decide_eq_false he', Bool.not_false, if_pos rfl]
        try (refine Exs_let ?_; intro KL)
        have hTD' : IsD st.ob (.own d) (tav T) := .own (by rw [u5]; exact ob2_w)
        refine TVal_ (Call_fn (G.f "is_within" 11).2 (G.f "is_within" 11).1 (Ar_cons (Sub_ (Name_lc (v := (Tm.v i).av) u1 (C_int ⟨subTy_tm _, O_hd (Ar_cons (Name_lc (v := tt.av) u2 (Ar_cons (Name_lc (v := .own d) u3 (Ar_nil (Op.mono (is_within_ G (i := i) hTD' stt k2 (by omega)) ?_))))))⟩)))))
        rintro v ob1 ⟨q, rfl, hq, rfl⟩
        refine ⟨q, rfl, ?_⟩
        cases q with
        | true =>
          rw [if_pos rfl]
          try (refine Exs_let ?_; intro KL)
          refine Exs_cons (Ret_ (C_none ⟨ob, ⟨none, g2 he (hq.mp rfl), rfl, rfl⟩, fun b o hb => ?_⟩))
          show st.ob b = _
          rw [u5]; exact hext b o hb
        | false =>
          rw [if_neg (by decide)]
          try (refine Exs_let ?_; intro KL)
          have hno : ¬ Occ T i tt := fun h => by have := hq.mpr h; cases this
          refine Exs_nil (Exs_cons (If_ (TCmp_ (Name_lc (v := (Tm.v i).av) u1 (Name_lc (v := tt.av) u2 (O_net ⟨_, rfl, ?_⟩ (by have := shh.1; omega)))))))
          rw [decide_eq_false he', Bool.not_false, if_pos rfl]
          try (refine Exs_let ?_; intro KL)
          obtain ⟨m', h1, h2⟩ := g3 he hno
          refine Exs_cons (Sub_set (Name_lc (v := tt.av) u2 (Name_lc (v := .own d) u3 (Sub_ (Name_lc (v := (Tm.v i).av) u1 (C_int ⟨subTy_tm _, O_hd (O_setd (k := nm i) (l := tav T) ?_ ?_ ?_)⟩))))))
          · show st.ob d = _
            rw [u5]; exact ob2_w
          · refine Exs_nil (Exs_nil (Exs_nil ⟨m', h1, T ++ [(i, tt)], wl, u3, u4, ?_, h2⟩))
            show st.ob.set d _ = _
            rw [u5, ob2_setw, dput_tav, put_new hfree]
          · simp [tav, sizeLine_eq]; omega
    | false =>
      rw [if_neg (by decide)]
      try (refine Exs_let ?_; intro KL)
      have hva : a.isV = false ∧ b.isV = false := by
        rcases hc with ⟨rfl, rfl, h3⟩ | ⟨rfl, rfl, h3⟩
        · refine ⟨hv, ?_⟩
          cases hb : tt.isV with
          | false => rfl
          | true => rw [h3 hb] at hv; cases hv
        · rw [h3] at hv; cases hv
      obtain ⟨rfl, rfl⟩ : hh = a ∧ tt = b := by
        rcases hc with ⟨rfl, rfl, h3⟩ | ⟨rfl, rfl, h3⟩
        · exact ⟨rfl, rfl⟩
        · rw [hva.2] at h3; cases h3
      obtain ⟨g1, g2⟩ := hnon _ _ _ _ hh tt hI wa wb hva.1 hva.2
      refine Exs_cons (If_ (TOr_ (TCmp_ (Sub_ (Name_lc (v := hh.av) u1 (C_int ⟨subTy_tm _, O_hd (Sub_ (Name_lc (v := tt.av) u2 (C_int ⟨subTy_tm _, O_hd (O_nes ⟨_, rfl, ?_⟩)⟩)))⟩))))))
      cases hhd : hh.hd != tt.hd with
      | true =>
        rw [if_pos rfl, if_pos rfl]
        try (refine Exs_let ?_; intro KL)
        refine Exs_cons (Ret_ (C_none ⟨ob, ⟨none, g1 (.inl (by simpa using hhd)), rfl, rfl⟩, fun b o hb => ?_⟩))
        show st.ob b = _
        rw [u5]; exact hext b o hb
      | false =>
        rw [if_neg (by decide)]
        try (refine Exs_let ?_; intro KL)
        refine TCmp_ (Call_b (G.b "len" "len").1 (G.b "len" "len").2 (Ar_cons (Name_lc (v := hh.av) u1 (Ar_nil (O_len_tm (Call_b (G.b "len" "len").1 (G.b "len" "len").2 (Ar_cons (Name_lc (v := tt.av) u2 (Ar_nil (O_len_tm (O_nei ⟨_, rfl, ?_⟩)))))))))))
        have hhd' : hh.hd = tt.hd := by simpa using hhd
        by_cases hkl : hh.kids.length = tt.kids.length
        · rw [show (((hh.kids.length + 1 : Nat) : Int) != ((tt.kids.length + 1 : Nat) : Int)) = false from by simp [hkl], if_neg (by decide)]
          try (refine Exs_let ?_; intro KL)
          obtain ⟨m', h1, h2⟩ := g2 hhd' hkl
          refine Exs_cons (Expr_ (ExtZip_ (G.t "zip" "zip").1 (G.t "zip" "zip").2 rfl (Name_lc (v := .own w) u4 ⟨w, wl.map pairAV, rfl, ?_, ?_⟩)))
          · show st.ob w = _
            rw [u5]; exact ob2_s hdw
          refine Ar_cons (SubFrom1 (Name_lc (v := hh.av) u1 ⟨_, _, hh.av_eq, ?_, ?_⟩))
          · cases hh <;> simp [Tm.kids]
          refine Ar_cons (SubFrom1 (Name_lc (v := tt.av) u2 ⟨_, _, tt.av_eq, ?_, ?_⟩))
          · cases tt <;> simp [Tm.kids]
          refine Ar_nil ⟨wl.map pairAV, _, _, rfl, ?_, ?_, ?_, rfl, ?_⟩
          · show st.ob w = _
            rw [u5]; exact ob2_s hdw
          · simp [hkl]
          · have : hh.kids.length ≤ 2 := by cases hh <;> simp [Tm.kids]
            simp
            omega
          · refine Exs_nil (Exs_nil (Exs_nil ⟨m', h1, T, wl ++ hh.kids.zip tt.kids, u3, u4, ?_, h2⟩))
            show st.ob.set w _ = _
            rw [u5, ob2_sets hdw, zip_kids]
            simp
        · rw [show (((hh.kids.length + 1 : Nat) : Int) != ((tt.kids.length + 1 : Nat) : Int)) = true from by simp; omega, if_pos rfl]
          refine Exs_cons (Ret_ (C_none ⟨ob, ⟨none, g1 (.inr hkl), rfl, rfl⟩, fun b o hb => ?_⟩))
          show st.ob b = _
          rw [u5]; exact hext b o hb
end
end Mine
end
section
open PySem PySem.W PyProof.Rows PySem.Calls
namespace Mine
noncomputable def itemAV (p : V3 × Bool) : AV := .tup [.str (nm p.1), .bool p.2]
noncomputable def addTo (fl : List V3) (i : V3) : List V3 := if fl.contains i then fl else fl ++ [i]
theorem dput_add (fl : List V3) (i : V3) : dput (seenAV fl) (nm i) (.bool true) = seenAV (addTo fl i) := by
  unfold addTo
  cases h : fl.contains i with
  | false => rw [if_neg (by decide)]; exact dput_seen h
  | true =>
    rw [if_pos rfl]
    try (refine Exs_let ?_; intro KL)
    unfold dput
    rw [if_pos]
    try (refine Exs_let ?_; intro KL)
    · unfold seenAV
      rw [List.map_map]
      refine List.map_congr_left fun j _ => ?_
      simp only [Function.comp]
      split <;> rfl
    · unfold seenAV
      rw [List.any_map, List.any_eq_true]
      exact ⟨i, List.contains_iff_mem.mp h, by simp⟩
theorem tav_keys (T : Tbl) (x : Str) : x ∈ (tav T).map (·.1) ↔ ∃ i, (T.get i).isSome = true ∧ x = nm i := by
  unfold tav Tbl.get
  rw [List.map_map, List.mem_map]
  constructor
  · rintro ⟨p, hp, rfl⟩
    refine ⟨p.1, ?_, rfl⟩
    rw [Option.isSome_map, List.find?_isSome]
    exact ⟨p, hp, by simp⟩
  · rintro ⟨i, hi, rfl⟩
    rw [Option.isSome_map, List.find?_isSome] at hi
    obtain ⟨p, hp, e⟩ := hi
    have e' : p.1 = i := by simpa using e
    exact ⟨p, hp, by simp [e']⟩
theorem tav_nodup {T : Tbl} (h : (T.map (·.1)).Nodup) : ((tav T).map (·.1)).Nodup := by
  unfold tav
  rw [List.map_map]
  have e : (fun p : Str × AV => p.1) ∘ (fun p : V3 × Tm => (nm p.1, p.2.av)) = nm ∘ fun p => p.1 := rfl
  rw [e, ← List.map_map]
  exact List.Pairwise.map _ (fun a b h e => h (nm_inj e)) h
section
variable {c : Cx}
theorem in_turn_ (G : Gl c) {n : Nat} {ob : Ob} {d : AV} {T : Tbl} (hT : IsD ob d (tav T)) (hnd : (T.map (·.1)).Nodup) (I : Nat → List V3 → List (V3 × Bool) → Prop) (Res : List V3 → Prop) (m0 : Nat) (h0 : I m0 [] ((inOrder fun i => (T.get i).isSome).map fun i => (i, false)))
    (hok : ∀ m fl wl, I m fl wl → wl.length ≤ 100000 ∧ fl.length ≤ 1000 ∧ ∀ p ∈ wl, ∃ t, T.get p.1 = some t ∧ small t)
    (hYes : ∀ m fl wl i, I m fl (wl ++ [(i, true)]) → ∃ m', m' < m ∧ I m' (addTo fl i) wl)
    (hOld : ∀ m fl wl i, I m fl (wl ++ [(i, false)]) → fl.contains i = true → ∃ m', m' < m ∧ I m' fl wl)
    (hNew : ∀ m fl wl i t, I m fl (wl ++ [(i, false)]) → fl.contains i = false → T.get i = some t → ∃ m', m' < m ∧ I m' fl (wl ++ [(i, true)] ++ (inOrder fun j => t.has j && (T.get j).isSome).map fun j => (j, false)))
    (hend : ∀ m fl, I m fl [] → Res fl) (hn : 70 ≤ n) :
    Fn c n (.ref (G.ad 13)) [d] ob fun v ob' => ∃ fl, Res fl ∧ v = .lst (fl.map fun i => .str (nm i)) ∧ ob' = ob := by
  obtain ⟨n, rfl⟩ : ∃ k, n = k + 1 := ⟨n - 1, by omega⟩
  refine Fn_body (G.f "in_turn" 13).2 (by decide +kernel) rfl ?_
  try (refine Exs_let ?_; intro KL)
  refine Exs_cons (Asg2_ ?_ (by decide) (some ["found", "waiting"]) (by intro env h; unfold swappedStores Env.kindOf Env.blockKind; rw [h]; rfl) (.inr rfl))
  refine Tup_ (Ar_cons (Dct_own fun f hf => ?_))
  have hf0 : ob f = none := hf
  have hTf : IsD (ob.set f (.dict [])) d (tav T) := hT.ext fun b o hb => by rw [Ob.set_ne _ _ (by rintro rfl; rw [hf0] at hb; cases hb)]; exact hb
  refine Ar_cons (CompOwn_ (Call_b (G.b "sorted" "sorted").1 (G.b "sorted" "sorted").2 (Ar_cons (Name_lc (v := d) (by rfl) (Ar_nil (O_sorted_dict (l := tav T) (p := fun i => (T.get i).isSome) hTf (tav_nodup hnd) (tav_keys T) ?_))))))
  refine ⟨_, fun rest acc ob'' => ∃ ps qs : List V3, rest = qs.map (fun i => .str (nm i)) ∧ acc = ps.map (fun i => itemAV (i, false)) ∧ ps ++ qs = (inOrder fun i => (T.get i).isSome) ∧ ob'' = ob.set f (.dict []), rfl, ?_, ⟨[], _, rfl, rfl, rfl, rfl⟩, ?_, ?_⟩
  · have : (inOrder fun i => (T.get i).isSome).length ≤ 3 := by unfold inOrder; exact List.length_filter_le _ _
    simp [sizeLine_eq]; omega
  · rintro it rest acc ob'' ⟨ps, qs, q1, q2, q3, rfl⟩
    cases qs with
    | nil => cases q1
    | cons q qs =>
      cases q1
      refine B_name ?_
      try (refine Exs_let ?_; intro KL)
      refine Tup_ (Ar_cons (Name_lc (v := .str (nm q)) (by rfl) (Ar_cons (C_bool (Ar_nil ⟨by first | exact le_line rfl | simp [sizeLine_eq], ps ++ [q], qs, rfl, ?_, by simpa using q3, rfl⟩)))))
      rw [q2]
      simp [itemAV]
  rintro acc ob'' ⟨ps, qs, q1, q2, q3, rfl⟩
  have hq : qs = [] := by simpa using q1.symm
  subst hq
  rw [List.append_nil] at q3
  subst q3
  refine ⟨acc, rfl, fun w hw => Ar_nil ⟨by first | exact le_line rfl | simp [sizeLine_eq], _, _, rfl, ?_⟩⟩
  have hfw : f ≠ w := by
    rintro rfl
    rw [Ob.set_get] at hw
    cases hw
  have hw0 : ob w = none := by rwa [Ob.set_ne _ _ (Ne.symm hfw)] at hw
  have hext : ∀ {X Y} b o, ob b = some o → ob2 ob f w X Y b = some o := fun b o => ob2_ext hf0 hw0 b o
  refine Exs_cons (While_ (fun m st => ∃ (fl : List V3) (wl : List (V3 × Bool)), st.vars "table" = some d ∧ st.vars "found" = some (.own f) ∧ st.vars "waiting" = some (.own w) ∧ st.ob = ob2 ob f w (.dict (seenAV fl)) (.list (wl.map itemAV)) ∧ I m fl wl)
    m0 ⟨[], _, rfl, rfl, rfl, ?_, h0⟩ ?_)
  · show (ob.set f (.dict [])).set w _ = _
    rw [ob2_set hfw, q2]
    unfold seenAV
    rw [List.map_map]
    rfl
  rintro m st1 ⟨fl, wl, v1, v2, v3, v5, hI⟩
  try (refine Exs_let ?_; intro KL)
  obtain ⟨k1, k2, k3⟩ := hok _ _ _ hI
  have hTD : ∀ {X Y}, IsD (ob2 ob f w X Y) d (tav T) := hT.ext hext
  refine TCmp_ (Call_b (G.b "len" "len").1 (G.b "len" "len").2 (Ar_cons (Name_lc (v := .own w) v3 (Ar_nil (O_len_lst (l := wl.map itemAV) (.own (by show st1.ob w = _; rw [v5]; exact ob2_s hfw)) (C_int (O_gti ⟨_, rfl, ?_⟩)) (by simp; omega))))))
  have hlt : decide ((0 : Int) < ((wl.map itemAV).length : Nat)) = !wl.isEmpty := by cases wl <;> simp
  rw [hlt]
  rcases List.eq_nil_or_concat wl with rfl | ⟨wl, p, rfl⟩
  · rw [if_neg (by decide)]
    try (refine Exs_let ?_; intro KL)
    refine Exs_cons (Ret_ (Call_t (G.t "list" "list").1 (G.t "list" "list").2 (Ar_cons (Name_lc (v := .own f) v2 (Ar_nil (O_list_dict (l := seenAV fl) (.own (by show st1.ob f = _; rw [v5]; exact ob2_w)) (by simp [seenAV]; omega) ⟨ob, ⟨fl, hend _ _ hI, ?_, rfl⟩, fun b o hb => ?_⟩))))))
    · show AV.lst _ = _
      unfold seenAV
      rw [List.map_map]
      rfl
    · show st1.ob b = _
      rw [v5]; exact hext b o hb
  · rw [List.concat_eq_append] at *
    rw [show (!(wl ++ [p]).isEmpty) = true from by simp, if_pos rfl]
    try (refine Exs_let ?_; intro KL)
    have hlen : (wl ++ [p]).length = wl.length + 1 := by simp
    obtain ⟨i, q⟩ := p
    obtain ⟨t, ht, hst⟩ := k3 (i, q) (by simp)
    refine Exs_cons (Asg2_ (Meth0_ PySem.F.plainAttrs_list PySem.F.slot_list_pop PySem.F.type_list_pop (Name_lc (v := .own w) v3 ⟨.list (l := (wl ++ [(i, q)]).map itemAV) (by show st1.ob w = _; rw [v5]; exact ob2_s hfw), O_pop (l := wl.map itemAV) (v := itemAV (i, q)) (by show st1.ob w = _; rw [v5, ob2_s hfw]; simp) (by simp; omega) ⟨.str (nm i), .bool q, rfl, ?_⟩⟩)) (by decide) none (by intro env h; rfl) (.inl rfl))
    have hob : st1.ob.set w (.list (wl.map itemAV)) = ob2 ob f w (.dict (seenAV fl)) (.list (wl.map itemAV)) := by rw [v5, ob2_sets hfw]
    refine Exs_cons (If_ (TVal_ (Name_lc (v := .bool q) (by rfl) ⟨_, rfl, ?_⟩)))
    cases q with
    | true =>
      rw [if_pos rfl]
      try (refine Exs_let ?_; intro KL)
      obtain ⟨m', h1, h2⟩ := hYes _ _ _ _ hI
      refine Exs_cons (Sub_set (C_bool (Name_lc (v := .own f) v2 (Name_lc (v := .str (nm i)) (by rfl) (O_setd (l := seenAV fl) ?_ ?_ ?_)))))
      · show st1.ob.set w _ f = _
        rw [hob]; exact ob2_w
      · refine Exs_nil (Exs_nil ⟨m', h1, addTo fl i, wl, v1, v2, v3, ?_, h2⟩)
        show (st1.ob.set w _).set f _ = _
        rw [hob, ob2_setw, dput_add]
      · simp [seenAV, sizeLine_eq]; omega
    | false =>
      rw [if_neg (by decide)]
      try (refine Exs_let ?_; intro KL)
      refine Exs_cons (If_ (TCmp_ (Name_lc (v := .str (nm i)) (by rfl) (Name_lc (v := .own f) v2 (O_notin (l := seenAV fl) (.own (by show st1.ob.set w _ f = _; rw [hob]; exact ob2_w)) ⟨_, rfl, ?_⟩)))))
      rw [dget_seen]
      cases hfl : fl.contains i with
      | true =>
        rw [Bool.not_true, if_neg (by decide)]
        try (refine Exs_let ?_; intro KL)
        obtain ⟨m', h1, h2⟩ := hOld _ _ _ _ hI hfl
        exact Exs_nil (Exs_nil (Exs_nil ⟨m', h1, fl, wl, v1, v2, v3, hob, h2⟩))
      | false =>
        rw [Bool.not_false, if_pos rfl]
        try (refine Exs_let ?_; intro KL)
        obtain ⟨m', h1, h2⟩ := hNew _ _ _ _ t hI hfl ht
        refine Exs_cons (Expr_ (Meth_ PySem.F.plainAttrs_list PySem.F.slot_list_append PySem.F.type_list_append (Name_lc (v := .own w) v3 ⟨.list (l := wl.map itemAV) ?_, ?_⟩)))
        · show st1.ob.set w _ w = _
          rw [hob]; exact ob2_s hfw
        refine Ar_cons (Tup_ (Ar_cons (Name_lc (v := .str (nm i)) (by rfl) (Ar_cons (C_bool (Ar_nil ⟨by first | exact le_line rfl | simp [sizeLine_eq], Ar_nil (O_append (l := wl.map itemAV) ?_ ?_ ⟨rfl, ?_⟩)⟩))))))
        · show st1.ob.set w _ w = _
          rw [hob]; exact ob2_s hfw
        · simp [sizeLine_eq]; omega
        have hob2 : (st1.ob.set w (.list (wl.map itemAV))).set w (.list (wl.map itemAV ++ [itemAV (i, true)])) = ob2 ob f w (.dict (seenAV fl)) (.list ((wl ++ [(i, true)]).map itemAV)) := by
          rw [hob, ob2_sets hfw]; simp
        refine Exs_cons (Expr_ (Meth_ PySem.F.plainAttrs_list PySem.F.slot_list_extend PySem.F.type_list_extend (Name_lc (v := .own w) v3 ⟨.list (l := (wl ++ [(i, true)]).map itemAV) ?_, ?_⟩)))
        · show (st1.ob.set w _).set w (.list (wl.map itemAV ++ [itemAV (i, true)])) w = _
          rw [hob2]; exact ob2_s hfw
        refine Ar_cons (Comp_ (Call_fn (G.f "variables" 5).2 (G.f "variables" 5).1 (Ar_cons (SubD_ (Name_lc (v := d) v1 (Name_lc (v := .str (nm i)) (by rfl) ⟨⟨tav T, ?_⟩, O_getd (v := t.av) (l := tav T) ?_ ?_ (Ar_nil (Op.mono (variables_ G t (n - 1) _ (by have := hst.1; omega) hst.2 (by have := hst.1; omega) |>.room (by omega)) ?_))⟩))))))
        · show IsD ((st1.ob.set w _).set w (.list (wl.map itemAV ++ [itemAV (i, true)]))) d _
          rw [hob2]; exact hTD
        · show IsD ((st1.ob.set w _).set w (.list (wl.map itemAV ++ [itemAV (i, true)]))) d _
          rw [hob2]; exact hTD
        · rw [dget_tav, ht]; rfl
        rintro v ob1 ⟨rfl, e1⟩
        have e1 : ob1 = ob2 ob f w (.dict (seenAV fl)) (.list ((wl ++ [(i, true)]).map itemAV)) := e1.trans hob2
        subst e1
        refine ⟨(inOrder fun j => t.has j).map fun j => .str (nm j), fun rest acc ob'' => ∃ ps qs : List V3, rest = qs.map (fun i => .str (nm i)) ∧ acc = (ps.filter fun j => (T.get j).isSome).map (fun i => itemAV (i, false)) ∧ ps ++ qs = (inOrder fun j => t.has j) ∧ ob'' = ob2 ob f w (.dict (seenAV fl)) (.list ((wl ++ [(i, true)]).map itemAV)), rfl, ?_, ⟨[], _, rfl, rfl, rfl, rfl⟩, ?_, ?_⟩
        · have : (inOrder fun j => t.has j).length ≤ 3 := by unfold inOrder; exact List.length_filter_le _ _
          simp [sizeLine_eq]; omega
        · rintro it rest acc ob'' ⟨ps, qs, q1, q2, q3, rfl⟩
          cases qs with
          | nil => cases q1
          | cons q qs =>
            cases q1
            refine B_name ?_
            try (refine Exs_let ?_; intro KL)
            refine TCmp_ (Name_lc (v := .str (nm q)) (by rfl) (Name_lc (v := d) v1 (O_in (l := tav T) hTD ⟨_, rfl, ?_⟩)))
            rw [dget_tav]
            split
            all_goals try (refine Exs_let ?_; intro KL)
            · rename_i hv
              refine Tup_ (Ar_cons (Name_lc (v := .str (nm q)) (by rfl) (Ar_cons (C_bool (Ar_nil ⟨by first | exact le_line rfl | simp [sizeLine_eq], ps ++ [q], qs, rfl, ?_, by simpa using q3, rfl⟩)))))
              rw [q2]
              have hv' : (T.get q).isSome = true := by simpa using hv
              simp [itemAV, List.filter_cons, hv']
            · rename_i hv
              refine ⟨ps ++ [q], qs, rfl, ?_, by simpa using q3, rfl⟩
              rw [q2]
              have hv' : (T.get q).isSome = false := by simpa using hv
              simp [List.filter_cons, hv']
        · rintro acc ob'' ⟨ps, qs, q1, q2, q3, rfl⟩
          have hq : qs = [] := by simpa using q1.symm
          subst hq
          rw [List.append_nil] at q3
          subst q3
          have e2 : acc = ((inOrder fun j => t.has j && (T.get j).isSome).map fun j => (j, false)).map itemAV := by
            rw [q2, List.map_map]
            unfold inOrder
            rw [List.filter_filter]
            congr 1
            refine List.filter_congr fun j _ => ?_
            rw [Bool.and_comm]
          have hl3 : (inOrder fun j => t.has j && (T.get j).isSome).length ≤ 3 := by unfold inOrder; exact List.length_filter_le _ _
          refine Ar_nil (O_extend (l := (wl ++ [(i, true)]).map itemAV) ?_ (.fr _) ?_ ⟨rfl, Exs_nil (Exs_nil (Exs_nil ⟨m', h1, fl, _, v1, v2, v3, ?_, h2⟩))⟩)
          · show ob2 ob f w _ _ w = _
            exact ob2_s hfw
          · rw [e2]; simp; omega
          · show (ob2 ob f w _ _).set w _ = _
            rw [ob2_sets hfw, e2]
            simp
end
end Mine
end
section
open PySem PySem.W PyProof.Rows PySem.Calls
namespace Mine
/-- one after the other, each filled by what is there -/
noncomputable def solveF (T : Tbl) : List V3 → Tbl → Tbl
  | [], F => F
  | i :: s, F => solveF T s (F ++ [(i, ((T.get i).getD (.v i)).fill F.get)])
theorem solveF_snoc (T : Tbl) (i : V3) : ∀ (p : List V3) (F : Tbl), solveF T (p ++ [i]) F = solveF T p F ++ [(i, ((T.get i).getD (.v i)).fill (solveF T p F).get)]
  | [], F => rfl
  | j :: p, F => by simp only [List.cons_append, solveF, solveF_snoc T i p]
theorem solveF_len (T : Tbl) : ∀ (p : List V3) (F : Tbl), (solveF T p F).length = F.length + p.length
  | [], F => rfl
  | j :: p, F => by simp only [solveF, solveF_len T p, List.length_append, List.length_cons, List.length_nil]; omega
noncomputable def szAV (F : Tbl) : List (Str × AV) := F.map fun p => (nm p.1, .int (p.2.size : Nat))
theorem dget_sz (T : Tbl) (i : V3) : dget (szAV T) (nm i) = (T.get i).map fun t => AV.int (t.size : Nat) := by
  induction T with
  | nil => rfl
  | cons p r ih =>
    obtain ⟨j, t⟩ := p
    unfold dget szAV Tbl.get at *
    simp only [List.map_cons, List.find?_cons]
    by_cases h : j = i
    · simp [h]
    · have h' : nm j ≠ nm i := fun e => h (nm_inj e)
      simp [h, h']
      simpa using ih
theorem dput_new' {l : List (Str × AV)} {k : Str} {v : AV} (h : dget l k = none) : dput l k v = l ++ [(k, v)] := by
  unfold dput
  rw [if_neg]
  try (refine Exs_let ?_; intro KL)
  intro hc
  rw [List.any_eq_true] at hc
  obtain ⟨p, hp, e⟩ := hc
  unfold dget at h
  rw [Option.map_eq_none_iff, List.find?_eq_none] at h
  exact h p hp e
/-- the weight of a part -/
noncomputable def wt (F : Tbl) : Tm → Nat
  | .v i => ((F.get i).map Tm.size).getD 1
  | _ => 1
theorem sum_wt (F : Tbl) : ∀ t : Tm, (t.pts.map fun p => ((wt F p.2 : Nat) : Int)).sum = ((t.fill F.get).size : Nat)
  | .v i => by
    simp only [Tm.pts, List.map_cons, List.map_nil, List.sum_cons, List.sum_nil, wt, Tm.fill]
    cases F.get i <;> simp [Tm.size]
  | .a => by simp [Tm.pts, wt, Tm.fill, Tm.size]
  | .b => by simp [Tm.pts, wt, Tm.fill, Tm.size]
  | .f t => by
    have := sum_wt F t
    simp only [Tm.pts, List.map_cons, List.map_map, List.sum_cons, Tm.fill, Tm.size, show wt F (.f t) = 1 from rfl]
    have e : ((fun p : List Int × Tm => ((wt F p.2 : Nat) : Int)) ∘ fun p : List Int × Tm => (0 :: p.1, p.2)) = fun p => ((wt F p.2 : Nat) : Int) := rfl
    rw [e, this]
    omega
  | .g t u => by
    have h1 := sum_wt F t
    have h2 := sum_wt F u
    simp only [Tm.pts, List.map_cons, List.map_append, List.map_map, List.sum_cons, List.sum_append, Tm.fill, Tm.size, show wt F (.g t u) = 1 from rfl]
    have e : ((fun p : List Int × Tm => ((wt F p.2 : Nat) : Int)) ∘ fun p : List Int × Tm => (0 :: p.1, p.2)) = fun p => ((wt F p.2 : Nat) : Int) := rfl
    have e2 : ((fun p : List Int × Tm => ((wt F p.2 : Nat) : Int)) ∘ fun p : List Int × Tm => (1 :: p.1, p.2)) = fun p => ((wt F p.2 : Nat) : Int) := rfl
    rw [e, e2, h1, h2]
    omega
section
variable {c : Cx}
theorem worked_out_ (G : Gl c) {n : Nat} {ob : Ob} {d : AV} {T : Tbl} (Res : List V3 → Prop) (hT : IsD ob d (tav T))
    (hturn : ∀ n ob, 70 ≤ n → IsD ob d (tav T) → Fn c n (.ref (G.ad 13)) [d] ob fun v ob' => ∃ fl, Res fl ∧ v = .lst (fl.map fun i => .str (nm i)) ∧ ob' = ob)
    (hfl : ∀ fl, Res fl → fl.length ≤ 3 ∧ ∀ p i s, fl = p ++ i :: s → ∃ t, T.get i = some t ∧ small t ∧ (t.fill (solveF T p []).get).size ≤ 10000 ∧ (solveF T p []).get i = none) (hn : 80 ≤ n) :
    Fn c n (.ref (G.ad 14)) [d] ob fun v ob' => ∃ fl, Res fl ∧ v = .dct (tav (solveF T fl [])) ∧ ob' = ob := by
  obtain ⟨n, rfl⟩ : ∃ k, n = k + 1 := ⟨n - 1, by omega⟩
  refine Fn_body (G.f "worked_out" 14).2 (by decide +kernel) rfl ?_
  try (refine Exs_let ?_; intro KL)
  refine Exs_cons (Asg2_ ?_ (by decide) none (by intro env h; unfold swappedStores Env.kindOf Env.blockKind; rw [h]; rfl) (.inl rfl))
  refine Tup_ (Ar_cons (Dct_own fun f hf => Ar_cons (Dct_own fun z hz => Ar_nil ⟨by first | exact le_line rfl | simp [sizeLine_eq], _, _, rfl, ?_⟩)))
  have hf0 : ob f = none := hf
  have hfz : f ≠ z := by
    rintro rfl
    have : (ob.set f (.dict [])) f = none := hz
    rw [Ob.set_get] at this
    cases this
  have hz0 : ob z = none := by
    have : (ob.set f (.dict [])) z = none := hz
    rwa [Ob.set_ne _ _ (Ne.symm hfz)] at this
  have hext : ∀ {X Y} b o, ob b = some o → ob2 ob f z X Y b = some o := fun b o => ob2_ext hf0 hz0 b o
  have hTD : ∀ {X Y}, IsD (ob2 ob f z X Y) d (tav T) := hT.ext hext
  have hob0 : (ob.set f (.dict [])).set z (.dict []) = ob2 ob f z (.dict []) (.dict []) := ob2_set hfz
  have hTD0 : IsD ((ob.set f (.dict [])).set z (.dict [])) d (tav T) := by rw [hob0]; exact hTD
  refine Exs_cons (For_ (Call_fn (G.f "in_turn" 13).2 (G.f "in_turn" 13).1 (Ar_cons (Name_lc (v := d) (by rfl) (Ar_nil (Op.mono (hturn n _ (by omega) hTD0) ?_))))))
  rintro v ob1 ⟨fl, hres, rfl, e1⟩
  have e1 : ob1 = ob2 ob f z (.dict []) (.dict []) := e1.trans hob0
  subst e1
  obtain ⟨hl3, hfl⟩ := hfl fl hres
  refine ⟨fl.map fun i => .str (nm i), fun items st => ∃ p s : List V3, fl = p ++ s ∧ items = s.map (fun i => .str (nm i)) ∧ st.vars "table" = some d ∧ st.vars "found" = some (.own f) ∧ st.vars "sizes" = some (.own z) ∧ st.ob = ob2 ob f z (.dict (tav (solveF T p []))) (.dict (szAV (solveF T p []))), rfl, ⟨[], fl, rfl, rfl, rfl, rfl, rfl, rfl⟩, ?_, ?_⟩
  · rintro it rest st ⟨p, s, e1, e2, v1, v2, v3, v5⟩
    try (refine Exs_let ?_; intro KL)
    cases s with
    | nil => cases e2
    | cons i s =>
      cases e2
      obtain ⟨t, ht, hst, hsize, hnew⟩ := hfl p i s e1
      have hpl : p.length ≤ 2 := by
        have := congrArg List.length e1
        simp at this
        omega
      have hFl : (solveF T p []).length ≤ 2 := by rw [solveF_len]; simpa using hpl
      have hsn := solveF_snoc T i p []
      rw [ht] at hsn
      generalize hF : solveF T p [] = F at *
      refine B_name ?_
      try (refine Exs_let ?_; intro KL)
      refine Exs_cons (Asg_comp (Call_fn (G.f "parts" 6).2 (G.f "parts" 6).1 (Ar_cons (SubD_ (Name_lc (v := d) v1 (Name_lc (v := .str (nm i)) (by rfl) ⟨⟨tav T, ?_⟩, O_getd (v := t.av) (l := tav T) ?_ ?_ (Ar_nil (Op.mono (parts_ (G.f "parts" 6) (G.t "enumerate" "enumerate") t n _ (by have := hst.1; omega) (by have := hst.2; omega) (by have := hst.1; omega)) ?_))⟩))))) (by intro env h; unfold swapsWith Env.kindOf Env.blockKind; rw [h]; rfl))
      · show IsD st.ob d _
        rw [v5]; exact hTD
      · show IsD st.ob d _
        rw [v5]; exact hTD
      · rw [dget_tav, ht]; rfl
      rintro v ob1 ⟨rfl, e2⟩
      have e2 : ob1 = st.ob := e2
      subst e2
      have hpts : t.pts.length ≤ 4000 := by rw [t.pts_len]; exact hst.2
      refine ⟨ptsAV t, fun rest acc ob'' => ∃ ps qs, rest = qs.map pav ∧ acc = (ps.map fun p : List Int × Tm => p.2.av) ∧ ps ++ qs = t.pts ∧ ob'' = st.ob, rfl, ?_, ⟨[], t.pts, rfl, rfl, rfl, rfl⟩, ?_, ?_⟩
      · simp [ptsAV, sizeLine_eq]; omega
      · rintro it rest acc ob'' ⟨ps, qs, q1, q2, q3, rfl⟩
        cases qs with
        | nil => cases q1
        | cons q qs =>
          cases q1
          refine B_pair ?_
          try (refine Exs_let ?_; intro KL)
          refine Name_lc (v := q.2.av) (by rfl) ⟨ps ++ [q], qs, rfl, ?_, by simpa using q3, rfl⟩
          rw [q2]; simp
      rintro acc ob'' ⟨ps, qs, q1, q2, q3, rfl⟩
      have hq : qs = [] := by simpa using q1.symm
      subst hq
      rw [List.append_nil] at q3
      subst q3
      subst q2
      refine Exs_cons (Sub_set (Call_b (G.b "sum" "sum").1 (G.b "sum" "sum").2 (Ar_cons (Comp_ (Name_lc (v := .lst (t.pts.map fun p => p.2.av)) (by rfl) ?_)))))
      refine ⟨t.pts.map fun p => p.2.av, fun rest acc ob'' => ∃ ps qs : List (List Int × Tm), rest = qs.map (fun p => p.2.av) ∧ acc = (ps.map fun p : List Int × Tm => AV.int ((wt F p.2 : Nat) : Int)) ∧ ps ++ qs = t.pts ∧ ob'' = st.ob, rfl, ?_, ⟨[], t.pts, rfl, rfl, rfl, rfl⟩, ?_, ?_⟩
      · simp [sizeLine_eq]; omega
      · rintro it rest acc ob'' ⟨ps, qs, q1, q2, q3, rfl⟩
        cases qs with
        | nil => cases q1
        | cons q qs =>
          cases q1
          refine B_name ?_
          try (refine Exs_let ?_; intro KL)
          refine EIf_ (TVal_ (Call_fn (G.f "is_variable" 4).2 (G.f "is_variable" 4).1 (Ar_cons (Name_lc (v := q.2.av) (by rfl) (Ar_nil (is_v G (by omega) ⟨_, rfl, ?_⟩))))))
          have fin : ∀ k : Int, k = ((wt F q.2 : Nat) : Int) → ∃ ps' qs' : List (List Int × Tm), qs.map (fun p => p.2.av) = qs'.map (fun p => p.2.av) ∧ acc ++ [AV.int k] = (ps'.map fun p : List Int × Tm => AV.int ((wt F p.2 : Nat) : Int)) ∧ ps' ++ qs' = t.pts ∧ st.ob = st.ob := fun k hk =>
            ⟨ps ++ [q], qs, rfl, by rw [q2, hk]; simp, by simpa using q3, rfl⟩
          obtain ⟨path, u⟩ := q
          cases u with
          | v j =>
            rw [show (Tm.v j).isV = true from rfl, if_pos rfl]
            try (refine Exs_let ?_; intro KL)
            refine Meth_ PySem.F.plainAttrs_dict PySem.F.slot_dict_get PySem.F.type_dict_get (Name_lc (v := .own z) v3 ⟨.dict (l := szAV F) (.own (by show st.ob z = _; rw [v5]; exact ob2_s hfz)), ?_⟩)
            refine Ar_cons (Sub_ (Name_lc (v := (Tm.v j).av) (by rfl) (C_int ⟨subTy_tm _, O_hd (Ar_cons (C_int (Ar_nil (O_get2 (k := nm j) (l := szAV F) (.own (by show st.ob z = _; rw [v5]; exact ob2_s hfz)) ?_))))⟩)))
            rw [dget_sz]
            have : ((F.get j).map fun t => AV.int (t.size : Nat)).getD (AV.int 1) = AV.int ((wt F (.v j) : Nat) : Int) := by
              show _ = AV.int ((((F.get j).map Tm.size).getD 1 : Nat) : Int)
              cases F.get j <;> rfl
            rw [this]
            exact fin _ rfl
          | a => exact C_int (fin 1 rfl)
          | b => exact C_int (fin 1 rfl)
          | f u => exact C_int (fin 1 rfl)
          | g u u' => exact C_int (fin 1 rfl)
      rintro acc ob'' ⟨ps, qs, q1, q2, q3, rfl⟩
      have hq : qs = [] := by simpa using q1.symm
      subst hq
      rw [List.append_nil] at q3
      subst q3
      have q2' : acc = (t.pts.map fun p => ((wt F p.2 : Nat) : Int)).map AV.int := by rw [q2, List.map_map]; rfl
      subst q2'
      have hsum := sum_wt F t
      generalize hsz : (t.fill F.get).size = sz at *
      refine Ar_nil (O_sum (.fr _) ?_)
      rw [hsum]
      have hgz : dget (szAV F) (nm i) = none := by rw [dget_sz, hnew]; rfl
      refine Name_lc (v := .own z) v3 (Name_lc (v := .str (nm i)) (by rfl) (O_setd (l := szAV F) ?_ ?_ ?_))
      · show st.ob z = _
        rw [v5]; exact ob2_s hfz
      rotate_left
      · simp [szAV, sizeLine_eq]; omega
      rw [dput_new' hgz]
      have hob1 : st.ob.set z (.dict (szAV F ++ [(nm i, .int ((sz : Nat) : Int))])) = ob2 ob f z (.dict (tav F)) (.dict (szAV F ++ [(nm i, .int ((sz : Nat) : Int))])) := by rw [v5, ob2_sets hfz]
      refine Exs_cons (If_ (TCmp_ (SubD_ (Name_lc (v := .own z) v3 (Name_lc (v := .str (nm i)) (by rfl) ⟨⟨szAV F ++ [(nm i, .int ((sz : Nat) : Int))], .own ?_⟩, O_getd (v := .int ((sz : Nat) : Int)) (l := szAV F ++ [(nm i, .int ((sz : Nat) : Int))]) (.own ?_) ?_ (Name_g (v := .int 10000) G.most (.int _ _) (O_gti ⟨_, rfl, ?_⟩))⟩)))))
      · show st.ob.set z _ z = _
        exact Ob.set_get ..
      · show st.ob.set z _ z = _
        exact Ob.set_get ..
      · have e3 := hgz
        unfold dget at e3 ⊢
        rw [Option.map_eq_none_iff] at e3
        rw [List.find?_append, e3]
        simp
      rw [show decide ((10000 : Int) < ((sz : Nat) : Int)) = false from by simp; omega, if_neg (by decide)]
      refine Exs_nil ?_
      refine Exs_cons (Sub_set (Call_fn (G.f "filled" 9).2 (G.f "filled" 9).1 (Ar_cons (SubD_ (Name_lc (v := d) v1 (Name_lc (v := .str (nm i)) (by rfl) ⟨⟨tav T, ?_⟩, O_getd (v := t.av) (l := tav T) ?_ ?_ (Ar_cons (Name_lc (v := .own f) v2 (Ar_nil (Op.mono (filled_ G t n _ (.own f) F ?_ (by have := hst.1; omega)) ?_))))⟩))))))
      · show IsD (st.ob.set z _) d _
        rw [hob1]; exact hTD
      · show IsD (st.ob.set z _) d _
        rw [hob1]; exact hTD
      · rw [dget_tav, ht]; rfl
      · refine .own ?_
        show st.ob.set z _ f = _
        rw [hob1]; exact ob2_w
      rintro v ob1 ⟨rfl, rfl⟩
      have hgf : dget (tav F) (nm i) = none := by rw [dget_tav, hnew]; rfl
      refine Name_lc (v := .own f) v2 (Name_lc (v := .str (nm i)) (by rfl) (O_setd (l := tav F) ?_ (Exs_nil ⟨p ++ [i], s, by simpa using e1, rfl, v1, v2, v3, ?_⟩) ?_))
      · show st.ob.set z _ f = _
        rw [hob1]; exact ob2_w
      · show (st.ob.set z _).set f _ = _
        rw [hob1, ob2_setw, dput_new' hgf, hsn]
        simp [tav, szAV, hsz]
      · simp [tav, sizeLine_eq]; omega
  · rintro st ⟨p, s, e1, e2, v1, v2, v3, v5⟩
    try (refine Exs_let ?_; intro KL)
    have hs : s = [] := by simpa using e2.symm
    subst hs
    rw [List.append_nil] at e1
    subst e1
    refine Exs_cons (Ret_fzd (Name_lc (v := .own f) v2 ⟨f, tav (solveF T fl []), rfl, ?_, ob, ⟨fl, hres, rfl, rfl⟩, fun b o hb => ?_⟩))
    · show st.ob f = _
      rw [v5]; exact ob2_w
    · show (if b = f then none else st.ob b) = _
      rw [if_neg (by rintro rfl; rw [hf0] at hb; cases hb), v5]
      exact hext b o hb
theorem unified_ (G : Gl c) {one other : Tm} {n : Nat} {ob : Ob} (Rb : Option Tbl → Prop) (Ru : Option Tbl → Prop)
    (hb : ∀ n ob, 85 ≤ n → Fn c n (.ref (G.ad 12)) [one.av, other.av] ob fun v ob' => ∃ r, Rb r ∧ v = optAV r ∧ ob' = ob)
    (hw : ∀ n ob T, 85 ≤ n → Rb (some T) → Fn c n (.ref (G.ad 14)) [.dct (tav T)] ob fun v ob' => ∃ S, Ru (some S) ∧ v = .dct (tav S) ∧ ob' = ob) (h0 : Rb none → Ru none) (hn : 90 ≤ n) :
    Fn c n (.ref (G.ad 15)) [one.av, other.av] ob fun v ob' => ∃ r, Ru r ∧ v = optAV r ∧ ob' = ob := by
  obtain ⟨n, rfl⟩ : ∃ k, n = k + 1 := ⟨n - 1, by omega⟩
  refine Fn_body (G.f "unified" 15).2 (by decide +kernel) rfl ?_
  try (refine Exs_let ?_; intro KL)
  refine Exs_cons (Asg_ (Call_fn (G.f "begun" 12).2 (G.f "begun" 12).1 (Ar_cons (Name_lc (v := one.av) (by rfl) (Ar_cons (Name_lc (v := other.av) (by rfl) (Ar_nil (Op.mono (hb n _ (by omega)) ?_))))))))
  rintro v ob1 ⟨r, hr, rfl, rfl⟩
  refine Exs_cons (Ret_ (EIf_ (TCmp_ (Name_lc (v := optAV r) (by rfl) (C_none (O_isNone (by cases r <;> intro x h <;> cases h) ⟨_, rfl, ?_⟩))))))
  cases r with
  | none =>
    rw [show isNone (optAV none) = true from rfl, if_pos rfl]
    try (refine Exs_let ?_; intro KL)
    exact C_none ⟨ob1, ⟨none, h0 hr, rfl, rfl⟩, fun _ _ h => h⟩
  | some T =>
    rw [show isNone (optAV (some T)) = false from rfl, if_neg (by decide)]
    try (refine Exs_let ?_; intro KL)
    refine Call_fn (G.f "worked_out" 14).2 (G.f "worked_out" 14).1 (Ar_cons (Name_lc (v := .dct (tav T)) (by rfl) (Ar_nil (Op.mono (hw n _ T (by omega) hr) ?_))))
    rintro v ob2 ⟨S, hS, rfl, rfl⟩
    exact ⟨_, ⟨some S, hS, rfl, rfl⟩, fun _ _ h => h⟩
end
end Mine
end
section
open PySem PySem.W PyProof.Rows PySem.Calls
namespace Mine
noncomputable def lotAV (cs : List Int) (k : Int) : List (Str × AV) := [("cells", .lst (cs.map AV.int)), ("at", .int k)]
theorem cells_at : ("cells" : Str) ≠ "at" := by decide +kernel
theorem dget_cells (cs : List Int) (k : Int) : dget (lotAV cs k) "cells" = some (.lst (cs.map AV.int)) := by simp [dget, lotAV]
theorem dget_at (cs : List Int) (k : Int) : dget (lotAV cs k) "at" = some (.int k) := by
  have h := cells_at
  simp [dget, lotAV, h]
theorem dput_at (cs : List Int) (k j : Int) : dput (lotAV cs k) "at" (.int j) = lotAV cs j := by
  have h := cells_at
  simp [dput, lotAV, h]
theorem bits_small (k : Nat) (h : k < 1024) : Builtin.Int.intBits (k : Int) ≤ 64 := by
  have : ∀ k : _root_.Fin 1024, Builtin.Int.intBits ((k.val : Nat) : Int) ≤ 64 := by decide +kernel
  exact this ⟨k, h⟩
section
variable {c : Cx}
theorem taken_ (G : Gl c) {n : Nat} {ob : Ob} {a : Addr} {cs : List Int} {k : Nat} {many : Int} (ha : ob a = some (.dict (lotAV cs k))) (hk : k < 1000) (hcs : cs.length ≤ 100000) (hm : 0 < many) (hn : 3 ≤ n) :
    Fn c n (.ref (G.ad 18)) [.own a, .int many] ob fun v ob' => ∃ r : Int, 0 ≤ r ∧ r < many ∧ v = .int r ∧ ob' = ob.set a (.dict (lotAV cs ((k + 1 : Nat) : Int))) := by
  obtain ⟨n, rfl⟩ : ∃ k, n = k + 1 := ⟨n - 1, by omega⟩
  refine Fn_body (G.f "_law_taken" 18).2 (by decide +kernel) rfl ?_
  refine Exs_cons (Asg_ (SubD_ (Name_lc (v := .own a) (by rfl) (C_str ⟨⟨_, .own ha⟩, O_getd (v := .int (k : Nat)) (l := lotAV cs k) (.own ha) (dget_at ..) ?_⟩))))
  refine Exs_cons (Sub_set (BinOp_ (Name_lc (v := .int (k : Nat)) (by rfl) (C_int (O_add (Name_lc (v := .own a) (by rfl) (C_str (O_setd (l := lotAV cs k) ha ?_ (by simp [lotAV, sizeLine_eq])))))))))
  rw [dput_at]
  have ha2 : (ob.set a (.dict (lotAV cs ((k : Int) + 1)))) a = some (.dict (lotAV cs ((k : Int) + 1))) := Ob.set_get ..
  have hk1 : ((k + 1 : Nat) : Int) = (k : Int) + 1 := by omega
  rw [hk1]
  refine Exs_cons (If_ (TCmp_ (Name_lc (v := .int (k : Nat)) (by rfl) (Call_b (G.b "len" "len").1 (G.b "len" "len").2 (Ar_cons (SubD_ (Name_lc (v := .own a) (by rfl) (C_str ⟨⟨_, .own ha2⟩, O_getd (v := .lst (cs.map AV.int)) (l := lotAV cs ((k : Int) + 1)) (.own ha2) (dget_cells ..) (Ar_nil (O_len_lst (.fr _) (O_lti ⟨_, rfl, ?_⟩) (by simp; omega)))⟩))))))))
  have fin : ∀ x : Int, 0 ≤ x.fmod many ∧ x.fmod many < many := fun x => ⟨Int.fmod_nonneg_of_pos x hm, Int.fmod_lt_of_pos x hm⟩
  split
  · rename_i hlt
    have hlt' : k < cs.length := by simpa using hlt
    refine Exs_cons (Ret_ (BinOp_ (Call_b (G.b "abs" "abs").1 (G.b "abs" "abs").2 (Ar_cons (Sub_ (SubD_ (Name_lc (v := .own a) (by rfl) (C_str ⟨⟨_, .own ha2⟩, O_getd (v := .lst (cs.map AV.int)) (l := lotAV cs ((k : Int) + 1)) (.own ha2) (dget_cells ..) ?_⟩))))))))
    refine Name_lc (v := .int (k : Nat)) (by rfl) ⟨rfl, O_ilst (.fr _) (by omega) (by omega) (v := .int (cs[k])) (by simp [hlt']) ?_⟩
    refine Ar_nil (O_abs (Name_lc (v := .int many) (by rfl) (O_mod ⟨_, ⟨_, (fin _).1, (fin _).2, rfl, rfl⟩, fun _ _ h => h⟩ (by omega))))
  · refine Exs_nil (Exs_cons (Ret_ ?_))
    refine BinOp_ (BinOp_ (BinOp_ (BinOp_ (BinOp_ (BinOp_ (BinOp_ (C_int ?_)))))))
    refine Name_lc (v := .int (k : Nat)) (by rfl) (O_mul ?_ (.of_left (by decide +kernel)))
    refine Name_lc (v := .int (k : Nat)) (by rfl) (O_mul ?_ (.of_right (bits_small k (by omega))))
    refine BinOp_ (C_int (Name_lc (v := .int (k : Nat)) (by rfl) (O_mul (O_add ?_) (.of_left (by decide +kernel)))))
    refine BinOp_ (C_int (Call_b (G.b "len" "len").1 (G.b "len" "len").2 (Ar_cons (SubD_ (Name_lc (v := .own a) (by rfl) (C_str ⟨⟨_, .own ha2⟩, O_getd (v := .lst (cs.map AV.int)) (l := lotAV cs ((k : Int) + 1)) (.own ha2) (dget_cells ..) ?_⟩))))))
    refine Ar_nil (O_len_lst (.fr _) (O_mul (O_add ?_) (.of_left (by decide +kernel))) (by simp; omega))
    refine C_int (O_add (C_int (O_mod (Name_lc (v := .int many) (by rfl) (O_mod ⟨_, ⟨_, (fin _).1, (fin _).2, rfl, rfl⟩, fun _ _ h => h⟩ (by omega))) (by decide))))
end
end Mine
end
section
open PySem PySem.W PyProof.Rows PySem.Calls
namespace Mine
theorem ab0 : ("ab" : Str).cps[(0 : Int).toNat]? = some 97 := by decide +kernel
theorem ab1 : ("ab" : Str).cps[(1 : Int).toNat]? = some 98 := by decide +kernel
theorem xyz_at (r : Int) (h0 : 0 ≤ r) (h3 : r < 3) : ∃ (d : Nat) (i : V3), ("xyz" : Str).cps[r.toNat]? = some d ∧ ("?" : Str) ++ (⟨#[d]⟩ : Str) = nm i := by
  rcases (by omega : r = 0 ∨ r = 1 ∨ r = 2) with rfl | rfl | rfl
  · exact ⟨120, 0, by decide +kernel, by decide +kernel⟩
  · exact ⟨121, 1, by decide +kernel, by decide +kernel⟩
  · exact ⟨122, 2, by decide +kernel, by decide +kernel⟩
theorem str_a : (⟨#[97]⟩ : Str) = "a" := by decide +kernel
theorem str_b : (⟨#[98]⟩ : Str) = "b" := by decide +kernel
section
variable {c : Cx}
theorem pattern_ (G : Gl c) {a : Addr} {cs : List Int} (hcs : cs.length ≤ 100000) : ∀ (d : Nat) (n : Nat) (ob : Ob) (k : Nat), ob a = some (.dict (lotAV cs k)) → k + 3 * 2 ^ d ≤ 900 → d + 5 ≤ n →
    Fn c n (.ref (G.ad 19)) [.own a, .int d] ob fun v ob' => ∃ (t : Tm) (k' : Nat), t.dp ≤ d + 1 ∧ k ≤ k' ∧ k' + 1 ≤ k + 3 * 2 ^ d ∧ v = t.av ∧ ob' = ob.set a (.dict (lotAV cs k')) := by
  intro d
  induction d with
  | zero =>
    intro n ob k ha hk hn
    obtain ⟨n, rfl⟩ : ∃ k, n = k + 1 := ⟨n - 1, by omega⟩
    refine Fn_body (G.f "_law_pattern" 19).2 (by decide +kernel) rfl ?_
    try (refine Exs_let ?_; intro KL)
    refine Exs_cons (Asg_ (EIf_ (TCmp_ (Name_lc (v := .int (0 : Nat)) (by rfl) (C_int (O_gti ⟨_, rfl, ?_⟩))))))
    rw [show decide ((0 : Int) < ((0 : Nat) : Int)) = false from by decide, if_neg (by decide)]
    try (refine Exs_let ?_; intro KL)
    refine Call_fn (G.f "_law_taken" 18).2 (G.f "_law_taken" 18).1 (Ar_cons (Name_lc (v := .own a) (by rfl) (Ar_cons (C_int (Ar_nil (Op.mono (taken_ G ha (by omega) hcs (by decide) (by omega)) ?_))))))
    rintro v ob1 ⟨way, w0, w4, rfl, rfl⟩
    have ha1 : (ob.set a (.dict (lotAV cs ((k + 1 : Nat) : Int)))) a = some (.dict (lotAV cs ((k + 1 : Nat) : Int))) := Ob.set_get ..
    refine Exs_cons (If_ (TCmp_ (Name_lc (v := .int way) (by rfl) (C_int (O_lti ⟨_, rfl, ?_⟩)))))
    by_cases h2 : way < 2
    · rw [decide_eq_true h2, if_pos rfl]
      try (refine Exs_let ?_; intro KL)
      rcases (by omega : way = 0 ∨ way = 1) with rfl | rfl
      · refine Exs_cons (Ret_ (Tup_ (Ar_cons (Sub_ (C_str (Name_lc (v := .int 0) (by rfl) ⟨rfl, O_char (by decide) (by decide) ab0 (Ar_nil ⟨by first | exact le_line rfl | simp [sizeLine_eq], ?_⟩)⟩))))))
        exact ⟨_, ⟨.a, k + 1, by simp [Tm.dp], by omega, by omega, by rw [str_a]; rfl, rfl⟩, fun _ _ h => h⟩
      · refine Exs_cons (Ret_ (Tup_ (Ar_cons (Sub_ (C_str (Name_lc (v := .int 1) (by rfl) ⟨rfl, O_char (by decide) (by decide) ab1 (Ar_nil ⟨by first | exact le_line rfl | simp [sizeLine_eq], ?_⟩)⟩))))))
        exact ⟨_, ⟨.b, k + 1, by simp [Tm.dp], by omega, by omega, by rw [str_b]; rfl, rfl⟩, fun _ _ h => h⟩
    · rw [decide_eq_false h2, if_neg (by decide)]
      try (refine Exs_let ?_; intro KL)
      refine Exs_nil (Exs_cons (If_ (TCmp_ (Name_lc (v := .int way) (by rfl) (C_int (O_lti ⟨_, rfl, ?_⟩))))))
      rw [decide_eq_true w4, if_pos rfl]
      try (refine Exs_let ?_; intro KL)
      refine Exs_cons (Ret_ (Tup_ (Ar_cons (BinOp_ (C_str (Sub_ (C_str (Call_fn (G.f "_law_taken" 18).2 (G.f "_law_taken" 18).1 (Ar_cons (Name_lc (v := .own a) (by rfl) (Ar_cons (C_int (Ar_nil (Op.mono (taken_ G ha1 (by omega) hcs (by decide) (by omega)) ?_))))))))))))))
      rintro v ob1 ⟨r, r0, r3, rfl, rfl⟩
      obtain ⟨dd, i, x1, x2⟩ := xyz_at r r0 r3
      refine ⟨rfl, O_char r0 (by omega) x1 (O_adds ?_ (by show 1 + 1 ≤ sizeLine; decide))⟩
      rw [x2, Ob.set_set]
      exact Ar_nil ⟨by first | exact le_line rfl | simp [sizeLine_eq], _, ⟨.v i, k + 1 + 1, by simp [Tm.dp], by omega, by omega, rfl, rfl⟩, fun _ _ h => h⟩
  | succ d ih =>
    intro n ob k ha hk hn
    have hp : 2 ^ (d + 1) = 2 * 2 ^ d := by rw [Nat.pow_succ]; omega
    have hp1 : 1 ≤ 2 ^ d := Nat.one_le_two_pow
    rw [hp] at hk ⊢
    generalize 2 ^ d = P at *
    obtain ⟨n, rfl⟩ : ∃ k, n = k + 1 := ⟨n - 1, by omega⟩
    refine Fn_body (G.f "_law_pattern" 19).2 (by decide +kernel) rfl ?_
    try (refine Exs_let ?_; intro KL)
    refine Exs_cons (Asg_ (EIf_ (TCmp_ (Name_lc (v := .int (d + 1 : Nat)) (by rfl) (C_int (O_gti ⟨_, rfl, ?_⟩))))))
    rw [show decide ((0 : Int) < ((d + 1 : Nat) : Int)) = true from decide_eq_true (by omega), if_pos rfl]
    try (refine Exs_let ?_; intro KL)
    refine Call_fn (G.f "_law_taken" 18).2 (G.f "_law_taken" 18).1 (Ar_cons (Name_lc (v := .own a) (by rfl) (Ar_cons (C_int (Ar_nil (Op.mono (taken_ G ha (by omega) hcs (by decide) (by omega)) ?_))))))
    rintro v ob1 ⟨way, w0, w6, rfl, rfl⟩
    have ha1 : (ob.set a (.dict (lotAV cs ((k + 1 : Nat) : Int)))) a = some (.dict (lotAV cs ((k + 1 : Nat) : Int))) := Ob.set_get ..
    refine Exs_cons (If_ (TCmp_ (Name_lc (v := .int way) (by rfl) (C_int (O_lti ⟨_, rfl, ?_⟩)))))
    by_cases h2 : way < 2
    · rw [decide_eq_true h2, if_pos rfl]
      try (refine Exs_let ?_; intro KL)
      rcases (by omega : way = 0 ∨ way = 1) with rfl | rfl
      · refine Exs_cons (Ret_ (Tup_ (Ar_cons (Sub_ (C_str (Name_lc (v := .int 0) (by rfl) ⟨rfl, O_char (by decide) (by decide) ab0 (Ar_nil ⟨by first | exact le_line rfl | simp [sizeLine_eq], ?_⟩)⟩))))))
        exact ⟨_, ⟨.a, k + 1, by simp [Tm.dp], by omega, by omega, by rw [str_a]; rfl, rfl⟩, fun _ _ h => h⟩
      · refine Exs_cons (Ret_ (Tup_ (Ar_cons (Sub_ (C_str (Name_lc (v := .int 1) (by rfl) ⟨rfl, O_char (by decide) (by decide) ab1 (Ar_nil ⟨by first | exact le_line rfl | simp [sizeLine_eq], ?_⟩)⟩))))))
        exact ⟨_, ⟨.b, k + 1, by simp [Tm.dp], by omega, by omega, by rw [str_b]; rfl, rfl⟩, fun _ _ h => h⟩
    · rw [decide_eq_false h2, if_neg (by decide)]
      try (refine Exs_let ?_; intro KL)
      refine Exs_nil (Exs_cons (If_ (TCmp_ (Name_lc (v := .int way) (by rfl) (C_int (O_lti ⟨_, rfl, ?_⟩))))))
      by_cases h4 : way < 4
      · rw [decide_eq_true h4, if_pos rfl]
        try (refine Exs_let ?_; intro KL)
        refine Exs_cons (Ret_ (Tup_ (Ar_cons (BinOp_ (C_str (Sub_ (C_str (Call_fn (G.f "_law_taken" 18).2 (G.f "_law_taken" 18).1 (Ar_cons (Name_lc (v := .own a) (by rfl) (Ar_cons (C_int (Ar_nil (Op.mono (taken_ G ha1 (by omega) hcs (by decide) (by omega)) ?_))))))))))))))
        rintro v ob1 ⟨r, r0, r3, rfl, rfl⟩
        obtain ⟨dd, i, x1, x2⟩ := xyz_at r r0 r3
        refine ⟨rfl, O_char r0 (by omega) x1 (O_adds ?_ (by show 1 + 1 ≤ sizeLine; decide))⟩
        rw [x2, Ob.set_set]
        exact Ar_nil ⟨by first | exact le_line rfl | simp [sizeLine_eq], _, ⟨.v i, k + 1 + 1, by simp [Tm.dp], by omega, by omega, rfl, rfl⟩, fun _ _ h => h⟩
      · rw [decide_eq_false h4, if_neg (by decide)]
        try (refine Exs_let ?_; intro KL)
        have hsub : ((d + 1 : Nat) : Int) - 1 = ((d : Nat) : Int) := by omega
        refine Exs_nil (Exs_cons (If_ (TCmp_ (Name_lc (v := .int way) (by rfl) (C_int (O_eqi ⟨_, rfl, ?_⟩))))))
        by_cases h5 : way = 4
        · subst h5
          rw [show ((4 : Int) == 4) = true from by decide, if_pos rfl]
          try (refine Exs_let ?_; intro KL)
          refine Exs_cons (Ret_ (Tup_ (Ar_cons (C_str (Ar_cons (Call_fn (G.f "_law_pattern" 19).2 (G.f "_law_pattern" 19).1 (Ar_cons (Name_lc (v := .own a) (by rfl) (Ar_cons (BinOp_ (Name_lc (v := .int (d + 1 : Nat)) (by rfl) (C_int (O_sub ?_)))))))))))))
          rw [hsub]
          refine Ar_nil (Op.mono (ih n _ (k + 1) ha1 (by omega) (by omega)) ?_)
          rintro v ob1 ⟨t, k1, t1, t2, t3, rfl, rfl⟩
          rw [Ob.set_set]
          exact Ar_nil ⟨by first | exact le_line rfl | simp [sizeLine_eq], _, ⟨.f t, k1, by simp [Tm.dp]; omega, by omega, by omega, rfl, rfl⟩, fun _ _ h => h⟩
        · rw [show (way == 4) = false from beq_eq_false_iff_ne.mpr h5, if_neg (by decide)]
          try (refine Exs_let ?_; intro KL)
          refine Exs_nil (Exs_cons (Ret_ (Tup_ (Ar_cons (C_str (Ar_cons (Call_fn (G.f "_law_pattern" 19).2 (G.f "_law_pattern" 19).1 (Ar_cons (Name_lc (v := .own a) (by rfl) (Ar_cons (BinOp_ (Name_lc (v := .int (d + 1 : Nat)) (by rfl) (C_int (O_sub ?_))))))))))))))
          rw [hsub]
          refine Ar_nil (Op.mono (ih n _ (k + 1) ha1 (by omega) (by omega)) ?_)
          rintro v ob1 ⟨t, k1, t1, t2, t3, rfl, rfl⟩
          rw [Ob.set_set]
          have ha2 : (ob.set a (.dict (lotAV cs k1))) a = some (.dict (lotAV cs k1)) := Ob.set_get ..
          refine Ar_cons (Call_fn (G.f "_law_pattern" 19).2 (G.f "_law_pattern" 19).1 (Ar_cons (Name_lc (v := .own a) (by rfl) (Ar_cons (BinOp_ (Name_lc (v := .int (d + 1 : Nat)) (by rfl) (C_int (O_sub ?_))))))))
          rw [hsub]
          refine Ar_nil (Op.mono (ih n _ k1 ha2 (by omega) (by omega)) ?_)
          rintro v ob1 ⟨u, k2, u1, u2, u3, rfl, rfl⟩
          rw [Ob.set_set]
          exact Ar_nil ⟨by first | exact le_line rfl | simp [sizeLine_eq], _, ⟨.g t u, k2, by simp [Tm.dp]; omega, by omega, by omega, rfl, rfl⟩, fun _ _ h => h⟩
end
end Mine
end
section
open PySem PySem.W PyProof.Rows PySem.Calls
namespace Mine
namespace Tm
/-- names as they are met -/
noncomputable def names : Tm → List V3
  | .v i => [i]
  | .f t => t.names
  | .g t u => t.names ++ u.names.filter fun i => !t.names.contains i
  | _ => []
noncomputable def kidNames : List Tm → List V3 → List V3
  | [], acc => acc
  | k :: ks, acc => kidNames ks (acc ++ k.names.filter fun i => !acc.contains i)
theorem names_eq (t : Tm) (h : t.isV = false) : t.names = kidNames t.kids [] := by
  cases t with
  | v i => cases h
  | a => rfl
  | b => rfl
  | f t =>
    simp [names, kids, kidNames]
    exact (List.filter_eq_self.mpr fun _ _ => rfl).symm
  | g t u =>
    have e : t.names = List.filter (fun _ => true) t.names := (List.filter_eq_self.mpr fun _ _ => rfl).symm
    simp only [names, kids, kidNames, List.nil_append, List.contains_nil, Bool.not_false]
    rw [← e]
theorem names_has : ∀ (t : Tm) (i : V3), i ∈ t.names ↔ t.has i = true
  | .v j, i => by simp [names, has]
  | .a, i => by simp [names, has]
  | .b, i => by simp [names, has]
  | .f t, i => by simpa [names, has] using names_has t i
  | .g t u, i => by
    have h1 := names_has t i
    have h2 := names_has u i
    simp only [names, has, List.mem_append, List.mem_filter, Bool.or_eq_true, ← h1, ← h2]
    constructor
    · rintro (h | h); exact .inl h; exact .inr h.1
    · rintro (h | h)
      · exact .inl h
      · by_cases hh : i ∈ t.names
        · exact .inl hh
        · exact .inr ⟨h, by simpa using hh⟩
theorem names_len : ∀ t : Tm, t.names.length ≤ t.size
  | .v j => by simp [names, size]
  | .a => by simp [names, size]
  | .b => by simp [names, size]
  | .f t => by have := names_len t; simp [names, size]; omega
  | .g t u => by
    have h1 := names_len t
    have h2 := names_len u
    have h3 := List.length_filter_le (fun i => !t.names.contains i) u.names
    simp only [names, size, List.length_append]
    omega
theorem names_nodup : ∀ t : Tm, t.names.Nodup
  | .v j => by simp [names]
  | .a => by simp [names]
  | .b => by simp [names]
  | .f t => by simpa [names] using names_nodup t
  | .g t u => by
    have h1 := names_nodup t
    have h2 := names_nodup u
    simp only [names]
    rw [List.nodup_append]
    refine ⟨h1, h2.filter _, fun a ha b hb => ?_⟩
    rw [List.mem_filter] at hb
    rintro rfl
    simp [ha] at hb
noncomputable def sub (θ : V3 → Tm) : Tm → Tm
  | .v i => θ i
  | .a => .a
  | .b => .b
  | .f t => .f (t.sub θ)
  | .g t u => .g (t.sub θ) (u.sub θ)
theorem sub_hd (θ : V3 → Tm) (t : Tm) (h : t.isV = false) : (t.sub θ).hd = t.hd ∧ (t.sub θ).kids = t.kids.map (sub θ) := by
  cases t with
  | v i => cases h
  | a => exact ⟨rfl, rfl⟩
  | b => exact ⟨rfl, rfl⟩
  | f t => exact ⟨rfl, rfl⟩
  | g t u => exact ⟨rfl, rfl⟩
end Tm
theorem hd_char (t : Tm) : ∃ d : Nat, t.hd.cps[(0 : Int).toNat]? = some d ∧ (((⟨#[d]⟩ : Str) == ("?" : Str)) = t.isV) := by
  cases t with
  | v i => match i with
    | 0 => exact ⟨63, by decide +kernel, by decide +kernel⟩
    | 1 => exact ⟨63, by decide +kernel, by decide +kernel⟩
    | 2 => exact ⟨63, by decide +kernel, by decide +kernel⟩
  | a => exact ⟨97, by decide +kernel, by decide +kernel⟩
  | b => exact ⟨98, by decide +kernel, by decide +kernel⟩
  | f t => exact ⟨102, by show ("f" : Str).cps[(0 : Int).toNat]? = some 102; decide +kernel, by show ((⟨#[102]⟩ : Str) == ("?" : Str)) = false; decide +kernel⟩
  | g t u => exact ⟨103, by show ("g" : Str).cps[(0 : Int).toNat]? = some 103; decide +kernel, by show ((⟨#[103]⟩ : Str) == ("?" : Str)) = false; decide +kernel⟩
section
variable {c : Cx} {n : Nat} {sc : Sc} {st : St}
/-- t[0][0] == '?' -/
theorem T_quest {x : Str} {t : Tm} {px p1 p2 p3 p4 p5 p6 : Pos} {k1 k2 k3 : Nat} {K : Bool → St → Prop} (hv : st.vars x = some t.av) (h : K t.isV st) (hx : isLC sc x = true := by rfl) (hk : sc.s.kind = .function := by rfl)
    (hd : (x == ("__debug__" : Str)) = false := by decide) : Te c n sc (.Compare (.Subscript (.Subscript (.Name x px) (.Constant (.int 0) k1 p1) p2) (.Constant (.int 0) k2 p3) p4) [.Eq] [.Constant (.str "?") k3 p5] p6) st K := by
  obtain ⟨d, h1, h2⟩ := hd_char t
  refine TCmp_ (Sub_ (Sub_ (Name_lc (v := t.av) hv (C_int ⟨subTy_tm _, O_hd (C_int ⟨rfl, O_char (by decide) (by decide) h1 (C_str (O_eqs ⟨_, rfl, ?_⟩))⟩)⟩) hx hk hd)))
  rw [h2]
  exact h
end
section
variable {c : Cx}
theorem names_ (G : Gl c) : ∀ (t : Tm) (n : Nat) (ob : Ob), t.dp + 1 ≤ n → t.size ≤ 20000 → Fn c n (.ref (G.ad 20)) [t.av] ob fun v ob' => v = .lst (t.names.map fun i => .str (nm i)) ∧ ob' = ob := by
  have main : ∀ (m : Nat) (t : Tm) (n : Nat) (ob : Ob), t.dp ≤ m → t.dp + 1 ≤ n → t.size ≤ 20000 → Fn c n (.ref (G.ad 20)) [t.av] ob fun v ob' => v = .lst (t.names.map fun i => .str (nm i)) ∧ ob' = ob := by
    intro m
    induction m with
    | zero => intro t n ob h; have := t.dp_pos; omega
    | succ m ih =>
      intro t n ob hm hn hs
      obtain ⟨n, rfl⟩ : ∃ k, n = k + 1 := ⟨n - 1, by omega⟩
      refine Fn_body (G.f "_law_names" 20).2 (by decide +kernel) rfl ?_
      try (refine Exs_let ?_; intro KL)
      refine Exs_cons (Tr.mono (K := fun f st => f = .next ∧ st.vars "t" = some t.av ∧ st.vars "found" = some (.lst ((if t.isV then t.names else []).map fun i => .str (nm i))) ∧ st.ob = ob) (Asg_ (EIf_ (T_quest (t := t) (by rfl) ?_))) ?_)
      · cases hv : t.isV with
        | true =>
          rw [if_pos rfl]
          try (refine Exs_let ?_; intro KL)
          obtain ⟨i, rfl⟩ : ∃ i, t = .v i := by cases t <;> first | exact ⟨_, rfl⟩ | cases hv
          exact Lst_fr (Ar_cons (Sub_ (Name_lc (v := (Tm.v i).av) (by rfl) (C_int ⟨subTy_tm _, O_hd (Ar_nil ⟨by first | exact le_line rfl | simp [sizeLine_eq], rfl, rfl, rfl, rfl⟩)⟩))))
        | false =>
          rw [if_neg (by decide)]
          try (refine Exs_let ?_; intro KL)
          exact Lst_fr (Ar_nil ⟨by first | exact le_line rfl | simp [sizeLine_eq], rfl, rfl, rfl, rfl⟩)
      rintro f st ⟨rfl, u1, u2, rfl⟩
      try (refine Exs_let ?_; intro KL)
      refine Exs_cons (For_ (SubFrom1 (Name_lc (v := t.av) u1 ⟨_, _, t.av_eq, ?_, ?_⟩)))
      · cases t <;> simp [Tm.kids]
      refine ⟨t.kids.map Tm.av, fun items st' => ∃ (ks : List Tm) (acc : List V3), items = ks.map Tm.av ∧ (∀ k ∈ ks, k ∈ t.kids) ∧ st'.vars "found" = some (.lst (acc.map fun i => .str (nm i))) ∧ Tm.kidNames ks acc = t.names ∧ acc.length + (ks.map Tm.size).sum ≤ 20000 ∧ st'.ob = st.ob, rfl, ?_, ?_, ?_⟩
      · refine ⟨t.kids, if t.isV then t.names else [], rfl, fun _ h => h, u2, ?_, ?_, rfl⟩
        · cases hv : t.isV with
          | true =>
            obtain ⟨i, rfl⟩ : ∃ i, t = .v i := by cases t <;> first | exact ⟨_, rfl⟩ | cases hv
            rfl
          | false => rw [if_neg (by decide)]; exact (t.names_eq hv).symm
        · cases t <;> simp [Tm.isV, Tm.kids, Tm.names, Tm.size] at hs ⊢ <;> omega
      · rintro it rest st2 ⟨ks, acc, e1, hks, w1, w2, w4, w3⟩
        try (refine Exs_let ?_; intro KL)
        cases ks with
        | nil => cases e1
        | cons k ks =>
          cases e1
          have hk := hks k List.mem_cons_self
          have hkd := Tm.kids_dp hk
          have hksz := Tm.kids_size hk
          have hln := k.names_len
          simp only [List.map_cons, List.sum_cons] at w4
          refine B_name ?_
          try (refine Exs_let ?_; intro KL)
          refine Exs_cons (Asg_ (BinOp_ (Name_lc (v := .lst (acc.map fun i => .str (nm i))) w1 (Comp_ (Call_fn (G.f "_law_names" 20).2 (G.f "_law_names" 20).1 (Ar_cons (Name_lc (v := k.av) (by rfl) (Ar_nil (Op.mono (ih k n _ (by omega) (by omega) (by omega)) ?_)))))))))
          rintro v ob1 ⟨rfl, rfl⟩
          have ess : (acc.map fun i => AV.str (nm i)) = (acc.map nm).map AV.str := by rw [List.map_map]; rfl
          refine ⟨k.names.map fun i => .str (nm i), fun rest acc' ob'' => ∃ ps qs : List V3, rest = qs.map (fun i => .str (nm i)) ∧ acc' = (ps.filter fun i => !acc.contains i).map (fun i => AV.str (nm i)) ∧ ps ++ qs = k.names ∧ ob'' = st2.ob, rfl, ?_, ⟨[], k.names, rfl, rfl, rfl, rfl⟩, ?_, ?_⟩
          · simp [sizeLine_eq]; omega
          · rintro it rest acc' ob'' ⟨ps, qs, q1, q2, q3, rfl⟩
            cases qs with
            | nil => cases q1
            | cons q qs =>
              cases q1
              refine B_name ?_
              try (refine Exs_let ?_; intro KL)
              refine TCmp_ (Name_lc (v := .str (nm q)) (by rfl) (Name_lc (v := .lst (acc.map fun i => .str (nm i))) w1 (O_notinl (ss := acc.map nm) (by rw [ess]; exact .fr _) ⟨_, rfl, ?_⟩)))
              have ec : (acc.map nm).contains (nm q) = acc.contains q := by
                rw [Bool.eq_iff_iff, List.contains_iff_mem, List.contains_iff_mem, List.mem_map]
                exact ⟨fun ⟨j, hj, e⟩ => nm_inj e ▸ hj, fun h => ⟨q, h, rfl⟩⟩
              rw [ec]
              split
              all_goals try (refine Exs_let ?_; intro KL)
              · rename_i hv
                refine Name_lc (v := .str (nm q)) (by rfl) ⟨ps ++ [q], qs, rfl, ?_, by simpa using q3, rfl⟩
                rw [q2, List.filter_append]
                simp only [List.filter_cons, hv, if_true, List.filter_nil, List.map_append, List.map_cons, List.map_nil]
              · rename_i hv
                refine ⟨ps ++ [q], qs, rfl, ?_, by simpa using q3, rfl⟩
                rw [q2, List.filter_append]
                simp only [List.filter_cons, hv, List.filter_nil]
                rw [if_neg (by decide), List.append_nil]
                try (refine Exs_let ?_; intro KL)
          · rintro acc' ob'' ⟨ps, qs, q1, q2, q3, rfl⟩
            have hq : qs = [] := by simpa using q1.symm
            subst hq
            rw [List.append_nil] at q3
            subst q3
            have hfl := List.length_filter_le (fun i => !acc.contains i) k.names
            refine O_addl (.fr _) (.fr _) ?_ (Exs_nil ⟨ks, acc ++ k.names.filter (fun i => !acc.contains i), rfl, fun k' hk' => hks k' (List.mem_cons_of_mem _ hk'), ?_, w2, ?_, w3⟩)
            · rw [q2]; simp only [List.length_map]; omega
            · rw [q2, ← List.map_append]; rfl
            · simp only [List.length_append]; omega
      · rintro st2 ⟨ks, acc, e1, hks, w1, w2, w4, w3⟩
        try (refine Exs_let ?_; intro KL)
        have hk : ks = [] := by simpa using e1.symm
        subst hk
        have w2' : acc = t.names := w2
        subst w2'
        refine Exs_cons (Ret_ (Name_lc (v := .lst (t.names.map fun i => .str (nm i))) w1 ⟨st.ob, ⟨rfl, rfl⟩, fun b o hb => ?_⟩))
        show st2.ob b = _
        rw [w3]; exact hb
  exact fun t n ob => main t.dp t n ob (Nat.le_refl _)
theorem put_ (G : Gl c) : ∀ (t : Tm) (n : Nat) (ob : Ob) (d : AV) (T : Tbl), IsD ob d (tav T) → t.dp + 1 ≤ n → Fn c n (.ref (G.ad 21)) [t.av, d] ob fun v ob' => v = (t.fill T.get).av ∧ ob' = ob := by
  have main : ∀ (m : Nat) (t : Tm) (n : Nat) (ob : Ob) (d : AV) (T : Tbl), t.dp ≤ m → IsD ob d (tav T) → t.dp + 1 ≤ n → Fn c n (.ref (G.ad 21)) [t.av, d] ob fun v ob' => v = (t.fill T.get).av ∧ ob' = ob := by
    intro m
    induction m with
    | zero => intro t n ob d T h; have := t.dp_pos; omega
    | succ m ih =>
      intro t n ob d T hm hT hn
      obtain ⟨n, rfl⟩ : ∃ k, n = k + 1 := ⟨n - 1, by omega⟩
      refine Fn_body (G.f "_law_put" 21).2 (by decide +kernel) rfl ?_
      try (refine Exs_let ?_; intro KL)
      refine Exs_cons (If_ (T_quest (t := t) (by rfl) ?_))
      split
      all_goals try (refine Exs_let ?_; intro KL)
      · rename_i hv
        cases t with
        | v i =>
          refine Exs_cons (Ret_ (Meth_ PySem.F.plainAttrs_dict PySem.F.slot_dict_get PySem.F.type_dict_get (Name_lc (v := d) (by rfl) ⟨.dict hT, ?_⟩)))
          refine Ar_cons (Sub_ (Name_lc (v := (Tm.v i).av) (by rfl) (C_int ⟨subTy_tm _, O_hd ?_⟩)))
          refine Ar_cons (Name_lc (v := (Tm.v i).av) (by rfl) (Ar_nil (O_get2 (k := nm i) hT ⟨ob, ⟨?_, rfl⟩, fun _ _ h => h⟩)))
          rw [dget_tav]
          show ((T.get i).map Tm.av).getD (Tm.v i).av = ((T.get i).getD (.v i)).av
          cases T.get i <;> rfl
        | _ => cases hv
      · rename_i hv
        have hv' : t.isV = false := by simpa using hv
        refine Exs_nil ?_
        refine Exs_cons (Ret_ (BinOp_ (Tup_ (Ar_cons (Sub_ (Name_lc (v := t.av) (by rfl) (C_int ⟨subTy_tm _, O_hd (Ar_nil ⟨by first | exact le_line rfl | simp [sizeLine_eq], ?_⟩)⟩)))))))
        refine Call_t (G.t "tuple" "tuple").1 (G.t "tuple" "tuple").2 (Ar_cons (Comp_ (SubFrom1 (Name_lc (v := t.av) (by rfl) ⟨_, _, t.av_eq, ?_, ?_⟩))))
        · cases t <;> simp [Tm.kids]
        refine ⟨t.kids.map Tm.av, fun rest acc ob'' => ∃ ps qs, rest = qs.map Tm.av ∧ acc = ps.map (fun k => (k.fill T.get).av) ∧ ps ++ qs = t.kids ∧ ob'' = ob, rfl, ?_, ⟨[], t.kids, rfl, rfl, rfl, rfl⟩, ?_, ?_⟩
        · cases t <;> simp [Tm.kids, sizeLine_eq]
        · rintro it rest acc ob'' ⟨ps, qs, q1, q2, q3, rfl⟩
          cases qs with
          | nil => cases q1
          | cons q qs =>
            cases q1
            have hq := Tm.kids_dp (t := t) (k := q) (by rw [← q3]; simp)
            refine B_name ?_
            try (refine Exs_let ?_; intro KL)
            refine Call_fn (G.f "_law_put" 21).2 (G.f "_law_put" 21).1 (Ar_cons (Name_lc (v := q.av) (by rfl) (Ar_cons (Name_lc (v := d) (by rfl) (Ar_nil (Op.mono (ih q n _ d T (by omega) hT (by omega)) ?_))))))
            rintro v ob3 ⟨rfl, rfl⟩
            exact ⟨ps ++ [q], qs, rfl, by rw [q2]; simp, by simpa using q3, rfl⟩
        · rintro acc ob'' ⟨ps, qs, q1, q2, q3, rfl⟩
          have hq : qs = [] := by simpa using q1.symm
          subst hq
          rw [List.append_nil] at q3
          subst q3
          refine Ar_nil (O_tuple (.fr _) ?_ (O_addt ?_ ⟨_, ⟨?_, rfl⟩, fun _ _ h => h⟩))
          · rw [q2]; cases t <;> simp [Tm.kids]
          · rw [q2]; cases t <;> simp [Tm.kids]
          · rw [q2]
            exact fill_av T.get t hv'
  exact fun t n ob d T => main t.dp t n ob d T (Nat.le_refl _)
end
end Mine
end
section
open PySem PySem.W PyProof.Rows PySem.Calls
namespace Mine
theorem get_append (K : Tbl) (i j : V3) (u : Tm) : Tbl.get (K ++ [(i, u)]) j = (K.get j).or (if i = j then some u else none) := by
  unfold Tbl.get
  rw [List.find?_append]
  cases h : K.find? fun p => p.1 = j with
  | some p => simp
  | none => by_cases hij : i = j <;> simp [hij]
theorem keys_get {K : Tbl} {i : V3} : K.get i = none ↔ i ∉ K.map (·.1) := by
  unfold Tbl.get
  rw [Option.map_eq_none_iff, List.find?_eq_none, List.mem_map]
  constructor
  · rintro h ⟨p, hp, rfl⟩
    exact h p hp (by simp)
  · intro h p hp e
    exact h ⟨p, hp, by simpa using e⟩
theorem nodup_new {K : Tbl} {i : V3} {u : Tm} (h : (K.map (·.1)).Nodup) (hn : K.get i = none) : ((K ++ [(i, u)]).map (·.1)).Nodup := by
  rw [List.map_append, List.nodup_append]
  refine ⟨h, by simp, fun a ha b hb => ?_⟩
  simp at hb
  subst hb
  rintro rfl
  exact keys_get.mp hn ha
theorem v3_len (l : List V3) (nd : l.Nodup) : l.length ≤ 3 := by
  match l, nd with
  | [], _ => simp
  | [_], _ => simp
  | [_, _], _ => simp
  | [_, _, _], _ => simp
  | a :: b :: d :: e :: r, nd =>
    have h4 : [a, b, d, e].Nodup := List.Nodup.sublist (by simp) nd
    exact absurd h4 (no4 a b d e)
theorem tbl_len {K : Tbl} (h : (K.map (·.1)).Nodup) : K.length ≤ 3 := by simpa using v3_len _ h
/-- a table that says of names what θ says -/
structure Says (θ : V3 → Tm) (K : Tbl) : Prop where
  nd : (K.map (·.1)).Nodup
  says : ∀ i u, K.get i = some u → u = θ i
theorem kids_get (t : Tm) (j : Nat) (h : j < t.kids.length) : (AV.str t.hd :: t.kids.map Tm.av)[(1 + (j : Int)).toNat]? = some (t.kids[j]).av := by
  have e : (1 + (j : Int)).toNat = j + 1 := by omega
  rw [e, List.getElem?_cons_succ, List.getElem?_map, List.getElem?_eq_getElem h]
  rfl
theorem subTy_tup (t : Tm) : (subTy (.tup (.str t.hd :: t.kids.map Tm.av))).isSome = true := rfl
section
variable {c : Cx}
theorem learnt_ (G : Gl c) (θ : V3 → Tm) {a : Addr} : ∀ (t : Tm) (n : Nat) (ob : Ob) (K : Tbl), ob a = some (.dict (tav K)) → Says θ K → (t.sub θ).dp ≤ 100 → t.dp + 3 ≤ n →
    Fn c n (.ref (G.ad 22)) [t.av, (t.sub θ).av, .own a] ob fun v ob' => ∃ K', Says θ K' ∧ v = .bool true ∧ ob' = ob.set a (.dict (tav K')) := by
  have main : ∀ (m : Nat) (t : Tm) (n : Nat) (ob : Ob) (K : Tbl), t.dp ≤ m → ob a = some (.dict (tav K)) → Says θ K → (t.sub θ).dp ≤ 100 → t.dp + 3 ≤ n →
    Fn c n (.ref (G.ad 22)) [t.av, (t.sub θ).av, .own a] ob fun v ob' => ∃ K', Says θ K' ∧ v = .bool true ∧ ob' = ob.set a (.dict (tav K')) := by
    intro m
    induction m with
    | zero => intro t n ob K h; have := t.dp_pos; omega
    | succ m ih =>
      intro t n ob K hm ha hK hdp hn
      obtain ⟨n, rfl⟩ : ∃ k, n = k + 1 := ⟨n - 1, by omega⟩
      refine Fn_body (G.f "_law_learnt" 22).2 (by decide +kernel) rfl ?_
      try (refine Exs_let ?_; intro KL)
      refine Exs_cons (If_ (T_quest (t := t) (by rfl) ?_))
      cases hv : t.isV with
      | true =>
        rw [if_pos rfl]
        try (refine Exs_let ?_; intro KL)
        obtain ⟨i, rfl⟩ : ∃ i, t = .v i := by cases t <;> first | exact ⟨_, rfl⟩ | cases hv
        have hl3 := tbl_len hK.nd
        refine Exs_cons (If_ (TCmp_ (Sub_ (Name_lc (v := (Tm.v i).av) (by rfl) (C_int ⟨subTy_tm _, O_hd (Name_lc (v := .own a) (by rfl) (O_notin (k := nm i) (l := tav K) (.own ha) ⟨_, rfl, ?_⟩))⟩)))))
        rw [dget_tav]
        cases hg : K.get i with
        | some u =>
          have hu := hK.says i u hg
          rw [show (!(Option.map Tm.av (some u)).isSome) = false from rfl, if_neg (by decide)]
          try (refine Exs_let ?_; intro KL)
          refine Exs_nil (Exs_cons (Ret_ (Cmp_ (SubD_ (Name_lc (v := .own a) (by rfl) (Sub_ (Name_lc (v := (Tm.v i).av) (by rfl) (C_int ⟨subTy_tm _, O_hd ⟨⟨_, .own ha⟩, O_getd (k := nm i) (v := u.av) (l := tav K) (.own ha) (by rw [dget_tav, hg]; rfl) (Name_lc (v := (Tm.sub θ (.v i)).av) (by rfl) (O_eqt ?_ (by rw [hu]; exact hdp)))⟩⟩))))))))
          rw [hu]
          refine ⟨_, ⟨K, hK, ?_, rfl⟩, fun b o hb => ?_⟩
          · show AV.bool _ = _
            rw [show decide (θ i = Tm.sub θ (.v i)) = true from decide_eq_true rfl]
          · have : ob.set a (.dict (tav K)) = ob := by
              funext b
              unfold Ob.set
              split
              · rename_i h; rw [h, ha]
              · rfl
            rw [this] at hb
            exact hb
        | none =>
          rw [show (!(Option.map Tm.av (none : Option Tm)).isSome) = true from rfl, if_pos rfl]
          try (refine Exs_let ?_; intro KL)
          have ha2 : (ob.set a (.dict (tav (K ++ [(i, Tm.sub θ (.v i))])))) a = some (.dict (tav (K ++ [(i, Tm.sub θ (.v i))]))) := Ob.set_get ..
          have hg2 : Tbl.get (K ++ [(i, Tm.sub θ (.v i))]) i = some (Tm.sub θ (.v i)) := by rw [get_append, hg]; simp
          refine Exs_cons (Sub_set (Name_lc (v := (Tm.sub θ (.v i)).av) (by rfl) (Name_lc (v := .own a) (by rfl) (Sub_ (Name_lc (v := (Tm.v i).av) (by rfl) (C_int ⟨subTy_tm _, O_hd (O_setd (k := nm i) (l := tav K) ha ?_ ?_)⟩))))))
          · rw [dput_tav, put_new hg]
            refine Exs_nil (Exs_cons (Ret_ (Cmp_ (SubD_ (Name_lc (v := .own a) (by rfl) (Sub_ (Name_lc (v := (Tm.v i).av) (by rfl) (C_int ⟨subTy_tm _, O_hd ⟨⟨_, .own ha2⟩, O_getd (k := nm i) (v := (Tm.sub θ (.v i)).av) (l := tav (K ++ [(i, Tm.sub θ (.v i))])) (.own ha2) (by rw [dget_tav, hg2]; rfl) (Name_lc (v := (Tm.sub θ (.v i)).av) (by rfl) (O_eqt ?_ hdp))⟩⟩))))))))
            refine ⟨_, ⟨_, ⟨nodup_new hK.nd hg, fun j u hj => ?_⟩, ?_, rfl⟩, fun _ _ h => h⟩
            · rw [get_append] at hj
              cases hgj : K.get j with
              | some w => rw [hgj] at hj; cases hj; exact hK.says j _ hgj
              | none =>
                rw [hgj, Option.none_or] at hj
                split at hj
                · rename_i e; cases hj; rw [← e]; rfl
                · cases hj
            · show AV.bool _ = _
              rw [decide_eq_true rfl]
          · simp [tav, sizeLine_eq]; omega
      | false =>
        rw [if_neg (by decide)]
        try (refine Exs_let ?_; intro KL)
        obtain ⟨e1, e2⟩ := t.sub_hd θ hv
        have e3 : (t.sub θ).kids.length = t.kids.length := by rw [e2, List.length_map]
        have hkl : t.kids.length ≤ 2 := by cases t <;> simp [Tm.kids]
        refine Exs_nil (Exs_cons (If_ (TOr_ (TCmp_ (Sub_ (Name_lc (v := t.av) (by rfl) (C_int ⟨subTy_tm _, O_hd (Sub_ (Name_lc (v := (t.sub θ).av) (by rfl) (C_int ⟨subTy_tm _, O_hd (O_nes ⟨_, rfl, ?_⟩)⟩)))⟩))))))) 
        rw [show (t.hd != (t.sub θ).hd) = false from by rw [e1]; simp, if_neg (by decide)]
        refine TCmp_ (Call_b (G.b "len" "len").1 (G.b "len" "len").2 (Ar_cons (Name_lc (v := t.av) (by rfl) (Ar_nil (O_len_tm (Call_b (G.b "len" "len").1 (G.b "len" "len").2 (Ar_cons (Name_lc (v := (t.sub θ).av) (by rfl) (Ar_nil (O_len_tm (O_nei ⟨_, rfl, ?_⟩)))))))))))
        rw [show (((t.kids.length + 1 : Nat) : Int) != (((t.sub θ).kids.length + 1 : Nat) : Int)) = false from by rw [e3]; simp, if_neg (by decide)]
        refine Exs_nil (Exs_cons (Ret_ (Cmp_ (Comp_ (Call_t (G.t "range" "range").1 (G.t "range" "range").2 (Ar_cons (C_int (Ar_cons (Call_b (G.b "len" "len").1 (G.b "len" "len").2 (Ar_cons (Name_lc (v := t.av) (by rfl) (Ar_nil (O_len_tm (Ar_nil (O_range ?_ ?_)))))))))))))))
        · rcases (by omega : t.kids.length = 0 ∨ t.kids.length = 1 ∨ t.kids.length = 2) with h | h | h <;> rw [h] <;> decide +kernel
        have hrl : rangeL 1 ((t.kids.length + 1 : Nat) : Int) = (List.range t.kids.length).map fun k => AV.int (1 + (k : Nat)) := by
          unfold rangeL
          rw [show (((t.kids.length + 1 : Nat) : Int) - 1).toNat = t.kids.length from by omega]
        refine ⟨rangeL 1 ((t.kids.length + 1 : Nat) : Int), fun rest acc ob'' => ∃ (j : Nat) (K' : Tbl), acc = [] ∧ j ≤ t.kids.length ∧ rest = ((List.range t.kids.length).drop j).map (fun k => AV.int (1 + (k : Nat))) ∧ Says θ K' ∧ ob'' = ob.set a (.dict (tav K')), rfl, ?_, ⟨0, K, rfl, Nat.zero_le _, by rw [hrl]; rfl, hK, ?_⟩, ?_, ?_⟩
        · rw [hrl]; simp [sizeLine_eq]; omega
        · funext b
          unfold Ob.set
          split
          · rename_i h; rw [h]; exact ha
          · rfl
        · rintro it rest acc ob'' ⟨j, K', rfl, hj, hr, hK', rfl⟩
          by_cases hjl : j < t.kids.length
          · rw [List.drop_eq_getElem_cons (by simpa using hjl), List.map_cons] at hr
            cases hr
            have hkm : t.kids[j] ∈ t.kids := List.getElem_mem _
            have hkd := Tm.kids_dp hkm
            have hsk : (t.sub θ).kids[j]'(by rw [e3]; exact hjl) = (t.kids[j]).sub θ := by
              have := congrArg (fun l => l[j]?) e2
              simp only [List.getElem?_map] at this
              rw [List.getElem?_eq_getElem (by rw [e3]; exact hjl), List.getElem?_eq_getElem hjl, Option.map_some] at this
              exact Option.some.inj this
            have hsd : ((t.kids[j]).sub θ).dp ≤ 100 := by
              have := Tm.kids_dp (t := t.sub θ) (k := (t.kids[j]).sub θ) (by rw [← hsk]; exact List.getElem_mem _)
              omega
            have hnj : (List.range t.kids.length)[j]'(by simpa using hjl) = j := by simp
            rw [hnj]
            refine B_name ?_
            try (refine Exs_let ?_; intro KL)
            refine TNot_ (TVal_ (Call_fn (G.f "_law_learnt" 22).2 (G.f "_law_learnt" 22).1 (Ar_cons (Sub_ (Name_lc (v := t.av) (by rfl) (Name_lc (v := .int (1 + (j : Nat))) (by rfl) ⟨subTy_tm _, ?_⟩))))))
            rw [t.av_eq]
            refine O_itup (by omega) (by omega) (kids_get t j hjl) ?_
            refine Ar_cons (Sub_ (Name_lc (v := (t.sub θ).av) (by rfl) (Name_lc (v := .int (1 + (j : Nat))) (by rfl) ⟨subTy_tm _, ?_⟩)))
            rw [(t.sub θ).av_eq]
            refine O_itup (by omega) (by omega) (kids_get (t.sub θ) j (by rw [e3]; exact hjl)) ?_
            rw [hsk]
            refine Ar_cons (Name_lc (v := .own a) (by rfl) (Ar_nil (Op.mono (ih (t.kids[j]) n _ K' (by omega) (Ob.set_get ..) hK' hsd (by omega)) ?_)))
            rintro v ob1 ⟨K2, hK2, rfl, rfl⟩
            refine ⟨true, rfl, ?_⟩
            rw [show (!true) = false from rfl, if_neg (by decide)]
            try (refine Exs_let ?_; intro KL)
            refine ⟨j + 1, K2, rfl, hjl, rfl, hK2, ?_⟩
            show (Ob.set (ob.set a _) a _) = _
            rw [Ob.set_set]
          · rw [List.drop_of_length_le (by simp; omega)] at hr
            cases hr
        · rintro acc ob'' ⟨j, K', rfl, hj, hr, hK', rfl⟩
          refine Lst_fr (Ar_nil ⟨by first | exact le_line rfl | simp [sizeLine_eq], O_eqnil (.fr _) (.fr _) ⟨_, ⟨K', hK', rfl, rfl⟩, fun _ _ h => h⟩⟩)
  exact fun t n ob K => main t.dp t n ob K (Nat.le_refl _)
end
end Mine
end
section
open PySem PySem.W PyProof.Rows PySem.Calls
namespace Mine
section
variable {c : Cx} {n : Nat} {sc : Sc} {st : St}
/-- an owned thing is frozen: what held it, at any depth, is read anew -/
theorem Frz2 {α β : Type} {rel : Heap → α → β → Prop} {t : Env → Sem α} {K : β → St → Prop} {a : Addr} {o : AO} (ha : st.ob a = some o) (ho : ∀ P, o ≠ .obj P) (V' : Vs) (hV : ∀ x v, V' x = some v → ∃ u, st.vars x = some u ∧ ∀ F xv, Rep c F (.ref a) (froz o) → Rep c F xv u → Rep c F xv v)
    (h : Tr c n sc rel t ⟨V', st.ob.del a⟩ K) : Tr c n sc rel t st K := by
  refine h.start fun env F s S => ?_
  have main : ∃ F', Wf c F' (st.ob.del a) s ∧ Mov st.ob s F (st.ob.del a) s F' ∧ Rep c F' (.ref a) (froz o) := by
    obtain ⟨_, how⟩ := S.wf.own _ _ ha
    cases o with
    | list l =>
      obtain ⟨vs, ⟨k, h2⟩, h3⟩ := how
      obtain ⟨F', w1, w2, w3⟩ := S.wf.freeze a _ h2 (by rw [ha]; simp)
      exact ⟨F', w1, w2, .lst ⟨k, w3⟩ (h3.le w2.le)⟩
    | dict l =>
      obtain ⟨kvs, ⟨o, es, ep, ho, hr⟩, h2, h3⟩ := how
      obtain ⟨F', w1, w2, w3⟩ := S.wf.freeze a _ ho (by rw [ha]; simp)
      exact ⟨F', w1, w2, .dct ⟨o, es, ep, w3, hr⟩ h2 (h3.le w2.le)⟩
    | obj P => exact absurd rfl (ho P)
  obtain ⟨F', w1, w2, w3⟩ := main
  have O := S.lift w1 w2
  refine ⟨F', ⟨O.sr.vars fun x v hv => ?_, O.le, O.keep, O.new⟩⟩
  obtain ⟨u, h1, h2⟩ := hV x v hv
  exact ⟨u, h1, fun xv r => h2 F' xv w3 r⟩
/-- the same, where one name alone held it -/
theorem Frz1 {α β : Type} {rel : Heap → α → β → Prop} {t : Env → Sem α} {K : β → St → Prop} {a : Addr} {o : AO} {x : Str} {u v : AV} (ha : st.ob a = some o) (ho : ∀ P, o ≠ .obj P) (hx : st.vars x = some u) (hr : ∀ F xv, Rep c F (.ref a) (froz o) → Rep c F xv u → Rep c F xv v)
    (h : Tr c n sc rel t ⟨st.vars.set x v, st.ob.del a⟩ K) : Tr c n sc rel t st K := by
  refine Frz2 ha ho (st.vars.set x v) (fun y w hy => ?_) h
  unfold Vs.set at hy
  split at hy
  · rename_i e
    cases hy
    exact ⟨u, by rw [e]; exact hx, hr⟩
  · exact ⟨w, hy, fun _ _ _ r => r⟩
end
theorem del_set {ob : Ob} {a : Addr} {X : AO} (h : ob a = none) : (ob.set a X).del a = ob := by
  funext b
  unfold Ob.del Ob.set
  by_cases hb : b = a
  · subst hb; simp [h]
  · simp [hb]
theorem rep_own {c : Cx} {F : Heap} {a : Addr} {o : AO} {xv : Value} (h : Rep c F (.ref a) (froz o)) (r : Rep c F xv (.own a)) : Rep c F xv (froz o) := by
  first | (obtain ⟨_, rfl⟩ := Rep.int' r) | (obtain ⟨_, rfl⟩ := Rep.str' r) | (obtain rfl := Rep.bool' r) | (obtain rfl := Rep.own' r) | (obtain rfl := Rep.none' r) | (obtain rfl := Rep.raw' r) | cases r
  exact h
noncomputable def okW (j : Nat) (W : Tbl) : Prop := W.length ≤ j ∧ ∀ p ∈ W, p.2 ∈ smalls
theorem okW_put {j : Nat} {W : Tbl} {i : V3} {t : Tm} (h : okW j W) (ht : t ∈ smalls) : okW (j + 1) (W.put i t) := by
  unfold Tbl.put
  split
  all_goals try (refine Exs_let ?_; intro KL)
  · refine ⟨by simpa using Nat.le_succ_of_le h.1, fun p hp => ?_⟩
    rw [List.mem_map] at hp
    obtain ⟨q, hq, rfl⟩ := hp
    split
    all_goals try (refine Exs_let ?_; intro KL)
    · exact ht
    · exact h.2 q hq
  · refine ⟨by have := h.1; simp; omega, fun p hp => ?_⟩
    rw [List.mem_append] at hp
    rcases hp with hp | hp
    · exact h.2 p hp
    · simp at hp; subst hp; exact ht
noncomputable def wav (W : Tbl) : AV := .dct (tav W)
section
variable {c : Cx}
theorem ways_ (G : Gl c) {n : Nat} {ob : Ob} {ns : List V3} (hns : ns.length ≤ 3) (hn : 5 ≤ n) :
    Fn c n (.ref (G.ad 23)) [.lst (ns.map fun i => .str (nm i))] ob fun v ob' => ∃ ws : List Tbl, ws.length ≤ 512 ∧ (∀ W ∈ ws, okW 3 W) ∧ v = .lst (ws.map wav) ∧ ob' = ob := by
  obtain ⟨n, rfl⟩ : ∃ k, n = k + 1 := ⟨n - 1, by omega⟩
  refine Fn_body (G.f "_law_ways" 23).2 (by decide +kernel) rfl ?_
  try (refine Exs_let ?_; intro KL)
  refine Exs_cons (Asg_ (Lst_fr (Ar_cons (Dct_own fun d hd => Ar_nil ⟨by first | exact le_line rfl | simp [sizeLine_eq], ?_⟩))))
  have hd0 : ob d = none := hd
  refine Exs_cons (Frz1 (a := d) (o := .dict []) (x := "found") (u := .lst [.own d]) (v := .lst [wav []]) (Ob.set_get ..) (by simp) rfl (fun F xv h r => ?_) ?_)
  · cases r with
    | lst h1 h2 =>
      obtain ⟨y, rfl, r1⟩ := reps1 h2
      exact .lst h1 (.cons (rep_own (o := .dict []) h r1) .nil)
  refine For_ (Name_lc (v := .lst (ns.map fun i => .str (nm i))) (by rfl) ⟨ns.map fun i => .str (nm i), fun items st => ∃ (j : Nat) (is : List V3) (ws : List Tbl), items = is.map (fun i => .str (nm i)) ∧ j + is.length = ns.length ∧ ws.length ≤ 8 ^ j ∧ (∀ W ∈ ws, okW j W) ∧ st.vars "names" = some (.lst (ns.map fun i => .str (nm i))) ∧ st.vars "found" = some (.lst (ws.map wav)) ∧ st.ob = ob, rfl, ?_, ?_, ?_⟩)
  · exact ⟨0, ns, [[]], rfl, by omega, by decide, fun W hW => by simp at hW; subst hW; exact ⟨Nat.le_refl _, (fun p hp => by cases hp)⟩, rfl, rfl, del_set hd0⟩
  · rintro it rest st ⟨j, is, ws, e1, e2, e3, e4, v1, v2, v5⟩
    try (refine Exs_let ?_; intro KL)
    cases is with
    | nil => cases e1
    | cons i is =>
      cases e1
      have hj : j ≤ 2 := by simp at e2; omega
      have h8 : 8 ^ j ≤ 64 := by rcases (by omega : j = 0 ∨ j = 1 ∨ j = 2) with rfl | rfl | rfl <;> decide
      refine B_name ?_
      try (refine Exs_let ?_; intro KL)
      refine Exs_cons (Asg_ (Lst_own (Ar_nil ⟨by first | exact le_line rfl | simp [sizeLine_eq], fun l hl => ?_⟩)))
      have hl0 : st.ob l = none := hl
      refine Exs_cons (For_ (Name_lc (v := .lst (ws.map wav)) v2 ⟨ws.map wav, fun items st' => ∃ (us acc : List Tbl), items = us.map wav ∧ (∀ W ∈ us, okW j W) ∧ acc.length + 8 * us.length ≤ 8 * 8 ^ j ∧ (∀ W ∈ acc, okW (j + 1) W) ∧ st'.vars "names" = some (.lst (ns.map fun i => .str (nm i))) ∧ st'.vars "name" = some (.str (nm i)) ∧ st'.vars "late" = some (.own l) ∧ st'.ob = st.ob.set l (.list (acc.map wav)), rfl, ?_, ?_, ?_⟩))
      · exact ⟨ws, [], rfl, e4, by simp; omega, (fun W hW => by cases hW), v1, rfl, rfl, rfl⟩
      · rintro it rest st2 ⟨us, acc, f1, f2, f3, f4, w1, w2, w3, w5⟩
        try (refine Exs_let ?_; intro KL)
        cases us with
        | nil => cases f1
        | cons W us =>
          cases f1
          have hW := f2 W List.mem_cons_self
          simp only [List.length_cons] at f3
          refine B_name ?_
          try (refine Exs_let ?_; intro KL)
          have hl2 : ∀ {X : AO}, (st.ob.set l X) l = some X := Ob.set_get ..
          refine Exs_cons (For_ (Tr.mono (K := fun v st' => ∃ q : Nat, q ≤ 8 ∧ v = .tup ((smalls.map Tm.av).take q) ∧ st' = ⟨st2.vars.set "way" (wav W), st2.ob⟩) (SubTupTo (Name_g (v := .tup (smalls.map Tm.av)) G.small G.smallR ?_)) ?_))
          · refine EIf_ (TCmp_ (Call_b (G.b "len" "len").1 (G.b "len" "len").2 (Ar_cons (Name_lc (v := .lst (ns.map fun i => .str (nm i))) w1 (Ar_nil (O_len_lst (.fr _) (C_int (O_lti ⟨_, rfl, ?_⟩)) (by simp; omega)))))))
            split
            all_goals try (refine Exs_let ?_; intro KL)
            · exact C_int ⟨_, 8, rfl, rfl, by decide, by decide, 8, by omega, rfl, rfl⟩
            · exact C_int ⟨_, 4, rfl, rfl, by decide, by decide, 4, by omega, rfl, rfl⟩
          rintro v st' ⟨q, hq, rfl, rfl⟩
          try (refine Exs_let ?_; intro KL)
          refine ⟨(smalls.map Tm.av).take q, fun items st' => ∃ (ts : List Tm) (acc' : List Tbl), items = ts.map Tm.av ∧ (∀ t ∈ ts, t ∈ smalls) ∧ acc'.length + ts.length ≤ acc.length + 8 ∧ (∀ W ∈ acc', okW (j + 1) W) ∧ st'.vars "names" = some (.lst (ns.map fun i => .str (nm i))) ∧ st'.vars "name" = some (.str (nm i)) ∧ st'.vars "late" = some (.own l) ∧ st'.vars "way" = some (wav W) ∧ st'.ob = st.ob.set l (.list (acc'.map wav)), rfl, ?_, ?_, ?_⟩
          · refine ⟨smalls.take q, acc, by rw [List.map_take], fun t ht => List.mem_of_mem_take ht, ?_, f4, w1, w2, w3, rfl, w5⟩
            rw [List.length_take]
            omega
          · rintro it rest st3 ⟨ts, acc', g1, g2, g3, g4, x1, x2, x3, x4, x5⟩
            try (refine Exs_let ?_; intro KL)
            cases ts with
            | nil => cases g1
            | cons t ts =>
              cases g1
              have ht := g2 t List.mem_cons_self
              simp only [List.length_cons] at g3
              refine B_name ?_
              try (refine Exs_let ?_; intro KL)
              refine Exs_cons (Asg_ (Call_t (G.t "dict" "dict").1 (G.t "dict" "dict").2 (Ar_cons (Name_lc (v := wav W) x4 (Ar_nil (O_dict (l := tav W) (.fr _) (by have := hW.1; simp [tav]; omega) fun m hm => ?_))))))
              have hm' : (st.ob.set l (.list (acc'.map wav))) m = none := by rw [← x5]; exact hm
              have hml : m ≠ l := by
                rintro rfl
                rw [hl2] at hm'
                cases hm'
              refine Exs_cons (Sub_set (Name_lc (v := t.av) (by rfl) (Name_lc (v := .own m) (by rfl) (Name_lc (v := .str (nm i)) x2 (O_setd (l := tav W) (Ob.set_get ..) ?_ (by have := hW.1; simp [tav, sizeLine_eq]; omega))))))
              rw [Ob.set_set, dput_tav]
              refine Exs_cons (Frz1 (a := m) (o := .dict (tav (W.put i t))) (x := "more") (u := .own m) (v := wav (W.put i t)) (Ob.set_get ..) (by simp) (by rfl) (fun F xv h r => rep_own (o := .dict (tav (W.put i t))) h r) ?_)
              have hob : Ob.del (st3.ob.set m (.dict (tav (W.put i t)))) m = st.ob.set l (.list (acc'.map wav)) := by rw [del_set (by rw [x5]; exact hm'), x5]
              refine Expr_ (Meth_ PySem.F.plainAttrs_list PySem.F.slot_list_append PySem.F.type_list_append (Name_lc (v := .own l) x3 ⟨.list (l := acc'.map wav) ?_, ?_⟩))
              · show Ob.del _ m l = _
                rw [hob]; exact hl2
              refine Ar_cons (Name_lc (v := wav (W.put i t)) (by rfl) (Ar_nil (O_append (l := acc'.map wav) ?_ ?_ ⟨rfl, Exs_nil ⟨ts, acc' ++ [W.put i t], rfl, fun t' ht' => g2 t' (List.mem_cons_of_mem _ ht'), ?_, ?_, x1, x2, x3, x4, ?_⟩⟩)))
              · show Ob.del _ m l = _
                rw [hob]; exact hl2
              · simp [sizeLine_eq]; omega
              · simp; omega
              · intro W' hW'
                simp at hW'
                rcases hW' with hW' | rfl
                · exact g4 W' hW'
                · exact okW_put hW ht
              · show (Ob.del _ m).set l _ = _
                rw [hob, Ob.set_set]
                simp
          · rintro st3 ⟨ts, acc', g1, g2, g3, g4, x1, x2, x3, x4, x5⟩
            try (refine Exs_let ?_; intro KL)
            have hts : ts = [] := by simpa using g1.symm
            subst hts
            simp at g3
            exact Exs_nil ⟨us, acc', rfl, fun W' hW' => f2 W' (List.mem_cons_of_mem _ hW'), by omega, g4, x1, x2, x3, x5⟩
      · rintro st2 ⟨us, acc, f1, f2, f3, f4, w1, w2, w3, w5⟩
        try (refine Exs_let ?_; intro KL)
        have hu : us = [] := by simpa using f1.symm
        subst hu
        refine Exs_cons (Frz1 (a := l) (o := .list (acc.map wav)) (x := "late") (u := .own l) (v := .lst (acc.map wav)) (by rw [w5]; exact Ob.set_get ..) (by simp) w3 (fun F xv h r => rep_own (o := .list (acc.map wav)) h r) ?_)
        refine Asg_ (Name_lc (v := .lst (acc.map wav)) (by rfl) (Exs_nil ⟨j + 1, is, acc, rfl, by simp at e2; omega, ?_, f4, w1, rfl, ?_⟩))
        · rw [Nat.pow_succ]
          simp at f3
          omega
        · show Ob.del st2.ob l = ob
          rw [w5, del_set hl0, v5]
  · rintro st ⟨j, is, ws, e1, e2, e3, e4, v1, v2, v5⟩
    try (refine Exs_let ?_; intro KL)
    have hi : is = [] := by simpa using e1.symm
    subst hi
    refine Exs_cons (Ret_ (Name_lc (v := .lst (ws.map wav)) v2 ⟨ob, ⟨ws, ?_, fun W hW => ?_, rfl, rfl⟩, fun b o hb => ?_⟩))
    · simp at e2
      rcases (by omega : j = 0 ∨ j = 1 ∨ j = 2 ∨ j = 3) with rfl | rfl | rfl | rfl <;> simp at e3 <;> omega
    · have := e4 W hW
      simp at e2
      exact ⟨by have := this.1; omega, this.2⟩
    · show st.ob b = _
      rw [v5]; exact hb
end
end Mine
end
section
open PySem PySem.W PyProof.Rows PySem.Calls
namespace Mine
section
variable {c : Cx}
theorem is_by_ (G : Gl c) {n : Nat} {ob : Ob} {ns : List V3} {d1 d2 : AV} {T O : Tbl} (θ : V3 → Tm) (h1 : IsD ob d1 (tav T)) (h2 : IsD ob d2 (tav O)) (hns : ns.length ≤ 1000)
    (hθ : ∀ i ∈ ns, ((Tm.v i).fill T.get).sub θ = (Tm.v i).fill O.get ∧ ((Tm.v i).fill T.get).dp ≤ 30 ∧ ((Tm.v i).fill O.get).dp ≤ 50) (hn : 50 ≤ n) :
    Fn c n (.ref (G.ad 24)) [.lst (ns.map fun i => .str (nm i)), d1, d2] ob fun v ob' => v = .bool true ∧ ob' = ob := by
  obtain ⟨n, rfl⟩ : ∃ k, n = k + 1 := ⟨n - 1, by omega⟩
  refine Fn_body (G.f "_law_is_by" 24).2 (by decide +kernel) rfl ?_
  try (refine Exs_let ?_; intro KL)
  refine Exs_cons (Asg_ (Dct_own fun a ha => ?_))
  have ha0 : ob a = none := ha
  have hext : ∀ {X} b o, ob b = some o → (ob.set a X) b = some o := fun b o hb => by rw [Ob.set_ne _ _ (by rintro rfl; rw [ha0] at hb; cases hb)]; exact hb
  refine Exs_cons (Ret_ (Cmp_ (Comp_ (Name_lc (v := .lst (ns.map fun i => .str (nm i))) (by rfl) ?_))))
  refine ⟨ns.map fun i => .str (nm i), fun rest acc ob'' => ∃ (qs : List V3) (K : Tbl), acc = [] ∧ rest = qs.map (fun i => .str (nm i)) ∧ (∀ i ∈ qs, i ∈ ns) ∧ Says θ K ∧ ob'' = ob.set a (.dict (tav K)), rfl, ?_, ⟨ns, [], rfl, rfl, fun _ h => h, ⟨.nil, fun i u h => by cases h⟩, rfl⟩, ?_, ?_⟩
  · simp [sizeLine_eq]; omega
  · rintro it rest acc ob'' ⟨qs, K, rfl, q1, q2, hK, rfl⟩
    cases qs with
    | nil => cases q1
    | cons i qs =>
      cases q1
      obtain ⟨e1, e2, e3⟩ := hθ i (q2 i List.mem_cons_self)
      refine B_name ?_
      try (refine Exs_let ?_; intro KL)
      refine TNot_ (TVal_ (Call_fn (G.f "_law_learnt" 22).2 (G.f "_law_learnt" 22).1 (Ar_cons (Call_fn (G.f "_law_put" 21).2 (G.f "_law_put" 21).1 (Ar_cons (Tup_ (Ar_cons (Name_lc (v := .str (nm i)) (by rfl) (Ar_nil ⟨by first | exact le_line rfl | simp [sizeLine_eq], ?_⟩)))))))))
      refine Ar_cons (Name_lc (v := d1) (by rfl) (Ar_nil (Op.mono (put_ G (.v i) n _ d1 T (h1.ext hext) (by simp [Tm.dp]; omega)) ?_)))
      rintro v ob1 ⟨rfl, rfl⟩
      refine Ar_cons (Call_fn (G.f "_law_put" 21).2 (G.f "_law_put" 21).1 (Ar_cons (Tup_ (Ar_cons (Name_lc (v := .str (nm i)) (by rfl) (Ar_nil ⟨by first | exact le_line rfl | simp [sizeLine_eq], ?_⟩))))))
      refine Ar_cons (Name_lc (v := d2) (by rfl) (Ar_nil (Op.mono (put_ G (.v i) n _ d2 O (h2.ext hext) (by simp [Tm.dp]; omega)) ?_)))
      rintro v ob1 ⟨rfl, rfl⟩
      rw [← e1]
      refine Ar_cons (Name_lc (v := .own a) (by rfl) (Ar_nil (Op.mono (learnt_ G θ _ n _ K (Ob.set_get ..) hK (by rw [e1]; omega) (by omega)) ?_)))
      rintro v ob1 ⟨K2, hK2, rfl, rfl⟩
      refine ⟨true, rfl, ?_⟩
      rw [show (!true) = false from rfl, if_neg (by decide)]
      try (refine Exs_let ?_; intro KL)
      refine ⟨qs, K2, rfl, rfl, fun i hi => q2 i (List.mem_cons_of_mem _ hi), hK2, ?_⟩
      show (Ob.set (ob.set a _) a _) = _
      rw [Ob.set_set]
  · rintro acc ob'' ⟨qs, K, rfl, q1, q2, hK, rfl⟩
    exact Lst_fr (Ar_nil ⟨by first | exact le_line rfl | simp [sizeLine_eq], O_eqnil (.fr _) (.fr _) ⟨ob, ⟨rfl, rfl⟩, hext⟩⟩)
end
end Mine
end
section
open PySem PySem.W PyProof.Rows PySem.Calls
namespace Mine
structure Uni (one other : Tm) (σ : Tbl) : Prop where
  nd : (σ.map (·.1)).Nodup
  small : ∀ i t, σ.get i = some t → t.dp ≤ 13 ∧ t.size ≤ 10000
  idem : ∀ i t, σ.get i = some t → ∀ j, t.has j = true → σ.get j = none
  key : ∀ i t, σ.get i = some t → one.has i = true ∨ other.has i = true
  eq : one.fill σ.get = other.fill σ.get
  mgu : ∀ θ : V3 → Tm, one.sub θ = other.sub θ → ∀ i, ((Tm.v i).fill σ.get).sub θ = θ i
noncomputable def UR (one other : Tm) : Option Tbl → Prop
  | none => ∀ θ : V3 → Tm, one.sub θ ≠ other.sub θ
  | some σ => Uni one other σ
noncomputable def tot (T : V3 → Option Tm) : V3 → Tm := fun i => (T i).getD (.v i)
theorem Tm.fill_sub (T : V3 → Option Tm) : ∀ t : Tm, t.fill T = t.sub (tot T)
  | .v i => rfl
  | .a => rfl
  | .b => rfl
  | .f t => by simp only [Tm.fill, Tm.sub, Tm.fill_sub T t]
  | .g t u => by simp only [Tm.fill, Tm.sub, Tm.fill_sub T t, Tm.fill_sub T u]
theorem Tm.fill_dp {T : V3 → Option Tm} {m : Nat} (h : ∀ i t, T i = some t → t.dp ≤ m + 1) : ∀ t : Tm, (t.fill T).dp ≤ t.dp + m
  | .v i => by
    show ((T i).getD (.v i)).dp ≤ 1 + m
    cases e : T i with
    | none => show 1 ≤ 1 + m; omega
    | some t => have := h i t e; simp only [Option.getD_some]; omega
  | .a => by show 1 ≤ 1 + m; omega
  | .b => by show 1 ≤ 1 + m; omega
  | .f t => by
    have := Tm.fill_dp h t
    show (t.fill T).dp + 1 ≤ t.dp + 1 + m
    omega
  | .g t u => by
    have h1 := Tm.fill_dp h t
    have h2 := Tm.fill_dp h u
    show max (t.fill T).dp (u.fill T).dp + 1 ≤ max t.dp u.dp + 1 + m
    omega
theorem Tm.dp_size : ∀ t : Tm, t.size + 1 ≤ 2 ^ t.dp
  | .v i => by simp [Tm.size, Tm.dp]
  | .a => by simp [Tm.size, Tm.dp]
  | .b => by simp [Tm.size, Tm.dp]
  | .f t => by
    have := Tm.dp_size t
    simp only [Tm.size, Tm.dp, Nat.pow_succ]
    omega
  | .g t u => by
    have h1 := Tm.dp_size t
    have h2 := Tm.dp_size u
    have h3 : 2 ^ t.dp ≤ 2 ^ max t.dp u.dp := Nat.pow_le_pow_right (by omega) (by omega)
    have h4 : 2 ^ u.dp ≤ 2 ^ max t.dp u.dp := Nat.pow_le_pow_right (by omega) (by omega)
    simp only [Tm.size, Tm.dp, Nat.pow_succ]
    omega
theorem small_of_dp {t : Tm} (h : t.dp ≤ 5) : t.size ≤ 31 := by
  have h1 := t.dp_size
  have h2 : 2 ^ t.dp ≤ 2 ^ 5 := Nat.pow_le_pow_right (by omega) h
  omega
theorem smalls_dp : ∀ t ∈ smalls, t.dp ≤ 3 := by decide
theorem get_mem {K : Tbl} {i : V3} {t : Tm} (h : K.get i = some t) : ∃ p ∈ K, p.2 = t := by
  unfold Tbl.get at h
  rw [Option.map_eq_some_iff] at h
  obtain ⟨p, hp, rfl⟩ := h
  exact ⟨p, List.mem_of_find?_eq_some hp, rfl⟩
theorem put_dp {K : Tbl} {i : V3} {t : Tm} {m : Nat} (h : ∀ p ∈ K, p.2.dp ≤ m) (ht : t.dp ≤ m) : ∀ p ∈ K.put i t, p.2.dp ≤ m := by
  unfold Tbl.put
  intro p hp
  split at hp
  · rw [List.mem_map] at hp
    obtain ⟨q, hq, rfl⟩ := hp
    split
    all_goals try (refine Exs_let ?_; intro KL)
    · exact ht
    · exact h q hq
  · rw [List.mem_append] at hp
    rcases hp with hp | hp
    · exact h p hp
    · simp at hp; subst hp; exact ht
theorem put_len {K : Tbl} {i : V3} {t : Tm} : (K.put i t).length ≤ K.length + 1 := by
  unfold Tbl.put
  split
  all_goals try (refine Exs_let ?_; intro KL)
  · simp
  · simp
section
variable {c : Cx}
theorem law_ (G : Gl c) (hU : ∀ (one other : Tm) (n : Nat) (ob : Ob), one.dp ≤ 5 → other.dp ≤ 5 → 100 ≤ n → Fn c n (.ref (G.ad 15)) [one.av, other.av] ob fun v ob' => ∃ r, UR one other r ∧ v = optAV r ∧ ob' = ob)
    {n : Nat} {ob : Ob} {xs : List Int} (hxs : xs.length ≤ 1000) (hn : 200 ≤ n) : Fn c n (.ref (G.ad 25)) [.lst (xs.map AV.int)] ob fun v ob' => v = .bool true ∧ ob' = ob := by
  obtain ⟨n, rfl⟩ : ∃ k, n = k + 1 := ⟨n - 1, by omega⟩
  refine Fn_body (G.f "law" 25).2 (by decide +kernel) rfl ?_
  try (refine Exs_let ?_; intro KL)
  refine Exs_cons (Asg_ (Dct2_ cells_at fun L hL => Call_t (G.t "list" "list").1 (G.t "list" "list").2 (Ar_cons (SubLstTo (j := 50) (Name_lc (v := .lst (xs.map AV.int)) (by rfl) ⟨_, rfl, by simp; omega, Ar_nil (O_list (.fr _) (by simp; omega) (C_int ⟨Ob.set_get .., ?_⟩))⟩)))))
  have hL0 : ob L = none := hL
  rw [Ob.set_set, ← List.map_take]
  generalize hcs : xs.take 50 = cs
  have hcsl : cs.length ≤ 50 := by rw [← hcs]; simp; omega
  have hob0 : ob.set L (.dict [("cells", .lst (cs.map AV.int)), ("at", .int 0)]) = ob.set L (.dict (lotAV cs ((0 : Nat) : Int))) := rfl
  rw [hob0]
  have hLg : ∀ {X}, (ob.set L X) L = some X := Ob.set_get ..
  refine Exs_cons (Asg_ (Call_fn (G.f "_law_pattern" 19).2 (G.f "_law_pattern" 19).1 (Ar_cons (Name_lc (v := .own L) (by rfl) (Ar_cons (C_int (Ar_nil (Op.mono (pattern_ G (cs := cs) (by omega) 3 n _ 0 hLg (by decide) (by omega)) ?_))))))))
  rintro v ob1 ⟨one, k1, hone, _, hk1, rfl, rfl⟩
  rw [Ob.set_set]
  have hk1' : k1 ≤ 23 := by omega
  refine Exs_cons (Tr.mono (K := fun f st => f = .next ∧ ∃ other : Tm, other.dp ≤ 5 ∧ st.vars "one" = some one.av ∧ st.vars "other" = some other.av ∧ ∀ b o, ob b = some o → st.ob b = some o)
    (If_ (TCmp_ (Call_fn (G.f "_law_taken" 18).2 (G.f "_law_taken" 18).1 (Ar_cons (Name_lc (v := .own L) (by rfl) (Ar_cons (C_int (Ar_nil (Op.mono (taken_ G (k := k1) hLg (by omega) (by omega) (by decide) (by omega)) ?_)))))))) ) ?_)
  · rintro v ob1 ⟨r, r0, r3, rfl, rfl⟩
    rw [Ob.set_set]
    refine C_int (O_eqi ⟨_, rfl, ?_⟩)
    split
    all_goals try (refine Exs_let ?_; intro KL)
    · refine Exs_cons (Asg_ (Dct_own fun m hm => ?_))
      have hm0 : (ob.set L (.dict (lotAV cs ((k1 + 1 : Nat) : Int)))) m = none := hm
      have hLm : L ≠ m := by
        rintro rfl
        rw [hLg] at hm0
        cases hm0
      have hm1 : ob m = none := by rwa [Ob.set_ne _ _ (Ne.symm hLm)] at hm0
      have hext : ∀ {X Y} b o, ob b = some o → ob2 ob L m X Y b = some o := fun b o => ob2_ext hL0 hm1 b o
      have hob1 : (ob.set L (.dict (lotAV cs ((k1 + 1 : Nat) : Int)))).set m (.dict []) = ob2 ob L m (.dict (lotAV cs ((k1 + 1 : Nat) : Int))) (.dict []) := ob2_set hLm
      refine Exs_cons (For_ (Call_fn (G.f "_law_names" 20).2 (G.f "_law_names" 20).1 (Ar_cons (Name_lc (v := one.av) (by rfl) (Ar_nil (Op.mono (names_ G one n _ (by omega) (by have := small_of_dp (t := one) (by omega); omega)) ?_))))))
      rintro v ob1 ⟨rfl, e1⟩
      have e1 : ob1 = _ := e1.trans hob1
      subst e1
      have hnl := v3_len _ one.names_nodup
      refine ⟨one.names.map fun i => .str (nm i), fun items st => ∃ (is : List V3) (k : Nat) (K : Tbl), items = is.map (fun i => .str (nm i)) ∧ k + 6 * is.length ≤ 60 ∧ K.length + is.length ≤ 3 ∧ (∀ p ∈ K, p.2.dp ≤ 2) ∧ st.vars "one" = some one.av ∧ st.vars "lot" = some (.own L) ∧ st.vars "known" = some (.own m) ∧ st.ob = ob2 ob L m (.dict (lotAV cs k)) (.dict (tav K)), rfl, ⟨one.names, k1 + 1, [], rfl, by omega, by simpa using hnl, (fun p hp => by cases hp), rfl, rfl, rfl, rfl⟩, ?_, ?_⟩
      · rintro it rest st ⟨is, k, K, f1, f2, f3, f4, v1, v2, v3, v5⟩
        try (refine Exs_let ?_; intro KL)
        cases is with
        | nil => cases f1
        | cons i is =>
          cases f1
          simp only [List.length_cons] at f2 f3
          refine B_name ?_
          try (refine Exs_let ?_; intro KL)
          have hg : st.ob L = some (.dict (lotAV cs k)) := by rw [v5]; exact ob2_w
          refine Exs_cons (If_ (TCmp_ (Call_fn (G.f "_law_taken" 18).2 (G.f "_law_taken" 18).1 (Ar_cons (Name_lc (v := .own L) v2 (Ar_cons (C_int (Ar_nil (Op.mono (taken_ G (k := k) hg (by omega) (by omega) (by decide) (by omega)) ?_)))))))))
          rintro v ob1 ⟨r, r0, r3, rfl, e2⟩
          have e2 : ob1 = ob2 ob L m (.dict (lotAV cs ((k + 1 : Nat) : Int))) (.dict (tav K)) := by
            rw [e2]
            show st.ob.set L _ = _
            rw [v5, ob2_setw]
          subst e2
          refine C_int (O_eqi ⟨_, rfl, ?_⟩)
          split
          all_goals try (refine Exs_let ?_; intro KL)
          · refine Exs_cons (Sub_set (Call_fn (G.f "_law_pattern" 19).2 (G.f "_law_pattern" 19).1 (Ar_cons (Name_lc (v := .own L) v2 (Ar_cons (C_int (Ar_nil (Op.mono (pattern_ G (cs := cs) (by omega) 1 n _ (k + 1) ob2_w (by omega) (by omega)) ?_))))))))
            rintro v ob1 ⟨t, k2, t1, t2, t3, rfl, e3⟩
            rw [ob2_setw] at e3
            subst e3
            refine Name_lc (v := .own m) v3 (Name_lc (v := .str (nm i)) (by rfl) (O_setd (l := tav K) (ob2_s hLm) (Exs_nil (Exs_nil ⟨is, k2, K.put i t, rfl, by omega, ?_, put_dp f4 (by omega), v1, v2, v3, ?_⟩)) (by simp [tav, sizeLine_eq]; omega)))
            · have := put_len (K := K) (i := i) (t := t); omega
            · show Ob.set (ob2 ob L m _ _) m _ = _
              rw [ob2_sets hLm, dput_tav]
          · exact Exs_nil (Exs_nil ⟨is, k + 1, K, rfl, by omega, by omega, f4, v1, v2, v3, rfl⟩)
      · rintro st ⟨is, k, K, f1, f2, f3, f4, v1, v2, v3, v5⟩
        try (refine Exs_let ?_; intro KL)
        refine Exs_cons (Asg_ (Call_fn (G.f "_law_put" 21).2 (G.f "_law_put" 21).1 (Ar_cons (Name_lc (v := one.av) v1 (Ar_cons (Name_lc (v := .own m) v3 (Ar_nil (Op.mono (put_ G one n _ (.own m) K (.own (by rw [v5]; exact ob2_s hLm)) (by omega)) ?_))))))))
        rintro v ob1 ⟨rfl, rfl⟩
        have hfd := Tm.fill_dp (T := K.get) (m := 1) (fun i t hi => by obtain ⟨p, hp, rfl⟩ := get_mem hi; exact f4 p hp) one
        refine Exs_nil ⟨rfl, one.fill K.get, by omega, v1, rfl, fun b o hb => ?_⟩
        show st.ob b = _
        rw [v5]; exact hext b o hb
    · refine Exs_cons (Asg_ (Call_fn (G.f "_law_pattern" 19).2 (G.f "_law_pattern" 19).1 (Ar_cons (Name_lc (v := .own L) (by rfl) (Ar_cons (C_int (Ar_nil (Op.mono (pattern_ G (cs := cs) (by omega) 3 n _ (k1 + 1) hLg (by omega) (by omega)) ?_))))))))
      rintro v ob1 ⟨t, k2, t1, t2, t3, rfl, rfl⟩
      rw [Ob.set_set]
      refine Exs_nil ⟨rfl, t, by omega, rfl, rfl, fun b o hb => ?_⟩
      show Ob.set ob L _ b = _
      rw [Ob.set_ne _ _ (by rintro rfl; rw [hL0] at hb; cases hb)]
      exact hb
  rintro f st ⟨rfl, other, hother, v1, v2, hext⟩
  try (refine Exs_let ?_; intro KL)
  have hone5 : one.dp ≤ 5 := by omega
  have s1 := small_of_dp hone5
  have s2 := small_of_dp hother
  refine Exs_cons (Asg_ (Call_b (G.b "sorted" "sorted").1 (G.b "sorted" "sorted").2 (Ar_cons (Call_t (G.t "set" "set").1 (G.t "set" "set").2 (Ar_cons (BinOp_ (Call_fn (G.f "_law_names" 20).2 (G.f "_law_names" 20).1 (Ar_cons (Name_lc (v := one.av) v1 (Ar_nil (Op.mono (names_ G one n _ (by omega) (by omega)) ?_)))))))))))
  rintro v ob1 ⟨rfl, rfl⟩
  refine Call_fn (G.f "_law_names" 20).2 (G.f "_law_names" 20).1 (Ar_cons (Name_lc (v := other.av) v2 (Ar_nil (Op.mono (names_ G other n _ (by omega) (by omega)) ?_))))
  rintro v ob1 ⟨rfl, rfl⟩
  have hn1 := v3_len _ one.names_nodup
  have hn2 := v3_len _ other.names_nodup
  refine O_addl (.fr _) (.fr _) (by simp; omega) (Ar_nil ?_)
  have ess : (one.names.map (fun i => AV.str (nm i)) ++ other.names.map fun i => AV.str (nm i)) = ((one.names ++ other.names).map nm).map AV.str := by rw [List.map_map, List.map_append]; rfl
  rw [ess]
  refine O_set (.fr _) (by simp; omega) fun a ha => Ar_nil (O_sorted_set (p := fun i => one.has i || other.has i) (Ob.set_get ..) (fun x => ?_) ?_)
  · rw [List.mem_map]
    constructor
    · rintro ⟨i, hi, rfl⟩
      refine ⟨i, ?_, rfl⟩
      rw [List.mem_append, Tm.names_has, Tm.names_has] at hi
      rcases hi with h | h <;> simp [h]
    · rintro ⟨i, hi, rfl⟩
      refine ⟨i, ?_, rfl⟩
      rw [List.mem_append, Tm.names_has, Tm.names_has]
      simpa using hi
  have hext2 : ∀ b o, ob b = some o → (st.ob.set a (.obj (SetSt c.prog c.w (ledOf c.w) (met [] ((one.names ++ other.names).map nm))))) b = some o := fun b o hb => by
    rw [Ob.set_ne _ _ (by rintro rfl; exact nomatch ha.symm.trans (hext _ _ hb))]
    exact hext b o hb
  have hsim : ∃ (ns : List V3), ns.length ≤ 3 ∧ (∀ i, i ∈ ns ↔ (one.has i = true ∨ other.has i = true)) ∧ ((inOrder fun i => one.has i || other.has i).map fun i => AV.str (nm i)) = ns.map fun i => AV.str (nm i) :=
    ⟨_, by unfold inOrder; exact List.length_filter_le _ _, fun i => by rw [inOrder_mem]; simp, rfl⟩
  obtain ⟨ns, hnsl, hns, ens⟩ := hsim
  rw [ens]
  generalize st.ob.set a (.obj (SetSt c.prog c.w (ledOf c.w) (met [] ((one.names ++ other.names).map nm)))) = obb at hext2 ⊢
  refine Exs_cons (Asg2_ ?_ (by decide) none (by intro env h; unfold swappedStores Env.kindOf Env.blockKind; rw [h]; rfl) (.inl rfl))
  refine Tup_ (Ar_cons (Call_fn (G.f "unified" 15).2 (G.f "unified" 15).1 (Ar_cons (Name_lc (v := one.av) v1 (Ar_cons (Name_lc (v := other.av) v2 (Ar_nil (Op.mono (hU one other n _ hone5 hother (by omega)) ?_))))))))
  rintro v obb ⟨r1, hr1, rfl, rfl⟩
  refine Ar_cons (Call_fn (G.f "unified" 15).2 (G.f "unified" 15).1 (Ar_cons (Name_lc (v := other.av) v2 (Ar_cons (Name_lc (v := one.av) v1 (Ar_nil (Op.mono (hU other one n _ hother hone5 (by omega)) ?_)))))))
  rintro v obb ⟨r2, hr2, rfl, rfl⟩
  refine Ar_nil ⟨by first | exact le_line rfl | simp [sizeLine_eq], _, _, rfl, ?_⟩
  have hsame : isNone (optAV r1) = isNone (optAV r2) := by
    cases r1 with
    | none =>
      cases r2 with
      | none => rfl
      | some σ =>
        have h := hr2.eq
        rw [Tm.fill_sub, Tm.fill_sub] at h
        exact absurd h.symm (hr1 _)
    | some σ =>
      cases r2 with
      | some _ => rfl
      | none =>
        have h := hr1.eq
        rw [Tm.fill_sub, Tm.fill_sub] at h
        exact absurd h.symm (hr2 _)
  refine Exs_cons (If_ (TCmp_ (Cmp_ (Name_lc (v := optAV r1) (by rfl) (C_none (O_isNone (by cases r1 <;> intro x h <;> cases h) ?_))))))
  refine Cmp_ (Name_lc (v := optAV r2) (by rfl) (C_none (O_isNone (by cases r2 <;> intro x h <;> cases h) (O_neb ⟨_, rfl, ?_⟩))))
  rw [hsame, show (isNone (optAV r2) != isNone (optAV r2)) = false from by simp, if_neg (by decide)]
  try (refine Exs_let ?_; intro KL)
  refine Exs_nil ?_
  refine Exs_cons (Asg_comp (Call_fn (G.f "_law_ways" 23).2 (G.f "_law_ways" 23).1 (Ar_cons (Name_lc (v := .lst (ns.map fun i => .str (nm i))) (by rfl) (Ar_nil (Op.mono (ways_ G (n := n) hnsl (by omega)) ?_))))) (by intro env h; unfold swapsWith Env.kindOf Env.blockKind; rw [h]; rfl))
  rintro v obb ⟨ws, hwl, hws, rfl, rfl⟩
  have hwd : ∀ W, okW 3 W → ∀ t : Tm, t.dp ≤ 5 → (t.fill W.get).dp ≤ 7 := fun W hW t ht => by
    have := Tm.fill_dp (T := W.get) (m := 2) (fun i u hi => by obtain ⟨p, hp, rfl⟩ := get_mem hi; exact smalls_dp _ (hW.2 p hp)) t
    omega
  refine ⟨ws.map wav, fun rest acc ob'' => ∃ ps qs : List Tbl, rest = qs.map wav ∧ acc = (ps.filter fun W => decide (one.fill W.get = other.fill W.get)).map wav ∧ ps ++ qs = ws ∧ ob'' = obb, rfl, ?_, ⟨[], ws, rfl, rfl, rfl, rfl⟩, ?_, ?_⟩
  · simp [sizeLine_eq]; omega
  · rintro it rest acc obb ⟨ps, qs, q1, q2, q3, rfl⟩
    cases qs with
    | nil => cases q1
    | cons W qs =>
      cases q1
      have hW := hws W (by rw [← q3]; simp)
      refine B_name ?_
      try (refine Exs_let ?_; intro KL)
      refine TCmp_ (Call_fn (G.f "_law_put" 21).2 (G.f "_law_put" 21).1 (Ar_cons (Name_lc (v := one.av) v1 (Ar_cons (Name_lc (v := wav W) (by rfl) (Ar_nil (Op.mono (put_ G one n _ (wav W) W (.fr _) (by omega)) ?_)))))))
      rintro v obb ⟨rfl, rfl⟩
      refine Call_fn (G.f "_law_put" 21).2 (G.f "_law_put" 21).1 (Ar_cons (Name_lc (v := other.av) v2 (Ar_cons (Name_lc (v := wav W) (by rfl) (Ar_nil (Op.mono (put_ G other n _ (wav W) W (.fr _) (by omega)) ?_))))))
      rintro v obb ⟨rfl, rfl⟩
      refine O_eqt ⟨_, rfl, ?_⟩ (by have := hwd W hW one hone5; omega)
      split
      all_goals try (refine Exs_let ?_; intro KL)
      · rename_i hv
        refine Name_lc (v := wav W) (by rfl) ⟨ps ++ [W], qs, rfl, ?_, by simpa using q3, rfl⟩
        rw [q2, List.filter_append]
        simp only [List.filter_cons, hv, if_true, List.filter_nil, List.map_append, List.map_cons, List.map_nil]
      · rename_i hv
        refine ⟨ps ++ [W], qs, rfl, ?_, by simpa using q3, rfl⟩
        rw [q2, List.filter_append]
        simp only [List.filter_cons, hv, List.filter_nil]
        rw [if_neg (by decide), List.append_nil]
        try (refine Exs_let ?_; intro KL)
  rintro acc obb ⟨ps, qs, q1, q2, q3, rfl⟩
  have hq : qs = [] := by simpa using q1.symm
  subst hq
  rw [List.append_nil] at q3
  subst q3
  generalize hsv : (ps.filter fun W => decide (one.fill W.get = other.fill W.get)) = sv at q2
  subst q2
  have hsvl : sv.length ≤ 512 := by rw [← hsv]; exact Nat.le_trans (List.length_filter_le _ _) hwl
  have hsvm : ∀ W ∈ sv, okW 3 W ∧ one.sub (tot W.get) = other.sub (tot W.get) := fun W hW => by
    rw [← hsv, List.mem_filter] at hW
    refine ⟨hws W hW.1, ?_⟩
    rw [← Tm.fill_sub, ← Tm.fill_sub]
    simpa using hW.2
  refine Exs_cons (If_ (TCmp_ (Name_lc (v := optAV r1) (by rfl) (C_none (O_isNone (by cases r1 <;> intro x h <;> cases h) ⟨_, rfl, ?_⟩)))))
  cases r1 with
  | none =>
    rw [show isNone (optAV none) = true from rfl, if_pos rfl]
    try (refine Exs_let ?_; intro KL)
    have hsve : sv = [] := by
      cases sv with
      | nil => rfl
      | cons W r => exact absurd (hsvm W List.mem_cons_self).2 (hr1 _)
    subst hsve
    refine Exs_cons (Ret_ (Cmp_ (Name_lc (v := .lst []) (by rfl) (Lst_fr (Ar_nil ⟨by first | exact le_line rfl | simp [sizeLine_eq], O_eqnil (.fr _) (.fr _) ⟨ob, ⟨rfl, rfl⟩, hext2⟩⟩)))))
  | some σ =>
    rw [show isNone (optAV (some σ)) = false from rfl, if_neg (by decide)]
    try (refine Exs_let ?_; intro KL)
    have U : Uni one other σ := hr1
    obtain ⟨σ', rfl⟩ : ∃ σ', r2 = some σ' := by
      cases r2 with
      | none => cases hsame
      | some σ' => exact ⟨_, rfl⟩
    have U' : Uni other one σ' := hr2
    have hσl := tbl_len U.nd
    have hσ'l := tbl_len U'.nd
    have hσdp : ∀ t : Tm, (t.fill σ.get).dp ≤ t.dp + 12 := Tm.fill_dp fun i t hi => (U.small i t hi).1
    have hσ'dp : ∀ t : Tm, (t.fill σ'.get).dp ≤ t.dp + 12 := Tm.fill_dp fun i t hi => (U'.small i t hi).1
    refine Exs_nil ?_
    refine Exs_cons (If_ (TCmp_ (Comp_ (Name_lc (v := .dct (tav σ)) (by rfl) ?_))))
    refine ⟨σ.map fun p => .str (nm p.1), fun rest acc ob'' => acc = [] ∧ ∃ qs : Tbl, rest = qs.map (fun p => .str (nm p.1)) ∧ (∀ p ∈ qs, p ∈ σ) ∧ ob'' = obb, ?_, ?_, ⟨rfl, σ, rfl, fun _ h => h, rfl⟩, ?_, ?_⟩
    · show some ((tav σ).map fun p => AV.str p.1) = _
      unfold tav
      rw [List.map_map]
      rfl
    · simp [sizeLine_eq]; omega
    · rintro it rest acc obb ⟨rfl, qs, q1, q2, rfl⟩
      cases qs with
      | nil => cases q1
      | cons q qs =>
        cases q1
        obtain ⟨i, t⟩ := q
        obtain ⟨t, hit⟩ : ∃ t, σ.get i = some t := by
          cases h : σ.get i with
          | some t => exact ⟨t, rfl⟩
          | none => exact absurd (List.mem_map.mpr ⟨_, q2 _ List.mem_cons_self, rfl⟩) (keys_get.mp h)
        obtain ⟨ht1, ht2⟩ := U.small i t hit
        refine B_name ?_
        try (refine Exs_let ?_; intro KL)
        refine TOr_ (TCmp_ (Comp_ (Call_fn (G.f "_law_names" 20).2 (G.f "_law_names" 20).1 (Ar_cons (SubD_ (Name_lc (v := .dct (tav σ)) (by rfl) (Name_lc (v := .str (nm i)) (by rfl) ⟨⟨tav σ, .fr _⟩, O_getd (v := t.av) (l := tav σ) (.fr _) (by rw [dget_tav, hit]; rfl) (Ar_nil (Op.mono (names_ G t n _ (by omega) (by omega)) ?_))⟩)))))))
        rintro v obb ⟨rfl, rfl⟩
        have htn := v3_len _ t.names_nodup
        refine ⟨t.names.map fun i => .str (nm i), fun rest acc ob'' => acc = [] ∧ ∃ js : List V3, rest = js.map (fun i => .str (nm i)) ∧ (∀ j ∈ js, t.has j = true) ∧ ob'' = obb, rfl, by simp [sizeLine_eq]; omega, ⟨rfl, t.names, rfl, fun j hj => (t.names_has j).mp hj, rfl⟩, ?_, ?_⟩
        · rintro it rest acc obb ⟨rfl, js, g1, g2, rfl⟩
          cases js with
          | nil => cases g1
          | cons j js =>
            cases g1
            have hj := U.idem i t hit j (g2 j List.mem_cons_self)
            refine B_name ?_
            try (refine Exs_let ?_; intro KL)
            refine TCmp_ (Name_lc (v := .str (nm j)) (by rfl) (Name_lc (v := .dct (tav σ)) (by rfl) (O_in (l := tav σ) (.fr _) ⟨_, rfl, ?_⟩)))
            rw [dget_tav, hj, show (Option.map Tm.av (none : Option Tm)).isSome = false from rfl, if_neg (by decide)]
            try (refine Exs_let ?_; intro KL)
            exact ⟨rfl, js, rfl, fun j hj => g2 j (List.mem_cons_of_mem _ hj), rfl⟩
        · rintro acc obb ⟨rfl, js, g1, g2, rfl⟩
          refine Lst_fr (Ar_nil ⟨by first | exact le_line rfl | simp [sizeLine_eq], O_nenil (.fr _) (.fr _) ⟨_, rfl, ?_⟩⟩)
          rw [show (!([] : List AV).isEmpty) = false from rfl, if_neg (by decide)]
          try (refine Exs_let ?_; intro KL)
          have ess2 : (ns.map fun i => AV.str (nm i)) = (ns.map nm).map AV.str := by rw [List.map_map]; rfl
          refine TCmp_ (Name_lc (v := .str (nm i)) (by rfl) (Name_lc (v := .lst (ns.map fun i => .str (nm i))) (by rfl) (O_notinl (ss := ns.map nm) (by rw [ess2]; exact .fr _) ⟨_, rfl, ?_⟩)))
          have hin : (ns.map nm).contains (nm i) = true := by
            rw [List.contains_iff_mem]
            exact List.mem_map.mpr ⟨i, (hns i).mpr (U.key i t hit), rfl⟩
          rw [hin, show (!true) = false from rfl, if_neg (by decide)]
          try (refine Exs_let ?_; intro KL)
          exact ⟨rfl, qs, rfl, fun p hp => q2 p (List.mem_cons_of_mem _ hp), rfl⟩
    rintro acc obb ⟨rfl, qs, q1, q2, rfl⟩
    refine Lst_fr (Ar_nil ⟨by first | exact le_line rfl | simp [sizeLine_eq], O_nenil (.fr _) (.fr _) ⟨_, rfl, ?_⟩⟩)
    rw [show (!([] : List AV).isEmpty) = false from rfl, if_neg (by decide)]
    try (refine Exs_let ?_; intro KL)
    refine Exs_nil ?_
    refine Exs_cons (If_ (TOr_ (TCmp_ (Call_fn (G.f "_law_put" 21).2 (G.f "_law_put" 21).1 (Ar_cons (Name_lc (v := one.av) v1 (Ar_cons (Name_lc (v := .dct (tav σ)) (by rfl) (Ar_nil (Op.mono (put_ G one n _ (.dct (tav σ)) σ (.fr _) (by omega)) ?_))))))))))
    rintro v obb ⟨rfl, rfl⟩
    refine Call_fn (G.f "_law_put" 21).2 (G.f "_law_put" 21).1 (Ar_cons (Name_lc (v := other.av) v2 (Ar_cons (Name_lc (v := .dct (tav σ)) (by rfl) (Ar_nil (Op.mono (put_ G other n _ (.dct (tav σ)) σ (.fr _) (by omega)) ?_))))))
    rintro v obb ⟨rfl, rfl⟩
    refine O_net ⟨_, rfl, ?_⟩ (by have := hσdp one; omega)
    rw [decide_eq_true U.eq, show (!true) = false from rfl, if_neg (by decide)]
    try (refine Exs_let ?_; intro KL)
    have hvdp : ∀ i, ((Tm.v i).fill σ.get).dp ≤ 30 := fun i => by have := hσdp (.v i); simp [Tm.dp] at this ⊢; omega
    have hvdp' : ∀ i, ((Tm.v i).fill σ'.get).dp ≤ 30 := fun i => by have := hσ'dp (.v i); simp [Tm.dp] at this ⊢; omega
    refine TCmp_ (Comp_ (Name_lc (v := .lst (sv.map wav)) (by rfl) ?_))
    refine ⟨sv.map wav, fun rest acc ob'' => acc = [] ∧ ∃ qs : List Tbl, rest = qs.map wav ∧ (∀ W ∈ qs, W ∈ sv) ∧ ob'' = obb, rfl, by simp [sizeLine_eq]; omega, ⟨rfl, sv, rfl, fun _ h => h, rfl⟩, ?_, ?_⟩
    · rintro it rest acc obb ⟨rfl, qs, q1, q2, rfl⟩
      cases qs with
      | nil => cases q1
      | cons W qs =>
        cases q1
        obtain ⟨hW, hWu⟩ := hsvm W (q2 W List.mem_cons_self)
        refine B_name ?_
        try (refine Exs_let ?_; intro KL)
        refine TNot_ (TVal_ (Call_fn (G.f "_law_is_by" 24).2 (G.f "_law_is_by" 24).1 (Ar_cons (Name_lc (v := .lst (ns.map fun i => .str (nm i))) (by rfl) (Ar_cons (Name_lc (v := .dct (tav σ)) (by rfl) (Ar_cons (Name_lc (v := wav W) (by rfl) (Ar_nil (Op.mono (is_by_ G (T := σ) (O := W) (tot W.get) (.fr _) (.fr _) (by omega) (fun i _ => ⟨?_, hvdp i, ?_⟩) (by omega)) ?_)))))))))) 
        · exact U.mgu _ hWu i
        · have := hwd W hW (.v i) (by simp [Tm.dp]); omega
        rintro v obb ⟨rfl, rfl⟩
        refine ⟨true, rfl, ?_⟩
        rw [show (!true) = false from rfl, if_neg (by decide)]
        try (refine Exs_let ?_; intro KL)
        exact ⟨rfl, qs, rfl, fun W hW => q2 W (List.mem_cons_of_mem _ hW), rfl⟩
    rintro acc obb ⟨rfl, qs, q1, q2, rfl⟩
    refine Lst_fr (Ar_nil ⟨by first | exact le_line rfl | simp [sizeLine_eq], O_nenil (.fr _) (.fr _) ⟨_, rfl, ?_⟩⟩)
    rw [show (!([] : List AV).isEmpty) = false from rfl, if_neg (by decide)]
    try (refine Exs_let ?_; intro KL)
    refine Exs_nil ?_
    have hu1 : one.sub (tot σ'.get) = other.sub (tot σ'.get) := by
      have := U'.eq
      rw [Tm.fill_sub, Tm.fill_sub] at this
      exact this.symm
    have hu2 : other.sub (tot σ.get) = one.sub (tot σ.get) := by
      have := U.eq
      rw [Tm.fill_sub, Tm.fill_sub] at this
      exact this.symm
    refine Exs_cons (Ret_ (EAnd_ (Call_fn (G.f "_law_is_by" 24).2 (G.f "_law_is_by" 24).1 (Ar_cons (Name_lc (v := .lst (ns.map fun i => .str (nm i))) (by rfl) (Ar_cons (Name_lc (v := .dct (tav σ)) (by rfl) (Ar_cons (Name_lc (v := .dct (tav σ')) (by rfl) (Ar_nil (Op.mono (is_by_ G (T := σ) (O := σ') (tot σ'.get) (.fr _) (.fr _) (by omega) (fun i _ => ⟨U.mgu _ hu1 i, hvdp i, by have := hvdp' i; omega⟩) (by omega)) ?_)))))))))))
    rintro v obb ⟨rfl, rfl⟩
    refine ⟨true, rfl, ?_⟩
    rw [if_pos rfl]
    try (refine Exs_let ?_; intro KL)
    refine Call_fn (G.f "_law_is_by" 24).2 (G.f "_law_is_by" 24).1 (Ar_cons (Name_lc (v := .lst (ns.map fun i => .str (nm i))) (by rfl) (Ar_cons (Name_lc (v := .dct (tav σ')) (by rfl) (Ar_cons (Name_lc (v := .dct (tav σ)) (by rfl) (Ar_nil (Op.mono (is_by_ G (T := σ') (O := σ) (tot σ.get) (.fr _) (.fr _) (by omega) (fun i _ => ⟨U'.mgu _ hu2 i, hvdp' i, by have := hvdp i; omega⟩) (by omega)) ?_))))))))
    rintro v obb ⟨rfl, rfl⟩
    exact ⟨ob, ⟨rfl, rfl⟩, hext2⟩
end
end Mine
end
section
open PySem PySem.W PyProof.Rows PySem.Calls
namespace Mine
noncomputable def Solves (θ : V3 → Tm) (T : Tbl) : Prop := ∀ i t, T.get i = some t → θ i = t.sub θ
theorem Tm.sub_congr {θ η : V3 → Tm} : ∀ (t : Tm), (∀ j, t.has j = true → θ j = η j) → t.sub θ = t.sub η
  | .v i, h => h i (beq_self_eq_true _)
  | .a, _ => rfl
  | .b, _ => rfl
  | .f t, h => by
    show Tm.f (t.sub θ) = .f (t.sub η)
    rw [Tm.sub_congr t h]
  | .g t u, h => by
    show Tm.g (t.sub θ) (u.sub θ) = .g (t.sub η) (u.sub η)
    rw [Tm.sub_congr t fun j hj => h j (by simp [Tm.has, hj]), Tm.sub_congr u fun j hj => h j (by simp [Tm.has, hj])]
theorem Tm.sub_dp {θ : V3 → Tm} {m : Nat} (h : ∀ i, (θ i).dp ≤ m + 1) : ∀ t : Tm, (t.sub θ).dp ≤ t.dp + m
  | .v i => by have := h i; show (θ i).dp ≤ 1 + m; omega
  | .a => by show 1 ≤ 1 + m; omega
  | .b => by show 1 ≤ 1 + m; omega
  | .f t => by
    have := Tm.sub_dp h t
    show (t.sub θ).dp + 1 ≤ t.dp + 1 + m
    omega
  | .g t u => by
    have h1 := Tm.sub_dp h t
    have h2 := Tm.sub_dp h u
    show max (t.sub θ).dp (u.sub θ).dp + 1 ≤ max t.dp u.dp + 1 + m
    omega
theorem Tm.sub_sub (θ η : V3 → Tm) : ∀ t : Tm, (t.sub η).sub θ = t.sub fun i => (η i).sub θ
  | .v i => rfl
  | .a => rfl
  | .b => rfl
  | .f t => by simp only [Tm.sub, Tm.sub_sub θ η t]
  | .g t u => by simp only [Tm.sub, Tm.sub_sub θ η t, Tm.sub_sub θ η u]
theorem Tm.size_pos : ∀ t : Tm, 1 ≤ t.size
  | .v _ => by simp [Tm.size]
  | .a => by simp [Tm.size]
  | .b => by simp [Tm.size]
  | .f _ => by simp [Tm.size]
  | .g _ _ => by simp [Tm.size]
theorem Tm.has_size (θ : V3 → Tm) (i : V3) : ∀ t : Tm, t.has i = true → (θ i).size ≤ (t.sub θ).size ∧ (t.isV = false → (θ i).size < (t.sub θ).size)
  | .v j, h => by
    have e : i = j := beq_iff_eq.mp h
    subst e
    exact ⟨Nat.le_refl _, fun h => by cases h⟩
  | .a, h => by cases h
  | .b, h => by cases h
  | .f t, h => by
    have := (Tm.has_size θ i t h).1
    simp only [Tm.sub, Tm.size]
    exact ⟨by omega, fun _ => by omega⟩
  | .g t u, h => by
    simp only [Tm.has, Bool.or_eq_true] at h
    simp only [Tm.sub, Tm.size]
    rcases h with h | h
    · have := (Tm.has_size θ i t h).1
      exact ⟨by omega, fun _ => by omega⟩
    · have := (Tm.has_size θ i u h).1
      exact ⟨by omega, fun _ => by omega⟩
theorem Wk.sub {T : Tbl} {θ : V3 → Tm} (hθ : Solves θ T) {t u : Tm} (h : Wk T t u) : t.sub θ = u.sub θ := by
  induction h with
  | refl t => rfl
  | step e _ ih => rw [← ih]; exact hθ _ _ e
theorem Wk.good {T : Tbl} {P : Tm → Prop} (hT : ∀ i t, T.get i = some t → P t) {t u : Tm} (h : Wk T t u) (ht : P t) : P u := by
  induction h with
  | refl t => exact ht
  | step e _ ih => exact ih (hT _ _ e)
theorem Occ.size {T : Tbl} {θ : V3 → Tm} (hθ : Solves θ T) {i : V3} {t : Tm} (h : Occ T i t) : (θ i).size ≤ (t.sub θ).size ∧ (t.isV = false → (θ i).size < (t.sub θ).size) := by
  induction h with
  | here h => exact Tm.has_size θ i _ h
  | there hj e _ ih =>
    have h1 := Tm.has_size θ _ _ hj
    have h2 := ih.1
    rw [← hθ _ _ e] at h2
    exact ⟨by omega, fun hv => by have := h1.2 hv; omega⟩
open Classical in
theorem Acy.add {T : Tbl} (h : Acy T) {i : V3} {u : Tm} (hi : T.get i = none) (hu : ¬ Occ T i u) : Acy (T ++ [(i, u)]) := by
  obtain ⟨r, h1, h2⟩ := h
  refine ⟨fun j => if Occ T i (.v j) then r j + 2 ^ T.length else r j, fun j => ?_, fun j t hj k hk => ?_⟩
  · have := h1 j
    have e : 2 ^ (T ++ [(i, u)]).length = 2 * 2 ^ T.length := by simp [Nat.pow_succ]; omega
    show (if Occ T i (.v j) then r j + 2 ^ T.length else r j) < _
    split <;> omega
  · show (if Occ T i (.v k) then r k + 2 ^ T.length else r k) < (if Occ T i (.v j) then r j + 2 ^ T.length else r j)
    rw [get_append] at hj
    cases hg : T.get j with
    | some w =>
      rw [hg] at hj
      cases hj
      have hr := h2 j _ hg k hk
      by_cases ho : Occ T i (.v k)
      · have : Occ T i (.v j) := .there (beq_self_eq_true _) hg (by
          cases ho with
          | here hh => have e : i = k := beq_iff_eq.mp hh; subst e; exact .here hk
          | @there _ j' u' hj' e' o' =>
            have e2 : j' = k := beq_iff_eq.mp hj'
            subst e2
            exact .there hk e' o')
        rw [if_pos ho, if_pos this]
        omega
      · rw [if_neg ho]
        generalize 2 ^ T.length = P at *
        split <;> omega
    | none =>
      rw [hg, Option.none_or] at hj
      split at hj
      · rename_i e
        subst e
        cases hj
        have ho : ¬ Occ T i (.v k) := fun ho => hu (by
          cases ho with
          | here hh => have e : i = k := beq_iff_eq.mp hh; subst e; exact .here hk
          | @there _ j' u' hj' e' o' =>
            have e2 : j' = k := beq_iff_eq.mp hj'
            subst e2
            exact .there hk e' o')
        rw [if_neg ho, if_pos (.here (beq_self_eq_true _))]
        have := h1 k
        omega
      · cases hj
/-- the table run out -/
noncomputable def it (T : Tbl) : Nat → V3 → Tm
  | 0, i => .v i
  | n + 1, i => match T.get i with | none => .v i | some t => t.sub (it T n)
theorem it_stable {T : Tbl} {r : V3 → Nat} (hr : ∀ i t, T.get i = some t → ∀ j, t.has j = true → r j < r i) : ∀ (n : Nat) (i : V3), r i < n → it T n i = it T (n + 1) i
  | 0, i, h => absurd h (Nat.not_lt_zero _)
  | n + 1, i, h => by
    show (match T.get i with | none => Tm.v i | some t => t.sub (it T n)) = (match T.get i with | none => Tm.v i | some t => t.sub (it T (n + 1)))
    cases hg : T.get i with
    | none => rfl
    | some t => exact Tm.sub_congr t fun j hj => it_stable hr n j (by have := hr i t hg j hj; omega)
theorem it_dp {T : Tbl} (hT : ∀ i t, T.get i = some t → t.dp ≤ 5) : ∀ (n : Nat) (i : V3), (it T n i).dp ≤ 4 * n + 1
  | 0, i => by simp [it, Tm.dp]
  | n + 1, i => by
    show (match T.get i with | none => Tm.v i | some t => t.sub (it T n)).dp ≤ _
    cases hg : T.get i with
    | none => simp [Tm.dp]
    | some t =>
      have h1 := Tm.sub_dp (it_dp hT n) t
      have h2 := hT i t hg
      show (t.sub (it T n)).dp ≤ _
      omega
theorem Acy.full {T : Tbl} (h : Acy T) (hnd : (T.map (·.1)).Nodup) (hT : ∀ i t, T.get i = some t → t.dp ≤ 5) : ∃ Θ, Solves Θ T ∧ ∀ i, (Θ i).dp ≤ 33 := by
  obtain ⟨r, h1, h2⟩ := h
  have hl := tbl_len hnd
  have h8 : ∀ i, r i < 8 := fun i => by
    have := h1 i
    have h3 : 2 ^ T.length ≤ 2 ^ 3 := Nat.pow_le_pow_right (by omega) hl
    omega
  refine ⟨it T 8, fun i t hi => ?_, fun i => by have := it_dp hT 8 i; omega⟩
  rw [it_stable h2 8 i (h8 i)]
  show (match T.get i with | none => Tm.v i | some t => t.sub (it T 8)) = _
  rw [hi]
/-- a term of the two -/
noncomputable def Good (one other t : Tm) : Prop := t.dp ≤ 5 ∧ ∀ j, t.has j = true → one.has j = true ∨ other.has j = true
theorem Good.small {one other t : Tm} (h : Good one other t) : Mine.small t := ⟨by have := h.1; omega, by have := small_of_dp h.1; omega⟩
theorem Good.kid {one other t k : Tm} (h : Good one other t) (hk : k ∈ t.kids) : Good one other k := by
  refine ⟨by have := Tm.kids_dp hk; have := h.1; omega, fun j hj => h.2 j ?_⟩
  cases t with
  | f t => simp [Tm.kids] at hk; subst hk; exact hj
  | g t u => simp [Tm.kids] at hk; rcases hk with rfl | rfl <;> simp [Tm.has, hj]
  | _ => simp [Tm.kids] at hk
noncomputable def BIG : Nat := 2 ^ 60
noncomputable def W (Θ : V3 → Tm) (w : List (Tm × Tm)) : Nat := (w.map fun p => (p.1.sub Θ).size).sum
theorem W_append (Θ : V3 → Tm) (w v : List (Tm × Tm)) : W Θ (w ++ v) = W Θ w + W Θ v := by simp [W]
theorem W_le {Θ : V3 → Tm} {M : Nat} : ∀ (w : List (Tm × Tm)), (∀ p ∈ w, (p.1.sub Θ).size ≤ M) → W Θ w ≤ w.length * M
  | [], _ => by simp [W]
  | p :: w, h => by
    have h1 := h p List.mem_cons_self
    have h2 := W_le w fun q hq => h q (List.mem_cons_of_mem _ hq)
    simp only [W, List.map_cons, List.sum_cons, List.length_cons] at *
    rw [Nat.add_mul]
    omega
structure BI (one other : Tm) (m : Nat) (T : Tbl) (w : List (Tm × Tm)) : Prop where
  nd : (T.map (·.1)).Nodup
  acy : Acy T
  sol : ∀ θ, (Solves θ T ∧ ∀ p ∈ w, p.1.sub θ = p.2.sub θ) ↔ one.sub θ = other.sub θ
  td : ∀ i t, T.get i = some t → Good one other t ∧ (one.has i = true ∨ other.has i = true)
  wd : ∀ p ∈ w, Good one other p.1 ∧ Good one other p.2
  pos : ∃ Θ, Solves Θ T ∧ (∀ i, (Θ i).dp ≤ 33) ∧ (∀ k p, w[k]? = some p → k + (p.1.sub Θ).dp ≤ 40 * (T.length + 1)) ∧ m = (3 - T.length) * BIG + W Θ w
structure BE (one other : Tm) (T : Tbl) : Prop where
  nd : (T.map (·.1)).Nodup
  acy : Acy T
  sol : ∀ θ, Solves θ T ↔ one.sub θ = other.sub θ
  td : ∀ i t, T.get i = some t → Good one other t ∧ (one.has i = true ∨ other.has i = true)
noncomputable def RB (one other : Tm) : Option Tbl → Prop
  | none => ∀ θ : V3 → Tm, one.sub θ ≠ other.sub θ
  | some T => BE one other T
theorem BI.len {one other : Tm} {m : Nat} {T : Tbl} {w : List (Tm × Tm)} (I : BI one other m T w) : T.length ≤ 3 ∧ w.length ≤ 40 * (T.length + 1) := by
  refine ⟨tbl_len I.nd, ?_⟩
  obtain ⟨Θ, _, _, h, _⟩ := I.pos
  cases hw : w.length with
  | zero => omega
  | succ k =>
    have hk : w[k]? = some (w[k]'(by omega)) := List.getElem?_eq_getElem _
    have := h k _ hk
    have h1 := Tm.dp_pos ((w[k]'(by omega)).1.sub Θ)
    omega
theorem sub_size {Θ : V3 → Tm} (h : ∀ i, (Θ i).dp ≤ 33) {t : Tm} (ht : t.dp ≤ 5) : (t.sub Θ).size ≤ 2 ^ 37 := by
  have h1 := Tm.sub_dp (m := 32) (fun i => h i) t
  have h2 := (t.sub Θ).dp_size
  have h3 : 2 ^ (t.sub Θ).dp ≤ 2 ^ 37 := Nat.pow_le_pow_right (by omega) (by omega)
  omega
theorem BI.init {one other : Tm} (h1 : one.dp ≤ 5) (h2 : other.dp ≤ 5) : ∃ m, BI one other m [] [(one, other)] := by
  refine ⟨_, .nil, ⟨fun _ => 0, fun _ => Nat.zero_lt_one, (fun i t h => by cases h)⟩, fun θ => ?_, (fun i t h => by cases h), fun p hp => ?_, fun i => Tm.v i, (fun i t h => by cases h), (fun i => by show 1 ≤ 33; omega), fun k p hk => ?_, rfl⟩
  · constructor
    · rintro ⟨_, h⟩; exact h (one, other) (by simp)
    · intro h; exact ⟨(fun i t h => by cases h), (fun p hp => by simp at hp; subst hp; exact h)⟩
  · simp at hp
    subst hp
    exact ⟨⟨h1, fun j hj => .inl hj⟩, ⟨h2, fun j hj => .inr hj⟩⟩
  · cases k with
    | zero =>
      simp at hk
      subst hk
      have := Tm.sub_dp (θ := fun i => .v i) (m := 0) (fun i => by simp [Tm.dp]) one
      show 0 + (one.sub fun i => Tm.v i).dp ≤ 40 * (0 + 1)
      omega
    | succ k => simp at hk
section
variable {one other : Tm} {m : Nat} {T : Tbl} {w : List (Tm × Tm)} {p : Tm × Tm}
theorem BI.last (I : BI one other m T (w ++ [p])) : Good one other p.1 ∧ Good one other p.2 := I.wd p (by simp)
theorem BI.wk (I : BI one other m T (w ++ [p])) {a : Tm} (h : Wk T p.1 a ∨ Wk T p.2 a) : Good one other a := by
  rcases h with h | h
  · exact h.good (fun i t e => (I.td i t e).1) I.last.1
  · exact h.good (fun i t e => (I.td i t e).1) I.last.2
theorem BI.same (I : BI one other m T (w ++ [p])) (h : ∀ θ, Solves θ T → p.1.sub θ = p.2.sub θ) : ∃ m', m' < m ∧ BI one other m' T w := by
  obtain ⟨Θ, h1, h2, h3, rfl⟩ := I.pos
  refine ⟨_, ?_, I.nd, I.acy, fun θ => ?_, I.td, fun q hq => I.wd q (by simp [hq]), Θ, h1, h2, fun k q hk => h3 k q ?_, rfl⟩
  · rw [W_append]
    have : 1 ≤ W Θ [p] := by simp [W]; exact Tm.size_pos _
    omega
  · rw [← I.sol θ]
    constructor
    · rintro ⟨a, b⟩
      refine ⟨a, fun q hq => ?_⟩
      simp at hq
      rcases hq with hq | rfl
      · exact b q hq
      · exact h θ a
    · rintro ⟨a, b⟩
      exact ⟨a, fun q hq => b q (by simp [hq])⟩
  · rw [List.getElem?_append_left (List.getElem?_eq_some_iff.mp hk).1]
    exact hk
theorem BI.bind (I : BI one other m T (w ++ [p])) {i : V3} {t : Tm} (hi : T.get i = none) (hgi : one.has i = true ∨ other.has i = true) (hgt : Good one other t) (hno : ¬ Occ T i t) (h : ∀ θ, Solves θ T → (p.1.sub θ = p.2.sub θ ↔ θ i = t.sub θ)) :
    ∃ m', m' < m ∧ BI one other m' (T ++ [(i, t)]) w := by
  have hnd := nodup_new (u := t) I.nd hi
  have hacy := I.acy.add hi hno
  have hget : ∀ j u, Tbl.get (T ++ [(i, t)]) j = some u → T.get j = some u ∨ (j = i ∧ u = t) := fun j u hj => by
    rw [get_append] at hj
    cases hg : T.get j with
    | some w => rw [hg] at hj; cases hj; exact .inl rfl
    | none =>
      rw [hg, Option.none_or] at hj
      split at hj
      · rename_i e; cases hj; exact .inr ⟨e.symm, rfl⟩
      · cases hj
  have hgeti : Tbl.get (T ++ [(i, t)]) i = some t := by rw [get_append, hi]; simp
  have hgetj : ∀ j u, T.get j = some u → Tbl.get (T ++ [(i, t)]) j = some u := fun j u hj => by rw [get_append, hj]; rfl
  have htd : ∀ j u, Tbl.get (T ++ [(i, t)]) j = some u → Good one other u ∧ (one.has j = true ∨ other.has j = true) := fun j u hj => by
    rcases hget j u hj with h | ⟨rfl, rfl⟩
    · exact I.td j u h
    · exact ⟨hgt, hgi⟩
  obtain ⟨Θ', g1, g2⟩ := hacy.full hnd fun j u hj => (htd j u hj).1.1
  have hl3 : T.length + 1 ≤ 3 := by simpa using tbl_len hnd
  obtain ⟨hl, hwl⟩ := I.len
  have hwl' : w.length + 1 ≤ 40 * (T.length + 1) := by simpa using hwl
  obtain ⟨Θ, h1, h2, h3, rfl⟩ := I.pos
  refine ⟨_, ?_, hnd, hacy, fun θ => ?_, htd, fun q hq => I.wd q (by simp [hq]), Θ', g1, g2, fun k q hk => ?_, rfl⟩
  · have hWb : W Θ' w ≤ w.length * 2 ^ 37 := W_le w fun q hq => sub_size g2 (I.wd q (by simp [hq])).1.1
    have h5 : w.length * 2 ^ 37 ≤ 160 * 2 ^ 37 := Nat.mul_le_mul_right _ (by omega)
    have h6 : 160 * 2 ^ 37 < BIG := by decide
    have h7 : (T ++ [(i, t)]).length = T.length + 1 := by simp
    have h8 : 3 - T.length = (3 - (T.length + 1)) + 1 := by omega
    rw [h7, h8, Nat.add_mul, Nat.one_mul]
    omega
  · rw [← I.sol θ]
    constructor
    · rintro ⟨a, b⟩
      have hs : Solves θ T := fun j u hj => a j u (hgetj j u hj)
      refine ⟨hs, fun q hq => ?_⟩
      simp at hq
      rcases hq with hq | rfl
      · exact b q hq
      · exact (h θ hs).mpr (a i t hgeti)
    · rintro ⟨a, b⟩
      refine ⟨fun j u hj => ?_, fun q hq => b q (by simp [hq])⟩
      rcases hget j u hj with hj | ⟨rfl, rfl⟩
      · exact a j u hj
      · exact (h θ a).mp (b p (by simp))
  · have hkl := (List.getElem?_eq_some_iff.mp hk).1
    have hq := List.mem_of_getElem? hk
    have h5 := Tm.sub_dp (m := 32) (fun i => g2 i) q.1
    have h6 := (I.wd q (by simp [hq])).1.1
    simp
    omega
theorem BI.split (I : BI one other m T (w ++ [p])) {a b : Tm} (ha : Wk T p.1 a) (hb : Wk T p.2 b) (hva : a.isV = false) (hvb : b.isV = false) (hh : a.hd = b.hd) (hk : a.kids.length = b.kids.length) :
    ∃ m', m' < m ∧ BI one other m' T (w ++ a.kids.zip b.kids) := by
  have hga := I.wk (.inl ha)
  have hgb := I.wk (.inr hb)
  have heq : ∀ θ, a.sub θ = b.sub θ ↔ ∀ q ∈ a.kids.zip b.kids, q.1.sub θ = q.2.sub θ := by
    intro θ
    cases a with
    | v i => cases hva
    | a =>
      cases b with
      | v i => cases hvb
      | a => simp [Tm.kids, Tm.sub]
      | b => exact absurd hh (by decide +kernel)
      | f t => simp [Tm.kids] at hk
      | g t u => simp [Tm.kids] at hk
    | b =>
      cases b with
      | v i => cases hvb
      | a => exact absurd hh (by decide +kernel)
      | b => simp [Tm.kids, Tm.sub]
      | f t => simp [Tm.kids] at hk
      | g t u => simp [Tm.kids] at hk
    | f t =>
      cases b with
      | f u => simp [Tm.kids, Tm.sub]
      | v i => cases hvb
      | a => simp [Tm.kids] at hk
      | b => simp [Tm.kids] at hk
      | g t u => simp [Tm.kids] at hk
    | g t s =>
      cases b with
      | g u v => simp [Tm.kids, Tm.sub]
      | v i => cases hvb
      | a => simp [Tm.kids] at hk
      | b => simp [Tm.kids] at hk
      | f u => simp [Tm.kids] at hk
  obtain ⟨Θ, h1, h2, h3, rfl⟩ := I.pos
  have hpa : p.1.sub Θ = a.sub Θ := ha.sub h1
  refine ⟨_, ?_, I.nd, I.acy, fun θ => ?_, I.td, fun q hq => ?_, Θ, h1, h2, fun k q hkq => ?_, rfl⟩
  · rw [W_append, W_append]
    have e1 : W Θ [p] = (a.sub Θ).size := by simp [W, hpa]
    rw [e1]
    have : W Θ (a.kids.zip b.kids) < (a.sub Θ).size := by
      cases a with
      | v i => cases hva
      | a => simp [Tm.kids, W, Tm.sub, Tm.size]
      | b => simp [Tm.kids, W, Tm.sub, Tm.size]
      | f t =>
        cases hb' : b.kids with
        | nil => rw [hb'] at hk; simp [Tm.kids] at hk
        | cons x r => simp [Tm.kids, W, Tm.sub, Tm.size]
      | g t s =>
        cases hb' : b.kids with
        | nil => rw [hb'] at hk; simp [Tm.kids] at hk
        | cons x r =>
          cases r with
          | nil => rw [hb'] at hk; simp [Tm.kids] at hk
          | cons y r => simp [Tm.kids, W, Tm.sub, Tm.size]
    omega
  · rw [← I.sol θ]
    constructor
    · rintro ⟨x, y⟩
      refine ⟨x, fun q hq => ?_⟩
      simp only [List.mem_append, List.mem_singleton] at hq
      rcases hq with hq | rfl
      · exact y q (by simp [hq])
      · rw [ha.sub x, hb.sub x]
        exact (heq θ).mpr fun q hq => y q (by simp only [List.mem_append]; exact .inr hq)
    · rintro ⟨x, y⟩
      refine ⟨x, fun q hq => ?_⟩
      simp only [List.mem_append] at hq
      rcases hq with hq | hq
      · exact y q (by simp [hq])
      · have := y p (by simp)
        rw [ha.sub x, hb.sub x] at this
        exact (heq θ).mp this q hq
  · simp only [List.mem_append] at hq
    rcases hq with hq | hq
    · exact I.wd q (by simp [hq])
    · have := List.of_mem_zip (a := q.1) (b := q.2) hq
      exact ⟨hga.kid this.1, hgb.kid this.2⟩
  · have hplast : w.length + (a.sub Θ).dp ≤ 40 * (T.length + 1) := by
      have := h3 w.length p (by simp)
      rwa [hpa] at this
    by_cases hkw : k < w.length
    · rw [List.getElem?_append_left hkw] at hkq
      exact h3 k q (by rw [List.getElem?_append_left hkw]; exact hkq)
    · rw [List.getElem?_append_right (by omega)] at hkq
      obtain ⟨j, rfl⟩ : ∃ j, k = w.length + j := ⟨k - w.length, by omega⟩
      rw [show w.length + j - w.length = j by omega] at hkq
      have hmem := List.of_mem_zip (a := q.1) (b := q.2) (List.mem_of_getElem? hkq)
      have hjl : j ≤ 1 := by
        have := (List.getElem?_eq_some_iff.mp hkq).1
        have h2 : a.kids.length ≤ 2 := by cases a <;> simp [Tm.kids]
        simp at this
        omega
      have hkd : (q.1.sub Θ).dp < (a.sub Θ).dp := by
        have e := (a.sub_hd Θ hva).2
        exact Tm.kids_dp (t := a.sub Θ) (by rw [e]; exact List.mem_map.mpr ⟨_, hmem.1, rfl⟩)
      omega
end
end Mine
end
section
open PySem PySem.W PyProof.Rows PySem.Calls
namespace Mine
/-- a stack's weight -/
noncomputable def wgt (r : V3 → Nat) (wl : List (V3 × Bool)) : Nat := (wl.map fun p => if p.2 then 1 else 2 * 4 ^ r p.1).sum
theorem wgt_append (r : V3 → Nat) (a b : List (V3 × Bool)) : wgt r (a ++ b) = wgt r a + wgt r b := by simp [wgt]
theorem wgt_len (r : V3 → Nat) : ∀ wl : List (V3 × Bool), wl.length ≤ wgt r wl
  | [] => by simp
  | p :: wl => by
    have h := wgt_len r wl
    have h1 : 1 ≤ (if p.2 then 1 else 2 * 4 ^ r p.1) := by
      split
      · omega
      · have : 1 ≤ 4 ^ r p.1 := Nat.one_le_pow _ _ (by omega)
        omega
    simp only [wgt, List.map_cons, List.sum_cons, List.length_cons] at *
    omega
theorem wgt_new (r : V3 → Nat) (M : Nat) : ∀ is : List V3, (∀ i ∈ is, 4 ^ r i ≤ M) → wgt r (is.map fun i => (i, false)) ≤ is.length * (2 * M)
  | [], _ => by simp [wgt]
  | i :: is, h => by
    have h1 := wgt_new r M is fun j hj => h j (List.mem_cons_of_mem _ hj)
    have h2 := h i List.mem_cons_self
    have h3 : 2 * 4 ^ r i ≤ 2 * M := Nat.mul_le_mul_left 2 h2
    simp only [wgt, List.map_cons, List.sum_cons, List.length_cons, Bool.false_eq_true, if_false] at *
    rw [Nat.add_mul, Nat.one_mul]
    exact Nat.le_trans (Nat.add_le_add h3 h1) (Nat.le_of_eq (Nat.add_comm _ _))
noncomputable def Ord (T : Tbl) (fl : List V3) : Prop := ∀ p i s, fl = p ++ i :: s → ∀ t, T.get i = some t → ∀ j, t.has j = true → T.get j ≠ none → j ∈ p
structure IT (T : Tbl) (r : V3 → Nat) (m : Nat) (fl : List V3) (wl : List (V3 × Bool)) : Prop where
  nd : fl.Nodup
  kf : ∀ i ∈ fl, T.get i ≠ none
  kw : ∀ p ∈ wl, T.get p.1 ≠ none
  ord : Ord T fl
  stk : ∀ lo i hi, wl = lo ++ (i, true) :: hi → ∀ t, T.get i = some t → ∀ j, t.has j = true → T.get j ≠ none → j ∈ fl ∨ ∃ b, (j, b) ∈ hi
  all : ∀ i, T.get i ≠ none → i ∈ fl ∨ ∃ b, (i, b) ∈ wl
  wt : m = wgt r wl ∧ m ≤ 100000
structure RT (T : Tbl) (fl : List V3) : Prop where
  nd : fl.Nodup
  mem : ∀ i, i ∈ fl ↔ T.get i ≠ none
  ord : Ord T fl
theorem some_ne {T : Tbl} {i : V3} : (T.get i).isSome = true ↔ T.get i ≠ none := by cases T.get i <;> simp
section
variable {T : Tbl} {r : V3 → Nat} {m : Nat} {fl : List V3} {wl : List (V3 × Bool)} {i : V3}
theorem IT.init (h8 : ∀ i, r i < 8) : ∃ m, IT T r m [] ((inOrder fun i => (T.get i).isSome).map fun i => (i, false)) := by
  refine ⟨_, .nil, (fun i h => by cases h), fun p hp => ?_, fun p i s h => ?_, fun lo i hi h => ?_, fun i hi => .inr ⟨false, ?_⟩, rfl, ?_⟩
  · rw [List.mem_map] at hp
    obtain ⟨i, hi, rfl⟩ := hp
    exact some_ne.mp ((inOrder_mem _ i).mp hi)
  · have := congrArg List.length h
    simp at this
  · exfalso
    have : (i, true) ∈ ((inOrder fun i => (T.get i).isSome).map fun i => (i, false)) := by rw [h]; simp
    rw [List.mem_map] at this
    obtain ⟨j, _, e⟩ := this
    cases e
  · exact List.mem_map.mpr ⟨i, (inOrder_mem _ i).mpr (some_ne.mpr hi), rfl⟩
  · have h1 := wgt_new r (4 ^ 7) (inOrder fun i => (T.get i).isSome) fun i _ => Nat.pow_le_pow_right (by omega) (by have := h8 i; omega)
    have h2 : (inOrder fun i => (T.get i).isSome).length ≤ 3 := by unfold inOrder; exact List.length_filter_le _ _
    have h3 : (inOrder fun i => (T.get i).isSome).length * (2 * 4 ^ 7) ≤ 3 * (2 * 4 ^ 7) := Nat.mul_le_mul_right _ h2
    have h4 : 3 * (2 * 4 ^ 7) ≤ 100000 := by decide
    omega
theorem mem_add {fl : List V3} {i j : V3} : j ∈ addTo fl i ↔ j ∈ fl ∨ j = i := by
  unfold addTo
  split
  · rename_i h
    have hi := List.contains_iff_mem.mp h
    constructor
    · exact .inl
    · rintro (h | rfl); exact h; exact hi
  · simp
theorem snoc_split {α : Type} {a : List α} {x : α} {p : List α} {y : α} {s : List α} (h : a ++ [x] = p ++ y :: s) : (s = [] ∧ a = p ∧ x = y) ∨ ∃ s', s = s' ++ [x] ∧ a = p ++ y :: s' := by
  rcases List.eq_nil_or_concat s with rfl | ⟨s', z, rfl⟩
  · left
    have := List.append_inj' h rfl
    exact ⟨rfl, this.1, by simpa using this.2⟩
  · right
    rw [List.concat_eq_append] at h ⊢
    rw [← List.cons_append, ← List.append_assoc] at h
    have := List.append_inj' h rfl
    have hx : x = z := by simpa using this.2
    subst hx
    exact ⟨s', rfl, this.1⟩
theorem IT.yes (I : IT T r m fl (wl ++ [(i, true)])) : ∃ m', m' < m ∧ IT T r m' (addTo fl i) wl := by
  have hdeps := I.stk wl i [] rfl
  refine ⟨wgt r wl, ?_, ?_, fun j hj => ?_, fun p hp => I.kw p (by simp [hp]), fun p j s h => ?_, fun lo j hi h t ht k hk hkb => ?_, fun j hj => ?_, rfl, ?_⟩
  · rw [I.wt.1, wgt_append]
    simp [wgt]
  · unfold addTo
    split
    · exact I.nd
    · rename_i h
      rw [List.nodup_append]
      refine ⟨I.nd, by simp, fun a ha b hb => ?_⟩
      simp at hb
      subst hb
      rintro rfl
      exact h (List.contains_iff_mem.mpr ha)
  · rcases mem_add.mp hj with h | rfl
    · exact I.kf j h
    · exact I.kw (j, true) (by simp)
  · unfold addTo at h
    split at h
    · exact I.ord p j s h
    · rcases snoc_split h with ⟨rfl, rfl, rfl⟩ | ⟨s', rfl, h'⟩
      · intro t ht k hk hkb
        rcases hdeps t ht k hk hkb with h | ⟨b, h⟩
        · exact h
        · cases h
      · exact I.ord p j s' h'
  · rcases I.stk lo j (hi ++ [(i, true)]) (by rw [h]; simp) t ht k hk hkb with h1 | ⟨b, h1⟩
    · exact .inl (mem_add.mpr (.inl h1))
    · simp at h1
      rcases h1 with h1 | ⟨rfl, _⟩
      · exact .inr ⟨b, h1⟩
      · exact .inl (mem_add.mpr (.inr rfl))
  · rcases I.all j hj with h1 | ⟨b, h1⟩
    · exact .inl (mem_add.mpr (.inl h1))
    · simp at h1
      rcases h1 with h1 | ⟨rfl, _⟩
      · exact .inr ⟨b, h1⟩
      · exact .inl (mem_add.mpr (.inr rfl))
  · have := I.wt
    rw [wgt_append] at this
    omega
theorem IT.old (I : IT T r m fl (wl ++ [(i, false)])) (hfl : fl.contains i = true) : ∃ m', m' < m ∧ IT T r m' fl wl := by
  have hi := List.contains_iff_mem.mp hfl
  refine ⟨wgt r wl, ?_, I.nd, I.kf, fun p hp => I.kw p (by simp [hp]), I.ord, fun lo j hi' h t ht k hk hkb => ?_, fun j hj => ?_, rfl, ?_⟩
  · rw [I.wt.1, wgt_append]
    have : 1 ≤ 4 ^ r i := Nat.one_le_pow _ _ (by omega)
    simp [wgt]
    omega
  · rcases I.stk lo j (hi' ++ [(i, false)]) (by rw [h]; simp) t ht k hk hkb with h1 | ⟨b, h1⟩
    · exact .inl h1
    · simp at h1
      rcases h1 with h1 | ⟨rfl, _⟩
      · exact .inr ⟨b, h1⟩
      · exact .inl hi
  · rcases I.all j hj with h1 | ⟨b, h1⟩
    · exact .inl h1
    · simp at h1
      rcases h1 with h1 | ⟨rfl, _⟩
      · exact .inr ⟨b, h1⟩
      · exact .inl hi
  · have := I.wt
    rw [wgt_append] at this
    omega
theorem IT.new (hr : ∀ i t, T.get i = some t → ∀ j, t.has j = true → r j < r i) {t : Tm} (I : IT T r m fl (wl ++ [(i, false)])) (ht : T.get i = some t) :
    ∃ m', m' < m ∧ IT T r m' fl (wl ++ [(i, true)] ++ (inOrder fun j => t.has j && (T.get j).isSome).map fun j => (j, false)) := by
  have hmem : ∀ j, j ∈ (inOrder fun j => t.has j && (T.get j).isSome) ↔ (t.has j = true ∧ T.get j ≠ none) := fun j => by
    rw [inOrder_mem, Bool.and_eq_true, some_ne]
  have hlt : wgt r (wl ++ [(i, true)] ++ (inOrder fun j => t.has j && (T.get j).isSome).map fun j => (j, false)) < m := by
    rw [I.wt.1, wgt_append, wgt_append, wgt_append]
    have e1 : wgt r [(i, true)] = 1 := by simp [wgt]
    have e2 : wgt r [(i, false)] = 2 * 4 ^ r i := by simp [wgt]
    rw [e1, e2]
    have h3 : (inOrder fun j => t.has j && (T.get j).isSome).length ≤ 3 := by unfold inOrder; exact List.length_filter_le _ _
    cases hri : r i with
    | zero =>
      have : (inOrder fun j => t.has j && (T.get j).isSome) = [] := by
        cases he : (inOrder fun j => t.has j && (T.get j).isSome) with
        | nil => rfl
        | cons j rest =>
          have hj := (hmem j).mp (by rw [he]; exact List.mem_cons_self)
          have := hr i t ht j hj.1
          omega
      rw [this]
      simp [wgt]
    | succ k =>
      have h1 : wgt r ((inOrder fun j => t.has j && (T.get j).isSome).map fun j => (j, false)) ≤ (inOrder fun j => t.has j && (T.get j).isSome).length * (2 * 4 ^ k) := wgt_new r (4 ^ k) (inOrder fun j => t.has j && (T.get j).isSome) fun j hj => Nat.pow_le_pow_right (by omega) (by have := hr i t ht j ((hmem j).mp hj).1; omega)
      have h2 : (inOrder fun j => t.has j && (T.get j).isSome).length * (2 * 4 ^ k) ≤ 3 * (2 * 4 ^ k) := Nat.mul_le_mul_right _ h3
      have h4 : 1 ≤ 4 ^ k := Nat.one_le_pow _ _ (by omega)
      have h5 : (4 : Nat) ^ (k + 1) = 4 ^ k * 4 := Nat.pow_succ _ _
      rw [h5]
      generalize 4 ^ k = X at *
      generalize wgt r ((inOrder fun j => t.has j && (T.get j).isSome).map fun j => (j, false)) = Y at *
      omega
  refine ⟨_, hlt, I.nd, I.kf, fun p hp => ?_, I.ord, fun lo j hi h u hu k hk hkb => ?_, fun j hj => ?_, rfl, ?_⟩
  · simp only [List.mem_append, List.mem_singleton] at hp
    rcases hp with (hp | rfl) | hp
    · exact I.kw p (by simp [hp])
    · rw [ht]; simp
    · rw [List.mem_map] at hp
      obtain ⟨j, hj, rfl⟩ := hp
      exact ((hmem j).mp hj).2
  · rw [List.append_assoc] at h
    have hsplit := List.append_eq_append_iff.mp h
    rcases hsplit with ⟨as, e1, e2⟩ | ⟨bs, e1, e2⟩
    · -- lo = wl ++ as
      cases as with
      | nil =>
        simp only [List.nil_append] at e2
        have e3 : (i, true) = (j, true) := by
          have := congrArg List.head? e2
          simpa using this
        cases e3
        have e4 : ((inOrder fun j => t.has j && (T.get j).isSome).map fun j => (j, false)) = hi := by
          have := congrArg List.tail e2
          simpa using this
        rw [ht] at hu
        cases hu
        exact .inr ⟨false, by rw [← e4]; exact List.mem_map.mpr ⟨k, (hmem k).mpr ⟨hk, hkb⟩, rfl⟩⟩
      | cons a as =>
        exfalso
        have e4 : ((inOrder fun j => t.has j && (T.get j).isSome).map fun j => (j, false)) = as ++ (j, true) :: hi := by
          have := congrArg List.tail e2
          simpa using this
        have : (j, true) ∈ ((inOrder fun j => t.has j && (T.get j).isSome).map fun j => (j, false)) := by rw [e4]; simp
        rw [List.mem_map] at this
        obtain ⟨_, _, e⟩ := this
        cases e
    · -- wl = lo ++ bs
      cases bs with
      | nil =>
        simp only [List.nil_append] at e2
        have e3 : (i, true) = (j, true) := by
          have := congrArg List.head? e2
          simpa using this.symm
        cases e3
        have e4 : ((inOrder fun j => t.has j && (T.get j).isSome).map fun j => (j, false)) = hi := by
          have := congrArg List.tail e2
          simpa using this.symm
        rw [ht] at hu
        cases hu
        exact .inr ⟨false, by rw [← e4]; exact List.mem_map.mpr ⟨k, (hmem k).mpr ⟨hk, hkb⟩, rfl⟩⟩
      | cons b bs =>
        have e3 : (j, true) = b := by
          have := congrArg List.head? e2
          simpa using this
        have e4 : hi = bs ++ ([(i, true)] ++ (inOrder fun j => t.has j && (T.get j).isSome).map fun j => (j, false)) := by
          have := congrArg List.tail e2
          simpa using this
        rcases I.stk lo j (bs ++ [(i, false)]) (by rw [e1, e3]; simp) u hu k hk hkb with h1 | ⟨q, h1⟩
        · exact .inl h1
        · simp at h1
          rcases h1 with h1 | ⟨rfl, _⟩
          · exact .inr ⟨q, by rw [e4]; simp [h1]⟩
          · exact .inr ⟨true, by rw [e4]; simp⟩
  · rcases I.all j hj with h1 | ⟨b, h1⟩
    · exact .inl h1
    · simp at h1
      rcases h1 with h1 | ⟨rfl, _⟩
      · exact .inr ⟨b, by simp [h1]⟩
      · exact .inr ⟨true, by simp⟩
  · have := I.wt.2
    omega
end
/-! the run of worked_out -/
theorem solveF_keys (T : Tbl) : ∀ (p : List V3) (F : Tbl), (solveF T p F).map (·.1) = F.map (·.1) ++ p
  | [], F => by simp [solveF]
  | i :: p, F => by simp [solveF, solveF_keys T p]
structure WO (T : Tbl) (p : List V3) (F : Tbl) : Prop where
  keys : F.map (·.1) = p
  idem : ∀ i u, F.get i = some u → ∀ j, u.has j = true → T.get j = none
  by_ : ∀ θ, Solves θ T → ∀ i u, F.get i = some u → θ i = u.sub θ
  fix : ∀ i u, F.get i = some u → ∃ t, T.get i = some t ∧ u = t.fill F.get
  dp : ∀ i u, F.get i = some u → u.dp ≤ 4 * p.length + 1
theorem Tm.fill_has (T : V3 → Option Tm) (j : V3) : ∀ t : Tm, (t.fill T).has j = true → ∃ k, t.has k = true ∧ ((T k).getD (.v k)).has j = true
  | .v k, h => ⟨k, beq_self_eq_true _, h⟩
  | .a, h => by cases h
  | .b, h => by cases h
  | .f t, h => Tm.fill_has T j t h
  | .g t u, h => by
    have h' : ((t.fill T).has j || (u.fill T).has j) = true := h
    rw [Bool.or_eq_true] at h'
    rcases h' with h' | h'
    · obtain ⟨k, h1, h2⟩ := Tm.fill_has T j t h'
      exact ⟨k, by simp [Tm.has, h1], h2⟩
    · obtain ⟨k, h1, h2⟩ := Tm.fill_has T j u h'
      exact ⟨k, by simp [Tm.has, h1], h2⟩
theorem Tm.fill_congr {S T : V3 → Option Tm} (t : Tm) (h : ∀ j, t.has j = true → S j = T j) : t.fill S = t.fill T := by
  rw [Tm.fill_sub, Tm.fill_sub]
  exact Tm.sub_congr t fun j hj => by unfold tot; rw [h j hj]
theorem WO.run {T : Tbl} (hT : ∀ i t, T.get i = some t → t.dp ≤ 5) {fl : List V3} (R : RT T fl) : ∀ (p s : List V3), fl = p ++ s → WO T p (solveF T p []) := by
  intro p
  -- from behind
  have main : ∀ (n : Nat) (p s : List V3), p.length = n → fl = p ++ s → WO T p (solveF T p []) := by
    intro n
    induction n with
    | zero =>
      intro p s hp _
      have : p = [] := List.length_eq_zero_iff.mp hp
      subst this
      exact ⟨rfl, (fun i u h => by cases h), (fun θ _ i u h => by cases h), (fun i u h => by cases h), (fun i u h => by cases h)⟩
    | succ n ih =>
      intro p s hp hfl
      rcases List.eq_nil_or_concat p with rfl | ⟨p, i, rfl⟩
      · simp at hp
      rw [List.concat_eq_append] at *
      have hpn : p.length = n := by simpa using hp
      have hfl' : fl = p ++ i :: s := by rw [hfl]; simp
      have I := ih p (i :: s) hpn hfl'
      have hb : T.get i ≠ none := (R.mem i).mp (by rw [hfl']; simp)
      obtain ⟨t, ht⟩ : ∃ t, T.get i = some t := by
        cases h : T.get i with
        | none => exact absurd h hb
        | some t => exact ⟨t, rfl⟩
      have hip : i ∉ p := by
        have hnd := R.nd
        rw [hfl', List.nodup_append] at hnd
        intro h
        exact hnd.2.2 i h i List.mem_cons_self rfl
      have hdeps := R.ord p i s hfl' t ht
      have hold : ∀ k ∈ p, ∀ w, T.get k = some w → ∀ j, w.has j = true → T.get j ≠ none → j ∈ p := fun k hk w hw j hj hjb => by
        obtain ⟨a, b, rfl⟩ := List.append_of_mem hk
        have := R.ord a k (b ++ i :: s) (by rw [hfl']; simp) w hw j hj hjb
        simp [this]
      rw [solveF_snoc, ht]
      generalize solveF T p [] = F at *
      simp only [Option.getD_some]
      have hFi : F.get i = none := keys_get.mpr (by rw [I.keys]; exact hip)
      have hFp : ∀ k, k ∈ p → ∃ u, F.get k = some u := fun k hk => by
        cases h : F.get k with
        | some u => exact ⟨u, rfl⟩
        | none => exact absurd (by rw [I.keys]; exact hk) (keys_get.mp h)
      have hFb : ∀ k, T.get k = none → F.get k = none := fun k hk => by
        cases h : F.get k with
        | none => rfl
        | some u =>
          obtain ⟨w, hw, _⟩ := I.fix k u h
          rw [hk] at hw; cases hw
      have hget : ∀ j u, Tbl.get (F ++ [(i, t.fill F.get)]) j = some u → F.get j = some u ∨ (j = i ∧ u = t.fill F.get) := fun j u hj => by
        rw [get_append] at hj
        cases hg : F.get j with
        | some w => rw [hg] at hj; cases hj; exact .inl rfl
        | none =>
          rw [hg, Option.none_or] at hj
          split at hj
          · rename_i e; cases hj; exact .inr ⟨e.symm, rfl⟩
          · cases hj
      have hsame : ∀ j, j ≠ i → Tbl.get (F ++ [(i, t.fill F.get)]) j = F.get j := fun j hj => by
        rw [get_append, if_neg (Ne.symm hj)]
        cases F.get j <;> rfl
      refine ⟨by rw [List.map_append, I.keys]; rfl, fun k u hk j hj => ?_, fun θ hθ k u hk => ?_, fun k u hk => ?_, fun k u hk => ?_⟩
      · rcases hget k u hk with h | ⟨rfl, rfl⟩
        · exact I.idem k u h j hj
        · obtain ⟨q, h1, h2⟩ := Tm.fill_has F.get j t hj
          cases hq : T.get q with
          | none =>
            rw [hFb q hq] at h2
            have e : j = q := beq_iff_eq.mp h2
            rw [e]; exact hq
          | some w =>
            obtain ⟨u, hu⟩ := hFp q (hdeps q h1 (by rw [hq]; simp))
            rw [hu] at h2
            exact I.idem q u hu j h2
      · rcases hget k u hk with h | ⟨rfl, rfl⟩
        · exact I.by_ θ hθ k u h
        · rw [hθ k t ht, Tm.fill_sub, Tm.sub_sub]
          refine Tm.sub_congr t fun j _ => ?_
          show θ j = (tot F.get j).sub θ
          unfold tot
          cases hg : F.get j with
          | none => rfl
          | some w => exact I.by_ θ hθ j w hg
      · rcases hget k u hk with h | ⟨rfl, rfl⟩
        · obtain ⟨w, hw, e⟩ := I.fix k u h
          refine ⟨w, hw, e.trans (Tm.fill_congr w fun j hj => (hsame j ?_).symm)⟩
          rintro rfl
          have hkp : k ∈ p := by
            rw [← I.keys]
            cases hm : F.get k with
            | none => rw [hm] at h; cases h
            | some _ =>
              exact Classical.byContradiction fun hn => by rw [keys_get.mpr hn] at hm; cases hm
          exact hip (hold k hkp w hw j hj hb)
        · refine ⟨t, ht, Tm.fill_congr t fun j hj => (hsame j ?_).symm⟩
          rintro rfl
          exact hip (hdeps j hj hb)
      · have hl : (p ++ [i]).length = p.length + 1 := by simp
        rw [hl]
        rcases hget k u hk with h | ⟨rfl, rfl⟩
        · have := I.dp k u h
          omega
        · have h1 := Tm.fill_dp (T := F.get) (m := 4 * p.length) (fun j w hw => I.dp j w hw) t
          have h2 := hT k t ht
          omega
  exact fun s h => main p.length p s rfl h
theorem uni_of {one other : Tm} {T : Tbl} (B : BE one other T) {fl : List V3} (R : RT T fl) : Uni one other (solveF T fl []) := by
  have O := WO.run (fun i t h => (B.td i t h).1.1) R fl [] (by simp)
  have hl := v3_len _ R.nd
  generalize solveF T fl [] = σ at *
  have hk : ∀ i, σ.get i = none ↔ T.get i = none := fun i => by
    rw [keys_get, O.keys, R.mem i]
    simp
  have hs : Solves (tot σ.get) T := fun i t ht => by
    cases h : σ.get i with
    | none => rw [(hk i).mp h] at ht; cases ht
    | some u =>
      obtain ⟨w, hw, e⟩ := O.fix i u h
      rw [ht] at hw
      cases hw
      unfold tot
      rw [h]
      show u = _
      rw [e, Tm.fill_sub]
      rfl
  refine ⟨by rw [O.keys]; exact R.nd, fun i t h => ?_, fun i t h j hj => (hk j).mpr (O.idem i t h j hj), fun i t h => ?_, ?_, fun θ hθ i => ?_⟩
  · have h1 := O.dp i t h
    have h2 := t.dp_size
    have h3 : 2 ^ t.dp ≤ 2 ^ 13 := Nat.pow_le_pow_right (by omega) (by omega)
    refine ⟨by omega, ?_⟩
    have h4 : 2 ^ 13 = 8192 := by decide
    omega
  · cases hT : T.get i with
    | none => rw [(hk i).mpr hT] at h; cases h
    | some u => exact (B.td i u hT).2
  · rw [Tm.fill_sub, Tm.fill_sub]
    exact (B.sol _).mp hs
  · have hsol := (B.sol θ).mpr hθ
    show ((σ.get i).getD (.v i)).sub θ = θ i
    cases h : σ.get i with
    | none => rfl
    | some u => exact (O.by_ θ hsol i u h).symm
section
variable {c : Cx}
theorem unify_ (G : Gl c) (one other : Tm) (n : Nat) (ob : Ob) (h1 : one.dp ≤ 5) (h2 : other.dp ≤ 5) (hn : 100 ≤ n) : Fn c n (.ref (G.ad 15)) [one.av, other.av] ob fun v ob' => ∃ r, UR one other r ∧ v = optAV r ∧ ob' = ob := by
  refine unified_ G (RB one other) (UR one other) (fun n ob hn => ?_) (fun n ob T hn hT => ?_) (fun h => h) (by omega)
  · obtain ⟨m, I0⟩ := BI.init h1 h2
    refine begun_ G (BI one other) (RB one other) m I0 (fun m T w I => ?_) (fun m T w p a I h => (I.wk h).small) (fun m T w p a b i t I wa wb fa fb h => ?_) (fun m T w p a b I wa wb va vb => ?_) (fun m T I => ?_) (by omega)
    · obtain ⟨l1, l2⟩ := I.len
      exact ⟨I.acy, fun j u h => (I.td j u h).1.small, fun p hp => ⟨(I.wd p hp).1.small, (I.wd p hp).2.small⟩, by omega, l1⟩
    · have hga := I.wk (.inl wa)
      have hgb := I.wk (.inr wb)
      have hp : ∀ θ, Solves θ T → (p.1.sub θ = p.2.sub θ ↔ θ i = t.sub θ) := fun θ hθ => by
        rw [wa.sub hθ, wb.sub hθ]
        rcases h with ⟨rfl, rfl⟩ | ⟨rfl, rfl⟩
        · exact Iff.rfl
        · exact eq_comm
      have hi : T.get i = none := by
        rcases h with ⟨rfl, rfl⟩ | ⟨rfl, rfl⟩
        · exact fa i rfl
        · exact fb i rfl
      have hft : Free T t := by
        rcases h with ⟨rfl, rfl⟩ | ⟨rfl, rfl⟩
        · exact fb
        · exact fa
      have hgt : Good one other t := by
        rcases h with ⟨rfl, rfl⟩ | ⟨rfl, rfl⟩
        · exact hgb
        · exact hga
      have hgi : one.has i = true ∨ other.has i = true := by
        rcases h with ⟨rfl, rfl⟩ | ⟨rfl, rfl⟩
        · exact hga.2 i (beq_self_eq_true _)
        · exact hgb.2 i (beq_self_eq_true _)
      refine ⟨fun e => I.same fun θ hθ => (hp θ hθ).mpr (by rw [e]; rfl), fun hne ho θ hθ => ?_, fun hne ho => I.bind hi hgi hgt ho hp⟩
      obtain ⟨hs, hw⟩ := (I.sol θ).mpr hθ
      have heq := (hp θ hs).mp (hw p (by simp))
      have hsz := ho.size hs
      cases hv : t.isV with
      | false =>
        have := hsz.2 hv
        rw [heq] at this
        omega
      | true =>
        obtain ⟨j, rfl⟩ : ∃ j, t = .v j := by cases t <;> first | exact ⟨_, rfl⟩ | cases hv
        cases ho with
        | here hh =>
          have e : i = j := beq_iff_eq.mp hh
          exact hne (by rw [e])
        | @there _ k u hk e _ =>
          have e2 : k = j := beq_iff_eq.mp hk
          subst e2
          rw [hft k rfl] at e
          cases e
    · refine ⟨fun hne θ hθ => ?_, fun hh hk => I.split wa wb va vb hh hk⟩
      obtain ⟨hs, hw⟩ := (I.sol θ).mpr hθ
      have heq := hw p (by simp)
      rw [wa.sub hs, wb.sub hs] at heq
      obtain ⟨e1, e2⟩ := a.sub_hd θ va
      obtain ⟨e3, e4⟩ := b.sub_hd θ vb
      rcases hne with hne | hne
      · exact hne (by rw [← e1, ← e3, heq])
      · refine hne ?_
        have := congrArg (fun t : Tm => t.kids.length) heq
        simp only [e2, e4, List.length_map] at this
        exact this
    · exact ⟨I.nd, I.acy, fun θ => by rw [← I.sol θ]; simp, I.td⟩
  · have B : BE one other T := hT
    obtain ⟨r, q1, q2⟩ := B.acy
    have hl := tbl_len B.nd
    have h8 : ∀ i, r i < 8 := fun i => by
      have := q1 i
      have h3 : 2 ^ T.length ≤ 2 ^ 3 := Nat.pow_le_pow_right (by omega) hl
      omega
    obtain ⟨m, I0⟩ := IT.init (T := T) h8
    refine Op.mono (worked_out_ G (RT T) (.fr _) (fun n ob hn hd => in_turn_ G hd B.nd (IT T r) (RT T) m I0 (fun m fl wl I => ?_) (fun m fl wl i I => I.yes) (fun m fl wl i I h => I.old h) (fun m fl wl i t I h ht => I.new q2 ht) (fun m fl I => ?_) hn) (fun fl R => ⟨v3_len _ R.nd, fun p i s hfl => ?_⟩) (by omega)) ?_
    · have h1 := wgt_len r wl
      have h2 := I.wt
      refine ⟨by omega, by have := v3_len _ I.nd; omega, fun p hp => ?_⟩
      cases h : T.get p.1 with
      | none => exact absurd h (I.kw p hp)
      | some t => exact ⟨t, rfl, (B.td _ t h).1.small⟩
    · exact ⟨I.nd, fun i => ⟨I.kf i, fun h => by rcases I.all i h with h | ⟨b, h⟩; exact h; cases h⟩, I.ord⟩
    · have hb : T.get i ≠ none := (R.mem i).mp (by rw [hfl]; simp)
      cases ht : T.get i with
      | none => exact absurd ht hb
      | some t =>
        have O := WO.run (fun i t h => (B.td i t h).1.1) R p (i :: s) hfl
        have hip : i ∉ p := by
          have hnd := R.nd
          rw [hfl, List.nodup_append] at hnd
          intro h
          exact hnd.2.2 i h i List.mem_cons_self rfl
        have hpl : p.length ≤ 2 := by
          have := v3_len _ R.nd
          rw [hfl] at this
          simp at this
          omega
        refine ⟨t, rfl, (B.td i t ht).1.small, ?_, keys_get.mpr (by rw [O.keys]; exact hip)⟩
        have h1 := Tm.fill_dp (T := (solveF T p []).get) (m := 8) (fun j w hw => by have := O.dp j w hw; omega) t
        have h2 := (B.td i t ht).1.1
        have h3 := (t.fill (solveF T p []).get).dp_size
        have h4 : 2 ^ (t.fill (solveF T p []).get).dp ≤ 2 ^ 13 := Nat.pow_le_pow_right (by omega) (by omega)
        have h5 : 2 ^ 13 = 8192 := by decide
        omega
    · rintro v ob' ⟨fl, R, rfl, rfl⟩
      exact ⟨_, uni_of B R, rfl, rfl⟩
theorem law_True (G : Gl c) {n : Nat} {ob : Ob} {xs : List Int} (hxs : xs.length ≤ 1000) (hn : 200 ≤ n) : Fn c n (.ref (G.ad 25)) [.lst (xs.map AV.int)] ob fun v ob' => v = .bool true ∧ ob' = ob :=
  law_ G (unify_ G) hxs hn
end
end Mine
end
section
open PySem PySem.W PyProof.Rows PySem.Calls
namespace Mine
noncomputable def tmW : Tm → WData
  | .v i => .tuple [.str (nm i)]
  | .a => .tuple [.str "a"]
  | .b => .tuple [.str "b"]
  | .f t => .tuple [.str "f", tmW t]
  | .g t u => .tuple [.str "g", tmW t, tmW u]
theorem reps_of {c : Cx} {h : Heap} : ∀ (ds : List WData) (l : List AV) (vs : List Value) (as : List Addr), ReadsAllW [] (fun _ => none) h vs ds as →
    (∀ p ∈ ds.zip l, ∀ v as, ReadsLit h v p.1 as → Rep c h v p.2) → ds.length = l.length → Reps c h vs l
  | [], [], _, _, .nil, _, _ => .nil
  | [], _ :: _, _, _, _, _, e => by simp at e
  | _ :: _, [], _, _, _, _, e => by simp at e
  | d :: ds, x :: l, _, _, .cons r rs, H, e => .cons (H (d, x) (by simp) _ _ r) (reps_of ds l _ _ rs (fun p hp => H p (by simp [hp])) (by simpa using e))
theorem rep_str {c : Cx} {h : Heap} {s : Str} {v : Value} {as : List Addr} (r : ReadsLit h v (.str s) as) : Rep c h v (.str s) := by
  cases r
  exact .str _ _
theorem rep_tup {c : Cx} {h : Heap} {ds : List WData} {l : List AV} {v : Value} {as : List Addr} (r : ReadsLit h v (.tuple ds) as)
    (H : ∀ p ∈ ds.zip l, ∀ v as, ReadsLit h v p.1 as → Rep c h v p.2) (e : ds.length = l.length) : Rep c h v (.tup l) := by
  cases r with
  | tuple ho hc hd hr => exact .tup ⟨_, ho, hc, _, hd⟩ (reps_of ds l _ _ hr H e)
theorem rep_tmW {c : Cx} {h : Heap} : ∀ (t : Tm) (v : Value) (as : List Addr), ReadsLit h v (tmW t) as → Rep c h v t.av
  | .v i, _, _, r => by
    refine rep_tup (l := [.str (nm i)]) r (fun p hp v as q => ?_) rfl
    simp at hp
    subst hp
    exact rep_str q
  | .a, _, _, r => by
    refine rep_tup (l := [.str "a"]) r (fun p hp v as q => ?_) rfl
    simp at hp
    subst hp
    exact rep_str q
  | .b, _, _, r => by
    refine rep_tup (l := [.str "b"]) r (fun p hp v as q => ?_) rfl
    simp at hp
    subst hp
    exact rep_str q
  | .f t, _, _, r => by
    refine rep_tup (l := [.str "f", t.av]) r (fun p hp v as q => ?_) rfl
    simp at hp
    rcases hp with hp | hp
    · subst hp
      exact rep_str q
    · subst hp
      exact rep_tmW t _ _ q
  | .g t u, _, _, r => by
    refine rep_tup (l := [.str "g", t.av, u.av]) r (fun p hp v as q => ?_) rfl
    simp at hp
    rcases hp with hp | hp | hp
    · subst hp
      exact rep_str q
    · subst hp
      exact rep_tmW t _ _ q
    · subst hp
      exact rep_tmW u _ _ q
theorem rep_smalls {c : Cx} {h : Heap} {v : Value} {as : List Addr} (r : ReadsLit h v (.tuple (smalls.map tmW)) as) : Rep c h v (.tup (smalls.map Tm.av)) := by
  refine rep_tup r (fun p hp v as q => ?_) (by simp)
  rw [List.zip_map', List.mem_map] at hp
  obtain ⟨t, _, rfl⟩ := hp
  exact rep_tmW t _ _ q
noncomputable def fnArgs (i : Nat) : Arguments :=
  match (PySem.Challenge.pw_pq0036_01.main.body[i]? : Option Stmt) with
  | some (.FunctionDef _ args _ _ _ _ _ _ _ _) => args
  | _ => default
/-- what the text's top says of the names that we ask -/
structure Top4 (q : Program) : Prop where
  lits : wlitsOf q = [(Str.ofString "_law_small", WData.tuple (smalls.map tmW))]
  most : valOf q "MOST_SIZE" = some (.int 10000)
  recs : (recsOf q).map (fun d => (d.name, d.params, d.body, d.scope)) = fnames.map fun p => (p.1, fnArgs p.2, fnBody p.2, (fnSc p.2).s)
  free : (bnames ++ tnames).all (fun p => !(startupNames.contains p.1 || (looseW q []).contains p.1 || ((recsOf q).map (·.name)).contains p.1 || ((litsOf q).map (·.1)).contains p.1 || ((clssOf q (looseW q [])).map (·.name)).contains p.1)) = true
theorem rec_at {q : Program} (Z : Top4 q) {x : Str} {i : Nat} (h : (x, i) ∈ fnames) : ∃ d ∈ recsOf q, d.name = x ∧ d.params = fnArgs i ∧ d.body = fnBody i ∧ d.scope = (fnSc i).s := by
  have : (x, fnArgs i, fnBody i, (fnSc i).s) ∈ fnames.map fun p => (p.1, fnArgs p.2, fnBody p.2, (fnSc p.2).s) := List.mem_map.mpr ⟨_, h, rfl⟩
  rw [← Z.recs, List.mem_map] at this
  obtain ⟨d, hd, e⟩ := this
  simp only [Prod.mk.injEq] at e
  exact ⟨d, hd, e⟩
theorem len1 {α : Type} : ∀ {l : List α}, l.length = 1 → ∃ a, l = [a]
  | [a], _ => ⟨a, rfl⟩
theorem len2 {α : Type} : ∀ {l : List α}, l.length = 2 → ∃ a b, l = [a, b]
  | [a, b], _ => ⟨a, b, rfl⟩
theorem len3 {α : Type} : ∀ {l : List α}, l.length = 3 → ∃ a b d, l = [a, b, d]
  | [a, b, d], _ => ⟨a, b, d, rfl⟩
theorem bind_ok {x : Str} {i : Nat} (h : (x, i) ∈ fnames) (pm cd doc : Value) (vals : List Value) (hl : vals.length = (fnPs i).length) :
    bindArgs (docDef x (fnArgs i) (fnBody i) (fnSc i).s pm cd doc) ⟨vals, []⟩ = pure ((fnPs i).zip vals) := by
  simp only [fnames, List.mem_cons, Prod.mk.injEq, List.not_mem_nil, or_false] at h
  rcases h with ⟨rfl, rfl⟩ | ⟨rfl, rfl⟩ | ⟨rfl, rfl⟩ | ⟨rfl, rfl⟩ | ⟨rfl, rfl⟩ | ⟨rfl, rfl⟩ | ⟨rfl, rfl⟩ | ⟨rfl, rfl⟩ | ⟨rfl, rfl⟩ | ⟨rfl, rfl⟩ | ⟨rfl, rfl⟩ | ⟨rfl, rfl⟩ | ⟨rfl, rfl⟩ | ⟨rfl, rfl⟩ | ⟨rfl, rfl⟩ | ⟨rfl, rfl⟩ | ⟨rfl, rfl⟩ | ⟨rfl, rfl⟩
  all_goals first
    | (change _ = 1 at hl
       obtain ⟨a, rfl⟩ := len1 hl
       rfl)
    | (change _ = 2 at hl
       obtain ⟨a, b, rfl⟩ := len2 hl
       rfl)
    | (change _ = 3 at hl
       obtain ⟨a, b, d, rfl⟩ := len3 hl
       rfl)
theorem boot_b : ∀ p ∈ bnames, bootBuiltins p.1 = some (.builtin p.2) := by decide +kernel
theorem boot_t : ∀ p ∈ tnames, bootBuiltins p.1 = some (.type p.2) := by decide +kernel
noncomputable def fnNm (i : Nat) : Str := ((fnames.find? (·.2 == i)).map (·.1)).getD ""
theorem fnNm_ok : ∀ p ∈ fnames, fnNm p.2 = p.1 := by decide +kernel
noncomputable def adOf (mg : Str → Option Value) (i : Nat) : Addr := match mg (fnNm i) with
  | some (.ref a) => a
  | _ => 0
theorem adOf_ok {mg : Str → Option Value} {x : Str} {i : Nat} {a : Addr} (h : (x, i) ∈ fnames) (e : mg x = some (.ref a)) : adOf mg i = a := by
  unfold adOf
  rw [fnNm_ok _ h, e]
theorem gl_of {q : Program} (Z : Top4 q) {c : Cx} {mean : ExcName → Option Value} (T : Top q (looseW q []) mean c.mg c.mb c.s0.heap) (TW : TopW q c.mg c.s0.heap) {fa : Addr} (hm : c.mg "law" = some (.ref fa)) :
    ∃ G : Gl c, G.ad 25 = fa := by
  obtain ⟨sv, hs1, hs2⟩ := TW.lits (Str.ofString "_law_small", WData.tuple (smalls.map tmW)) (by rw [Z.lits]; exact List.mem_singleton.mpr rfl)
  obtain ⟨v, hv1, hv2⟩ := T.const _ _ Z.most
  have hv3 := hv2 c.s0.heap
  have hfree : ∀ p ∈ bnames ++ tnames, c.mg p.1 = none := fun p hp => by
    have := List.all_eq_true.mp Z.free p hp
    simp only [Bool.not_eq_true', Bool.or_eq_false_iff] at this
    obtain ⟨⟨⟨⟨h1, h2⟩, h3⟩, h4⟩, h5⟩ := this
    have no : ∀ {l : List Str}, l.contains p.1 = false → p.1 ∉ l := fun {l} h hm => by
      rw [List.contains_iff_mem.mpr hm] at h
      cases h
    exact T.free _ (no h1) (no h2) (no h3) (no h4) (no h5)
  have hbu : ∀ p ∈ bnames ++ tnames, c.mb p.1 = bootBuiltins p.1 := fun p hp => T.builtins _ (by
    have : ∀ p ∈ bnames ++ tnames, p.1 ≠ "__name__" := by decide +kernel
    exact this p hp)
  cases hv3 with
  | int _ t =>
    refine ⟨⟨adOf c.mg, fun x i h => ?_, fun x id h => ⟨hfree (x, id) (List.mem_append_left _ h), (hbu (x, id) (List.mem_append_left _ h)).trans (boot_b _ h)⟩,
      fun x id h => ⟨hfree (x, id) (List.mem_append_right _ h), (hbu (x, id) (List.mem_append_right _ h)).trans (boot_t _ h)⟩, sv, hs1, rep_smalls hs2, t, hv1⟩, ?_⟩
    · obtain ⟨d, hd, e1, e2, e3, e4⟩ := rec_at Z h
      obtain ⟨a, o, pm, code, doc, h1, h2, h3, h4⟩ := T.fn d hd
      rw [e1] at h1
      rw [adOf_ok h h1]
      refine ⟨h1, ⟨o, docDef x (fnArgs i) (fnBody i) (fnSc i).s pm code doc, h2, ?_, rfl, rfl, rfl, rfl, rfl, ?_, fun vals hl => bind_ok h pm code doc vals hl⟩⟩
      · rw [h3, e1, e2, e3, e4]
      · rw [e1] at h4
        exact h4
    · exact adOf_ok (x := "law") (by decide +kernel) hm
theorem reps_ints {c : Cx} {P : Params} {h : Heap} : ∀ (ns : List Int) (vs : List Value), WellAll P h vs (ofPys (ns.map .int)) → Reps c h vs (ns.map AV.int)
  | [], _, .nil => .nil
  | n :: ns, _, .cons r rs => .cons (by cases r; exact .int _ _) (reps_ints ns _ rs)
theorem room : Room callerA 200 := ⟨rfl, by decide, by decide⟩
theorem law_goes {q : Program} (Z : Top4 q) {w : World} {s₀ s₁ : Shared} {mg mb : Str → Option Value} {mean : ExcName → Option Value} (T : Top q (looseW q []) mean mg mb s₁.heap) (TW : TopW q mg s₁.heap) {fa : Addr}
    (hm : mg "law" = some (.ref fa)) (hg : s₁.gens = #[]) {l : Addr} {ns : List Int} (W : Well w.params s₁.heap (.ref l) (ofPy (.list (ns.map .int)))) (hlen : ¬ (63 : Int) < ns.length) {args : List WData} {E : Value → Shared → Prop}
    (hpost : PySem.Challenge.rw_pq0036_01.row.claim.post args (.bool true) args = true) (hraise : ∀ cls, PySem.Challenge.rw_pq0036_01.row.claim.raises args cls = false) :
    wpAny (model PySem.Challenge.rw_pq0036_01.row.prog w) callerA ((fun f vs => call f vs) (.ref fa) [.ref l]) (fun v s' => GoodWG PySem.Challenge.rw_pq0036_01.row.claim (classAt s₀.heap) (ExcName.means s₀.heap) args s₁ (.ok (.ret v)) s') E s₁ := by
  let c : Cx := { prog := PySem.Challenge.rw_pq0036_01.row.prog, w := w, s0 := s₁, mg := mg, mb := mb, g := T.g, b := T.b, lim := T.nolimit }
  obtain ⟨G, e⟩ := gl_of (c := c) Z T TW hm
  have hW : Wf c s₁.heap (fun _ => none) s₁ := ⟨rfl, rfl, Le.refl _, Le.refl _, fun a o h => nomatch h⟩
  have hR : Rep c s₁.heap (.ref l) (.lst (ns.map AV.int)) := by
    generalize hx : ofPy (.list (ns.map .int)) = x at W
    simp only [ofPy] at hx
    subst hx
    cases W with
    | list h1 h2 => exact .lst ⟨_, h1⟩ (reps_ints ns _ h2)
  have := law_True G (n := 200) (ob := fun _ => none) (xs := ns) (by omega) (Nat.le_refl _) callerA s₁.heap s₁ [.ref l] room hW (.cons hR .nil)
  rw [e] at this
  refine this _ _ fun F' s' x v ob' hv hW' hM hr => ?_
  obtain ⟨rfl, rfl⟩ := hv
  cases hr
  exact GoodW.toG ⟨.inl ⟨_, _, _, rfl, hraise, .bool true, hpost, fun _ => ⟨.nil, fun a ha => nomatch ha⟩⟩, fun b o hb => (hM.keep b o rfl hb).1, hW'.os, hW'.gens.trans hg⟩
noncomputable def keepAt : List Nat := [1, 2, 4, 5, 6, 8, 9, 10, 11, 12, 13, 14, 15, 17, 18, 19, 20, 21, 22, 23, 24, 25]
/-- the text without the statements that the look at its top does not weigh -/
noncomputable def topv : Program := { PySem.Challenge.pw_pq0036_01 with main := { PySem.Challenge.pw_pq0036_01.main with body := keepAt.filterMap fun i => PySem.Challenge.pw_pq0036_01.main.body[i]? } }
theorem top4 : Top4 topv := ⟨by kernel_rfl, by kernel_rfl, by kernel_rfl, by decide +kernel⟩
theorem law_said : PySem.Challenge.rw_pq0036_01.wellSaid = true := by kernel_rfl
theorem law_left : LeftO PySem.Challenge.rw_pq0036_01.row.prog topv [] (fun s => xlAt topv [] s && recOk (RowW.records PySem.Challenge.rw_pq0036_01.row.toRowW) s) (fun _ => ()) (fun _ => ()) 2350 := fun w => by kernel_rfl
end Mine
end
open PySem PySem.W PyProof.Rows
set_option maxHeartbeats 8000000 in
theorem PySem.Challenge.cw_pq0036_01_holds : PySem.Challenge.rw_pq0036_01.Holds := by
  w_on
  refine holds_law Mine.law_said fun said => ?_
  refine holds_open (q := Mine.topv) (loose := []) (Xt := fun s => xlAt Mine.topv [] s && recOk (RowW.records PySem.Challenge.rw_pq0036_01.row.toRowW) s) (XP := XL Mine.topv []) (Yf := fun _ => ()) (Ya := fun _ => ()) (YP := fun _ _ => True) (N := 2350) Mine.law_left (fun _ _ _ => trivial) (fun _ _ _ _ _ => trivial) (fun s e => xl_of s (Bool.and_eq_true_iff.mp e).1) XL.keeps (by rfl) (by rfl) (by rfl) (fun s e => recFacts_of (Bool.and_eq_true_iff.mp e).2) (by rfl) (by first | assumption | decide +kernel) (by decide +kernel) ⟨rfl, rfl, rfl, rfl, rfl, by decide +kernel⟩ ?hw ?hc
  case hw => w_witness2
  intro w s₀ s₁ mg mb G Y fa o pm cd doc dV kV ho hd hcd hD hmg hg args vals as hpre hlay hrd hwl hlo
  refine Ground.open G ?_
  intro T B D TE TW
  wrow_args hpre hlay hrd hwl hlo
  rename_i W _ _ _ hlen _
  refine Mine.law_goes Mine.top4 T TW hmg hg W hlen ?_ ?_
  · wrow_post
  · intro cls
    rfl
