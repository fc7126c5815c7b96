import PyProof.Rows.All
import Wide.All
import OpenK.AllK
import Wide.FinOn
import Lean
import PySem.Challenge.RW_pq0538_01
open PySem PySem.Calls PyProof.Rows PySem.W
set_option Elab.async false
set_option linter.all false
set_option exponentiation.threshold 256

namespace Mine

/-- plain data -/
inductive D where
  | none
  | bool (b : Bool)
  | int (i : Int)
  | ref (a : Addr)
  | list (xs : List D)
  | tup (xs : List D)

noncomputable abbrev View := Addr → Option Obj
noncomputable abbrev Mu := List (Addr × List D)
noncomputable abbrev Sg := List (Str × D)

/-- the value v stands for the datum d, as the view g tells -/
inductive RepV (g : View) : Value → D → Prop where
  | none : RepV g .none .none
  | bool (b : Bool) : RepV g (.bool b) (.bool b)
  | int (i : Int) (t : Tok) : RepV g (.int i t) (.int i)
  | ref (a : Addr) : RepV g (.ref a) (.ref a)
  | list {a : Addr} {o : Obj} {n : Nat} {vs : List Value} {xs : List D} : g a = some o → o.cls = .type "list" → o.data = .seq vs.toArray n → vs.length = xs.length →
      (∀ (i : Nat) (v : Value) (x : D), vs[i]? = some v → xs[i]? = some x → RepV g v x) → RepV g (.ref a) (.list xs)
  | tup {a : Addr} {o : Obj} {n : Nat} {vs : List Value} {xs : List D} : g a = some o → o.cls = .type "tuple" → o.data = .seq vs.toArray n → vs.length = xs.length →
      (∀ (i : Nat) (v : Value) (x : D), vs[i]? = some v → xs[i]? = some x → RepV g v x) → RepV g (.ref a) (.tup xs)

noncomputable def RepL (g : View) (vs : List Value) (xs : List D) : Prop := vs.length = xs.length ∧ ∀ (i : Nat) (v : Value) (x : D), vs[i]? = some v → xs[i]? = some x → RepV g v x

theorem RepV.mono {g g' : View} (k : ∀ b o, g b = some o → g' b = some o) {v : Value} {d : D} (h : RepV g v d) : RepV g' v d := by
  induction h with
  | none => exact .none
  | bool b => exact .bool b
  | int i t => exact .int i t
  | ref a => exact .ref a
  | list h1 h2 h3 h4 _ ih => exact .list (k _ _ h1) h2 h3 h4 ih
  | tup h1 h2 h3 h4 _ ih => exact .tup (k _ _ h1) h2 h3 h4 ih

theorem RepL.mono {g g' : View} (k : ∀ b o, g b = some o → g' b = some o) {vs : List Value} {xs : List D} (h : RepL g vs xs) : RepL g' vs xs :=
  ⟨h.1, fun i v x a b => (h.2 i v x a b).mono k⟩
theorem RepL.nil {g : View} : RepL g [] [] := ⟨rfl, fun i v x h => by simp at h⟩
theorem RepL.cons {g : View} {v : Value} {x : D} {vs : List Value} {xs : List D} (h : RepV g v x) (t : RepL g vs xs) : RepL g (v :: vs) (x :: xs) := by
  refine ⟨by simp [t.1], fun i w y a b => ?_⟩
  cases i with
  | zero => simp at a b; subst a; subst b; exact h
  | succ i => simp at a b; exact t.2 i w y a b
theorem RepL.head {g : View} {v : Value} {x : D} {vs : List Value} {xs : List D} (h : RepL g (v :: vs) (x :: xs)) : RepV g v x := h.2 0 v x rfl rfl
theorem RepL.tail {g : View} {v : Value} {x : D} {vs : List Value} {xs : List D} (h : RepL g (v :: vs) (x :: xs)) : RepL g vs xs :=
  ⟨by simpa using h.1, fun i w y a b => h.2 (i + 1) w y (by simpa using a) (by simpa using b)⟩
theorem RepL.get {g : View} {vs : List Value} {xs : List D} (h : RepL g vs xs) {i : Nat} {x : D} (hx : xs[i]? = some x) : ∃ v, vs[i]? = some v ∧ RepV g v x := by
  have hi : i < xs.length := (List.getElem?_eq_some_iff.mp hx).1
  have hv : vs[i]? = some (vs[i]'(by rw [h.1]; exact hi)) := List.getElem?_eq_getElem _
  exact ⟨_, hv, h.2 i _ x hv hx⟩
theorem RepL.append {g : View} {vs ws : List Value} {xs ys : List D} (h : RepL g vs xs) (t : RepL g ws ys) : RepL g (vs ++ ws) (xs ++ ys) := by
  refine ⟨by simp [h.1, t.1], fun i w y a b => ?_⟩
  by_cases hi : i < vs.length
  · rw [List.getElem?_append_left hi] at a
    rw [List.getElem?_append_left (by rw [← h.1]; exact hi)] at b
    exact h.2 i w y a b
  · rw [List.getElem?_append_right (by omega)] at a
    rw [List.getElem?_append_right (by rw [← h.1]; omega)] at b
    rw [← h.1] at b
    exact t.2 _ w y a b
theorem RepL.take {g : View} {vs : List Value} {xs : List D} (h : RepL g vs xs) (n : Nat) : RepL g (vs.take n) (xs.take n) := by
  refine ⟨by simp [h.1], fun i w y a b => ?_⟩
  rw [List.getElem?_take] at a b
  split at a
  · rename_i hi; rw [if_pos hi] at b; exact h.2 i w y a b
  · cases a
theorem RepL.drop {g : View} {vs : List Value} {xs : List D} (h : RepL g vs xs) (n : Nat) : RepL g (vs.drop n) (xs.drop n) := by
  refine ⟨by simp [h.1], fun i w y a b => ?_⟩
  rw [List.getElem?_drop] at a b
  exact h.2 _ w y a b
theorem RepL.set {g : View} {vs : List Value} {xs : List D} (h : RepL g vs xs) {k : Nat} {v : Value} {x : D} (hv : RepV g v x) : RepL g (vs.set k v) (xs.set k x) := by
  refine ⟨by simp [h.1], fun i w y a b => ?_⟩
  rw [List.getElem?_set] at a b
  by_cases hk : k = i
  · subst hk
    simp only [if_true] at a b
    split at a
    · rename_i h1; rw [if_pos (by rw [← h.1]; exact h1)] at b; cases a; cases b; exact hv
    · cases a
  · rw [if_neg hk] at a b; exact h.2 i w y a b

theorem RepV.list_inv {g : View} {v : Value} {xs : List D} (h : RepV g v (.list xs)) : ∃ a o n vs, v = .ref a ∧ g a = some o ∧ o.cls = .type "list" ∧ o.data = .seq (vs : List Value).toArray n ∧ RepL g vs xs := by
  cases h with
  | list h1 h2 h3 h4 h5 => exact ⟨_, _, _, _, rfl, h1, h2, h3, h4, h5⟩
theorem RepV.tup_inv {g : View} {v : Value} {xs : List D} (h : RepV g v (.tup xs)) : ∃ a o n vs, v = .ref a ∧ g a = some o ∧ o.cls = .type "tuple" ∧ o.data = .seq (vs : List Value).toArray n ∧ RepL g vs xs := by
  cases h with
  | tup h1 h2 h3 h4 h5 => exact ⟨_, _, _, _, rfl, h1, h2, h3, h4, h5⟩
theorem RepV.int_inv {g : View} {v : Value} {i : Int} (h : RepV g v (.int i)) : ∃ t, v = .int i t := by cases h; exact ⟨_, rfl⟩
theorem RepV.bool_inv {g : View} {v : Value} {b : Bool} (h : RepV g v (.bool b)) : v = .bool b := by cases h; rfl
theorem RepV.none_inv {g : View} {v : Value} (h : RepV g v .none) : v = .none := by cases h; rfl
theorem RepV.ref_inv {g : View} {v : Value} {a : Addr} (h : RepV g v (.ref a)) : v = .ref a := by cases h; rfl
theorem RepV.mkList {g : View} {a : Addr} {o : Obj} {n : Nat} {vs : List Value} {xs : List D} (h1 : g a = some o) (h2 : o.cls = .type "list") (h3 : o.data = .seq vs.toArray n) (h4 : RepL g vs xs) : RepV g (.ref a) (.list xs) := .list h1 h2 h3 h4.1 h4.2
theorem RepV.mkTup {g : View} {a : Addr} {o : Obj} {n : Nat} {vs : List Value} {xs : List D} (h1 : g a = some o) (h2 : o.cls = .type "tuple") (h3 : o.data = .seq vs.toArray n) (h4 : RepL g vs xs) : RepV g (.ref a) (.tup xs) := .tup h1 h2 h3 h4.1 h4.2

/-- a changing list at a holds xs -/
noncomputable def IsMut (h : Heap) (g : View) (a : Addr) (xs : List D) : Prop := ∃ vs : List Value, h.PlainList a vs.toArray ∧ RepL g vs xs

structure Base (h₀ : Heap) (fs : List Env) (s : Shared) (g : View) (μ : Mu) : Prop where
  w : ∀ b o, h₀.get? b = some o → g b = some o
  v : ∀ b o, g b = some o → s.heap.get? b = some o
  m : ∀ a xs, (a, xs) ∈ μ → IsMut s.heap g a xs ∧ g a = none
  nd : (μ.map (·.1)).Nodup
  fr : s.heap.FunFrames h₀ fs

noncomputable def priv (env : Env) : List Addr := env.locals :: env.cells.map (·.2)
/-- the addresses of a frame's own that its statements may write -/
noncomputable def wrt (env : Env) : List Addr := env.locals :: (if env.func.isSome then env.cells.map (·.2) else [])
theorem wrt_sub {env : Env} {b : Addr} (h : b ∈ wrt env) : b ∈ priv env := by
  unfold wrt at h; unfold priv
  rcases List.mem_cons.mp h with rfl | h
  · exact List.mem_cons_self
  · split at h
    · exact List.mem_cons_of_mem _ h
    · cases h

structure Fram (env : Env) (σ : Sg) (h : Heap) (g : View) (μ : Mu) : Prop where
  kind : env.scope.kind = .function
  ns : ∃ m, h.Ns env.locals m ∧ ∀ x d, σ.lookup x = some d → env.kindOf x = some .local → ∃ v, m x = some v ∧ RepV g v d
  cell : ∀ x c, env.cells.lookup x = some c → ∃ ov, h.IsCell c ov ∧ ∀ d, σ.lookup x = some d → (env.kindOf x = some .cell ∨ env.kindOf x = some .free) → ∃ v, ov = some v ∧ RepV g v d
  apart : env.func.isSome = true → env.cells.Pairwise fun x y => x.2 ≠ y.2
  off : ∀ p ∈ priv env, g p = none ∧ p ∉ μ.map (·.1) ∧ ∃ o, h.get? p = some o
  loc : env.locals ∉ env.cells.map (·.2)

structure Step (X : List Addr) (s : Shared) (g : View) (μ : Mu) (s' : Shared) (g' : View) (μ' : Mu) : Prop where
  same : ∃ h tk, s' = { s with heap := h, toks := tk }
  there : ∀ b o, s.heap.get? b = some o → ∃ o', s'.heap.get? b = some o'
  keep : ∀ b o, b ∉ μ.map (·.1) → b ∉ X → s.heap.get? b = some o → s'.heap.get? b = some o
  grow : ∀ b o, g b = some o → g' b = some o
  new : ∀ b o, g' b = some o → g b = some o ∨ b ∈ μ.map (·.1) ∨ s.heap.get? b = none
  dom : ∀ a ∈ μ'.map (·.1), a ∈ μ.map (·.1) ∨ s.heap.get? a = none

theorem Step.refl {X : List Addr} {s : Shared} {g : View} {μ : Mu} : Step X s g μ s g μ :=
  ⟨⟨_, _, rfl⟩, fun _ o e => ⟨o, e⟩, fun _ _ _ _ e => e, fun _ _ e => e, fun _ _ e => .inl e, fun _ h => .inl h⟩

theorem Step.gone {X : List Addr} {s s' : Shared} {g g' : View} {μ μ' : Mu} (x : Step X s g μ s' g' μ') {b : Addr} (h : s'.heap.get? b = none) : s.heap.get? b = none := by
  cases e : s.heap.get? b with
  | none => rfl
  | some o => obtain ⟨o', e'⟩ := x.there b o e; rw [h] at e'; cases e'

theorem Step.trans {X : List Addr} {s s₁ s₂ : Shared} {g g₁ g₂ : View} {μ μ₁ μ₂ : Mu} (x : Step X s g μ s₁ g₁ μ₁) (y : Step X s₁ g₁ μ₁ s₂ g₂ μ₂) : Step X s g μ s₂ g₂ μ₂ := by
  refine ⟨?_, fun b o e => ?_, fun b o hb hx e => ?_, fun b o e => y.grow b o (x.grow b o e), fun b o e => ?_, fun a ha => ?_⟩
  · obtain ⟨h1, t1, e1⟩ := x.same
    obtain ⟨h2, t2, e2⟩ := y.same
    exact ⟨h2, t2, by rw [e2, e1]⟩
  · obtain ⟨o', e'⟩ := x.there b o e
    exact y.there b o' e'
  · refine y.keep b o (fun hm => ?_) hx (x.keep b o hb hx e)
    rcases x.dom b hm with h | h
    · exact hb h
    · rw [e] at h; cases h
  · rcases y.new b o e with h | h | h
    · exact x.new b o h
    · exact .inr (x.dom b h)
    · exact .inr (.inr (x.gone h))
  · rcases y.dom a ha with h | h
    · exact x.dom a h
    · exact .inr (x.gone h)

theorem Step.mono {X Y : List Addr} {s s' : Shared} {g g' : View} {μ μ' : Mu} (x : Step X s g μ s' g' μ') (h : ∀ b, b ∈ X → b ∈ Y ∨ s.heap.get? b = none) : Step Y s g μ s' g' μ' :=
  ⟨x.same, x.there, fun b o hb hy e => x.keep b o hb (fun hx => (h b hx).elim hy fun hs => by rw [e] at hs; cases hs) e, x.grow, x.new, x.dom⟩

structure Org where
  s : Shared
  g : View
  μ : Mu

structure St (h₀ : Heap) (fs : List Env) (o : Org) (env : Env) (σ : Sg) (s : Shared) (g : View) (μ : Mu) : Prop where
  b : Base h₀ fs s g μ
  f : Fram env σ s.heap g μ
  st : Step (wrt env) o.s o.g o.μ s g μ

/-- a step that writes none of the frame's own -/
theorem Fram.lift {env : Env} {σ : Sg} {s s' : Shared} {g g' : View} {μ μ' : Mu} {X : List Addr} (F : Fram env σ s.heap g μ) (y : Step X s g μ s' g' μ') (hx : ∀ p ∈ priv env, p ∉ X) :
    Fram env σ s'.heap g' μ' := by
  have kp : ∀ p ∈ priv env, ∀ o, s.heap.get? p = some o → s'.heap.get? p = some o := fun p hp o e => y.keep p o (F.off p hp).2.1 (hx p hp) e
  refine ⟨F.kind, ?_, fun x c hc => ?_, F.apart, fun p hp => ⟨?_, fun hm => ?_, let ⟨o, e⟩ := (F.off p hp).2.2; ⟨o, kp p hp o e⟩⟩, F.loc⟩
  · obtain ⟨m, hn, hm⟩ := F.ns
    refine ⟨m, hn.at' fun o e => kp _ List.mem_cons_self o e, fun x d hd hk => ?_⟩
    obtain ⟨v, e, r⟩ := hm x d hd hk
    exact ⟨v, e, r.mono y.grow⟩
  · obtain ⟨ov, ⟨o, ho, hd⟩, h⟩ := F.cell x c hc
    refine ⟨ov, ⟨o, kp c (List.mem_cons_of_mem _ (List.mem_map.mpr ⟨(x, c), mem_of_lookup hc, rfl⟩)) o ho, hd⟩, fun d hd hk => ?_⟩
    obtain ⟨v, e, r⟩ := h d hd hk
    exact ⟨v, e, r.mono y.grow⟩
  · cases e : g' p with
    | none => rfl
    | some o =>
      obtain ⟨o₁, e₁⟩ := (F.off p hp).2.2
      rcases y.new p o e with h | h | h
      · rw [(F.off p hp).1] at h; cases h
      · exact absurd h (F.off p hp).2.1
      · rw [e₁] at h; cases h
  · obtain ⟨o₁, e₁⟩ := (F.off p hp).2.2
    rcases y.dom p hm with h | h
    · exact (F.off p hp).2.1 h
    · rw [e₁] at h; cases h

theorem St.lift {h₀ : Heap} {fs : List Env} {o : Org} {env : Env} {σ : Sg} {s s' : Shared} {g g' : View} {μ μ' : Mu} (S : St h₀ fs o env σ s g μ) (y : Step [] s g μ s' g' μ') (B : Base h₀ fs s' g' μ') : St h₀ fs o env σ s' g' μ' :=
  ⟨B, S.f.lift y (fun _ _ h => by cases h), S.st.trans (y.mono fun _ h => by cases h)⟩

theorem FunFrames.mono' {base h h' : Heap} {l : List Env} (k : ∀ b o, h.get? b = some o → (∀ vs, o.data ≠ .fields vs) → ∃ o', h'.get? b = some o' ∧ ∀ vs, o'.data ≠ .fields vs) (hl : h.FunFrames base l) : h'.FunFrames base l := by
  induction l with
  | nil => trivial
  | cons env rest ih =>
    obtain ⟨hk, ⟨L, o, hf, hn, ho, hd⟩, hr⟩ := hl
    obtain ⟨o', ho', hd'⟩ := k L o ho hd
    exact ⟨hk, ⟨L, o', hf, hn, ho', hd'⟩, ih hr⟩

/-- all that stood stands: a step that only makes things -/
theorem Base.keeps {h₀ : Heap} {fs : List Env} {s : Shared} {g : View} {μ : Mu} {h' : Heap} {tk : Nat} (B : Base h₀ fs s g μ) (k : ∀ b o, s.heap.get? b = some o → h'.get? b = some o) : Base h₀ fs { s with heap := h', toks := tk } g μ :=
  ⟨B.w, fun b o e => k b o (B.v b o e), fun a xs hm => let ⟨⟨vs, h1, h2⟩, h3⟩ := B.m a xs hm; ⟨⟨vs, h1.at (k _), h2⟩, h3⟩, B.nd, B.fr.of_keeps fun b o e _ => ⟨o, k b o e, rfl⟩⟩
theorem Step.keeps {X : List Addr} {s : Shared} {g : View} {μ : Mu} {h' : Heap} {tk : Nat} (k : ∀ b o, s.heap.get? b = some o → h'.get? b = some o) : Step X s g μ { s with heap := h', toks := tk } g μ :=
  ⟨⟨_, _, rfl⟩, fun b o e => ⟨o, k b o e⟩, fun b o _ _ e => k b o e, fun _ _ e => e, fun _ _ e => .inl e, fun _ h => .inl h⟩
theorem St.keeps {h₀ : Heap} {fs : List Env} {o : Org} {env : Env} {σ : Sg} {s : Shared} {g : View} {μ : Mu} {h' : Heap} {tk : Nat} (S : St h₀ fs o env σ s g μ) (k : ∀ b o, s.heap.get? b = some o → h'.get? b = some o) : St h₀ fs o env σ { s with heap := h', toks := tk } g μ :=
  S.lift (Step.keeps k) (S.b.keeps k)

/-- only the count of tokens turns -/
theorem St.tok {h₀ : Heap} {fs : List Env} {o : Org} {env : Env} {σ : Sg} {s : Shared} {g : View} {μ : Mu} (S : St h₀ fs o env σ s g μ) (t : Nat) : St h₀ fs o env σ { s with toks := t } g μ :=
  S.keeps (h' := s.heap) fun _ _ e => e

/-- a new object joins the view -/
noncomputable def View.put (g : View) (a : Addr) (o : Obj) : View := fun b => if b = a then some o else g b
theorem View.put_self {g : View} {a : Addr} {o : Obj} : g.put a o a = some o := by simp [View.put]
theorem View.put_grow {g : View} {a : Addr} {o : Obj} (h : g a = none) : ∀ b x, g b = some x → g.put a o b = some x := fun b x e => by
  unfold View.put; split
  · rename_i hb; rw [hb, h] at e; cases e
  · exact e
theorem View.put_inv {g : View} {a b : Addr} {o x : Obj} (h : g.put a o b = some x) : (b = a ∧ x = o) ∨ g b = some x := by
  unfold View.put at h; split at h
  · rename_i hb; exact .inl ⟨hb, (Option.some.inj h).symm⟩
  · exact .inr h

theorem Base.fresh {h₀ : Heap} {fs : List Env} {s : Shared} {g : View} {μ : Mu} (B : Base h₀ fs s g μ) {a : Addr} (ha : s.heap.get? a = none) : g a = none := by
  cases e : g a with
  | none => rfl
  | some o => have := B.v a o e; rw [ha] at this; cases this
theorem Base.notMu {h₀ : Heap} {fs : List Env} {s : Shared} {g : View} {μ : Mu} (B : Base h₀ fs s g μ) {a : Addr} (ha : s.heap.get? a = none) : a ∉ μ.map (·.1) := fun hm => by
  obtain ⟨p, hp, rfl⟩ := List.mem_map.mp hm
  obtain ⟨⟨_, ⟨_, ho⟩, _⟩, _⟩ := B.m p.1 p.2 hp
  rw [ha] at ho; cases ho
theorem IsMut.grow {h : Heap} {g g' : View} {a : Addr} {xs : List D} (k : ∀ b o, g b = some o → g' b = some o) (x : IsMut h g a xs) : IsMut h g' a xs :=
  let ⟨vs, h1, h4⟩ := x; ⟨vs, h1, h4.mono k⟩
theorem fresh_size (h : Heap) : h.get? h.objs.size = none := by
  cases e : h.get? h.objs.size with
  | none => rfl
  | some o => exact absurd (Heap.lt_size e) (Nat.lt_irrefl _)

/-- an object that was made anew, told of by the view -/
theorem St.made {h₀ : Heap} {fs : List Env} {og : Org} {env : Env} {σ : Sg} {s : Shared} {g : View} {μ : Mu} {h' : Heap} {tk : Nat} {a : Addr} {o : Obj} (S : St h₀ fs og env σ s g μ)
    (k : ∀ b o, s.heap.get? b = some o → h'.get? b = some o) (ha : s.heap.get? a = none) (ho : h'.get? a = some o) :
    St h₀ fs og env σ { s with heap := h', toks := tk } (g.put a o) μ := by
  have hg := S.b.fresh ha
  have gr := View.put_grow (o := o) hg
  refine S.lift ⟨⟨_, _, rfl⟩, fun b o e => ⟨o, k b o e⟩, fun b o _ _ e => k b o e, gr, fun b x e => ?_, fun _ h => .inl h⟩ ⟨fun b x e => gr b x (S.b.w b x e), fun b x e => ?_, fun b xs hm => ?_, S.b.nd, S.b.fr.of_keeps fun b o e _ => ⟨o, k b o e, rfl⟩⟩
  · rcases View.put_inv e with ⟨rfl, _⟩ | e
    · exact .inr (.inr ha)
    · exact .inl e
  · rcases View.put_inv e with ⟨rfl, rfl⟩ | e
    · exact ho
    · exact k b x (S.b.v b x e)
  · obtain ⟨⟨vs, h1, h4⟩, hn⟩ := S.b.m b xs hm
    refine ⟨⟨vs, h1.at (k _), h4.mono gr⟩, ?_⟩
    cases e : g.put a o b with
    | none => rfl
    | some x =>
      rcases View.put_inv e with ⟨rfl, _⟩ | e
      · exact absurd (List.mem_map.mpr ⟨(b, xs), hm, rfl⟩) (S.b.notMu ha)
      · rw [hn] at e; cases e

/-- a list that was made anew, one of the changing ones -/
theorem St.madeMut {h₀ : Heap} {fs : List Env} {og : Org} {env : Env} {σ : Sg} {s : Shared} {g : View} {μ : Mu} {h' : Heap} {tk : Nat} {a : Addr} {xs : List D} (S : St h₀ fs og env σ s g μ)
    (k : ∀ b o, s.heap.get? b = some o → h'.get? b = some o) (ha : s.heap.get? a = none) (ho : IsMut h' g a xs) :
    St h₀ fs og env σ { s with heap := h', toks := tk } g ((a, xs) :: μ) := by
  refine S.lift ⟨⟨_, _, rfl⟩, fun b o e => ⟨o, k b o e⟩, fun b o _ _ e => k b o e, fun _ _ e => e, fun b x e => .inl e, fun b h => ?_⟩ ⟨S.b.w, fun b x e => k b x (S.b.v b x e), fun b ys hm => ?_, ?_, S.b.fr.of_keeps fun b o e _ => ⟨o, k b o e, rfl⟩⟩
  · rcases List.mem_cons.mp h with rfl | h
    · exact .inr ha
    · exact .inl h
  · rcases List.mem_cons.mp hm with e | hm
    · cases e; exact ⟨ho, S.b.fresh ha⟩
    · obtain ⟨⟨vs, h1, h2⟩, hn⟩ := S.b.m b ys hm
      exact ⟨⟨vs, h1.at (k _), h2⟩, hn⟩
  · rw [List.map_cons, List.nodup_cons]
    exact ⟨S.b.notMu ha, S.b.nd⟩

end Mine

namespace Mine

structure Cx where
  prog : Program
  w : World
  h₀ : Heap
  mg : Str → Option Value
  mb : Str → Option Value
  fs : List Env
  A : Around
  o : Org
  env : Env
  E : Value → Shared → Prop

/-- what the world of the start-up gives -/
structure Wok (C : Cx) : Prop where
  nolimit : C.h₀.NoLimit
  g : C.h₀.Ns mainGlobals C.mg
  b : C.h₀.Ns builtinsNs C.mb

structure Env1 (C : Cx) : Prop where
  gl : C.env.globals = mainGlobals
  bl : C.env.builtins = builtinsNs

noncomputable def Post (C : Cx) (σ : Sg) (g : View) (Q : D → Mu → Prop) (v : Value) (s' : Shared) : Prop :=
  ∃ d g' μ', (∀ b x, g b = some x → g' b = some x) ∧ St C.h₀ C.fs C.o C.env σ s' g' μ' ∧ RepV g' v d ∧ Q d μ'
/-- an expression -/
noncomputable def EV (C : Cx) (e : Expr) (σ : Sg) (μ : Mu) (Q : D → Mu → Prop) : Prop :=
  ∀ s g, St C.h₀ C.fs C.o C.env σ s g μ → wpAny (model C.prog C.w) C.A (eval e C.env) (Post C σ g Q) C.E s
/-- a test -/
noncomputable def TS (C : Cx) (e : Expr) (σ : Sg) (μ : Mu) (Q : Bool → Mu → Prop) : Prop :=
  ∀ s g, St C.h₀ C.fs C.o C.env σ s g μ → wpAny (model C.prog C.w) C.A (isTrue e C.env (eval e C.env)) (fun b s' => ∃ g' μ', (∀ b x, g b = some x → g' b = some x) ∧ St C.h₀ C.fs C.o C.env σ s' g' μ' ∧ Q b μ') C.E s

section
variable {C : Cx} {σ : Sg} {μ : Mu} {Q : D → Mu → Prop}

theorem EV.mono {e : Expr} {Q' : D → Mu → Prop} (h : EV C e σ μ Q') (k : ∀ d μ', Q' d μ' → Q d μ') : EV C e σ μ Q := fun s g S =>
  wpAny_mono (h s g S) (fun v s' ⟨d, g', μ', a, b, c, q⟩ => ⟨d, g', μ', a, b, c, k _ _ q⟩) fun _ _ e => e
theorem TS.mono {e : Expr} {P P' : Bool → Mu → Prop} (h : TS C e σ μ P') (k : ∀ d μ', P' d μ' → P d μ') : TS C e σ μ P := fun s g S =>
  wpAny_mono (h s g S) (fun v s' ⟨g', μ', a, b, q⟩ => ⟨g', μ', a, b, k _ _ q⟩) fun _ _ e => e

theorem Post.here {s : Shared} {g : View} {v : Value} {d : D} (S : St C.h₀ C.fs C.o C.env σ s g μ) (R : RepV g v d) (q : Q d μ) : Post C σ g Q v s := ⟨d, g, μ, fun _ _ e => e, S, R, q⟩
theorem Post.grow {s : Shared} {g g' : View} {v : Value} (k : ∀ b x, g b = some x → g' b = some x) (h : Post C σ g' Q v s) : Post C σ g Q v s :=
  let ⟨d, g₂, μ', a, b, c, q⟩ := h; ⟨d, g₂, μ', fun b x e => a b x (k b x e), b, c, q⟩

/-! names and constants -/
noncomputable def isVar (env : Env) (x : Str) : Bool := match env.kindOf x with
  | some .local | some .cell | some .free => true
  | _ => false

theorem St.load {C : Cx} {s : Shared} {g : View} {x : Str} {d : D} {P : Value → Shared → Prop} (S : St C.h₀ C.fs C.o C.env σ s g μ) (hd : σ.lookup x = some d) (hk : isVar C.env x = true) (hc : (x == ("__classdict__" : Str)) = false)
    (hb : C.env.kindOf x = some .local ∨ (C.env.cells.lookup x).isSome = true)
    (h : ∀ v, RepV g v d → P v s) : wpAny (model C.prog C.w) C.A (loadName C.env x) P C.E s := by
  have loc : C.env.kindOf x = some .local → wpAny (model C.prog C.w) C.A (loadName C.env x) P C.E s := fun hl => by
    obtain ⟨m, hn, hm⟩ := S.f.ns
    obtain ⟨v, hv, r⟩ := hm x d hd hl
    exact wpAny_loadName_local S.f.kind hl hn hv (h v r)
  rcases hb with hl | hb
  · exact loc hl
  obtain ⟨c, hc'⟩ := Option.isSome_iff_exists.mp hb
  obtain ⟨ov, hcell, hm⟩ := S.f.cell x c hc'
  unfold isVar at hk
  split at hk
  · rename_i hl; exact loc hl
  · rename_i hl
    obtain ⟨v, rfl, r⟩ := hm d hd (.inl hl)
    exact wpAny_loadName_cell S.f.kind hl hc' hcell (h v r)
  · rename_i hl
    obtain ⟨v, rfl, r⟩ := hm d hd (.inr hl)
    exact wpAny_loadName_free S.f.kind hl hc' hcell (h v r) hc
  · cases hk

theorem ev_name {x : Str} {pos : Pos} {d : D} (hd : σ.lookup x = some d) (hk : isVar C.env x = true)
    (hb : C.env.kindOf x = some .local ∨ (C.env.cells.lookup x).isSome = true) (q : Q d μ)
    (hdb : (x == ("__debug__" : Str)) = false := by decide) (hc : (x == ("__classdict__" : Str)) = false := by decide) : EV C (.Name x pos) σ μ Q := fun s g S =>
  wpAny_Name (S.load hd hk hc hb fun v r => Post.here S r q) hdb

theorem ev_global {x : Str} {pos : Pos} {v : Value} {d : D} (W : Wok C) (H : Env1 C) (hv : C.mg x = some v) (hr : ∀ g, RepV g v d) (hx : C.env.kindOf x = some .globalImplicit) (q : Q d μ)
    (hdb : (x == ("__debug__" : Str)) = false := by decide) : EV C (.Name x pos) σ μ Q := fun s g S =>
  Name_function_global S.f.kind hx (loadGlobal_global (by rw [H.gl]; exact W.g.keeps fun b o e => S.b.v b o (S.b.w b o e)) hv (Post.here S (hr g) q)) hdb

theorem ev_int {i : Int} {k : Nat} {pos : Pos} (q : Q (.int i) μ) : EV C (.Constant (.int i) k pos) σ μ Q := fun s g S => wpAny_Constant_int (Post.here (S.tok _) (.int _ _) q)
theorem ev_true {b : Bool} {k : Nat} {pos : Pos} (q : Q (.bool b) μ) : EV C (.Constant (.bool b) k pos) σ μ Q := fun s g S => wpAny_Constant_bool (Post.here S (.bool _) q)
theorem ev_none {k : Nat} {pos : Pos} (q : Q .none μ) : EV C (.Constant .none k pos) σ μ Q := fun s g S => wpAny_Constant_none (Post.here S .none q)

/-! ints -/
noncomputable def IntOp (C : Cx) (op : Operator) (i j k : Int) : Prop := ∀ (s : Shared) (t u : Tok) (P : Value → Shared → Prop), P (.int k s.toks) { s with toks := s.toks + 1 } → wpAny (model C.prog C.w) C.A (binaryOp op (.int i t) (.int j u)) P C.E s
noncomputable def IntIop (C : Cx) (op : Operator) (i j k : Int) : Prop := ∀ (s : Shared) (t u : Tok) (P : Value → Shared → Prop), P (.int k s.toks) { s with toks := s.toks + 1 } → wpAny (model C.prog C.w) C.A (inplaceOp op (.int i t) (.int j u)) P C.E s
noncomputable def CmpOk (C : Cx) (op : CmpOp) (d e : D) (μ : Mu) (b : Bool) : Prop := ∀ (s : Shared) (g : View) (v v' : Value) (P : Value → Shared → Prop), Base C.h₀ C.fs s g μ → RepV g v d → RepV g v' e →
  (∀ h' tk, (∀ b o, s.heap.get? b = some o → h'.get? b = some o) → P (.bool b) { s with heap := h', toks := tk }) → wpAny (model C.prog C.w) C.A (compareOp op v v') P C.E s

theorem ev_bin {l r : Expr} {op : Operator} {pos : Pos} (h : EV C l σ μ fun d μ₁ => EV C r σ μ₁ fun e μ₂ => ∃ i j k, d = .int i ∧ e = .int j ∧ IntOp C op i j k ∧ Q (.int k) μ₂) : EV C (.BinOp l op r pos) σ μ Q := by
  intro s g S
  refine wpAny_BinOp (wpAny_mono (h s g S) ?_ fun _ _ e => e)
  rintro v s1 ⟨d, g1, μ1, k1, S1, R1, h2⟩
  refine wpAny_mono (h2 s1 g1 S1) ?_ fun _ _ e => e
  rintro v2 s2 ⟨d2, g2, μ2, k2, S2, R2, i, j, k, rfl, rfl, ho, hq⟩
  obtain ⟨t, rfl⟩ := R1.int_inv
  obtain ⟨u, rfl⟩ := R2.int_inv
  exact ho _ _ _ _ (Post.grow (fun b x e => k2 b x (k1 b x e)) (Post.here (S2.tok _) (.int _ _) hq))

theorem ev_cmp {l r : Expr} {op : CmpOp} {pos : Pos} (h : EV C l σ μ fun d μ₁ => EV C r σ μ₁ fun e μ₂ => ∃ b, CmpOk C op d e μ₂ b ∧ Q (.bool b) μ₂) (hm : behindInMarks op r = false := by with_unfolding_all rfl) : EV C (.Compare l [op] [r] pos) σ μ Q := by
  intro s g S
  refine wpAny_Compare1 (wpAny_mono (h s g S) ?_ fun _ _ e => e) hm
  rintro v s1 ⟨d, g1, μ1, k1, S1, R1, h2⟩
  refine wpAny_mono (h2 s1 g1 S1) ?_ fun _ _ e => e
  rintro v2 s2 ⟨d2, g2, μ2, k2, S2, R2, b, ho, hq⟩
  refine ho _ g2 _ _ _ S2.b (R1.mono k2) R2 fun h' tk kp => ?_
  exact Post.grow (fun b x e => k2 b x (k1 b x e)) (Post.here (S2.keeps kp) (.bool _) hq)
theorem ts_cmp {l r : Expr} {op : CmpOp} {pos : Pos} {P : Bool → Mu → Prop} (h : EV C l σ μ fun d μ₁ => EV C r σ μ₁ fun e μ₂ => ∃ b, CmpOk C op d e μ₂ b ∧ P b μ₂) (hm : behindInMarks op r = false := by with_unfolding_all rfl) : TS C (.Compare l [op] [r] pos) σ μ P := by
  intro s g S
  refine wpAny_isTrue_Compare1 (wpAny_mono (h s g S) ?_ fun _ _ e => e) hm
  rintro v s1 ⟨d, g1, μ1, k1, S1, R1, h2⟩
  refine wpAny_mono (h2 s1 g1 S1) ?_ fun _ _ e => e
  rintro v2 s2 ⟨d2, g2, μ2, k2, S2, R2, b, ho, hq⟩
  refine ho _ g2 _ _ _ S2.b (R1.mono k2) R2 fun h' tk kp => wpAny_truthy_bool ?_
  exact ⟨g2, μ2, fun b x e => k2 b x (k1 b x e), S2.keeps kp, hq⟩
theorem ts_chain2 {l m r : Expr} {op op' : CmpOp} {pos : Pos} {P : Bool → Mu → Prop}
    (h : EV C l σ μ fun d μ₁ => EV C m σ μ₁ fun e μ₂ => ∃ b, CmpOk C op d e μ₂ b ∧ (b = false → P false μ₂) ∧ (b = true → EV C r σ μ₂ fun f μ₃ => ∃ b', CmpOk C op' e f μ₃ b' ∧ P b' μ₃))
    (hm : lastMarks [op, op'] [m, r] = false := by with_unfolding_all rfl) : TS C (.Compare l [op, op'] [m, r] pos) σ μ P := by
  intro s g S
  refine isTrue_chain (wpAny_mono (h s g S) ?_ fun _ _ e => e) hm
  rintro v s1 ⟨d, g1, μ1, k1, S1, R1, h2⟩
  refine test_link (wpAny_mono (h2 s1 g1 S1) ?_ fun _ _ e => e)
  rintro v2 s2 ⟨d2, g2, μ2, k2, S2, R2, b, ho, hf, ht⟩
  refine ho _ g2 _ _ _ S2.b (R1.mono k2) R2 fun h' tk kp => wpAny_truthy_bool ?_
  have S3 := S2.keeps (tk := tk) kp
  cases b with
  | false =>
    simp only [Bool.false_eq_true, if_false]
    exact ⟨g2, μ2, fun b x e => k2 b x (k1 b x e), S3, hf rfl⟩
  | true =>
    simp only [if_true]
    refine test_last (wpAny_mono (ht rfl _ g2 S3) ?_ fun _ _ e => e)
    rintro v3 s3 ⟨d3, g3, μ3, k3, S4, R3, b', ho', hq⟩
    refine ho' _ g3 _ _ _ S4.b (R2.mono k3) R3 fun h' tk kp => wpAny_truthy_bool ?_
    exact ⟨g3, μ3, fun b x e => k3 b x (k2 b x (k1 b x e)), S4.keeps kp, hq⟩

/-! tests -/
theorem ts_not {x : Expr} {pos : Pos} {P : Bool → Mu → Prop} (h : TS C x σ μ fun b μ' => P (!b) μ') : TS C (.UnaryOp .Not x pos) σ μ P := fun s g S =>
  wpAny_isTrue_Not (wpAny_mono (h s g S) (fun b s' h => h) fun _ _ e => e)
theorem ts_and2 {x y : Expr} {pos : Pos} {P : Bool → Mu → Prop} (h : TS C x σ μ fun b μ₁ => (b = false → P false μ₁) ∧ (b = true → TS C y σ μ₁ P)) : TS C (.BoolOp .And [x, y] pos) σ μ P := by
  intro s g S
  refine wpAny_isTrue_BoolOp (wpAny_allTrue_And_cons (wpAny_mono (h s g S) ?_ fun _ _ e => e))
  rintro b s1 ⟨g1, μ1, k1, S1, hf, ht⟩
  cases b with
  | false => simp only [Bool.false_eq_true, if_false]; exact ⟨g1, μ1, k1, S1, hf rfl⟩
  | true =>
    simp only [if_true]
    refine wpAny_allTrue_And_cons (wpAny_mono (ht rfl s1 g1 S1) ?_ fun _ _ e => e)
    rintro b s2 ⟨g2, μ2, k2, S2, q⟩
    cases b with
    | false => simp only [Bool.false_eq_true, if_false]; exact ⟨g2, μ2, fun b x e => k2 b x (k1 b x e), S2, q⟩
    | true => simp only [if_true]; exact wpAny_allTrue_And_nil ⟨g2, μ2, fun b x e => k2 b x (k1 b x e), S2, q⟩
theorem ts_or {xs : List Expr} {pos : Pos} {P : Bool → Mu → Prop} (h : ∀ s g, St C.h₀ C.fs C.o C.env σ s g μ → wpAny (model C.prog C.w) C.A (allTrue .Or xs C.env) (fun b s' => ∃ g' μ', (∀ b x, g b = some x → g' b = some x) ∧ St C.h₀ C.fs C.o C.env σ s' g' μ' ∧ P b μ') C.E s) : TS C (.BoolOp .Or xs pos) σ μ P :=
  fun s g S => wpAny_isTrue_BoolOp (h s g S)
noncomputable def OrS (C : Cx) (xs : List Expr) (σ : Sg) (μ : Mu) (P : Bool → Mu → Prop) : Prop := ∀ s g, St C.h₀ C.fs C.o C.env σ s g μ → wpAny (model C.prog C.w) C.A (allTrue .Or xs C.env) (fun b s' => ∃ g' μ', (∀ b x, g b = some x → g' b = some x) ∧ St C.h₀ C.fs C.o C.env σ s' g' μ' ∧ P b μ') C.E s
theorem ts_ors {xs : List Expr} {pos : Pos} {P : Bool → Mu → Prop} (h : OrS C xs σ μ P) : TS C (.BoolOp .Or xs pos) σ μ P := fun s g S => wpAny_isTrue_BoolOp (h s g S)
theorem or_nil {P : Bool → Mu → Prop} (q : P false μ) : OrS C [] σ μ P := fun s g S => wpAny_allTrue_Or_nil ⟨g, μ, fun _ _ e => e, S, q⟩
theorem or_cons {x : Expr} {xs : List Expr} {P : Bool → Mu → Prop} (h : TS C x σ μ fun b μ₁ => (b = true → P true μ₁) ∧ (b = false → OrS C xs σ μ₁ P)) : OrS C (x :: xs) σ μ P := by
  intro s g S
  refine wpAny_allTrue_Or_cons (wpAny_mono (h s g S) ?_ fun _ _ e => e)
  rintro b s1 ⟨g1, μ1, k1, S1, ht, hf⟩
  cases b with
  | true => simp only [if_true]; exact ⟨g1, μ1, k1, S1, ht rfl⟩
  | false =>
    simp only [Bool.false_eq_true, if_false]
    refine wpAny_mono (hf rfl s1 g1 S1) ?_ fun _ _ e => e
    rintro b s2 ⟨g2, μ2, k2, S2, q⟩
    exact ⟨g2, μ2, fun b x e => k2 b x (k1 b x e), S2, q⟩
/-- a value that is a bool -/
theorem ts_bool {e : Expr} {P : Bool → Mu → Prop} (h : EV C e σ μ fun d μ₁ => ∃ b, d = .bool b ∧ P b μ₁) (he : isTrue e C.env (eval e C.env) = (do let v ← eval e C.env; standAt e.pos; holding [v] (truthy v)) := by rfl) : TS C e σ μ P := by
  intro s g S
  refine wpAny_isTrue_value (wpAny_mono (h s g S) ?_ fun _ _ e => e) he
  rintro v s1 ⟨d, g1, μ1, k1, S1, R1, b, rfl, q⟩
  rw [R1.bool_inv]
  exact wpAny_truthy_bool ⟨g1, μ1, k1, S1, q⟩

theorem ev_not {x : Expr} {pos : Pos} (h : EV C x σ μ fun d μ' => ∃ b, d = .bool b ∧ Q (.bool (!b)) μ') : EV C (.UnaryOp .Not x pos) σ μ Q := by
  intro s g S
  refine wpAny_UnaryOp (wpAny_mono (h s g S) ?_ fun _ _ e => e)
  rintro v s1 ⟨d, g1, μ1, k1, S1, R1, b, rfl, q⟩
  rw [R1.bool_inv]
  exact not_of (wpAny_truthy_bool (Post.grow k1 (Post.here S1 (.bool _) q)))
theorem ev_neg {x : Expr} {pos : Pos} (h : EV C x σ μ fun d μ' => ∃ i, d = .int i ∧ Q (.int (-i)) μ') : EV C (.UnaryOp .USub x pos) σ μ Q := by
  intro s g S
  refine wpAny_UnaryOp (wpAny_mono (h s g S) ?_ fun _ _ e => e)
  rintro v s1 ⟨d, g1, μ1, k1, S1, R1, b, rfl, q⟩
  obtain ⟨t, rfl⟩ := R1.int_inv
  exact P.neg_int (Post.grow k1 (Post.here (S1.tok _) (.int _ _) q))
theorem ev_and2 {x y : Expr} {pos : Pos} (h : EV C x σ μ fun d μ₁ => ∃ b, d = .bool b ∧ (b = false → Q (.bool false) μ₁) ∧ (b = true → EV C y σ μ₁ Q)) : EV C (.BoolOp .And [x, y] pos) σ μ Q := by
  intro s g S
  refine wpAny_And2 (wpAny_mono (h s g S) ?_ fun _ _ e => e)
  rintro v s1 ⟨d, g1, μ1, k1, S1, R1, b, rfl, hf, ht⟩
  rw [R1.bool_inv]
  refine wpAny_truthy_bool ?_
  cases b with
  | false => simp only [Bool.false_eq_true, if_false]; exact Post.grow k1 (Post.here S1 (.bool _) (hf rfl))
  | true => simp only [if_true]; exact wpAny_mono (ht rfl s1 g1 S1) (fun v s' h => Post.grow k1 h) fun _ _ e => e
theorem ev_if {test body orelse : Expr} {pos : Pos} (h : TS C test σ μ fun b μ₁ => (b = true → EV C body σ μ₁ Q) ∧ (b = false → EV C orelse σ μ₁ Q)) : EV C (.IfExp test body orelse pos) σ μ Q := by
  intro s g S
  refine wpAny_IfExp (wpAny_mono (h s g S) ?_ fun _ _ e => e)
  rintro b s1 ⟨g1, μ1, k1, S1, ht, hf⟩
  cases b with
  | true => simp only [if_true]; exact wpAny_mono (ht rfl s1 g1 S1) (fun v s' h => Post.grow k1 h) fun _ _ e => e
  | false => simp only [Bool.false_eq_true, if_false]; exact wpAny_mono (hf rfl s1 g1 S1) (fun v s' h => Post.grow k1 h) fun _ _ e => e

/-! lists of values -/
noncomputable def EVs (C : Cx) (es : List Expr) (σ : Sg) (μ : Mu) (Q : List D → Mu → Prop) : Prop :=
  ∀ s g pos, St C.h₀ C.fs C.o C.env σ s g μ → wpAny (model C.prog C.w) C.A (spliced (backTo pos (starEach es C.env))) (fun vs s' => ∃ ds g' μ', (∀ b x, g b = some x → g' b = some x) ∧ St C.h₀ C.fs C.o C.env σ s' g' μ' ∧ RepL g' vs ds ∧ Q ds μ') C.E s
theorem evs_nil {Q : List D → Mu → Prop} (q : Q [] μ) : EVs C [] σ μ Q := fun s g pos S => by
  show wpAny _ _ (spliced []) _ _ _
  exact spliced_nil ⟨[], g, μ, fun _ _ e => e, S, .nil, q⟩
theorem backTo_eq (pos : Pos) : ∀ (l : List (Bool × Sem Value)), l.all (fun x => !x.1) = true → backTo pos l = l
  | [], _ => rfl
  | (b, x) :: r, h => by
    simp only [List.all_cons, Bool.and_eq_true, Bool.not_eq_true'] at h
    have := backTo_eq pos r h.2
    unfold backTo at this ⊢
    cases b with
    | true => exact absurd h.1 (by decide)
    | false => simp_all
end

end Mine

namespace Mine

structure Room (A : Around) (n : Nat) (fs : List Env) : Prop where
  handled : A.handled = none
  depth : A.depth + n < recursionLimit
  units : A.units + 8 * n < cLine
  frames : A.frames = some fs
theorem Room.less {A : Around} {n m : Nat} {fs : List Env} (h : Room A n fs) (k : m ≤ n) : Room A m fs := ⟨h.handled, by have := h.depth; omega, by have := h.units; omega, h.frames⟩

/-- a call of a def of the text -/
noncomputable def FN (prog : Program) (w : World) (h₀ : Heap) (fs : List Env) (n : Nat) (f : Addr) (ds : List D) (μ : Mu) (Q : D → Mu → Prop) : Prop :=
  ∀ A s g vs, Room A n fs → Base h₀ fs s g μ → RepL g vs ds → wpAny (model prog w) A (call (.ref f) vs) (fun v s' => ∃ d g' μ', Step [] s g μ s' g' μ' ∧ Base h₀ fs s' g' μ' ∧ RepV g' v d ∧ Q d μ') (fun _ _ => False) s

theorem FN.mono {prog : Program} {w : World} {h₀ : Heap} {fs : List Env} {n m : Nat} {f : Addr} {ds : List D} {μ : Mu} {Q Q' : D → Mu → Prop} (h : FN prog w h₀ fs n f ds μ Q) (hn : n ≤ m) (k : ∀ d μ', Q d μ' → Q' d μ') : FN prog w h₀ fs m f ds μ Q' :=
  fun A s g vs R B L => wpAny_mono (h A s g vs (R.less hn) B L) (fun v s' ⟨d, g', μ', a, b, c, q⟩ => ⟨d, g', μ', a, b, c, k _ _ q⟩) fun _ _ e => e

section
variable {C : Cx} {σ : Sg} {μ : Mu} {Q : D → Mu → Prop}

theorem evs_cons {e : Expr} {es : List Expr} {P : List D → Mu → Prop} (h : EV C e σ μ fun d μ₁ => EVs C es σ μ₁ fun ds μ₂ => P (d :: ds) μ₂) (he : starEach (e :: es) C.env = (false, eval e C.env) :: starEach es C.env := by rfl) : EVs C (e :: es) σ μ P := by
  intro s g pos S
  rw [he]
  show wpAny _ _ (spliced ((false, eval e C.env) :: backTo pos (starEach es C.env))) _ _ _
  refine spliced_cons (wpAny_mono (h s g S) ?_ fun _ _ e => e)
  rintro v s1 ⟨d, g1, μ1, k1, S1, R1, h2⟩
  refine wpAny_mono (h2 s1 g1 pos S1) ?_ fun _ _ e => e
  rintro vs s2 ⟨ds, g2, μ2, k2, S2, R2, q⟩
  exact ⟨_, g2, μ2, fun b x e => k2 b x (k1 b x e), S2, R2.cons (R1.mono k2), q⟩

theorem ev_tuple {es : List Expr} {k : Nat} {pos : Pos} (h : EVs C es σ μ fun ds μ' => ds.length ≤ sizeLine ∧ Q (.tup ds) μ') : EV C (.Tuple es k pos) σ μ Q := by
  intro s g S
  refine Tuple_ (wpAny_mono (h s g pos S) ?_ fun _ _ e => e)
  rintro vs s1 ⟨ds, g1, μ1, k1, S1, R1, hsz, q⟩
  refine wpAny_newTuple ?_ (by rw [R1.1]; exact hsz)
  have S2 := S1.made (tk := s1.toks) (a := s1.heap.objs.size) (o := { cls := .type "tuple", data := .seq vs.toArray }) (fun b o e => Heap.get?_push_of_some _ e) (fresh_size _) (Heap.get?_push_size _ rfl)
  have gr := View.put_grow (o := { cls := .type "tuple", data := .seq vs.toArray }) (S1.b.fresh (fresh_size _))
  exact ⟨_, _, _, fun b x e => gr b x (k1 b x e), S2, .mkTup View.put_self rfl rfl (R1.mono gr), q⟩
theorem ev_list {es : List Expr} {pos : Pos} (h : EVs C es σ μ fun ds μ' => ds.length ≤ sizeLine ∧ Q (.list ds) μ') : EV C (.List es pos) σ μ Q := by
  intro s g S
  refine List_ (wpAny_mono (h s g pos S) ?_ fun _ _ e => e)
  rintro vs s1 ⟨ds, g1, μ1, k1, S1, R1, hsz, q⟩
  refine wpAny_newList ?_ (by rw [R1.1]; exact hsz)
  have S2 := S1.made (tk := s1.toks) (a := s1.heap.objs.size) (o := { cls := .type "list", data := .seq vs.toArray }) (fun b o e => Heap.get?_push_of_some _ e) (fresh_size _) (Heap.get?_push_size _ rfl)
  have gr := View.put_grow (o := { cls := .type "list", data := .seq vs.toArray }) (S1.b.fresh (fresh_size _))
  exact ⟨_, _, _, fun b x e => gr b x (k1 b x e), S2, .mkList View.put_self rfl rfl (R1.mono gr), q⟩
/-- a list display that the code will change -/
theorem ev_listM {es : List Expr} {pos : Pos} (h : EVs C es σ μ fun ds μ' => ds.length ≤ sizeLine ∧ ∀ a, a ∉ μ'.map (·.1) → Q (.ref a) ((a, ds) :: μ')) : EV C (.List es pos) σ μ Q := by
  intro s g S
  refine List_ (wpAny_mono (h s g pos S) ?_ fun _ _ e => e)
  rintro vs s1 ⟨ds, g1, μ1, k1, S1, R1, hsz, q⟩
  refine wpAny_newList ?_ (by rw [R1.1]; exact hsz)
  have S2 := S1.madeMut (tk := s1.toks) (a := s1.heap.objs.size) (xs := ds) (h' := s1.heap.push { cls := .type "list", data := .seq vs.toArray }) (fun b o e => Heap.get?_push_of_some _ e) (fresh_size _)
    ⟨vs, ⟨0, Heap.get?_push_size _ rfl⟩, R1⟩
  exact ⟨_, _, _, k1, S2, .ref _, q _ (S1.b.notMu (fresh_size _))⟩

/-! lists, looked at -/
/-- the value d (an unchanging list, or one of the changing ones) holds xs -/
noncomputable def Holds (d : D) (μ : Mu) (xs : List D) : Prop := d = .list xs ∨ ∃ a, d = .ref a ∧ (a, xs) ∈ μ
theorem Holds.isList {h₀ : Heap} {fs : List Env} {s : Shared} {g : View} {v : Value} {d : D} {xs : List D} (h : Holds d μ xs) (B : Base h₀ fs s g μ) (R : RepV g v d) :
    ∃ a vs, v = .ref a ∧ s.heap.IsList a (vs : List Value).toArray ∧ RepL g vs xs := by
  rcases h with rfl | ⟨a, rfl, hm⟩
  · obtain ⟨a, o, n, vs, rfl, h1, h2, h3, h4⟩ := R.list_inv
    exact ⟨a, vs, rfl, ⟨o, B.v a o h1, h2, n, h3⟩, h4⟩
  · obtain ⟨⟨vs, h1, h4⟩, _⟩ := B.m a xs hm
    exact ⟨a, vs, R.ref_inv, h1.isList, h4⟩

theorem ev_item {value slice : Expr} {pos : Pos} (h : EV C value σ μ fun d μ₁ => EV C slice σ μ₁ fun e μ₂ => ∃ xs i x, Holds d μ₂ xs ∧ e = .int i ∧ 0 ≤ i ∧ i < 2 ^ 62 ∧ xs[i.toNat]? = some x ∧ Q x μ₂)
    (hs : ∀ a k u, subscripted slice false (.ref a) (.int k u) = operate [.ref a, .int k u] (getItem (.ref a) (.int k u)) := by intro _ _ _; with_unfolding_all rfl) : EV C (.Subscript value slice pos) σ μ Q := by
  intro s g S
  refine Subscript_ (wpAny_mono (h s g S) ?_ fun _ _ e => e)
  rintro v s1 ⟨d, g1, μ1, k1, S1, R1, h2⟩
  refine wpAny_mono (h2 s1 g1 S1) ?_ fun _ _ e => e
  rintro v2 s2 ⟨d2, g2, μ2, k2, S2, R2, xs, i, x, hx, rfl, h0, hi, hxi, hq⟩
  obtain ⟨t, rfl⟩ := R2.int_inv
  obtain ⟨a, vs, rfl, hl, RL⟩ := hx.isList S2.b (R1.mono k2)
  obtain ⟨u, hu, RU⟩ := RL.get hxi
  exact tail_any hl.typeIs slot_list_getitem.lookup (wpAny_getItem_list hl h0 (by omega) (by simpa using hu) (Post.grow (fun b x e => k2 b x (k1 b x e)) (Post.here S2 RU hq))) (hs _ _ _)
theorem ev_itemT {value slice : Expr} {pos : Pos} (h : EV C value σ μ fun d μ₁ => EV C slice σ μ₁ fun e μ₂ => ∃ xs i x, d = .tup xs ∧ e = .int i ∧ 0 ≤ i ∧ i < 2 ^ 62 ∧ xs[i.toNat]? = some x ∧ Q x μ₂)
    (hs : ∀ a k u, subscripted slice false (.ref a) (.int k u) = operate [.ref a, .int k u] (getItem (.ref a) (.int k u)) := by intro _ _ _; with_unfolding_all rfl) : EV C (.Subscript value slice pos) σ μ Q := by
  intro s g S
  refine Subscript_ (wpAny_mono (h s g S) ?_ fun _ _ e => e)
  rintro v s1 ⟨d, g1, μ1, k1, S1, R1, h2⟩
  refine wpAny_mono (h2 s1 g1 S1) ?_ fun _ _ e => e
  rintro v2 s2 ⟨d2, g2, μ2, k2, S2, R2, xs, i, x, rfl, rfl, h0, hi, hxi, hq⟩
  obtain ⟨t, rfl⟩ := R2.int_inv
  obtain ⟨a, o, n, vs, rfl, h1, h2, h3, RL⟩ := (R1.mono k2).tup_inv
  obtain ⟨u, hu, RU⟩ := RL.get hxi
  have hT : IsTup s2.heap a vs.toArray := ⟨o, S2.b.v a o h1, h2, n, h3⟩
  have hlt : i.toNat < vs.length := (List.getElem?_eq_some_iff.mp hu).1
  refine tail_any hT.typeIs slot_tuple_getitem.lookup (getItem_tuple (j := i.toNat) hT (by omega) (by omega) ?_ (by simpa using hu) (Post.grow (fun b x e => k2 b x (k1 b x e)) (Post.here S2 RU hq))) (hs _ _ _)
  rw [List.size_toArray]
  unfold seqIndex?
  simp only [show ¬ i < 0 by omega, if_false]
  rw [if_pos (by simp only [Bool.and_eq_true, decide_eq_true_eq]; exact ⟨h0, by omega⟩)]

/-! slices -/
noncomputable def PartIs (d : D) (p : Option Int) : Prop := (d = .none ∧ p = none) ∨ ∃ i, d = .int i ∧ p = some i
theorem PartIs.part {g : View} {v : Value} {d : D} {p : Option Int} (h : PartIs d p) (R : RepV g v d) : IsPart v p := by
  rcases h with ⟨rfl, rfl⟩ | ⟨i, rfl, rfl⟩
  · rw [R.none_inv]; exact .none
  · obtain ⟨t, rfl⟩ := R.int_inv; exact .int _ _
noncomputable def EVo (C : Cx) (e : Option Expr) (σ : Sg) (μ : Mu) (Q : D → Mu → Prop) : Prop :=
  ∀ s g, St C.h₀ C.fs C.o C.env σ s g μ → wpAny (model C.prog C.w) C.A (evalPart e C.env) (Post C σ g Q) C.E s
theorem evo_none (q : Q .none μ) : EVo C none σ μ Q := fun s g S => wpAny_evalPart_none (Post.here S .none q)
theorem evo_some {e : Expr} (h : EV C e σ μ Q) : EVo C (some e) σ μ Q := fun s g S => wpAny_evalPart_some (h s g S)
noncomputable def cutL (xs : List D) : Option Int → Option Int → List D
  | none, none => xs
  | some i, none => xs.drop i.toNat
  | none, some i => xs.take i.toNat
  | some i, some j => (xs.drop i.toNat).take (j.toNat - i.toNat)
theorem ev_slice {value : Expr} {lo hi : Option Expr} {p pos : Pos}
    (h : EV C value σ μ fun d μ₁ => EVo C lo σ μ₁ fun e μ₂ => EVo C hi σ μ₂ fun f μ₃ => ∃ xs pl pu, Holds d μ₃ xs ∧ xs.length ≤ sizeLine ∧ PartIs e pl ∧ PartIs f pu ∧ (pl = none ∨ pu = none) ∧ (∀ i, pl = some i → 0 ≤ i) ∧ (∀ i, pu = some i → 0 ≤ i) ∧ Q (.list (cutL xs pl pu)) μ₃)
    : EV C (.Subscript value (.Slice lo hi none p) pos) σ μ Q := by
  intro s g S
  refine Subscript_ (wpAny_mono (h s g S) ?_ fun _ _ e => e)
  rintro v s1 ⟨d, g1, μ1, k1, S1, R1, h2⟩
  refine wpAny_Slice (wpAny_mono (h2 s1 g1 S1) ?_ fun _ _ e => e)
  rintro v2 s2 ⟨d2, g2, μ2, k2, S2, R2, h3⟩
  refine wpAny_mono (h3 s2 g2 S2) ?_ fun _ _ e => e
  rintro v3 s3 ⟨d3, g3, μ3, k3, S3, R3, xs, pl, pu, hx, hsz, hpl, hpu, hone, h0l, h0u, hq⟩
  refine wpAny_evalPart_none ?_
  obtain ⟨a, vs, rfl, hl, RL⟩ := hx.isList S3.b ((R1.mono k2).mono k3)
  have Pl := hpl.part (R2.mono k3)
  have Pu := hpu.part R3
  have hT : Shared.TypeIs { s3 with heap := s3.heap.push { cls := .type "slice", data := .fields #[v2, v3, .none] } } (.ref a) "list" := (hl.push _).typeIs
  refine tail_any hT list_getitem_lookup (wpAny_getItem_list_slice (hl.push _) (Heap.IsSliceOf.new ..) Pl Pu .none (by simp) ?_ (by rw [List.size_toArray, RL.1]; exact hsz)) rfl
  have kp : ∀ b o, s3.heap.get? b = some o → ((s3.heap.push { cls := .type "slice", data := .fields #[v2, v3, .none] }).push { cls := .type "list", data := .seq (slicePick vs.toArray pl pu none) }).get? b = some o :=
    fun b o e => Heap.get?_push_of_some _ (Heap.get?_push_of_some _ e)
  have fr : s3.heap.get? (s3.heap.push { cls := .type "slice", data := .fields #[v2, v3, .none] }).objs.size = none := by
    cases e : s3.heap.get? (s3.heap.push { cls := .type "slice", data := .fields #[v2, v3, .none] }).objs.size with
    | none => rfl
    | some o => exact absurd (Heap.lt_size e) (by rw [Heap.size_push]; exact Nat.not_lt.mpr (Nat.le_succ _))
  have S4 := S3.made (tk := s3.toks) (a := (s3.heap.push { cls := .type "slice", data := .fields #[v2, v3, .none] }).objs.size) kp fr (Heap.get?_push_size _ rfl)
  have gr := View.put_grow (o := { cls := .type "list", data := .seq (slicePick vs.toArray pl pu none) }) (S3.b.fresh fr)
  refine ⟨_, _, _, fun b x e => gr b x (k3 b x (k2 b x (k1 b x e))), S4, ?_, hq⟩
  have RL' := RL.mono gr
  have cut : ∃ ws : List Value, slicePick vs.toArray pl pu none = ws.toArray ∧ RepL g3 ws (cutL xs pl pu) := by
    cases pl with
    | none =>
      cases pu with
      | none => exact ⟨vs, by rw [slicePick_all], RL⟩
      | some j =>
        have := h0u j rfl
        refine ⟨vs.take j.toNat, ?_, RL.take _⟩
        obtain ⟨n, rfl⟩ := Int.eq_ofNat_of_zero_le this
        rw [slicePick_upto']; rfl
    | some i =>
      cases pu with
      | none =>
        have := h0l i rfl
        refine ⟨vs.drop i.toNat, ?_, RL.drop _⟩
        obtain ⟨n, rfl⟩ := Int.eq_ofNat_of_zero_le this
        rw [slicePick_from']; rfl
      | some j => rcases hone with h | h <;> cases h
  obtain ⟨ws, hws, RW⟩ := cut
  exact .mkList View.put_self rfl (by rw [hws]) (RW.mono gr)

/-! calls -/
theorem Step.frame {s s' : Shared} {g g' : View} {μ' : Mu} (y : Step [] s g μ s' g' μ') : ∀ b x, g b = some x → g' b = some x := y.grow

theorem ev_call {x : Str} {np pos : Pos} {es : List Expr} {n : Nat}
    (h : EV C (.Name x np) σ μ fun d μ₁ => ∃ f, d = .ref f ∧ (∃ o fd, C.h₀.get? f = some o ∧ o.data = .func fd) ∧ EVs C es σ μ₁ fun ds μ₂ => FN C.prog C.w C.h₀ C.fs n f ds μ₂ Q)
    (R : Room C.A n C.fs) (hne : ∃ e r, es = e :: r ∧ starEach (e :: r) C.env = (false, eval e C.env) :: starEach r C.env := by exact ⟨_, _, rfl, rfl⟩) (hw : ∀ f, callWith pos f [] (backTo pos (starEach es C.env)) (backToKw pos (keywordEach [] C.env)) = callWith pos f [] (backTo pos (starEach es C.env)) [] := by intro _; rfl) :
    EV C (.Call (.Name x np) es [] pos) σ μ Q := by
  intro s g S
  refine wpAny_Call_ofName (wpAny_mono (h s g S) ?_ fun _ _ e => e)
  rintro v s1 ⟨d, g1, μ1, k1, S1, R1, f, rfl, ⟨o, fd, ho, hd⟩, h2⟩
  rw [R1.ref_inv, hw]
  refine callWith_function (o := o) (fd := fd) ?_
  obtain ⟨e, r, rfl, he⟩ := hne
  have h3 := h2 s1 g1 pos S1
  rw [he] at h3 ⊢
  refine evalArgs_plain (wpAny_mono h3 ?_ fun _ _ e => e)
  rintro vs s2 ⟨ds, g2, μ2, k2, S2, R2, hf⟩
  refine ⟨⟨S2.b.v f o (S2.b.w f o ho), hd⟩, ?_⟩
  refine wpAny_mono (hf C.A s2 g2 vs R S2.b R2) ?_ fun _ _ e => e.elim
  rintro v s3 ⟨d, g3, μ3, y, B3, R3, q⟩
  exact ⟨d, g3, μ3, fun b x e => y.grow b x (k2 b x (k1 b x e)), S2.lift y B3, R3, q⟩

/-- a built-in function, called -/
noncomputable def BLT (C : Cx) (id : String) (ds : List D) (σ : Sg) (μ : Mu) (Q : D → Mu → Prop) : Prop :=
  ∀ s g vs, St C.h₀ C.fs C.o C.env σ s g μ → RepL g vs ds → wpAny (model C.prog C.w) C.A (call (.builtin id) vs) (Post C σ g Q) C.E s
theorem ev_bcall {x : Str} {np pos : Pos} {es : List Expr} {id : String} (W : Wok C) (H : Env1 C) (hm : C.mg x = none) (hb : C.mb x = some (.builtin id)) (hx : C.env.kindOf x = some .globalImplicit)
    (h : EVs C es σ μ fun ds μ₂ => BLT C id ds σ μ₂ Q)
    (hdb : (x == ("__debug__" : Str)) = false := by decide)
    (hne : ∃ e r, es = e :: r ∧ starEach (e :: r) C.env = (false, eval e C.env) :: starEach r C.env ∧ (backTo pos (starEach es C.env)).any (·.1) = false := by exact ⟨_, _, rfl, rfl, rfl⟩) (hw : ∀ f, callWith pos f [] (backTo pos (starEach es C.env)) (backToKw pos (keywordEach [] C.env)) = callWith pos f [] (backTo pos (starEach es C.env)) [] := by intro _; rfl) :
    EV C (.Call (.Name x np) es [] pos) σ μ Q := by
  intro s g S
  have kk : ∀ b o, C.h₀.get? b = some o → s.heap.get? b = some o := fun b o e => S.b.v b o (S.b.w b o e)
  refine wpAny_Call_ofName (Name_function_global S.f.kind hx (loadGlobal_builtin (by rw [H.gl]; exact W.g.keeps kk) hm (by rw [H.bl]; exact W.b.keeps kk) hb ?_) hdb)
  rw [hw]
  obtain ⟨e, r, rfl, he, ha⟩ := hne
  refine callWith_builtin ha ?_
  have h3 := h s g pos S
  rw [he] at h3 ⊢
  refine evalArgs_plain (wpAny_mono h3 ?_ fun _ _ e => e)
  rintro vs s2 ⟨ds, g2, μ2, k2, S2, R2, hf⟩
  exact wpAny_mono (hf s2 g2 vs S2 R2) (fun v s' h => Post.grow k2 h) fun _ _ e => e

theorem blt_len {d : D} {xs : List D} (hx : Holds d μ xs) (hsz : xs.length < 2 ^ 62) (q : Q (.int xs.length) μ) : BLT C "len" [d] σ μ Q := by
  intro s g vs S RL
  obtain ⟨v, rfl⟩ : ∃ v, vs = [v] := List.length_eq_one_iff.mp RL.1
  obtain ⟨a, ws, rfl, hl, RL'⟩ := hx.isList S.b RL.head
  refine call_len_list hl (by rw [List.size_toArray, RL'.1]; omega) ?_
  rw [List.size_toArray, RL'.1]
  exact Post.here (S.tok _) (.int _ _) q
theorem blt_abs {i : Int} (q : Q (.int (if i < 0 then -i else i)) μ) : BLT C "abs" [.int i] σ μ Q := by
  intro s g vs S RL
  obtain ⟨v, rfl⟩ : ∃ v, vs = [v] := List.length_eq_one_iff.mp RL.1
  obtain ⟨t, rfl⟩ := RL.head.int_inv
  exact call_abs_int fun u tk => Post.here (S.tok _) (.int _ _) q
theorem ints_of {g : View} {ns : List Int} : ∀ {vs : List Value}, RepL g vs (ns.map .int) → ∃ xs : Array (Int × Tok), vs.toArray = intItems xs ∧ xs.toList.map (·.1) = ns := by
  induction ns with
  | nil => intro vs h; exact ⟨#[], by have := List.length_eq_zero_iff.mp h.1; subst this; simp [intItems], rfl⟩
  | cons n ns ih =>
    intro vs h
    cases vs with
    | nil => exact absurd h.1 (by simp)
    | cons v vs =>
      obtain ⟨t, rfl⟩ := (RepL.head h).int_inv
      obtain ⟨xs, h1, h2⟩ := ih (RepL.tail h)
      refine ⟨#[(n, t)] ++ xs, ?_, by simp [h2]⟩
      unfold intItems at *
      have : vs = (Array.map (fun p => Value.int p.1 p.2) xs).toList := by rw [← h1]
      simp [this]
theorem blt_sum {ns : List Int} (hh : C.A.handled = none) (q : Q (.int ns.sum) μ) : BLT C "sum" [.list (ns.map .int)] σ μ Q := by
  intro s g vs S RL
  obtain ⟨v, rfl⟩ : ∃ v, vs = [v] := List.length_eq_one_iff.mp RL.1
  obtain ⟨a, ws, rfl, hl, RL'⟩ := (Holds.isList (μ := μ) (.inl rfl) S.b RL.head)
  obtain ⟨xs, h1, h2⟩ := ints_of RL'
  rw [h1] at hl
  refine sum_intListG hh hl fun h' tk t' kp => ?_
  have e : preSum (numAt xs) xs.size = ns.sum := by
    rw [preSum_eq, List.take_of_length_le (by simp), h2]
  rw [e]
  exact Post.here (S.keeps kp) (.int _ _) q
end

end Mine

namespace Mine

/-! storing -/
theorem FunFrames.but {base h h' : Heap} {a : Addr} (hs : Heap.SameBut a h h') (ha : ∀ o, h'.get? a = some o → ∀ vs, o.data ≠ .fields vs) (hex : ∃ o, h'.get? a = some o) {l : List Env} (hl : h.FunFrames base l) : h'.FunFrames base l := by
  refine FunFrames.mono' (fun b o e hn => ?_) hl
  by_cases hb : b = a
  · subst hb
    obtain ⟨o', e'⟩ := hex
    exact ⟨o', e', ha o' e'⟩
  · exact ⟨o, (hs.2 b hb).trans e, hn⟩

section
variable {h₀ : Heap} {fs : List Env} {og : Org} {env : Env} {σ : Sg} {s : Shared} {g : View} {μ : Mu}

/-- one of the frame's own objects was written -/
theorem Base.wrote {h' : Heap} {tk : Nat} {a : Addr} (B : Base h₀ fs s g μ) (hs : Heap.SameBut a s.heap h') (hg : g a = none) (hm : a ∉ μ.map (·.1)) (ha : ∀ o, h'.get? a = some o → ∀ vs, o.data ≠ .fields vs) (hex : ∃ o, h'.get? a = some o) :
    Base h₀ fs { s with heap := h', toks := tk } g μ :=
  ⟨B.w, fun b o e => (hs.2 b (fun q => by rw [q, hg] at e; cases e)).trans (B.v b o e), fun b xs hb => let ⟨⟨vs, h1, h2⟩, h3⟩ := B.m b xs hb; ⟨⟨vs, h1.at fun o e => (hs.2 b (fun q => hm (q ▸ List.mem_map.mpr ⟨_, hb, rfl⟩))).trans e, h2⟩, h3⟩, B.nd, FunFrames.but hs ha hex B.fr⟩

theorem St.storeLocal {h' : Heap} {tk : Nat} {x : Str} {v : Value} {d : D} {m : Str → Option Value} (S : St h₀ fs og env σ s g μ) (hl : env.kindOf x = some .local) (R : RepV g v d)
    (hm : ∀ y e, σ.lookup y = some e → env.kindOf y = some .local → ∃ v, m y = some v ∧ RepV g v e) (hn : h'.Ns env.locals fun y => if y = x then some v else m y) (hs : Heap.SameBut env.locals s.heap h') :
    St h₀ fs og env ((x, d) :: σ) { s with heap := h', toks := tk } g μ := by
  have hp := S.f.off env.locals List.mem_cons_self
  obtain ⟨oL, es, ep, ho, hd, _⟩ := id hn
  have hnf : ∀ o, h'.get? env.locals = some o → ∀ vs, o.data ≠ .fields vs := fun o e vs q => by rw [ho] at e; cases e; rw [hd] at q; cases q
  refine ⟨S.b.wrote hs hp.1 hp.2.1 hnf ⟨_, ho⟩, ⟨S.f.kind, ⟨_, hn, fun y e hy hk => ?_⟩, fun y c hc => ?_, S.f.apart, fun p hpp => ?_, S.f.loc⟩, ?_⟩
  · rw [List.lookup_cons] at hy
    by_cases hyx : y = x
    · subst hyx
      simp only [beq_self_eq_true] at hy
      cases hy
      exact ⟨v, by simp, R⟩
    · rw [beq_false_of_ne hyx] at hy
      obtain ⟨u, hu, ru⟩ := hm y e hy hk
      exact ⟨u, by simp [hyx, hu], ru⟩
  · obtain ⟨ov, ⟨o, ho, hd⟩, h⟩ := S.f.cell y c hc
    have hcl : c ≠ env.locals := fun q => S.f.loc (q ▸ List.mem_map.mpr ⟨(y, c), mem_of_lookup hc, rfl⟩)
    refine ⟨ov, ⟨o, (hs.2 c hcl).trans ho, hd⟩, fun e hy hk => ?_⟩
    rw [List.lookup_cons] at hy
    by_cases hyx : y = x
    · subst hyx; rw [hl] at hk; rcases hk with hk | hk <;> cases hk
    · rw [beq_false_of_ne hyx] at hy; exact h e hy hk
  · obtain ⟨a1, a2, o, a3⟩ := S.f.off p hpp
    refine ⟨a1, a2, ?_⟩
    by_cases hpl : p = env.locals
    · rw [hpl]; exact ⟨_, ho⟩
    · exact ⟨o, (hs.2 p hpl).trans a3⟩
  · refine S.st.trans ⟨⟨_, _, rfl⟩, fun b o e => ?_, fun b o _ hb e => (hs.2 b (fun q => hb (q ▸ List.mem_cons_self))).trans e, fun _ _ e => e, fun _ _ e => .inl e, fun _ h => .inl h⟩
    by_cases hpl : b = env.locals
    · rw [hpl]; exact ⟨_, ho⟩
    · exact ⟨o, (hs.2 b hpl).trans e⟩

theorem St.storeCell {h' : Heap} {tk : Nat} {x : Str} {c : Addr} {v : Value} {d : D} (S : St h₀ fs og env σ s g μ) (hl : env.kindOf x = some .cell) (hc : env.cells.lookup x = some c) (hf : env.func.isSome = true) (R : RepV g v d)
    (hn : h'.IsCell c (some v)) (hs : Heap.SameBut c s.heap h') :
    St h₀ fs og env ((x, d) :: σ) { s with heap := h', toks := tk } g μ := by
  have hmem : c ∈ env.cells.map (·.2) := List.mem_map.mpr ⟨(x, c), mem_of_lookup hc, rfl⟩
  have hp := S.f.off c (List.mem_cons_of_mem _ hmem)
  obtain ⟨oc, ho, hd⟩ := id hn
  have hnf : ∀ o, h'.get? c = some o → ∀ vs, o.data ≠ .fields vs := fun o e vs q => by rw [ho] at e; cases e; rw [hd] at q; cases q
  have hlc : env.locals ≠ c := fun q => S.f.loc (q ▸ hmem)
  refine ⟨S.b.wrote hs hp.1 hp.2.1 hnf ⟨_, ho⟩, ⟨S.f.kind, ?_, fun y b hb => ?_, S.f.apart, fun p hpp => ?_, S.f.loc⟩, ?_⟩
  · obtain ⟨m, hm, hh⟩ := S.f.ns
    refine ⟨m, hm.sameBut hs hlc, fun y e hy hk => ?_⟩
    rw [List.lookup_cons] at hy
    by_cases hyx : y = x
    · subst hyx; rw [hl] at hk; cases hk
    · rw [beq_false_of_ne hyx] at hy; exact hh y e hy hk
  · by_cases hyx : y = x
    · subst hyx
      rw [hc] at hb; cases hb
      refine ⟨some v, hn, fun e hy _ => ?_⟩
      rw [List.lookup_cons] at hy
      simp only [beq_self_eq_true] at hy
      cases hy
      exact ⟨v, rfl, R⟩
    · obtain ⟨ov, ⟨o, ho, hd⟩, h⟩ := S.f.cell y b hb
      have hbc : b ≠ c := fun q => hyx (name_of_addr (S.f.apart hf) (mem_of_lookup hb) (q ▸ mem_of_lookup hc))
      refine ⟨ov, ⟨o, (hs.2 b hbc).trans ho, hd⟩, fun e hy hk => ?_⟩
      rw [List.lookup_cons, beq_false_of_ne hyx] at hy
      exact h e hy hk
  · obtain ⟨a1, a2, o, a3⟩ := S.f.off p hpp
    refine ⟨a1, a2, ?_⟩
    by_cases hpl : p = c
    · rw [hpl]; exact ⟨_, ho⟩
    · exact ⟨o, (hs.2 p hpl).trans a3⟩
  · have hw : c ∈ wrt env := by unfold wrt; rw [if_pos hf]; exact List.mem_cons_of_mem _ hmem
    refine S.st.trans ⟨⟨_, _, rfl⟩, fun b o e => ?_, fun b o _ hb e => (hs.2 b (fun q => hb (q ▸ hw))).trans e, fun _ _ e => e, fun _ _ e => .inl e, fun _ h => .inl h⟩
    by_cases hpl : b = c
    · rw [hpl]; exact ⟨_, ho⟩
    · exact ⟨o, (hs.2 b hpl).trans e⟩

/-- one of the changing lists was written -/
theorem St.setMut {h' : Heap} {tk : Nat} {a : Addr} {xs ys : List D} {μ₁ μ₂ : Mu} (S : St h₀ fs og env σ s g (μ₁ ++ (a, xs) :: μ₂)) {vs : List Value} (hn : h'.PlainList a vs.toArray) (R : RepL g vs ys) (hs : Heap.SameBut a s.heap h') :
    St h₀ fs og env σ { s with heap := h', toks := tk } g (μ₁ ++ (a, ys) :: μ₂) := by
  obtain ⟨n, ho⟩ := id hn
  have hdom : (μ₁ ++ (a, ys) :: μ₂).map (·.1) = (μ₁ ++ (a, xs) :: μ₂).map (·.1) := by simp
  have hin : a ∈ (μ₁ ++ (a, xs) :: μ₂).map (·.1) := by simp
  have hga := (S.b.m a xs (by simp)).2
  have hnd := S.b.nd
  refine S.lift ⟨⟨_, _, rfl⟩, fun b o e => ?_, fun b o hb _ e => (hs.2 b (fun q => hb (q ▸ hin))).trans e, fun _ _ e => e, fun _ _ e => .inl e, fun b hb => .inl (hdom ▸ hb)⟩
    ⟨S.b.w, fun b o e => (hs.2 b (fun q => by rw [q, hga] at e; cases e)).trans (S.b.v b o e), fun b zs hb => ?_, hdom ▸ hnd, FunFrames.but hs (fun o e vs q => by rw [ho] at e; cases e; cases q) ⟨_, ho⟩ S.b.fr⟩
  · by_cases hpl : b = a
    · rw [hpl]; exact ⟨_, ho⟩
    · exact ⟨o, (hs.2 b hpl).trans e⟩
  · have off : ∀ p, p ∈ μ₁ ∨ p ∈ μ₂ → p.1 ≠ a := fun p hp q => by
      rw [List.map_append, List.map_cons, List.nodup_append] at hnd
      obtain ⟨_, h2, h3⟩ := hnd
      rcases hp with hp | hp
      · exact h3 p.1 (List.mem_map.mpr ⟨p, hp, rfl⟩) a List.mem_cons_self q
      · exact (List.nodup_cons.mp h2).1 (q ▸ List.mem_map.mpr ⟨p, hp, rfl⟩)
    have other : ∀ zs, ((b, zs) ∈ μ₁ ∨ (b, zs) ∈ μ₂) → IsMut h' g b zs ∧ g b = none := fun zs hp => by
      obtain ⟨⟨ws, h1, h2⟩, h3⟩ := S.b.m b zs (by simp; rcases hp with hp | hp <;> simp [hp])
      exact ⟨⟨ws, h1.at fun o e => (hs.2 b (off _ hp)).trans e, h2⟩, h3⟩
    rcases List.mem_append.mp hb with hb | hb
    · exact other zs (.inl hb)
    · rcases List.mem_cons.mp hb with e | hb
      · cases e; exact ⟨⟨vs, hn, R⟩, hga⟩
      · exact other zs (.inr hb)

/-- a changing list is never changed again: it joins the view -/
theorem St.freeze {a : Addr} {xs : List D} {μ₁ μ₂ : Mu} (S : St h₀ fs og env σ s g (μ₁ ++ (a, xs) :: μ₂)) : ∃ g', (∀ b o, g b = some o → g' b = some o) ∧ (∀ b o, g' b = some o → g b = some o ∨ b = a) ∧ St h₀ fs og env σ s g' (μ₁ ++ μ₂) ∧ RepV g' (.ref a) (.list xs) := by
  obtain ⟨⟨vs, ⟨n, ho⟩, R⟩, hga⟩ := S.b.m a xs (by simp)
  have gr := View.put_grow (o := { cls := .type "list", data := .seq vs.toArray n }) hga
  have hnd := S.b.nd
  have hin : a ∈ (μ₁ ++ (a, xs) :: μ₂).map (·.1) := by simp
  have sub : ∀ p, p ∈ μ₁ ++ μ₂ → p ∈ μ₁ ++ (a, xs) :: μ₂ := fun p hp => by
    rcases List.mem_append.mp hp with h | h
    · exact List.mem_append_left _ h
    · exact List.mem_append_right _ (List.mem_cons_of_mem _ h)
  have off : ∀ p, p ∈ μ₁ ++ μ₂ → p.1 ≠ a := fun p hp q => by
    rw [List.map_append, List.map_cons, List.nodup_append] at hnd
    obtain ⟨_, h2, h3⟩ := hnd
    rcases List.mem_append.mp hp with hp | hp
    · exact h3 p.1 (List.mem_map.mpr ⟨p, hp, rfl⟩) a List.mem_cons_self q
    · exact (List.nodup_cons.mp h2).1 (q ▸ List.mem_map.mpr ⟨p, hp, rfl⟩)
  refine ⟨g.put a { cls := .type "list", data := .seq vs.toArray n }, gr, (fun b o e => (View.put_inv e).elim (fun h => .inr h.1) .inl), ?_, .mkList View.put_self rfl rfl (R.mono gr)⟩
  have same : ∃ h tk, s = { s with heap := h, toks := tk } := ⟨_, _, rfl⟩
  refine S.lift ⟨same, fun b o e => ⟨o, e⟩, fun b o _ _ e => e, gr, fun b x e => ?_, fun b hb => ?_⟩ ⟨fun b x e => gr b x (S.b.w b x e), fun b x e => ?_, fun b ys hb => ?_, ?_, S.b.fr⟩
  · rcases View.put_inv e with ⟨rfl, _⟩ | e
    · exact .inr (.inl hin)
    · exact .inl e
  · obtain ⟨p, hp, rfl⟩ := List.mem_map.mp hb
    exact .inl (List.mem_map.mpr ⟨p, sub p hp, rfl⟩)
  · rcases View.put_inv e with ⟨rfl, rfl⟩ | e
    · exact ho
    · exact S.b.v b x e
  · obtain ⟨h1, h2⟩ := S.b.m b ys (sub _ hb)
    refine ⟨h1.grow gr, ?_⟩
    have := off _ hb
    unfold View.put; rw [if_neg this]; exact h2
  · rw [List.map_append, List.map_cons, List.nodup_append] at hnd
    rw [List.map_append, List.nodup_append]
    exact ⟨hnd.1, (List.nodup_cons.mp hnd.2.1).2, fun x hx y hy => hnd.2.2 x hx y (List.mem_cons_of_mem _ hy)⟩

noncomputable def Sub (σ τ : Sg) : Prop := ∀ x d, τ.lookup x = some d → σ.lookup x = some d
theorem Sub.nil {σ : Sg} : Sub σ [] := fun _ _ h => by cases h
theorem Sub.cons {σ τ : Sg} {x : Str} {d : D} (h : σ.lookup x = some d) (t : Sub σ τ) : Sub σ ((x, d) :: τ) := fun y e hy => by
  rw [List.lookup_cons] at hy
  by_cases hyx : y = x
  · subst hyx; simp only [beq_self_eq_true] at hy; cases hy; exact h
  · rw [beq_false_of_ne hyx] at hy; exact t y e hy
theorem Sub.refl {σ : Sg} : Sub σ σ := fun _ _ h => h
theorem Sub.trans {σ τ ρ : Sg} (a : Sub σ τ) (b : Sub τ ρ) : Sub σ ρ := fun x d h => a x d (b x d h)
theorem St.sub {τ : Sg} (S : St h₀ fs og env σ s g μ) (h : Sub σ τ) : St h₀ fs og env τ s g μ :=
  ⟨S.b, ⟨S.f.kind, let ⟨m, a, b⟩ := S.f.ns; ⟨m, a, fun x d hd hk => b x d (h x d hd) hk⟩, fun x c hc => let ⟨ov, a, b⟩ := S.f.cell x c hc; ⟨ov, a, fun d hd hk => b d (h x d hd) hk⟩, S.f.apart, S.f.off, S.f.loc⟩, S.st⟩
end

theorem setItem_plain {prog : Program} {w : World} {A : Around} {E : Value → Shared → Prop} {s : Shared} {l : Addr} {vs : List Value} {i : Int} {t : Tok} {v : Value} {Q : Unit → Shared → Prop} (hl : s.heap.PlainList l vs.toArray)
    (h0 : 0 ≤ i) (hi : i < 2 ^ 63) (hn : i < vs.length) (hQ : ∀ h', h'.PlainList l (vs.set i.toNat v).toArray → Heap.SameBut l s.heap h' → Q () { s with heap := h' }) :
    wpAny (model prog w) A (setItem (.ref l) (.int i t) v) Q E s := by
  obtain ⟨n, ho⟩ := id hl
  have hT := hl.isList.typeIs (s := s)
  unfold setItem
  try with_reducible refine wpAny_holding ?_
  first | refine wpAny_bind (wpAny_pure ?_) | skip
  refine wpAny_bind (wpAny_sequenceKey hT (by decide) ?_)
  refine wpAny_bind (wpAny_callSpecial?_slot (name := Str.ofString "__setitem__") hT slot_list_setitem (wpAny_call_entry slot_list_setitem hT entry_list_setitem ?_ (args_list_setitem _ _ _)))
  show wpAny _ _ (Builtin.List.listSubscript? (.int i t) >>= _) _ _ s
  refine wpAny_bind (wpAny_listSubscript_int (fitsIndex_of h0 hi) ?_)
  clear hi
  obtain ⟨k, rfl⟩ := Int.eq_ofNat_of_zero_le h0
  have hk : k < vs.length := by omega
  have hj : (vs.toArray)[k]? = some (vs[k]) := by simp [hk]
  show wpAny _ _ ((seqItemAt l k >>= fun r => pure (r.map (k, ·))) >>= _) _ _ s
  refine wpAny_bind (wpAny_bind (wpAny_seqItemAt ho rfl (wpAny_pure ?_)))
  rw [hj]
  show wpAny _ _ (setSeqItemAt l k v >>= _) _ _ s
  have e : Obj.mapSeq (·.setIfInBounds k v) { cls := .type "list", data := .seq vs.toArray n } = { cls := .type "list", data := .seq (vs.set k v).toArray n } := by
    simp [Obj.mapSeq]
  refine wpAny_bind (wpAny_setSeqItemAt ho rfl ?_)
  have fin := hQ (s.heap.update l (Obj.mapSeq (·.setIfInBounds k v))) ⟨n, by rw [Heap.get?_update_self _ ho (by rw [e]; rfl), e]; rfl⟩ (Heap.SameBut.update ..)
  first
    | exact wpAny_bind (wpAny_pure (wpAny_pure ⟨.none, rfl, wpAny_pure fin⟩))
    | exact wpAny_pure ⟨.none, rfl, wpAny_pure fin⟩

/-! statements -/
inductive Fl where
  | next | brk | cont
  | ret (d : D)
inductive RepF (g : View) : Flow → Fl → Prop where
  | next : RepF g .next .next
  | brk : RepF g .brk .brk
  | cont : RepF g .cont .cont
  | ret {v : Value} {d : D} : RepV g v d → RepF g (.ret v) (.ret d)

noncomputable def PostS (C : Cx) (Q : Fl → Sg → Mu → Prop) (f : Flow) (s' : Shared) : Prop := ∃ fl σ' g' μ', RepF g' f fl ∧ St C.h₀ C.fs C.o C.env σ' s' g' μ' ∧ Q fl σ' μ'
noncomputable def EX (C : Cx) (st : Stmt) (σ : Sg) (μ : Mu) (Q : Fl → Sg → Mu → Prop) : Prop := ∀ s g, St C.h₀ C.fs C.o C.env σ s g μ → wpAny (model C.prog C.w) C.A (exec st C.env) (PostS C Q) C.E s
noncomputable def EXS (C : Cx) (b : List Stmt) (σ : Sg) (μ : Mu) (Q : Fl → Sg → Mu → Prop) : Prop := ∀ s g, St C.h₀ C.fs C.o C.env σ s g μ → wpAny (model C.prog C.w) C.A (execs b C.env) (PostS C Q) C.E s

section
variable {C : Cx} {σ : Sg} {μ : Mu} {Q : Fl → Sg → Mu → Prop}

theorem EX.mono {st : Stmt} {Q' : Fl → Sg → Mu → Prop} (h : EX C st σ μ Q') (k : ∀ f σ' μ', Q' f σ' μ' → Q f σ' μ') : EX C st σ μ Q := fun s g S =>
  wpAny_mono (h s g S) (fun v s' ⟨d, σ', g', μ', a, b, q⟩ => ⟨d, σ', g', μ', a, b, k _ _ _ q⟩) fun _ _ e => e
theorem EXS.mono {st : List Stmt} {Q' : Fl → Sg → Mu → Prop} (h : EXS C st σ μ Q') (k : ∀ f σ' μ', Q' f σ' μ' → Q f σ' μ') : EXS C st σ μ Q := fun s g S =>
  wpAny_mono (h s g S) (fun v s' ⟨d, σ', g', μ', a, b, q⟩ => ⟨d, σ', g', μ', a, b, k _ _ _ q⟩) fun _ _ e => e
theorem EXS.sub {st : List Stmt} {τ : Sg} (h : EXS C st τ μ Q) (k : Sub σ τ) : EXS C st σ μ Q := fun s g S => h s g (S.sub k)
theorem EX.sub {st : Stmt} {τ : Sg} (h : EX C st τ μ Q) (k : Sub σ τ) : EX C st σ μ Q := fun s g S => h s g (S.sub k)

theorem xs_nil (q : Q .next σ μ) : EXS C [] σ μ Q := fun s g S => wpAny_execs_nil ⟨.next, σ, g, μ, .next, S, q⟩
/-- what is asked behind a statement: the rest of the suite -/
noncomputable abbrev SeqQ (C : Cx) (r : List Stmt) (Q : Fl → Sg → Mu → Prop) : Fl → Sg → Mu → Prop := fun f σ₁ μ₁ => match f with | .next => EXS C r σ₁ μ₁ Q | .brk => Q .brk σ₁ μ₁ | .cont => Q .cont σ₁ μ₁ | .ret d => Q (.ret d) σ₁ μ₁
theorem xs_cons {st : Stmt} {r : List Stmt} (h : EX C st σ μ (SeqQ C r Q)) : EXS C (st :: r) σ μ Q := by
  intro s g S
  refine wpAny_execs_cons (wpAny_mono (h s g S) ?_ fun _ _ e => e)
  rintro f s1 ⟨fl, σ1, g1, μ1, RF, S1, q⟩
  cases RF with
  | next => exact q s1 g1 S1
  | brk => exact ⟨.brk, σ1, g1, μ1, .brk, S1, q⟩
  | cont => exact ⟨.cont, σ1, g1, μ1, .cont, S1, q⟩
  | ret r => exact ⟨.ret _, σ1, g1, μ1, .ret r, S1, q⟩
/-- a statement, then the rest, by a word between -/
theorem xs_cut {st : Stmt} {r : List Stmt} (P : Sg → Mu → Prop) (h : EX C st σ μ fun f σ₁ μ₁ => f = .next ∧ P σ₁ μ₁) (k : ∀ σ₁ μ₁, P σ₁ μ₁ → EXS C r σ₁ μ₁ Q) : EXS C (st :: r) σ μ Q :=
  xs_cons (h.mono fun f σ₁ μ₁ ⟨e, p⟩ => by subst e; exact k σ₁ μ₁ p)

theorem x_return {e : Expr} {pos : Pos} (h : EV C e σ μ fun d μ' => Q (.ret d) σ μ') : EX C (.Return (some e) pos) σ μ Q := fun s g S =>
  wpAny_Return_some (wpAny_mono (h s g S) (fun v s' ⟨d, g', μ', k, S', R, q⟩ => ⟨.ret d, σ, g', μ', .ret R, S', q⟩) fun _ _ e => e)
theorem x_break {pos : Pos} (q : Q .brk σ μ) : EX C (.Break pos) σ μ Q := fun s g S => wpAny_Break ⟨.brk, σ, g, μ, .brk, S, q⟩
theorem x_if {test : Expr} {body orelse : List Stmt} {pos : Pos} (h : TS C test σ μ fun b μ' => (b = true → EXS C body σ μ' Q) ∧ (b = false → EXS C orelse σ μ' Q)) : EX C (.If test body orelse pos) σ μ Q := by
  intro s g S
  refine wpAny_If (wpAny_mono (h s g S) ?_ fun _ _ e => e)
  rintro b s1 ⟨g1, μ1, k, S1, ht, hf⟩
  cases b with
  | true => simp only [if_true]; exact ht rfl s1 g1 S1
  | false => simp only [Bool.false_eq_true, if_false]; exact hf rfl s1 g1 S1

/-! targets -/
noncomputable def PostA (C : Cx) (g : View) (Q : Sg → Mu → Prop) (s' : Shared) : Prop := ∃ σ' g' μ', (∀ b x, g b = some x → g' b = some x) ∧ St C.h₀ C.fs C.o C.env σ' s' g' μ' ∧ Q σ' μ'
noncomputable def AS (C : Cx) (t : Expr) (d : D) (σ : Sg) (μ : Mu) (Q : Sg → Mu → Prop) : Prop := ∀ s g v, St C.h₀ C.fs C.o C.env σ s g μ → RepV g v d → wpAny (model C.prog C.w) C.A (assign t C.env v) (fun _ s' => PostA C g Q s') C.E s
noncomputable def AN (C : Cx) (x : Str) (d : D) (σ : Sg) (μ : Mu) (Q : Sg → Mu → Prop) : Prop := ∀ s g v, St C.h₀ C.fs C.o C.env σ s g μ → RepV g v d → wpAny (model C.prog C.w) C.A (storeName C.env x v) (fun _ s' => PostA C g Q s') C.E s

theorem an_local {x : Str} {d : D} {P : Sg → Mu → Prop} (hl : C.env.kindOf x = some .local) (q : P ((x, d) :: σ) μ) : AN C x d σ μ P := by
  intro s g v S R
  obtain ⟨m, hn, hm⟩ := S.f.ns
  exact wpAny_storeName_local hl hn (fun h' hn' hs' => ⟨_, g, μ, fun _ _ e => e, S.storeLocal hl R hm hn' hs', q⟩) (by rw [S.f.kind]; rfl)
theorem an_cell {x : Str} {d : D} {P : Sg → Mu → Prop} (hl : C.env.kindOf x = some .cell) (hc : (C.env.cells.lookup x).isSome = true) (hf : C.env.func.isSome = true) (q : P ((x, d) :: σ) μ) : AN C x d σ μ P := by
  intro s g v S R
  obtain ⟨c, hc⟩ := Option.isSome_iff_exists.mp hc
  obtain ⟨ov, hcell, _⟩ := S.f.cell x c hc
  exact wpAny_storeName_cell S.f.kind hl hc hcell fun h' hn' hs' => ⟨_, g, μ, fun _ _ e => e, S.storeCell (tk := s.toks) hl hc hf R hn' hs', q⟩
theorem as_name {x : Str} {pos : Pos} {d : D} {P : Sg → Mu → Prop} (h : AN C x d σ μ P) : AS C (.Name x pos) d σ μ P := fun s g v S R => wpAny_assign_Name (h s g v S R)

theorem as_item {o i : Expr} {pos : Pos} {d : D} {P : Sg → Mu → Prop}
    (h : EV C o σ μ fun e μ₁ => EV C i σ μ₁ fun f μ₂ => ∃ a k xs μ₃ μ₄, e = .ref a ∧ f = .int (k : Nat) ∧ μ₂ = μ₃ ++ (a, xs) :: μ₄ ∧ k < xs.length ∧ k < 2 ^ 62 ∧ P σ (μ₃ ++ (a, xs.set k d) :: μ₄)) : AS C (.Subscript o i pos) d σ μ P := by
  intro s g v S R
  rw [assign_Subscript]
  refine wpAny_bind (wpAny_holding (wpAny_mono (h s g S) ?_ fun _ _ e => e))
  rintro ov s1 ⟨e, g1, μ1, k1, S1, R1, h2⟩
  refine wpAny_bind (wpAny_holding (wpAny_mono (h2 s1 g1 S1) ?_ fun _ _ e => e))
  rintro iv s2 ⟨f, g2, μ2, k2, S2, R2, a, k, xs, μ3, μ4, rfl, rfl, rfl, hk, hk2, q⟩
  refine wpAny_bind (wpAny_standAt (wpAny_bind (wpAny_holding ?_)))
  obtain ⟨⟨vs, hpl, RL⟩, _⟩ := S2.b.m a xs (by simp)
  rw [R1.ref_inv]
  obtain ⟨t, rfl⟩ := R2.int_inv
  refine setItem_plain hpl (Int.natCast_nonneg k) (by omega) (by rw [RL.1]; omega) fun h' hn hs => wpAny_release' ?_
  exact ⟨σ, g2, _, fun b x e => k2 b x (k1 b x e), S2.setMut (tk := s2.toks) hn (RL.set (R.mono fun b x e => k2 b x (k1 b x e))) hs, q⟩

/-- one after the other -/
noncomputable def ASL (C : Cx) (ts : List Expr) (ds : List D) (σ : Sg) (μ : Mu) (Q : Sg → Mu → Prop) : Prop := ∀ s g vs, St C.h₀ C.fs C.o C.env σ s g μ → RepL g vs ds → wpAny (model C.prog C.w) C.A (assignInOrder ((assignEach ts C.env).map (·.2)) vs) (fun _ s' => PostA C g Q s') C.E s
theorem asl_nil {ds : List D} {P : Sg → Mu → Prop} (q : P σ μ) : ASL C [] ds σ μ P := by
  intro s g vs S R
  cases vs <;> exact wpAny_pure ⟨σ, g, μ, fun _ _ e => e, S, q⟩
theorem asl_cons {t : Expr} {ts : List Expr} {d : D} {ds : List D} {P : Sg → Mu → Prop} (h : AS C t d σ μ fun σ₁ μ₁ => ASL C ts ds σ₁ μ₁ P) (he : assignEach (t :: ts) C.env = (false, assign t C.env) :: assignEach ts C.env := by rfl) : ASL C (t :: ts) (d :: ds) σ μ P := by
  intro s g vs S R
  cases vs with
  | nil => exact absurd R.1 (by simp)
  | cons v vs =>
    rw [he]
    refine wpAny_assignInOrder_more (wpAny_mono (h s g v S R.head) ?_ fun _ _ e => e)
    rintro _ s1 ⟨σ1, g1, μ1, k1, S1, h2⟩
    refine wpAny_mono (h2 s1 g1 vs S1 (R.tail.mono k1)) ?_ fun _ _ e => e
    rintro _ s2 ⟨σ2, g2, μ2, k2, S2, q⟩
    exact ⟨σ2, g2, μ2, fun b x e => k2 b x (k1 b x e), S2, q⟩
/-- names, stored in order -/
noncomputable def ANL (C : Cx) (ns : List Str) (ds : List D) (σ : Sg) (μ : Mu) (Q : Sg → Mu → Prop) : Prop := ∀ s g vs, St C.h₀ C.fs C.o C.env σ s g μ → RepL g vs ds → wpAny (model C.prog C.w) C.A (assignInOrder (ns.map fun n => bindName C.env n) vs) (fun _ s' => PostA C g Q s') C.E s
theorem anl_nil {ds : List D} {P : Sg → Mu → Prop} (q : P σ μ) : ANL C [] ds σ μ P := by
  intro s g vs S R
  cases vs <;> exact wpAny_pure ⟨σ, g, μ, fun _ _ e => e, S, q⟩
theorem anl_cons {n : Str} {ns : List Str} {d : D} {ds : List D} {P : Sg → Mu → Prop} (h : AN C n d σ μ fun σ₁ μ₁ => ANL C ns ds σ₁ μ₁ P) : ANL C (n :: ns) (d :: ds) σ μ P := by
  intro s g vs S R
  cases vs with
  | nil => exact absurd R.1 (by simp)
  | cons v vs =>
    rw [List.map_cons]
    refine wpAny_assignInOrder_more (wpAny_bindName (wpAny_mono (h s g v S R.head) ?_ fun _ _ e => e))
    rintro _ s1 ⟨σ1, g1, μ1, k1, S1, h2⟩
    refine wpAny_mono (h2 s1 g1 vs S1 (R.tail.mono k1)) ?_ fun _ _ e => e
    rintro _ s2 ⟨σ2, g2, μ2, k2, S2, q⟩
    exact ⟨σ2, g2, μ2, fun b x e => k2 b x (k1 b x e), S2, q⟩

theorem RepV.isTuple {h₀ : Heap} {fs : List Env} {s : Shared} {g : View} {v : Value} {xs : List D} {μ : Mu} (R : RepV g v (.tup xs)) (B : Base h₀ fs s g μ) : ∃ a vs, v = .ref a ∧ s.heap.IsTuple a (vs : List Value).toArray ∧ RepL g vs xs := by
  obtain ⟨a, o, n, vs, rfl, h1, h2, h3, h4⟩ := R.tup_inv
  exact ⟨a, vs, rfl, ⟨o, B.v a o h1, h2, n, h3⟩, h4⟩

theorem as_tuple {elts : List Expr} {k : Nat} {pos : Pos} {ds : List D} {P : Sg → Mu → Prop} (hh : C.A.handled = none) (h : ASL C elts ds σ μ P)
    (hl : (assignEach elts C.env).length = ds.length := by rfl) (hst : (assignEach elts C.env).findIdx? (·.1) = none := by rfl) : AS C (.Tuple elts k pos) (.tup ds) σ μ P := by
  intro s g v S R
  obtain ⟨a, vs, rfl, hT, RL⟩ := R.isTuple S.b
  refine wpAny_assign_Tuple hh hT (by rw [List.size_toArray, RL.1, hl]) hst fun h' he => ?_
  have kp : ∀ b o, s.heap.get? b = some o → h'.get? b = some o := fun b o e => he b o (Nat.ne_of_lt (Heap.lt_size e)) e
  exact h _ g vs (S.keeps (tk := s.toks) kp) RL

/-! assignments -/
theorem x_assign {x : Str} {p pos : Pos} {value : Expr} (h : EV C value σ μ fun d μ₁ => AN C x d σ μ₁ fun σ₁ μ₂ => Q .next σ₁ μ₂) (hs : swapsWith value (some (.Name x p)) pos.line C.env = pure false := by rfl) : EX C (.Assign [.Name x p] value pos) σ μ Q := by
  intro s g S
  refine wpAny_Assign_Name (wpAny_mono (h s g S) ?_ fun _ _ e => e) hs
  rintro v s1 ⟨d, g1, μ1, k1, S1, R1, h2⟩
  refine wpAny_mono (h2 s1 g1 v S1 R1) ?_ fun _ _ e => e
  rintro _ s2 ⟨σ2, g2, μ2, k2, S2, q⟩
  exact ⟨.next, σ2, g2, μ2, .next, S2, q⟩
theorem x_setitem {o i value : Expr} {p pos : Pos} (h : EV C value σ μ fun d μ₁ => AS C (.Subscript o i p) d σ μ₁ fun σ₁ μ₂ => Q .next σ₁ μ₂) (hs : swapsWithSole [.Subscript o i p] value pos.line C.env = pure false := by rfl)
    (hw : swappedStores [.Subscript o i p] value C.env = pure none := by rfl) : EX C (.Assign [.Subscript o i p] value pos) σ μ Q := by
  intro s g S
  refine wpAny_Assign_stores (wpAny_mono (h s g S) ?_ fun _ _ e => e) hs hw
  rintro v s1 ⟨d, g1, μ1, k1, S1, R1, h2⟩
  refine wpAny_mono (h2 s1 g1 v S1 R1) ?_ fun _ _ e => e
  rintro _ s2 ⟨σ2, g2, μ2, k2, S2, q⟩
  exact ⟨.next, σ2, g2, μ2, .next, S2, q⟩
theorem x_unpack {elts : List Expr} {k : Nat} {tpos pos : Pos} {value : Expr} (h : EV C value σ μ fun d μ₁ => AS C (.Tuple elts k tpos) d σ μ₁ fun σ₁ μ₂ => Q .next σ₁ μ₂)
    (hs : swapsWithSole [.Tuple elts k tpos] value pos.line C.env = pure false := by rfl) (hw : swappedStores [.Tuple elts k tpos] value C.env = pure none := by rfl) : EX C (.Assign [.Tuple elts k tpos] value pos) σ μ Q := by
  intro s g S
  refine Assign_Tuple (wpAny_mono (h s g S) ?_ fun _ _ e => e) hs hw
  rintro v s1 ⟨d, g1, μ1, k1, S1, R1, h2⟩
  refine wpAny_mono (h2 s1 g1 v S1 R1) ?_ fun _ _ e => e
  rintro _ s2 ⟨σ2, g2, μ2, k2, S2, q⟩
  exact ⟨.next, σ2, g2, μ2, .next, S2, q⟩
theorem x_swap {elts : List Expr} {k : Nat} {tpos pos : Pos} {value : Expr} {ns : List Str} (hh : C.A.handled = none) (hw : swappedStores [.Tuple elts k tpos] value C.env = pure (some ns))
    (h : EV C value σ μ fun d μ₁ => ∃ ds, d = .tup ds ∧ ds.length = ns.length ∧ ANL C ns.reverse ds.reverse σ μ₁ fun σ₁ μ₂ => Q .next σ₁ μ₂)
    (hs : swapsWithSole [.Tuple elts k tpos] value pos.line C.env = pure false := by rfl) : EX C (.Assign [.Tuple elts k tpos] value pos) σ μ Q := by
  intro s g S
  rw [exec_Assign]
  refine wpAny_bind (wpAny_standAt ?_)
  rw [hs]
  refine wpAny_bind (wpAny_pure ?_)
  rw [if_neg (by decide)]
  refine wpAny_bind (wpAny_mono (h s g S) ?_ fun _ _ e => e)
  rintro v s1 ⟨d, g1, μ1, k1, S1, R1, ds, rfl, hl, h2⟩
  rw [hw]
  refine wpAny_bind (wpAny_pure ?_)
  unfold assignStores
  refine wpAny_bind (wpAny_rule ?_)
  obtain ⟨a, vs, rfl, hT, RL⟩ := R1.isTuple S1.b
  have hsz : ns.length = vs.toArray.size := by rw [List.size_toArray, RL.1, hl]
  rw [hsz]
  refine wpAny_bind (wpAny_unpackItems_tuple hh hT fun h' he => ?_)
  have kp : ∀ b o, s1.heap.get? b = some o → h'.get? b = some o := fun b o e => he b o (Nat.ne_of_lt (Heap.lt_size e)) e
  have RR : RepL g1 vs.reverse ds.reverse := by
    refine ⟨by simp [RL.1], fun i w y a b => ?_⟩
    have hi : i < vs.length := by have := (List.getElem?_eq_some_iff.mp a).1; simpa using this
    rw [List.getElem?_reverse hi] at a
    rw [List.getElem?_reverse (by rw [← RL.1]; exact hi), ← RL.1] at b
    exact RL.2 _ w y a b
  refine wpAny_bind (wpAny_mono (h2 _ g1 vs.reverse (S1.keeps (tk := s1.toks) kp) RR) ?_ fun _ _ e => e)
  rintro _ s2 ⟨σ2, g2, μ2, k2, S2, q⟩
  exact wpAny_pure ⟨.next, σ2, g2, μ2, .next, S2, q⟩
theorem x_aug {x : Str} {op : Operator} {p pos : Pos} {value : Expr} {d : D} (hd : σ.lookup x = some d) (hk : isVar C.env x = true) (hb : C.env.kindOf x = some .local ∨ (C.env.cells.lookup x).isSome = true)
    (h : EV C value σ μ fun e μ₁ => ∃ i j k, d = .int i ∧ e = .int j ∧ IntIop C op i j k ∧ AN C x (.int k) σ μ₁ fun σ₁ μ₂ => Q .next σ₁ μ₂) (hc : (x == ("__classdict__" : Str)) = false := by decide) : EX C (.AugAssign (.Name x p) op value pos) σ μ Q := by
  intro s g S
  refine wpAny_AugAssign_Name (S.load hd hk hc hb fun v R => wpAny_mono (h s g S) ?_ fun _ _ e => e)
  rintro v2 s1 ⟨e, g1, μ1, k1, S1, R1, i, j, k, rfl, rfl, ho, h2⟩
  obtain ⟨t, rfl⟩ := R.int_inv
  obtain ⟨u, rfl⟩ := R1.int_inv
  refine ho _ _ _ _ ?_
  refine wpAny_mono (h2 _ g1 _ (S1.tok _) (.int _ _)) ?_ fun _ _ e => e
  rintro _ s2 ⟨σ2, g2, μ2, k2, S2, q⟩
  exact ⟨.next, σ2, g2, μ2, .next, S2, q⟩

/-! a list that grows -/
theorem x_append {o e : Expr} {apos cpos pos : Pos}
    (h : EV C o σ μ fun d μ₁ => ∃ a, d = .ref a ∧ (∃ ys, (a, ys) ∈ μ₁) ∧ EV C e σ μ₁ fun x μ₂ => ∃ xs μ₃ μ₄, μ₂ = μ₃ ++ (a, xs) :: μ₄ ∧ xs.length ≤ sizeLine ∧ Q .next σ (μ₃ ++ (a, xs ++ [x]) :: μ₄))
    (hi : interactive C.env = false := by rfl) (hsw : swapsWith (.Call (.Attribute o "append" apos) [e] [] cpos) none pos.line C.env = pure false := by rfl)
    (hbase : attributeBase o "append" C.env (eval o C.env) = eval o C.env := by rfl)
    (hfew : ((backTo cpos (starEach [e] C.env)).all (fun x => !x.1) && (backToKw cpos (keywordEach [] C.env)).all (fun x => x.1.isSome) && decide (([e] : List Expr).length + ([] : List Keyword).length + (if ([] : List Keyword).isEmpty then 0 else 1) < 30)) = true := by rfl)
    (hline : (apos.endLine == cpos.line) = true := by rfl) (htrees : backTo cpos (starEach [e] C.env) = [(false, eval e C.env)] := by rfl) :
    EX C (.Expr (.Call (.Attribute o "append" apos) [e] [] cpos) pos) σ μ Q := by
  intro s g S
  refine wpAny_Expr (wpAny_Call_append hbase hfew hline htrees (wpAny_mono (h s g S) ?_ fun _ _ e => e)) hi hsw
  rintro v s1 ⟨d, g1, μ1, k1, S1, R1, a, rfl, ⟨ys, hy⟩, h2⟩
  obtain ⟨⟨ws, ⟨n, ho⟩, _⟩, _⟩ := S1.b.m a ys hy
  refine ⟨a, _, R1.ref_inv, ⟨_, n, ho, rfl, rfl, rfl⟩, wpAny_mono (h2 s1 g1 S1) ?_ fun _ _ e => e⟩
  rintro y s2 ⟨x, g2, μ2, k2, S2, R2, xs, μ3, μ4, rfl, hsz, q⟩
  obtain ⟨⟨vs, hpl, RL⟩, _⟩ := S2.b.m a xs (by simp)
  refine wpAny_list_append_plain hpl (fun h' hn hs => ?_) (by rw [List.size_toArray, RL.1]; exact hsz)
  have hn' : h'.PlainList a (vs ++ [y]).toArray := by simpa using hn
  exact ⟨.next, σ, g2, _, .next, S2.setMut (tk := s2.toks) hn' (RL.append (.cons R2 .nil)) hs, q⟩
end

end Mine

namespace Mine

/-- addresses (an iterator's own) that nothing else speaks of -/
noncomputable def Off (o : Org) (env : Env) (fs : List Env) (g : View) (μ : Mu) (wr : List Addr) : Prop :=
  ∀ b ∈ wr, o.s.heap.get? b = none ∧ g b = none ∧ b ∉ μ.map (·.1) ∧ b ∉ priv env ∧ b ∉ fs.filterMap (·.frame)

section
variable {h₀ : Heap} {fs : List Env} {o : Org} {env : Env} {σ : Sg} {s : Shared} {g : View} {μ : Mu} {wr : List Addr}

theorem Off.fresh (S : St h₀ fs o env σ s g μ) (h : ∀ b ∈ wr, s.heap.get? b = none) : Off o env fs g μ wr := fun b hb => by
  have hn := h b hb
  refine ⟨S.st.gone hn, S.b.fresh hn, S.b.notMu hn, fun hp => ?_, fun hf => ?_⟩
  · obtain ⟨x, e⟩ := (S.f.off b hp).2.2; rw [hn] at e; cases e
  · obtain ⟨_, x, e, _⟩ := S.b.fr.mem hf; rw [hn] at e; cases e

theorem FunFrames.offW {base h h' : Heap} (k : ∀ b o, b ∉ wr → h.get? b = some o → h'.get? b = some o) : ∀ {l : List Env}, (∀ b ∈ wr, b ∉ l.filterMap (·.frame)) → h.FunFrames base l → h'.FunFrames base l
  | [], _, _ => trivial
  | env :: rest, hw, ⟨hk, ⟨L, o, hf, hn, ho, hd⟩, hr⟩ => by
    rw [List.filterMap_cons, hf] at hw
    refine ⟨hk, ⟨L, o, hf, hn, k L o (fun hm => hw L hm List.mem_cons_self) ho, hd⟩, FunFrames.offW k (fun b hb hm => hw b hb (List.mem_cons_of_mem _ hm)) hr⟩

/-- an iterator moves -/
theorem St.iter {h' : Heap} {tk : Nat} (S : St h₀ fs o env σ s g μ) (O : Off o env fs g μ wr) (k : ∀ b o, b ∉ wr → s.heap.get? b = some o → h'.get? b = some o) : St h₀ fs o env σ { s with heap := h', toks := tk } g μ := by
  have kg : ∀ b x, g b = some x → h'.get? b = some x := fun b x e => k b x (fun hb => by rw [(O b hb).2.1] at e; cases e) (S.b.v b x e)
  have kp : ∀ p ∈ priv env, ∀ x, s.heap.get? p = some x → h'.get? p = some x := fun p hp x e => k p x (fun hb => (O p hb).2.2.2.1 hp) e
  refine ⟨⟨S.b.w, kg, fun a xs hm => ?_, S.b.nd, FunFrames.offW k (fun b hb => (O b hb).2.2.2.2) S.b.fr⟩, ⟨S.f.kind, ?_, fun x c hc => ?_, S.f.apart, fun p hp => ?_, S.f.loc⟩, ?_⟩
  · obtain ⟨⟨vs, h1, h2⟩, h3⟩ := S.b.m a xs hm
    exact ⟨⟨vs, h1.at fun o e => k a o (fun hb => (O a hb).2.2.1 (List.mem_map.mpr ⟨_, hm, rfl⟩)) e, h2⟩, h3⟩
  · obtain ⟨m, hn, hm⟩ := S.f.ns
    exact ⟨m, hn.at' fun o e => kp _ List.mem_cons_self o e, hm⟩
  · obtain ⟨ov, ⟨x', ho, hd⟩, h⟩ := S.f.cell x c hc
    exact ⟨ov, ⟨x', kp c (List.mem_cons_of_mem _ (List.mem_map.mpr ⟨(x, c), mem_of_lookup hc, rfl⟩)) _ ho, hd⟩, h⟩
  · obtain ⟨a, b, x, e⟩ := S.f.off p hp
    exact ⟨a, b, x, kp p hp x e⟩
  · obtain ⟨h1, t1, e1⟩ := S.st.same
    refine ⟨⟨h', tk, by rw [e1]⟩, fun b x e => ?_, fun b x hb hx e => ?_, S.st.grow, S.st.new, S.st.dom⟩
    · obtain ⟨x', e'⟩ := S.st.there b x e
      exact ⟨x', k b x' (fun hb => by rw [(O b hb).1] at e; cases e) e'⟩
    · exact k b x (fun hw => by rw [(O b hw).1] at e; cases e) (S.st.keep b x hb hx e)

theorem Off.step {s' : Shared} {g' : View} {μ' : Mu} {X : List Addr} (O : Off o env fs g μ wr) (y : Step X s g μ s' g' μ') (al : ∀ b ∈ wr, ∃ x, s.heap.get? b = some x) : Off o env fs g' μ' wr := fun b hb => by
  obtain ⟨a1, a2, a3, a4, a5⟩ := O b hb
  obtain ⟨x, e⟩ := al b hb
  refine ⟨a1, ?_, fun hm => ?_, a4, a5⟩
  · cases e' : g' b with
    | none => rfl
    | some z =>
      rcases y.new b z e' with h | h | h
      · rw [a2] at h; cases h
      · exact absurd h a3
      · rw [e] at h; cases h
  · rcases y.dom b hm with h | h
    · exact a3 h
    · rw [e] at h; cases h
end

/-- an iterator at I over n items; a turn leaves the frame's names as asg says -/
structure IterOk (prog : Program) (w : World) (h₀ : Heap) (fs : List Env) (A : Around) (env : Env) (target : Expr) (I : Addr) (n : Nat) (wr : List Addr) (Sw : Nat → Heap → Prop) (asg : Nat → Sg → Sg) (g₀ : View) : Prop where
  next : ∀ (i : Nat) (o : Org) (σ : Sg) (s : Shared) (g : View) (μ : Mu) (E : Value → Shared → Prop), i < n → St h₀ fs o env σ s g μ → (∀ b x, g₀ b = some x → g b = some x) → Off o env fs g μ wr → Sw i s.heap →
    wpAny (model prog w) A (pyNext (.ref I)) (fun r s₁ => ∃ v, r = some v ∧ wpAny (model prog w) A (letOwnedTupleGo target (.ref I) v) (fun _ s₂ => wpAny (model prog w) A (assign target env v) (fun _ s₃ =>
      ∃ g', (∀ b x, g b = some x → g' b = some x) ∧ St h₀ fs o env (asg i σ) s₃ g' μ ∧ Off o env fs g' μ wr ∧ Sw (i + 1) s₃.heap) E s₂) E s₁) E s
  done : ∀ (o : Org) (σ : Sg) (s : Shared) (g : View) (μ : Mu) (E : Value → Shared → Prop), St h₀ fs o env σ s g μ → Off o env fs g μ wr → Sw n s.heap →
    wpAny (model prog w) A (pyNext (.ref I)) (fun r s₁ => r = none ∧ St h₀ fs o env σ s₁ g μ) E s
  frame : ∀ i h h', Sw i h → (∀ b ∈ wr, ∀ x, h.get? b = some x → h'.get? b = some x) → (∀ b x, g₀ b = some x → h.get? b = some x ∧ h'.get? b = some x) → Sw i h'
  alive : ∀ i h, Sw i h → ∀ b ∈ wr, ∃ x, h.get? b = some x
  self : ∀ (i : Nat) (s : Shared) (Q : Value → Shared → Prop) (E : Value → Shared → Prop), Sw i s.heap → Q (.ref I) s → wpAny (model prog w) A (pyIter (.ref I)) Q E s

/-- what a for or a comprehension goes over -/
noncomputable def SRC (C : Cx) (env' : Env → Prop) (target e : Expr) (σ : Sg) (μ : Mu) (K : Nat → (Nat → Sg → Sg) → Mu → Prop) : Prop :=
  ∀ s g, St C.h₀ C.fs C.o C.env σ s g μ → wpAny (model C.prog C.w) C.A (eval e C.env) (fun x s₁ => wpAny (model C.prog C.w) C.A (pyIter x) (fun v s₂ =>
    ∃ I n wr Sw asg g' μ', v = .ref I ∧ (∀ b x, g b = some x → g' b = some x) ∧ St C.h₀ C.fs C.o C.env σ s₂ g' μ' ∧ Off C.o C.env C.fs g' μ' wr ∧ Sw 0 s₂.heap ∧ (∀ env₂, env' env₂ → IterOk C.prog C.w C.h₀ C.fs C.A env₂ target I n wr Sw asg g') ∧ K n asg μ') C.E s₁) C.E s

noncomputable def Cx.withO (C : Cx) (o : Org) : Cx := { C with o := o }

section
variable {C : Cx} {σ : Sg} {μ : Mu} {Q : Fl → Sg → Mu → Prop}

/-- what is asked behind a turn -/
noncomputable abbrev LoopQ (Q : Fl → Sg → Mu → Prop) (N : Sg → Mu → Prop) : Fl → Sg → Mu → Prop := fun fl σ₂ μ₂ => match fl with
  | .brk => Q .next σ₂ μ₂
  | .ret d => Q (.ret d) σ₂ μ₂
  | _ => N σ₂ μ₂
noncomputable abbrev NextA {α : Type} (P : α → Prop) (cσ : α → Sg) (cμ : α → Mu) : Sg → Mu → Prop := fun σ₂ μ₂ => ∃ a', P a' ∧ Sub σ₂ (cσ a') ∧ μ₂ = cμ a'
noncomputable abbrev NextW {α : Type} (P : α → Prop) (cσ : α → Sg) (cμ : α → Mu) (m : α → Nat) (k : Nat) : Sg → Mu → Prop := fun σ₂ μ₂ => ∃ a', P a' ∧ Sub σ₂ (cσ a') ∧ μ₂ = cμ a' ∧ m a' < k
theorem x_while {test : Expr} {body : List Stmt} {pos : Pos} {α : Type} (cσ : α → Sg) (cμ : α → Mu) (P : α → Prop) (m : α → Nat) (a₀ : α) (hE : PassesOwn (model C.prog C.w) C.A C.env C.E)
    (h0 : Sub σ (cσ a₀)) (hμ : μ = cμ a₀) (hP : P a₀)
    (turn : ∀ a, P a → TS C test (cσ a) (cμ a) fun b μ₁ => (b = false → Q .next (cσ a) μ₁) ∧ (b = true → EXS C body (cσ a) μ₁ (LoopQ Q (NextW P cσ cμ m (m a))))) : EX C (.While test body [] pos) σ μ Q := by
  subst hμ
  intro s g S
  refine wpAny_While (codeAny_whileLoop (fun k s' => ∃ a g', P a ∧ St C.h₀ C.fs C.o C.env (cσ a) s' g' (cμ a) ∧ k = m a) ?_ (m a₀) ⟨a₀, g, hP, S.sub h0, rfl⟩)
  rintro k s' ⟨a, g', ha, S', rfl⟩
  refine wpAny_mono (turn a ha s' g' S') ?_ hE
  rintro b s2 ⟨g2, μ2, k2, S2, hf, ht⟩
  cases b with
  | false =>
    simp only [Bool.false_eq_true, if_false]
    exact wpAny_execs_nil ⟨.next, _, g2, μ2, .next, S2, hf rfl⟩
  | true =>
    simp only [if_true]
    refine wpAny_mono (ht rfl s2 g2 S2) ?_ hE
    rintro f s3 ⟨fl, σ3, g3, μ3, RF, S3, q⟩
    cases RF with
    | next => obtain ⟨a', h1, h2, rfl, h4⟩ := q; exact ⟨m a', h4, a', g3, h1, S3.sub h2, rfl⟩
    | cont => obtain ⟨a', h1, h2, rfl, h4⟩ := q; exact ⟨m a', h4, a', g3, h1, S3.sub h2, rfl⟩
    | brk => exact ⟨.next, σ3, g3, μ3, .next, S3, q⟩
    | ret r => exact ⟨.ret _, σ3, g3, μ3, .ret r, S3, q⟩

theorem St.reorg {h₀ : Heap} {fs : List Env} {o : Org} {env : Env} {σ : Sg} {s : Shared} {g : View} {μ : Mu} (S : St h₀ fs o env σ s g μ) : St h₀ fs ⟨s, g, μ⟩ env σ s g μ := ⟨S.b, S.f, Step.refl⟩
theorem St.back {h₀ : Heap} {fs : List Env} {o : Org} {env : Env} {σ σ' : Sg} {s s' : Shared} {g g' : View} {μ μ' : Mu} (S : St h₀ fs o env σ s g μ) (S' : St h₀ fs ⟨s, g, μ⟩ env σ' s' g' μ') : St h₀ fs o env σ' s' g' μ' := ⟨S'.b, S'.f, S.st.trans S'.st⟩

/-- a for: what is asked of what it goes over -/
noncomputable abbrev ForL {α : Type} (C : Cx) (body : List Stmt) (σ : Sg) (cσ : α → Sg) (cμ : α → Mu) (Q : Fl → Sg → Mu → Prop) : Nat → (Nat → Sg → Sg) → Mu → Prop := fun n asg μ₁ => ∃ (P : Nat → α → Prop) (a₀ : α), Sub σ (cσ a₀) ∧ μ₁ = cμ a₀ ∧ P 0 a₀ ∧
  (∀ i a o, i < n → P i a → (∀ σ' s' g' μ', St C.h₀ C.fs o C.env σ' s' g' μ' → St C.h₀ C.fs C.o C.env σ' s' g' μ') → EXS (C.withO o) body (asg i (cσ a)) (cμ a) (LoopQ Q (NextA (P (i + 1)) cσ cμ))) ∧ (∀ a, P n a → Q .next (cσ a) (cμ a))
noncomputable abbrev ForK {α : Type} (C : Cx) (body : List Stmt) (σ : Sg) (cσ : α → Sg) (cμ : α → Mu) (Q : Fl → Sg → Mu → Prop) : Nat → (Nat → Sg → Sg) → Mu → Prop := fun n asg μ₁ => ∃ (P : Nat → α → Prop) (a₀ : α), Sub σ (cσ a₀) ∧ μ₁ = cμ a₀ ∧ P 0 a₀ ∧
  (∀ i a o, i < n → P i a → EXS (C.withO o) body (asg i (cσ a)) (cμ a) (LoopQ Q (NextA (P (i + 1)) cσ cμ))) ∧ (∀ a, P n a → Q .next (cσ a) (cμ a))
/-- a for, with a word on where a turn begins -/
theorem x_forL {target iter : Expr} {body : List Stmt} {pos : Pos} {α : Type} (cσ : α → Sg) (cμ : α → Mu) (hE : PassesOwn (model C.prog C.w) C.A C.env C.E)
    (h : SRC C (fun e => e = C.env) target iter σ μ (ForL C body σ cσ cμ Q))
    (hs : ∀ x, foldedSetIterable iter C.env x = pure x := by intro _; rfl) : EX C (.For target iter body [] pos) σ μ Q := by
  intro s g S
  refine wpAny_For (wpAny_mono (h s g S) (fun x s₁ h₁ => wpAny_mono h₁ ?_ fun _ _ e => e) fun _ _ e => e) hs
  rintro v s2 ⟨I, n, wr, Sw, asg, g2, μ2, rfl, k2, S2, O2, w2, it, P, a₀, hsub, rfl, hP, turn, fin⟩
  have W := it C.env rfl
  refine codeAny_forLoop_any (fun k s' => ∃ i a g', k = n - i ∧ i ≤ n ∧ P i a ∧ (∀ b x, g2 b = some x → g' b = some x) ∧ St C.h₀ C.fs C.o C.env (cσ a) s' g' (cμ a) ∧ Off C.o C.env C.fs g' (cμ a) wr ∧ Sw i s'.heap) ?_ n
    ⟨0, a₀, g2, rfl, Nat.zero_le _, hP, fun _ _ e => e, S2.sub hsub, O2, w2⟩
  rintro k s' ⟨i, a, g', rfl, hi, hPa, kg, S', O', w'⟩
  by_cases hlt : i < n
  · refine wpAny_mono (W.next i C.o _ s' g' _ _ hlt S' kg O' w') ?_ fun _ _ e => e
    rintro r s1 ⟨v, rfl, h1⟩
    refine wpAny_mono h1 (fun _ s2 h2 => wpAny_mono h2 ?_ fun _ _ e => e) fun _ _ e => e
    rintro _ s3 ⟨g3, k3, S3, O3, w3⟩
    refine wpAny_mono (turn i a ⟨s3, g3, cμ a⟩ hlt hPa (fun _ _ _ _ S4 => S3.back S4) s3 g3 S3.reorg) ?_ hE
    rintro f s4 ⟨fl, σ4, g4, μ4, RF, S4, q⟩
    have S5 := S3.back S4
    have O5 : Off C.o C.env C.fs g4 μ4 wr := O3.step S4.st (W.alive _ _ w3)
    have w5 : Sw (i + 1) s4.heap := by
      refine W.frame _ _ _ w3 (fun b hb x e => S4.st.keep b x (O3 b hb).2.2.1 (fun hw => (O3 b hb).2.2.2.1 (wrt_sub hw)) e) fun b x e => ?_
      exact ⟨S3.b.v b x (k3 b x (kg b x e)), S4.b.v b x (S4.st.grow b x (k3 b x (kg b x e)))⟩
    have kk : ∀ b x, g2 b = some x → g4 b = some x := fun b x e => S4.st.grow b x (k3 b x (kg b x e))
    cases RF with
    | next => obtain ⟨a', h1, h2, rfl⟩ := q; exact ⟨n - (i + 1), by omega, i + 1, a', g4, rfl, hlt, h1, kk, S5.sub h2, O5, w5⟩
    | cont => obtain ⟨a', h1, h2, rfl⟩ := q; exact ⟨n - (i + 1), by omega, i + 1, a', g4, rfl, hlt, h1, kk, S5.sub h2, O5, w5⟩
    | brk => exact ⟨.next, σ4, g4, μ4, .next, S5, q⟩
    | ret r => exact ⟨.ret _, σ4, g4, μ4, .ret r, S5, q⟩
  · have hin : i = n := by omega
    subst hin
    refine wpAny_mono (W.done C.o _ s' g' _ _ S' O' w') ?_ fun _ _ e => e
    rintro r s1 ⟨rfl, S1⟩
    exact wpAny_execs_nil ⟨.next, _, g', _, .next, S1, fin a hPa⟩
theorem x_for {target iter : Expr} {body : List Stmt} {pos : Pos} {α : Type} (cσ : α → Sg) (cμ : α → Mu) (hE : PassesOwn (model C.prog C.w) C.A C.env C.E) (h : SRC C (fun e => e = C.env) target iter σ μ (ForK C body σ cσ cμ Q))
    (hs : ∀ x, foldedSetIterable iter C.env x = pure x := by intro _; rfl) : EX C (.For target iter body [] pos) σ μ Q :=
  x_forL cσ cμ hE (fun s g S => wpAny_mono (h s g S) (fun x s₁ h₁ => wpAny_mono h₁ (fun v s₂ ⟨I, n, wr, Sw, asg, g', μ', e, k, S', O, w, it, P, a₀, h1, h2, h3, turn, fin⟩ =>
    ⟨I, n, wr, Sw, asg, g', μ', e, k, S', O, w, it, P, a₀, h1, h2, h3, fun i a o hi hP _ => turn i a o hi hP, fin⟩) fun _ _ e => e) fun _ _ e => e) hs
end

end Mine

namespace Mine

section
variable {prog : Program} {w : World} {h₀ : Heap} {fs : List Env} {A : Around} {env : Env} {g₀ : View}

theorem RepL.two {g : View} {v₁ v₂ : Value} {a b : D} (h1 : RepV g v₁ a) (h2 : RepV g v₂ b) : RepL g [v₁, v₂] [a, b] := .cons h1 (.cons h2 .nil)

theorem St.storeL {o : Org} {σ : Sg} {s : Shared} {g : View} {μ : Mu} {E : Value → Shared → Prop} {x : Str} {v : Value} {d : D} {P : Unit → Shared → Prop} (S : St h₀ fs o env σ s g μ) (hl : env.kindOf x = some .local) (R : RepV g v d)
    (h : ∀ h' tk, Heap.SameBut env.locals s.heap h' → St h₀ fs o env ((x, d) :: σ) { s with heap := h', toks := tk } g μ → P () { s with heap := h', toks := tk }) : wpAny (model prog w) A (storeName env x v) P E s := by
  obtain ⟨m, hn, hm⟩ := S.f.ns
  exact wpAny_storeName_local hl hn (fun h' hn' hs' => h h' _ hs' (S.storeLocal hl R hm hn' hs')) (by rw [S.f.kind]; rfl)

noncomputable def Sto (env : Env) (x : Str) : Prop := env.kindOf x = some .local ∨ (env.kindOf x = some .cell ∧ (env.cells.lookup x).isSome = true ∧ env.func.isSome = true)
theorem St.storeX {o : Org} {σ : Sg} {s : Shared} {g : View} {μ : Mu} {E : Value → Shared → Prop} {x : Str} {v : Value} {d : D} {P : Unit → Shared → Prop} (S : St h₀ fs o env σ s g μ) (hl : Sto env x) (R : RepV g v d)
    (h : ∀ h' tk p, p ∈ priv env → Heap.SameBut p s.heap h' → St h₀ fs o env ((x, d) :: σ) { s with heap := h', toks := tk } g μ → P () { s with heap := h', toks := tk }) : wpAny (model prog w) A (storeName env x v) P E s := by
  rcases hl with hl | ⟨hl, hc, hf⟩
  · exact S.storeL hl R fun h' tk hs S' => h h' tk _ List.mem_cons_self hs S'
  · obtain ⟨c, hc⟩ := Option.isSome_iff_exists.mp hc
    obtain ⟨ov, hcell, _⟩ := S.f.cell x c hc
    exact wpAny_storeName_cell S.f.kind hl hc hcell fun h' hn' hs' => h h' s.toks c (List.mem_cons_of_mem _ (List.mem_map.mpr ⟨(x, c), mem_of_lookup hc, rfl⟩)) hs' (S.storeCell (tk := s.toks) hl hc hf R hn' hs')

theorem IterOk.ofWalks {x : Str} {px : Pos} {I : Addr} {fp wrW wr : List Addr} {n : Nat} {P : Nat → Value → Prop} {Sw : Nat → Heap → Prop} {it : Nat → D}
    (W : Walks prog w A I fp wrW n P Sw) (hsub : ∀ b ∈ wrW, b ∈ wr) (hfp : ∀ b ∈ fp, b ∈ wr ∨ ∃ y, g₀ b = some y) (al : ∀ i h, Sw i h → ∀ b ∈ wr, ∃ y, h.get? b = some y)
    (hx : Sto env x)
    (item : ∀ i v, i < n → P i v → RepV g₀ v (it i)) : IterOk prog w h₀ fs A env (.Name x px) I n wr Sw (fun i σ => (x, it i) :: σ) g₀ where
  next := fun i o σ s g μ E hi S kg O hst => by
    refine W.item i s _ _ hi hst fun v h' tk hP hst' hk => ⟨v, rfl, ?_⟩
    have k' : ∀ b y, b ∉ wr → s.heap.get? b = some y → h'.get? b = some y := fun b y hb e => hk b y (fun hw => hb (hsub b hw)) e
    have S1 := S.iter (tk := tk) O k'
    show wpAny _ _ (pure ()) _ _ _
    refine wpAny_pure (wpAny_assign_Name (S1.storeX hx ((item i v hi hP).mono kg) fun h'' tk' p hp hs S2 => ⟨g, fun _ _ e => e, S2, O, ?_⟩))
    refine W.frame _ _ _ hst' fun b hb y e => (hs.2 b fun q => ?_).trans e
    rcases hfp b hb with h | ⟨y, e'⟩
    · exact (O b h).2.2.2.1 (q ▸ hp)
    · have := (S.f.off p hp).1
      rw [← q, kg b y e'] at this; cases this
  done := fun o σ s g μ E S O hst => W.done s _ _ hst fun h' tk hk => ⟨rfl, S.iter O fun b y hb e => hk b y (fun hw => hb (hsub b hw)) e⟩
  frame := fun i h h' hst k1 k2 => W.frame _ _ _ hst fun b hb y e => by
    rcases hfp b hb with h1 | ⟨y', e'⟩
    · exact k1 b h1 y e
    · have hk := k2 b y' e'
      rw [hk.1] at e; cases e; exact hk.2
  alive := al
  self := W.self

theorem IterOk.ofWalksT {x y : Str} {px py pos : Pos} {kk : Nat} {I : Addr} {fp wrW wr : List Addr} {n : Nat} {Pt : Nat → Array Value → Prop} {Sw : Nat → Heap → Prop} {Mid : Nat → Addr → Heap → Prop} {f g' : Nat → D}
    (hh : A.handled = none) (W : WalksT prog w A I fp wrW n Pt Sw Mid) (hsub : ∀ b ∈ wrW, b ∈ wr) (hfp : ∀ b ∈ fp, b ∈ wr ∨ ∃ y, g₀ b = some y) (al : ∀ i h, Sw i h → ∀ b ∈ wr, ∃ y, h.get? b = some y)
    (hx : Sto env x) (hy : Sto env y)
    (item : ∀ i vals, i < n → Pt i vals → ∃ v₁ v₂, vals = #[v₁, v₂] ∧ RepV g₀ v₁ (f i) ∧ RepV g₀ v₂ (g' i)) : IterOk prog w h₀ fs A env (.Tuple [.Name x px, .Name y py] kk pos) I n wr Sw (fun i σ => (y, g' i) :: (x, f i) :: σ) g₀ where
  next := fun i o σ s g μ E hi S kg O hst => by
    refine W.item i s _ _ hi hst fun T vals h' tk hP hT hIs hMid hk => ⟨.ref T, rfl, ?_⟩
    obtain ⟨v₁, v₂, rfl, R1, R2⟩ := item i vals hi hP
    have k' : ∀ b y, b ∉ wr → s.heap.get? b = some y → h'.get? b = some y := fun b y hb e => hk b y (fun hw => hb (hsub b hw)) e
    have S1 := S.iter (tk := tk) O k'
    refine W.go _ _ _ i T _ _ _ hMid fun h₂ hst₂ hk₂ => ?_
    have S2 := S1.iter (tk := tk) O (fun b y hb e => hk₂ b y (fun hw => hb (hsub b hw)) e)
    have hT2 : h₂.IsTuple T #[v₁, v₂] := hIs.at fun o e => hk₂ T o (W.apart _ _ _ hMid) e
    refine wpAny_assign_Tuple hh hT2 rfl rfl fun h₃ he => ?_
    have kp : ∀ b o, h₂.get? b = some o → h₃.get? b = some o := fun b o e => he b o (Nat.ne_of_lt (Heap.lt_size e)) e
    have S3 := S2.keeps (tk := tk) kp
    show wpAny _ _ (assignInOrder [assign (.Name x px) env, assign (.Name y py) env] [v₁, v₂]) _ _ _
    refine wpAny_assignInOrder_more (wpAny_assign_Name (S3.storeX hx (R1.mono kg) fun h₄ tk₄ p₁ hp₁ hs₄ S4 => ?_))
    refine wpAny_assignInOrder_more (wpAny_assign_Name (S4.storeX hy (R2.mono kg) fun h₅ tk₅ p₂ hp₂ hs₅ S5 => ?_))
    refine wpAny_pure ⟨g, fun _ _ e => e, S5, O, ?_⟩
    have off : ∀ p ∈ priv env, ∀ b ∈ fp, b ≠ p := fun p hp b hb q => by
      rcases hfp b hb with h | ⟨y, e'⟩
      · exact (O b h).2.2.2.1 (q ▸ hp)
      · have := (S.f.off p hp).1
        rw [← q, kg b y e'] at this; cases this
    exact W.frame _ _ _ hst₂ fun b hb y e => (hs₅.2 b (off p₂ hp₂ b hb)).trans ((hs₄.2 b (off p₁ hp₁ b hb)).trans (kp b y e))
  done := fun o σ s g μ E S O hst => W.done s _ _ hst fun h' tk hk => ⟨rfl, S.iter O fun b y hb e => hk b y (fun hw => hb (hsub b hw)) e⟩
  frame := fun i h h' hst k1 k2 => W.frame _ _ _ hst fun b hb y e => by
    rcases hfp b hb with h1 | ⟨y', e'⟩
    · exact k1 b h1 y e
    · have hk := k2 b y' e'
      rw [hk.1] at e; cases e; exact hk.2
  alive := al
  self := W.self
end

section
variable {C : Cx} {σ : Sg} {μ : Mu}

theorem type_call {x : Str} {np pos : Pos} {es : List Expr} {T : String} {P : Value → Shared → Prop} {s : Shared} {g : View} (W : Wok C) (H : Env1 C) (S : St C.h₀ C.fs C.o C.env σ s g μ) (hm : C.mg x = none) (hb : C.mb x = some (.type T)) (hx : C.env.kindOf x = some .globalImplicit)
    (h : EVs C es σ μ fun ds μ₂ => ∀ s' g' vs, St C.h₀ C.fs C.o C.env σ s' g' μ₂ → (∀ b y, g b = some y → g' b = some y) → RepL g' vs ds → wpAny (model C.prog C.w) C.A (call (.type T) vs) P C.E s')
    (hdb : (x == ("__debug__" : Str)) = false := by decide)
    (hne : ∃ e r, es = e :: r ∧ starEach (e :: r) C.env = (false, eval e C.env) :: starEach r C.env ∧ (backTo pos (starEach r C.env)).any (·.1) = false := by exact ⟨_, _, rfl, rfl, rfl⟩) (hw : ∀ f, callWith pos f [] (backTo pos (starEach es C.env)) (backToKw pos (keywordEach [] C.env)) = callWith pos f [] (backTo pos (starEach es C.env)) [] := by intro _; rfl) :
    wpAny (model C.prog C.w) C.A (eval (.Call (.Name x np) es [] pos) C.env) P C.E s := by
  have kk : ∀ b o, C.h₀.get? b = some o → s.heap.get? b = some o := fun b o e => S.b.v b o (S.b.w b o e)
  refine wpAny_Call_ofName (Name_function_global S.f.kind hx (loadGlobal_builtin (by rw [H.gl]; exact W.g.keeps kk) hm (by rw [H.bl]; exact W.b.keeps kk) hb ?_) hdb)
  rw [hw]
  obtain ⟨e, r, rfl, he, ha⟩ := hne
  refine callWith_type1 (wpAny_mono (h s g pos S) ?_ fun _ _ e => e) he ha
  rintro vs s2 ⟨ds, g2, μ2, k2, S2, R2, hf⟩
  exact hf s2 g2 vs S2 k2 R2

/-- over a list that stays as it is -/
theorem src_list {x : Str} {px : Pos} {e : Expr} {K : Nat → (Nat → Sg → Sg) → Mu → Prop} (hh : C.A.handled = none) {ok : Env → Prop} (hok : ∀ env₂, ok env₂ → env₂.kindOf x = some .local)
    (h : EV C e σ μ fun d μ₁ => ∃ xs, d = .list xs ∧ K xs.length (fun i σ => (x, xs.getD i .none) :: σ) μ₁) : SRC C ok (.Name x px) e σ μ K := by
  intro s g S
  refine wpAny_mono (h s g S) ?_ fun _ _ e => e
  rintro v s1 ⟨d, g1, μ1, k1, S1, R1, xs, rfl, q⟩
  obtain ⟨a, o, n, vs, rfl, h1, h2, h3, RL⟩ := R1.list_inv
  have hl : s1.heap.IsList a vs.toArray := ⟨o, S1.b.v a o h1, h2, n, h3⟩
  refine wpAny_pyIter_list hl ?_
  have kp : ∀ b o, s1.heap.get? b = some o → (s1.heap.push { cls := .type "list_iterator", data := .fields #[.ref a, .int 0 0] }).get? b = some o := fun b o e => Heap.get?_push_of_some _ e
  have hne : a ≠ s1.heap.objs.size := Nat.ne_of_lt (Heap.lt_size (S1.b.v a o h1))
  have O : Off C.o C.env C.fs g1 μ1 [s1.heap.objs.size] := Off.fresh S1 fun b hb => by rw [List.mem_singleton.mp hb]; exact fresh_size _
  refine ⟨s1.heap.objs.size, xs.length, [s1.heap.objs.size], (fun i h => h.IsListIter s1.heap.objs.size a i ∧ h.IsList a vs.toArray), _, g1, μ1, rfl, k1, S1.keeps (tk := s1.toks) kp, O, ⟨⟨_, Heap.get?_push_size _ rfl, rfl, rfl⟩, hl.at (kp a)⟩, fun env₂ hc => ?_, q⟩
  have W := Walks.list (prog := C.prog) (w := C.w) hh s1.heap.objs.size a hne vs.toArray
  rw [show vs.toArray.size = xs.length by simp [RL.1]] at W
  refine IterOk.ofWalks W (fun b hb => hb) (fun b hb => ?_) (fun i h hst b hb => ?_) (.inl (hok _ hc)) fun i v hi hP => ?_
  · rcases List.mem_cons.mp hb with rfl | hb
    · exact .inl (List.mem_cons_self)
    · rw [List.mem_singleton.mp hb]; exact .inr ⟨_, h1⟩
  · rw [List.mem_singleton.mp hb]
    obtain ⟨⟨o, e, _⟩, _⟩ := hst
    exact ⟨o, e⟩
  · have hP' : vs[i]? = some v := by simpa using hP
    have : xs[i]? = some (xs.getD i .none) := by simp [hi]
    exact RL.2 i v _ hP' this

theorem small_ok {a b : Int} (ha : -(2 ^ 62) ≤ a) (ha' : a < 2 ^ 62) (hb : -(2 ^ 62) ≤ b) (hb' : b < 2 ^ 62) : Builtin.Range.small a b 1 = true := small_one ha ha' hb hb'
theorem rangeSize_neg (a b : Int) : Builtin.Range.rangeSize a b (-1) = if b < a then a - b else 0 := by
  unfold Builtin.Range.rangeSize
  simp only [show ¬ (-1 : Int) > 0 by decide, if_false]
  split
  · simp only [Int.neg_neg, Int.ediv_one]; omega
  · rfl
theorem small_neg {a b : Int} (ha : -(2 ^ 62) ≤ a) (ha' : a < 2 ^ 62) (hb : -(2 ^ 62) ≤ b) (hb' : b < 2 ^ 62) : Builtin.Range.small a b (-1) = true := by
  unfold Builtin.Range.small
  rw [rangeSize_neg]
  simp only [Builtin.Range.rangeFitsLong, Bool.and_eq_true, Bool.or_eq_true, decide_eq_true_eq, beq_iff_eq, show ¬ (-1 : Int) > 0 by decide, if_false]
  split <;> omega

theorem src_rangeCore {x : Str} {px : Pos} {K : Nat → (Nat → Sg → Sg) → Mu → Prop} (hh : C.A.handled = none) {ok : Env → Prop} (hok : ∀ env₂, ok env₂ → Sto env₂ x) {s2 : Shared} {g g2 : View} {μ₂ : Mu} {a b c : Int} {t u v : Tok} {r : Addr}
    (S2 : St C.h₀ C.fs C.o C.env σ s2 g2 μ₂) (k2 : ∀ b x, g b = some x → g2 b = some x) (hr : IsRange s2.heap r a b c t u v) (hsm : Builtin.Range.small a b c = true) (hpos : 0 ≤ Builtin.Range.rangeSize a b c)
    (q : K (Builtin.Range.rangeSize a b c).toNat (fun i σ => (x, .int (a + i * c)) :: σ) μ₂) :
    wpAny (model C.prog C.w) C.A (pyIter (.ref r)) (fun v s₂ => ∃ I n wr Sw asg g' μ', v = .ref I ∧ (∀ b x, g b = some x → g' b = some x) ∧ St C.h₀ C.fs C.o C.env σ s₂ g' μ' ∧ Off C.o C.env C.fs g' μ' wr ∧ Sw 0 s₂.heap ∧ (∀ env₂, ok env₂ → IterOk C.prog C.w C.h₀ C.fs C.A env₂ (.Name x px) I n wr Sw asg g') ∧ K n asg μ') C.E s2 := by
  refine wpAny_pyIter_range hr hsm ?_
  have kp : ∀ b' o, s2.heap.get? b' = some o → (s2.heap.push { cls := .type "range_iterator", data := .fields #[rawInt a, rawInt (Builtin.Range.rangeSize a b c), rawInt c] }).get? b' = some o := fun b o e => Heap.get?_push_of_some _ e
  have O : Off C.o C.env C.fs g2 μ₂ [s2.heap.objs.size] := Off.fresh S2 fun b hb => by rw [List.mem_singleton.mp hb]; exact fresh_size _
  have W := Walks.range (prog := C.prog) (w := C.w) hh s2.heap.objs.size a c (Builtin.Range.rangeSize a b c).toNat
  have hit : IsRangeIter (s2.heap.push { cls := .type "range_iterator", data := .fields #[rawInt a, rawInt (Builtin.Range.rangeSize a b c), rawInt c] }) s2.heap.objs.size (a + (0 : Nat) * c) (((Builtin.Range.rangeSize a b c).toNat : Int) - (0 : Nat)) c := by
    have e1 : a + ((0 : Nat) : Int) * c = a := by simp
    have e2 : ((Builtin.Range.rangeSize a b c).toNat : Int) - ((0 : Nat) : Int) = Builtin.Range.rangeSize a b c := by omega
    rw [e1, e2]; exact Heap.get?_push_size _ rfl
  refine ⟨s2.heap.objs.size, _, [s2.heap.objs.size], (fun i h => IsRangeIter h s2.heap.objs.size (a + (i : Nat) * c) (((Builtin.Range.rangeSize a b c).toNat : Int) - (i : Nat)) c), _, g2, μ₂, rfl, k2, S2.keeps (tk := s2.toks) kp, O, hit, fun env₂ hc => ?_, q⟩
  refine IterOk.ofWalks W (fun b hb => hb) (fun b hb => .inl hb) (fun i h hst b hb => ?_) (hok _ hc) fun i v hi hP => ?_
  · rw [List.mem_singleton.mp hb]; exact ⟨_, hst⟩
  · obtain ⟨t, rfl⟩ := hP; exact .int _ _

theorem src_range1S {x : Str} {px np pos : Pos} {e : Expr} {K : Nat → (Nat → Sg → Sg) → Mu → Prop} (W : Wok C) (H : Env1 C) (hh : C.A.handled = none) {ok : Env → Prop} (hok : ∀ env₂, ok env₂ → Sto env₂ x)
    (hm : C.mg "range" = none) (hb : C.mb "range" = some (.type "range")) (hx : C.env.kindOf "range" = some .globalImplicit)
    (h : EV C e σ μ fun d μ₁ => ∃ n : Nat, d = .int n ∧ n < 2 ^ 60 ∧ K n (fun i σ => (x, .int (i : Nat)) :: σ) μ₁)
    (he : starEach [e] C.env = [(false, eval e C.env)] := by rfl) : SRC C ok (.Name x px) (.Call (.Name "range" np) [e] [] pos) σ μ K := by
  intro s g S
  refine type_call W H S hm hb hx (evs_cons (h.mono fun d μ₁ hq => evs_nil ?_) he) (by decide) ⟨_, _, rfl, he, rfl⟩ (fun _ => rfl)
  obtain ⟨n, rfl, hn, q⟩ := hq
  intro s' g' vs S' kg R
  obtain ⟨v, rfl⟩ : ∃ v, vs = [v] := List.length_eq_one_iff.mp R.1
  obtain ⟨t, rfl⟩ := R.head.int_inv
  refine call_range_1 ?_
  refine src_rangeCore hh hok (S'.keeps fun b o e => Heap.get?_push_of_some _ e) kg (IsRange.new ..) (small_one (by omega) (by omega) (by omega) (by omega)) (by rw [rangeSize_one]; split <;> omega) ?_
  have e1 : (Builtin.Range.rangeSize 0 (n : Int) 1).toNat = n := by rw [rangeSize_one]; split <;> omega
  rw [e1]
  simpa using q
theorem src_range1 {x : Str} {px np pos : Pos} {e : Expr} {K : Nat → (Nat → Sg → Sg) → Mu → Prop} (W : Wok C) (H : Env1 C) (hh : C.A.handled = none) {ok : Env → Prop} (hok : ∀ env₂, ok env₂ → env₂.kindOf x = some .local)
    (hm : C.mg "range" = none) (hb : C.mb "range" = some (.type "range")) (hx : C.env.kindOf "range" = some .globalImplicit)
    (h : EV C e σ μ fun d μ₁ => ∃ n : Nat, d = .int n ∧ n < 2 ^ 60 ∧ K n (fun i σ => (x, .int (i : Nat)) :: σ) μ₁)
    (he : starEach [e] C.env = [(false, eval e C.env)] := by rfl) : SRC C ok (.Name x px) (.Call (.Name "range" np) [e] [] pos) σ μ K :=
  src_range1S W H hh (fun e h => .inl (hok e h)) hm hb hx h he
theorem src_range2 {x : Str} {px np pos : Pos} {e f : Expr} {K : Nat → (Nat → Sg → Sg) → Mu → Prop} (W : Wok C) (H : Env1 C) (hh : C.A.handled = none) {ok : Env → Prop} (hok : ∀ env₂, ok env₂ → env₂.kindOf x = some .local)
    (hm : C.mg "range" = none) (hb : C.mb "range" = some (.type "range")) (hx : C.env.kindOf "range" = some .globalImplicit)
    (h : EV C e σ μ fun d μ₁ => EV C f σ μ₁ fun d' μ₂ => ∃ a n : Nat, d = .int a ∧ d' = .int n ∧ a < 2 ^ 60 ∧ n < 2 ^ 60 ∧ K (n - a) (fun i σ => (x, .int ((a + i : Nat) : Int)) :: σ) μ₂)
    (he : starEach [e, f] C.env = [(false, eval e C.env), (false, eval f C.env)] := by rfl) (hf : starEach [f] C.env = [(false, eval f C.env)] := by rfl) : SRC C ok (.Name x px) (.Call (.Name "range" np) [e, f] [] pos) σ μ K := by
  intro s g S
  refine type_call W H S hm hb hx (evs_cons (h.mono fun d μ₁ hq => evs_cons (hq.mono fun d' μ₂ hq' => evs_nil ?_) hf) (by rw [he, hf])) (by decide) ⟨_, _, rfl, by rw [he, hf], by rw [hf]; rfl⟩ (fun _ => rfl)
  obtain ⟨a, n, rfl, rfl, ha, hn, q⟩ := hq'
  intro s' g' vs S' kg R
  obtain ⟨v, vs, rfl⟩ : ∃ v r, vs = v :: r := List.exists_cons_of_length_eq_add_one R.1
  obtain ⟨v', rfl⟩ : ∃ v, vs = [v] := List.length_eq_one_iff.mp R.tail.1
  obtain ⟨t, rfl⟩ := R.head.int_inv
  obtain ⟨u, rfl⟩ := R.tail.head.int_inv
  refine call_range_2 ?_
  refine src_rangeCore hh (fun e h => .inl (hok e h)) (S'.keeps fun b o e => Heap.get?_push_of_some _ e) kg (IsRange.new ..) (small_one (by omega) (by omega) (by omega) (by omega)) (by rw [rangeSize_one]; split <;> omega) ?_
  have e1 : (Builtin.Range.rangeSize (a : Int) (n : Int) 1).toNat = n - a := by rw [rangeSize_one]; split <;> omega
  rw [e1]
  simpa using q
/-- range(a, -1, -1) -/
theorem src_rangeDown {x : Str} {px np pos : Pos} {e f k : Expr} {K : Nat → (Nat → Sg → Sg) → Mu → Prop} (W : Wok C) (H : Env1 C) (hh : C.A.handled = none) {ok : Env → Prop} (hok : ∀ env₂, ok env₂ → env₂.kindOf x = some .local)
    (hm : C.mg "range" = none) (hb : C.mb "range" = some (.type "range")) (hx : C.env.kindOf "range" = some .globalImplicit)
    (h : EV C e σ μ fun d μ₁ => EV C f σ μ₁ fun d' μ₂ => EV C k σ μ₂ fun d'' μ₃ => ∃ n : Nat, d = .int ((n : Int) - 1) ∧ d' = .int (-1) ∧ d'' = .int (-1) ∧ n < 2 ^ 60 ∧ K n (fun i σ => (x, .int ((n : Int) - 1 - i)) :: σ) μ₃)
    (he : starEach [e, f, k] C.env = [(false, eval e C.env), (false, eval f C.env), (false, eval k C.env)] := by rfl) (hf : starEach [f, k] C.env = [(false, eval f C.env), (false, eval k C.env)] := by rfl) (hk : starEach [k] C.env = [(false, eval k C.env)] := by rfl) : SRC C ok (.Name x px) (.Call (.Name "range" np) [e, f, k] [] pos) σ μ K := by
  intro s g S
  refine type_call W H S hm hb hx (evs_cons (h.mono fun d μ₁ hq => evs_cons (hq.mono fun d' μ₂ hq' => evs_cons (hq'.mono fun d'' μ₃ hq'' => evs_nil ?_) hk) (by rw [hf, hk])) (by rw [he, hf])) (by decide) ⟨_, _, rfl, by rw [he, hf], by rw [hf]; rfl⟩ (fun _ => rfl)
  obtain ⟨n, rfl, rfl, rfl, hn, q⟩ := hq''
  intro s' g' vs S' kg R
  obtain ⟨v, vs, rfl⟩ : ∃ v r, vs = v :: r := List.exists_cons_of_length_eq_add_one R.1
  obtain ⟨v', vs, rfl⟩ : ∃ v r, vs = v :: r := List.exists_cons_of_length_eq_add_one R.tail.1
  obtain ⟨v'', rfl⟩ : ∃ v, vs = [v] := List.length_eq_one_iff.mp R.tail.tail.1
  obtain ⟨t, rfl⟩ := R.head.int_inv
  obtain ⟨u, rfl⟩ := R.tail.head.int_inv
  obtain ⟨u', rfl⟩ := R.tail.tail.head.int_inv
  refine call_range_3 (by decide) ?_ (Or.inl (PyProof.noPylong_of_log2 (by decide +kernel)))
  refine src_rangeCore hh (fun e h => .inl (hok e h)) (S'.keeps fun b o e => Heap.get?_push_of_some _ e) kg (IsRange.new ..) (small_neg (by omega) (by omega) (by omega) (by omega)) (by rw [rangeSize_neg]; split <;> omega) ?_
  have e1 : (Builtin.Range.rangeSize ((n : Int) - 1) (-1) (-1)).toNat = n := by rw [rangeSize_neg]; split <;> omega
  rw [e1]
  have e2 : (fun (i : Nat) (σ : Sg) => (x, D.int ((n : Int) - 1 + (i : Int) * -1)) :: σ) = fun i σ => (x, .int ((n : Int) - 1 - i)) :: σ := by
    funext i σ
    rw [show (n : Int) - 1 + (i : Int) * -1 = (n : Int) - 1 - i by omega]
  rw [e2]; exact q

theorem ne_size {h : Heap} {a : Addr} {o : Obj} (e : h.get? a = some o) (k : Nat) : a ≠ h.objs.size + k := Nat.ne_of_lt (Nat.lt_of_lt_of_le (Heap.lt_size e) (Nat.le_add_right _ k))

theorem fresh_ge {h : Heap} {a : Addr} (ha : h.objs.size ≤ a) : h.get? a = none := by
  cases e : h.get? a with
  | none => rfl
  | some o => exact absurd (Heap.lt_size e) (Nat.not_lt.mpr ha)

theorem natNe {a b : Addr} (h : ¬ (Nat.beq a b = true)) : a ≠ b := fun q => h (q ▸ Nat.beq_refl a)

theorem src_enumS {x y : Str} {px py tp np pos : Pos} {kk : Nat} {e : Expr} {K : Nat → (Nat → Sg → Sg) → Mu → Prop} (W : Wok C) (H : Env1 C) (hh : C.A.handled = none) {ok : Env → Prop} (hok : ∀ env₂, ok env₂ → Sto env₂ x ∧ Sto env₂ y)
    (hm : C.mg "enumerate" = none) (hb : C.mb "enumerate" = some (.type "enumerate")) (hx : C.env.kindOf "enumerate" = some .globalImplicit)
    (h : EV C e σ μ fun d μ₁ => ∃ xs, d = .list xs ∧ K xs.length (fun i σ => (y, xs.getD i .none) :: (x, .int (i : Nat)) :: σ) μ₁)
    (he : starEach [e] C.env = [(false, eval e C.env)] := by rfl) : SRC C ok (.Tuple [.Name x px, .Name y py] kk tp) (.Call (.Name "enumerate" np) [e] [] pos) σ μ K := by
  intro s g S
  refine type_call W H S hm hb hx (evs_cons (h.mono fun d μ₁ hq => evs_nil ?_) he) (by decide) ⟨_, _, rfl, he, rfl⟩ (fun _ => rfl)
  obtain ⟨xs, rfl, q⟩ := hq
  intro s1 g1 vs S1 kg R
  obtain ⟨v, rfl⟩ : ∃ v, vs = [v] := List.length_eq_one_iff.mp R.1
  obtain ⟨a, o, n, vs, rfl, h1, h2, h3, RL⟩ := R.head.list_inv
  have ho := S1.b.v a o h1
  have hl : s1.heap.IsList a vs.toArray := ⟨o, ho, h2, n, h3⟩
  refine call_enumerate_list hl fun h' he' hit hsz kp => wpAny_pyIter_enum he' ?_
  have O : Off C.o C.env C.fs g1 μ₁ [s1.heap.objs.size + 1, s1.heap.objs.size] := Off.fresh S1 fun b hb => fresh_ge (by simp at hb; rcases hb with rfl | rfl; exact Nat.le_succ _; exact Nat.le_refl _)
  refine ⟨s1.heap.objs.size + 1, xs.length, [s1.heap.objs.size + 1, s1.heap.objs.size], (fun i h => (∃ old, IsEnum h (s1.heap.objs.size + 1) s1.heap.objs.size i old) ∧ h.IsListIter s1.heap.objs.size a i ∧ h.IsList a vs.toArray), _, g1, μ₁, rfl, kg, S1.keeps (tk := s1.toks) kp, O, ⟨⟨_, he'⟩, hit, hl.at (kp a)⟩, fun env₂ hc => ?_, q⟩
  have Wt := WalksT.enumerate (prog := C.prog) (w := C.w) hh (s1.heap.objs.size + 1) s1.heap.objs.size a (Nat.succ_ne_self _) (ne_size ho 1) (ne_size ho 0) vs.toArray
  rw [show vs.toArray.size = xs.length by simp [RL.1]] at Wt
  refine IterOk.ofWalksT hh Wt (fun b hb => hb) (fun b hb => ?_) (fun i h hst b hb => ?_) (hok _ hc).1 (hok _ hc).2 fun i vals hi hP => ?_
  · simp at hb
    rcases hb with rfl | rfl | rfl
    · exact .inl (by simp)
    · exact .inl (by simp)
    · exact .inr ⟨_, h1⟩
  · simp at hb
    obtain ⟨⟨old, e1⟩, ⟨o, e2, _⟩, _⟩ := hst
    rcases hb with rfl | rfl
    · exact ⟨_, e1⟩
    · exact ⟨_, e2⟩
  · obtain ⟨t, v, hv, rfl⟩ := hP
    have hP' : vs[i]? = some v := by simpa using hv
    have : xs[i]? = some (xs.getD i .none) := by simp [hi]
    exact ⟨_, _, rfl, .int _ _, RL.2 i v _ hP' this⟩

theorem src_enum {x y : Str} {px py tp np pos : Pos} {kk : Nat} {e : Expr} {K : Nat → (Nat → Sg → Sg) → Mu → Prop} (W : Wok C) (H : Env1 C) (hh : C.A.handled = none) {ok : Env → Prop} (hok : ∀ env₂, ok env₂ → env₂.kindOf x = some .local ∧ env₂.kindOf y = some .local)
    (hm : C.mg "enumerate" = none) (hb : C.mb "enumerate" = some (.type "enumerate")) (hx : C.env.kindOf "enumerate" = some .globalImplicit)
    (h : EV C e σ μ fun d μ₁ => ∃ xs, d = .list xs ∧ K xs.length (fun i σ => (y, xs.getD i .none) :: (x, .int (i : Nat)) :: σ) μ₁)
    (he : starEach [e] C.env = [(false, eval e C.env)] := by rfl) : SRC C ok (.Tuple [.Name x px, .Name y py] kk tp) (.Call (.Name "enumerate" np) [e] [] pos) σ μ K :=
  src_enumS W H hh (fun e h => ⟨.inl (hok e h).1, .inl (hok e h).2⟩) hm hb hx h he
theorem src_zip {x y : Str} {px py tp np pos : Pos} {kk : Nat} {e f : Expr} {K : Nat → (Nat → Sg → Sg) → Mu → Prop} (W : Wok C) (H : Env1 C) (hh : C.A.handled = none) {ok : Env → Prop} (hok : ∀ env₂, ok env₂ → env₂.kindOf x = some .local ∧ env₂.kindOf y = some .local)
    (hm : C.mg "zip" = none) (hb : C.mb "zip" = some (.type "zip")) (hx : C.env.kindOf "zip" = some .globalImplicit)
    (h : EV C e σ μ fun d μ₁ => EV C f σ μ₁ fun d' μ₂ => ∃ xs ys, d = .list xs ∧ d' = .list ys ∧ K (min xs.length ys.length) (fun i σ => (y, ys.getD i .none) :: (x, xs.getD i .none) :: σ) μ₂)
    (he : starEach [e, f] C.env = [(false, eval e C.env), (false, eval f C.env)] := by rfl) (hf : starEach [f] C.env = [(false, eval f C.env)] := by rfl) : SRC C ok (.Tuple [.Name x px, .Name y py] kk tp) (.Call (.Name "zip" np) [e, f] [] pos) σ μ K := by
  intro s g S
  refine type_call W H S hm hb hx (evs_cons (h.mono fun d μ₁ hq => evs_cons (hq.mono fun d' μ₂ hq' => evs_nil ?_) hf) (by rw [he, hf])) (by decide) ⟨_, _, rfl, by rw [he, hf], by rw [hf]; rfl⟩ (fun _ => rfl)
  obtain ⟨xs, ys, rfl, rfl, q⟩ := hq'
  intro s1 g1 vs S1 kg R
  obtain ⟨v, vs, rfl⟩ : ∃ v r, vs = v :: r := List.exists_cons_of_length_eq_add_one R.1
  obtain ⟨v', rfl⟩ : ∃ v, vs = [v] := List.length_eq_one_iff.mp R.tail.1
  obtain ⟨a, o, n, vs, rfl, h1, h2, h3, RL⟩ := R.head.list_inv
  obtain ⟨a', o', n', vs', rfl, h1', h2', h3', RL'⟩ := R.tail.head.list_inv
  have ho := S1.b.v a o h1
  have ho' := S1.b.v a' o' h1'
  have hl : s1.heap.IsList a vs.toArray := ⟨o, ho, h2, n, h3⟩
  have hl' : s1.heap.IsList a' vs'.toArray := ⟨o', ho', h2', n', h3'⟩
  refine call_zip_2 hl hl' fun h' hz hTI hTO hi1 hi2 hsz kp => wpAny_pyIter_zip hz ?_
  generalize hN : s1.heap.objs.size = N at *
  have O : Off C.o C.env C.fs g1 μ₂ [N + 4, N + 2, N + 3, N, N + 1] := Off.fresh S1 fun b hb => fresh_ge (by rw [hN]; simp at hb; rcases hb with rfl | rfl | rfl | rfl | rfl <;> first | exact Nat.le_add_right _ _ | exact Nat.le_refl _)
  refine ⟨N + 4, min xs.length ys.length, [N + 4, N + 2, N + 3, N, N + 1], (fun i h => IsZip h (N + 4) (N + 2) (N + 3) .none ∧ IsPair h (N + 2) (.ref N) (.ref (N + 1)) ∧ (∃ a b, IsPair h (N + 3) a b) ∧ h.IsListIter N a i ∧ h.IsListIter (N + 1) a' i ∧ h.IsList a vs.toArray ∧ h.IsList a' vs'.toArray), _, g1, μ₂, rfl, kg, S1.keeps (tk := s1.toks) kp, O, ⟨hz, hTI, ⟨_, _, hTO⟩, hi1, hi2, hl.at (kp a), hl'.at (kp a')⟩, fun env₂ hc => ?_, q⟩
  have la : (a : Nat) < N := hN ▸ Heap.lt_size ho
  have la' : (a' : Nat) < N := hN ▸ Heap.lt_size ho'
  have Wt := WalksT.zip2 (prog := C.prog) (w := C.w) hh (N + 4) (N + 2) (N + 3) N (N + 1) a a' ⟨(show (N + 2 ≠ N + 4) from by omega), (show (N + 3 ≠ N + 4) from by omega), (show (N ≠ N + 4) from by omega), (show (N + 1 ≠ N + 4) from by omega), (show (N + 2 ≠ N + 3) from by omega), (show (N + 2 ≠ N) from by omega), (show (N + 2 ≠ N + 1) from by omega), (show (N + 3 ≠ N) from by omega), (show (N + 3 ≠ N + 1) from by omega), (show (N ≠ N + 1) from by omega), (Nat.ne_of_lt (Nat.lt_of_lt_of_le la (Nat.le_add_right _ _))), (Nat.ne_of_lt (Nat.lt_of_lt_of_le la (Nat.le_add_right _ _))), (Nat.ne_of_lt la), (Nat.ne_of_lt (Nat.lt_of_lt_of_le la (Nat.le_add_right _ _))), (Nat.ne_of_lt (Nat.lt_of_lt_of_le la' (Nat.le_add_right _ _))), (Nat.ne_of_lt (Nat.lt_of_lt_of_le la' (Nat.le_add_right _ _))), (Nat.ne_of_lt la'), (Nat.ne_of_lt (Nat.lt_of_lt_of_le la' (Nat.le_add_right _ _)))⟩ vs.toArray vs'.toArray
  rw [show vs.toArray.size = xs.length by simp [RL.1], show vs'.toArray.size = ys.length by simp [RL'.1]] at Wt
  refine IterOk.ofWalksT hh Wt (fun b hb => by simp at hb ⊢; rcases hb with rfl | rfl | rfl | rfl <;> simp) (fun b hb => ?_) (fun i h hst b hb => ?_) (.inl (hok _ hc).1) (.inl (hok _ hc).2) fun i vals hi hP => ?_
  · simp at hb
    rcases hb with rfl | rfl | rfl | rfl | rfl | rfl | rfl
    · exact .inl (by simp)
    · exact .inl (by simp)
    · exact .inl (by simp)
    · exact .inl (by simp)
    · exact .inl (by simp)
    · exact .inr ⟨_, h1⟩
    · exact .inr ⟨_, h1'⟩
  · simp at hb
    obtain ⟨e1, e2, ⟨_, _, e3⟩, ⟨_, e4, _⟩, ⟨_, e5, _⟩, _⟩ := hst
    rcases hb with rfl | rfl | rfl | rfl | rfl
    · exact ⟨_, e1⟩
    · exact ⟨_, e2⟩
    · exact ⟨_, e3⟩
    · exact ⟨_, e4⟩
    · exact ⟨_, e5⟩
  · obtain ⟨v, v', hv, hv', rfl⟩ := hP
    have q1 : vs[i]? = some v := by simpa using hv
    have q2 : vs'[i]? = some v' := by simpa using hv'
    have i1 : i < xs.length := by omega
    have i2 : i < ys.length := by omega
    exact ⟨_, _, rfl, RL.2 i v _ q1 (by simp [i1]), RL'.2 i v' _ q2 (by simp [i2])⟩
end

end Mine

namespace Mine

/-- tests of a comprehension -/
noncomputable def TSL (C : Cx) (ifs : List Expr) (σ : Sg) (μ : Mu) (Q : Bool → Mu → Prop) : Prop :=
  ∀ s g, St C.h₀ C.fs C.o C.env σ s g μ → wpAny (model C.prog C.w) C.A (forIn ifs true fun c r => if r = true then do let ok ← isTrue c C.env (eval c C.env); pure (ForInStep.yield ok) else pure (ForInStep.yield r))
    (fun b s' => ∃ g' μ', (∀ b x, g b = some x → g' b = some x) ∧ St C.h₀ C.fs C.o C.env σ s' g' μ' ∧ Q b μ') C.E s
theorem tsl_nil {C : Cx} {σ : Sg} {μ : Mu} {Q : Bool → Mu → Prop} (q : Q true μ) : TSL C [] σ μ Q := fun s g S => wpAny_tests_nil ⟨g, μ, fun _ _ e => e, S, q⟩
theorem tsl_one {C : Cx} {σ : Sg} {μ : Mu} {Q : Bool → Mu → Prop} {t : Expr} (h : TS C t σ μ Q) : TSL C [t] σ μ Q := fun s g S => wpAny_tests_one (h s g S)

theorem codeAny_compLoop_own {prog : Program} {w : World} {A : Around} {R : Result → Shared → Prop} {s : Shared} {elt target iter : Expr} {ifs : List Expr} {scope : Scope} {pos : Pos} {it acc : Value} {env : Env} (I : Nat → Shared → Prop)
    (turn : ∀ n s, I n s → wpAny (model prog w) A (pyNext it) (fun r s₁ => match r with
      | none => R (.ok .next) s₁
      | some v => wpAny (model prog w) A (letOwnedTupleGo target it v) (fun _ s₁' => wpAny (model prog w) A (assign target env v) (fun _ s₂ =>
          wpAny (model prog w) A (forIn ifs true fun c r => if r = true then do let ok ← isTrue c env (eval c env); pure (ForInStep.yield ok) else pure (ForInStep.yield r)) (fun ok s₃ =>
            if ok = true then wpAny (model prog w) A (eval elt env) (fun x s₄ => wpAny (model prog w) A (call (.builtin "list.append") [acc, x]) (fun _ s₅ => ∃ m, m < n ∧ I m s₅) (fun _ _ => False) s₄) (fun _ _ => False) s₃
            else ∃ m, m < n ∧ I m s₃) (fun _ _ => False) s₂) (fun _ _ => False) s₁') (fun _ _ => False) s₁) (fun _ _ => False) s)
    (n : Nat) (h : I n s) : codeAny (model prog w) A (.compLoop (.ListComp elt [⟨target, iter, ifs, 0⟩] scope pos) 0 it acc env) R s := by
  refine codeAny_loop rfl I (fun n s hI => ?_) n h
  show wpAny _ A ((compTurn (.ListComp elt [⟨target, iter, ifs, 0⟩] scope pos) 0 it acc env).onRaise (fun x => do noteFrame x env; theTreesLotGoes x)) _ _ s
  refine wpAny_noted (wpAny_mono ?_ (fun _ _ x => x) fun _ _ (x : False) => x.elim)
  rw [compTurn_list]
  refine wpAny_bind (wpAny_standAt (wpAny_bind (wpAny_mono (turn n s hI) (fun r s₁ h₁ => ?_) fun _ _ e => e)))
  cases r with
  | none => exact wpAny_pure h₁
  | some v =>
    refine wpAny_bind (wpAny_mono h₁ (fun _ s₁' h₁' => wpAny_bind (wpAny_mono h₁' (fun _ s₂ h₂ => wpAny_bind (wpAny_mono h₂ (fun ok s₃ h₃ => ?_) fun _ _ e => e)) fun _ _ e => e)) fun _ _ e => e)
    cases ok with
    | false => exact wpAny_pure ⟨rfl, h₃⟩
    | true => exact wpAny_bind (wpAny_bind (wpAny_mono h₃ (fun x s₄ h₄ => wpAny_bind (wpAny_mono h₄ (fun _ s₅ h₅ => wpAny_pure (wpAny_pure ⟨rfl, h₅⟩)) fun _ _ e => e)) fun _ _ e => e))

theorem hideAll_get_inv : ∀ (l : List Addr) {h : Heap} {b : Addr}, (hideAll h l).get? b = none → h.get? b = none ∨ b ∈ l
  | [], _, _, e => .inl e
  | a :: r, h, b, e => by
    by_cases hb : b ∈ a :: r
    · exact .inr hb
    · left
      cases q : h.get? b with
      | none => rfl
      | some o => rw [hideAll_get (a :: r) q hb] at e; cases e

/-- back from work that held some addresses as its own -/
theorem St.hidden {h₀ : Heap} {fs : List Env} {o : Org} {env : Env} {σ : Sg} {s s' : Shared} {g g' : View} {μ μ' : Mu} {wr X : List Addr} (S : St h₀ fs o env σ s g μ) (O : Off o env fs g μ wr) (hX : ∀ b ∈ X, o.s.heap.get? b = none ∧ b ∉ priv env)
    (y : Step X { s with heap := hideAll s.heap wr } g μ s' g' μ') (B : Base h₀ fs s' g' μ') : St h₀ fs o env σ s' g' μ' := by
  have kp : ∀ p ∈ priv env, ∀ x, s.heap.get? p = some x → s'.heap.get? p = some x := fun p hp x e =>
    y.keep p x (S.f.off p hp).2.1 (fun h => (hX p h).2 hp) (hideAll_get wr e fun h => (O p h).2.2.2.1 hp)
  have ex : ∀ p ∈ priv env, ∃ x, (hideAll s.heap wr).get? p = some x := fun p hp => let ⟨x, e⟩ := (S.f.off p hp).2.2; ⟨x, hideAll_get wr e fun h => (O p h).2.2.2.1 hp⟩
  have ko : ∀ b x, o.s.heap.get? b = some x → ∀ z, s.heap.get? b = some z → (hideAll s.heap wr).get? b = some z := fun b x e z ez => hideAll_get wr ez fun h => by rw [(O b h).1] at e; cases e
  refine ⟨B, ⟨S.f.kind, ?_, fun x c hc => ?_, S.f.apart, fun p hp => ⟨?_, fun hm => ?_, let ⟨x, e⟩ := (S.f.off p hp).2.2; ⟨x, kp p hp x e⟩⟩, S.f.loc⟩, ⟨?_, fun b x e => ?_, fun b x hb hx e => ?_, fun b x e => y.grow b x (S.st.grow b x e), fun b x e => ?_, fun a ha => ?_⟩⟩
  · obtain ⟨m, hn, hm⟩ := S.f.ns
    refine ⟨m, hn.at' fun o e => kp _ List.mem_cons_self o e, fun x d hd hk => ?_⟩
    obtain ⟨v, e, r⟩ := hm x d hd hk
    exact ⟨v, e, r.mono y.grow⟩
  · obtain ⟨ov, ⟨z, ho, hd⟩, h⟩ := S.f.cell x c hc
    refine ⟨ov, ⟨z, kp c (List.mem_cons_of_mem _ (List.mem_map.mpr ⟨(x, c), mem_of_lookup hc, rfl⟩)) z ho, hd⟩, fun d hd hk => ?_⟩
    obtain ⟨v, e, r⟩ := h d hd hk
    exact ⟨v, e, r.mono y.grow⟩
  · cases e : g' p with
    | none => rfl
    | some z =>
      obtain ⟨z₁, e₁⟩ := ex p hp
      rcases y.new p z e with h | h | h
      · rw [(S.f.off p hp).1] at h; cases h
      · exact absurd h (S.f.off p hp).2.1
      · rw [e₁] at h; cases h
  · obtain ⟨z₁, e₁⟩ := ex p hp
    rcases y.dom p hm with h | h
    · exact (S.f.off p hp).2.1 h
    · rw [e₁] at h; cases h
  · obtain ⟨h1, t1, e1⟩ := S.st.same
    obtain ⟨h2, t2, e2⟩ := y.same
    exact ⟨h2, t2, by rw [e2, e1]⟩
  · obtain ⟨z, ez⟩ := S.st.there b x e
    exact y.there b z (ko b x e z ez)
  · have ez := S.st.keep b x hb hx e
    refine y.keep b x (fun hm => ?_) (fun h => by rw [(hX b h).1] at e; cases e) (ko b x e x ez)
    rcases S.st.dom b hm with h | h
    · exact hb h
    · rw [e] at h; cases h
  · rcases y.new b x e with h | h | h
    · exact S.st.new b x h
    · exact .inr (S.st.dom b h)
    · rcases hideAll_get_inv wr h with h | h
      · exact .inr (.inr (S.st.gone h))
      · exact .inr (.inr (O b h).1)
  · rcases y.dom a ha with h | h
    · exact S.st.dom a h
    · rcases hideAll_get_inv wr h with h | h
      · exact .inr (S.st.gone h)
      · exact .inr (O a h).1

noncomputable def Cx.comp (C : Cx) (scope : Scope) (cl : List (Str × Addr)) (a : Addr) (o : Org) : Cx := { C with env := compEnvC scope cl a C.env, o := o, E := fun _ _ => False }

section
variable {C : Cx} {σ : Sg}

theorem comp_core {elt target iter : Expr} {ifs : List Expr} {scope : Scope} {cl : List (Str × Addr)} {pos : Pos} {s₂ : Shared} {g' : View} {μ' : Mu} {I : Addr} {n : Nat} {wr : List Addr} {Sw : Nat → Heap → Prop} {asg : Nat → Sg → Sg} (τ : Sg) (P : Nat → List D → Mu → Prop)
    {RR : Value → Addr → Result → Shared → Prop}
    (S2 : St C.h₀ C.fs C.o C.env σ s₂ g' μ') (O2 : Off C.o C.env C.fs g' μ' wr) (w2 : Sw 0 s₂.heap)
    (itr : ∀ env₂, env₂.scope = relabel scope C.env → IterOk C.prog C.w C.h₀ C.fs C.A env₂ target I n wr Sw asg g')
    (hτ : Sub σ τ) (hτk : ∀ x d, τ.lookup x = some d → (relabel scope C.env).names.lookup x ≠ some .local)
    (hcl : ∀ p ∈ cl, C.env.cells.lookup p.1 = some p.2 ∧ (C.env.kindOf p.1 = some .cell ∨ C.env.kindOf p.1 = some .free))
    (hcell : ∀ y ∈ scope.names, y.2 ≠ .cell) (hkind : scope.kind = .function) (hn : n ≤ sizeLine)
    (hst : ∀ i, Sub (asg i τ) τ) (h0 : P 0 [] μ') (hlen : ∀ i ys μ, P i ys μ → ys.length ≤ i)
    (turn : ∀ i ys μ D a o, i < n → P i ys μ → D ∉ μ.map (·.1) → TSL (C.comp scope cl a o) ifs (asg i τ) ((D, ys) :: μ) fun b μ₂ => ∃ μ₃, μ₂ = (D, ys) :: μ₃ ∧ (b = false → P (i + 1) ys μ₃) ∧
      (b = true → EV (C.comp scope cl a o) elt (asg i τ) ((D, ys) :: μ₃) fun d μ₄ => ∃ μ₅, μ₄ = (D, ys) :: μ₅ ∧ P (i + 1) (ys ++ [d]) μ₅))
    (fin : ∀ D a ys μ s g m, St C.h₀ C.fs C.o C.env σ s g ((D, ys) :: μ) → P n ys μ → s.heap.Ns a m → Off C.o C.env C.fs g ((D, ys) :: μ) [a] → (∀ b x, g' b = some x → g b = some x) → (∃ h tk, s = { s₂ with heap := h, toks := tk }) → RR (.ref D) a (.ok .next) s) :
    wpAny (model C.prog C.w) C.A (newList []) (fun acc s₃ => wpAny (model C.prog C.w) C.A (newFunctionEnv scope C.env.globals cl [] C.env.qual none .none (some C.env)) (fun cenv s₄ =>
      codeAny (model C.prog C.w) C.A (.compStart (.ListComp elt [⟨target, iter, ifs, 0⟩] scope pos) 0 (.ref I) acc { cenv with scope := relabel scope C.env }) (RR acc cenv.locals) s₄) C.E s₃) C.E s₂ := by
  refine wpAny_newObj_type (wpAny_newFunctionEnv hcell (by intro y hy; simp at hy) (fun h₁ hns₁ hsb₁ => ?_) hkind)
  dsimp only at hns₁ hsb₁ ⊢
  have S3 : St C.h₀ C.fs C.o C.env σ { s₂ with heap := s₂.heap.push { cls := .type "list", dict := none, data := .seq ([] : List Value).toArray } } g' ((s₂.heap.objs.size, []) :: μ') :=
    S2.madeMut (tk := s₂.toks) (fun b o e => Heap.get?_push_of_some _ e) (fresh_size _) ⟨[], ⟨0, Heap.get?_push_size _ rfl⟩, .nil⟩
  have O3 : Off C.o C.env C.fs g' ((s₂.heap.objs.size, []) :: μ') wr := fun b hb => by
    obtain ⟨a1, a2, a3, a4, a5⟩ := O2 b hb
    obtain ⟨x, ex⟩ := (itr { C.env with scope := relabel scope C.env } rfl).alive 0 _ w2 b hb
    refine ⟨a1, a2, fun hm => ?_, a4, a5⟩
    rcases List.mem_cons.mp hm with rfl | hm
    · rw [fresh_size] at ex; cases ex
    · exact a3 hm
  have al3 : ∀ b ∈ wr, ∃ x, (s₂.heap.push { cls := .type "list", dict := none, data := .seq ([] : List Value).toArray }).get? b = some x := fun b hb =>
    let ⟨x, ex⟩ := (itr { C.env with scope := relabel scope C.env } rfl).alive 0 _ w2 b hb; ⟨x, Heap.get?_push_of_some _ ex⟩
  have w3 : Sw 0 (s₂.heap.push { cls := .type "list", dict := none, data := .seq ([] : List Value).toArray }) := (itr { C.env with scope := relabel scope C.env } rfl).frame _ _ _ w2 (fun b hb x e => Heap.get?_push_of_some _ e) fun b x e => ⟨S2.b.v b x e, Heap.get?_push_of_some _ (S2.b.v b x e)⟩
  generalize hH : s₂.heap.push { cls := .type "list", dict := none, data := .seq ([] : List Value).toArray } = H at *
  generalize hD : s₂.heap.objs.size = D at *
  have k4 : ∀ b o, H.get? b = some o → h₁.get? b = some o := fun b o e => (hsb₁.2 b (Nat.ne_of_lt (Heap.lt_size e))).trans (Heap.get?_push_of_some _ e)
  have S4 : St C.h₀ C.fs C.o C.env σ { s₂ with heap := h₁, toks := s₂.toks } g' ((D, []) :: μ') := S3.keeps (tk := s₂.toks) k4
  have hCn : H.get? H.objs.size = none := fresh_size _
  have hCO : Off C.o C.env C.fs g' ((D, []) :: μ') [H.objs.size] := Off.fresh S3 fun b hb => by rw [List.mem_singleton.mp hb]; exact hCn
  have hCwr : H.objs.size ∉ wr := fun hb => by obtain ⟨x, ex⟩ := al3 _ hb; rw [hCn] at ex; cases ex
  have w4 : Sw 0 h₁ := (itr { C.env with scope := relabel scope C.env } rfl).frame _ _ _ w3 (fun b hb x e => k4 b x e) fun b x e => ⟨S3.b.v b x e, S4.b.v b x e⟩
  have W := itr (compEnvC scope cl H.objs.size C.env) rfl
  -- the comprehension's own frame
  let og : Org := ⟨{ s₂ with heap := hideAll h₁ wr }, g', (D, []) :: μ'⟩
  have clp : ∀ p ∈ cl, p.2 ∈ priv C.env := fun p hp => List.mem_cons_of_mem _ (List.mem_map.mpr ⟨(p.1, p.2), mem_of_lookup (hcl p hp).1, rfl⟩)
  have FC : Fram (compEnvC scope cl H.objs.size C.env) τ h₁ g' ((D, []) :: μ') := by
    refine ⟨by show scope.kind = _; exact hkind, ⟨_, hns₁, fun x d hd hk => absurd hk (hτk x d hd)⟩, fun x c hc => ?_, (fun hf => by cases hf), fun p hp => ?_, fun hm => ?_⟩
    · obtain ⟨e1, e2⟩ := hcl (x, c) (mem_of_lookup hc)
      obtain ⟨ov, a1, a2⟩ := S4.f.cell x c e1
      exact ⟨ov, a1, fun d hd _ => a2 d (hτ x d hd) e2⟩
    · rcases List.mem_cons.mp hp with rfl | hp
      · obtain ⟨a1, a2, a3, _⟩ := hCO H.objs.size (by simp)
        obtain ⟨o, _, _, ho, _⟩ := hns₁
        exact ⟨a2, a3, o, ho⟩
      · obtain ⟨q, hq, rfl⟩ := List.mem_map.mp hp
        exact S4.f.off q.2 (clp q hq)
    · obtain ⟨p, hp, e⟩ := List.mem_map.mp hm
      have e : p.2 = H.objs.size := e
      exact (hCO H.objs.size (by simp)).2.2.2.1 (e ▸ clp p hp)
  have stC : Step (wrt (compEnvC scope cl H.objs.size C.env)) og.s og.g og.μ { s₂ with heap := h₁, toks := s₂.toks } g' ((D, []) :: μ') :=
    ⟨⟨h₁, s₂.toks, rfl⟩, fun b o e => ⟨o, of_hideAll wr e⟩, fun b o _ _ e => of_hideAll wr e, fun _ _ e => e, fun _ _ e => .inl e, fun _ h => .inl h⟩
  have SC : St C.h₀ C.fs og (compEnvC scope cl H.objs.size C.env) τ { s₂ with heap := h₁, toks := s₂.toks } g' ((D, []) :: μ') := ⟨S4.b, FC, stC⟩
  have OC : Off og (compEnvC scope cl H.objs.size C.env) C.fs g' ((D, []) :: μ') wr := fun b hb => by
    obtain ⟨a1, a2, a3, a4, a5⟩ := O3 b hb
    refine ⟨hideAll_none wr hb, a2, a3, fun hp => ?_, a5⟩
    rcases List.mem_cons.mp hp with rfl | hp
    · exact hCwr hb
    · obtain ⟨p, hp, e⟩ := List.mem_map.mp hp
      exact a4 (e ▸ clp p hp)
  have loop : ∀ s₃ : Shared, s₃ = { s₂ with heap := h₁, toks := s₂.toks } → codeAny (model C.prog C.w) C.A (.compLoop (.ListComp elt [⟨target, iter, ifs, 0⟩] scope pos) 0 (.ref I) (.ref D) (compEnvC scope cl H.objs.size C.env)) (RR (.ref D) H.objs.size) s₃ := by
    rintro s₃ rfl
    refine codeAny_compLoop_own (fun k s' => ∃ i ys μ g₁, k = n - i ∧ i ≤ n ∧ P i ys μ ∧ (∀ b x, g' b = some x → g₁ b = some x) ∧ St C.h₀ C.fs og (compEnvC scope cl H.objs.size C.env) τ s' g₁ ((D, ys) :: μ) ∧ Off og (compEnvC scope cl H.objs.size C.env) C.fs g₁ ((D, ys) :: μ) wr ∧ Sw i s'.heap) ?_ n
      ⟨0, [], μ', g', rfl, Nat.zero_le _, h0, fun _ _ e => e, SC, OC, w4⟩
    rintro k s' ⟨i, ys, μ, g₁, rfl, hi, hP, kg, S', O', w'⟩
    have hDm : D ∉ μ.map (·.1) := (List.nodup_cons.mp S'.b.nd).1
    by_cases hlt : i < n
    · refine wpAny_mono (W.next i og τ s' g₁ _ _ hlt S' kg O' w') ?_ fun _ _ e => e
      rintro r s1 ⟨v, rfl, h1⟩
      refine wpAny_mono h1 (fun _ s2 h2 => wpAny_mono h2 ?_ fun _ _ e => e) fun _ _ e => e
      rintro _ s3 ⟨g3, k3, S3', O3', w3'⟩
      refine wpAny_mono (turn i ys μ D H.objs.size ⟨s3, g3, (D, ys) :: μ⟩ hlt hP hDm s3 g3 S3'.reorg) ?_ fun _ _ e => e
      rintro b s4 ⟨g4, μ4, k4', S4', μ3, rfl, hf, ht⟩
      have St4 : Step (wrt (compEnvC scope cl H.objs.size C.env)) s3 g3 ((D, ys) :: μ) s4 g4 ((D, ys) :: μ3) := S4'.st
      have keepW : ∀ {s' : Shared} {g₅ : View} {μ₅ : Mu}, Step (wrt (compEnvC scope cl H.objs.size C.env)) s3 g3 ((D, ys) :: μ) s' g₅ μ₅ → ∀ b ∈ wr, ∀ x, s3.heap.get? b = some x → s'.heap.get? b = some x :=
        fun y b hb x e => y.keep b x (O3' b hb).2.2.1 (fun hw => (O3' b hb).2.2.2.1 (wrt_sub hw)) e
      cases b with
      | false =>
        simp only [Bool.false_eq_true, if_false]
        refine ⟨n - (i + 1), by omega, i + 1, ys, μ3, g4, rfl, hlt, hf rfl, fun b x e => S4'.st.grow b x (k3 b x (kg b x e)), (S3'.back S4').sub (hst i), O3'.step S4'.st (W.alive _ _ w3'), ?_⟩
        exact W.frame _ _ _ w3' (keepW St4) fun b x e => ⟨S3'.b.v b x (k3 b x (kg b x e)), S4'.b.v b x (S4'.st.grow b x (k3 b x (kg b x e)))⟩
      | true =>
        simp only [if_true]
        refine wpAny_mono (ht rfl s4 g4 S4') ?_ fun _ _ e => e
        rintro y s5 ⟨d, g5, μ5, k5, S5, R5, μ6, rfl, hP6⟩
        obtain ⟨⟨vs, hpl, RL⟩, _⟩ := S5.b.m D ys (by simp)
        have hyl := hlen i ys μ hP
        refine wpAny_list_append_plain hpl (fun h' hn' hs' => ?_) (by rw [List.size_toArray, RL.1]; omega)
        have hn'' : h'.PlainList D (vs ++ [y]).toArray := by simpa using hn'
        have S6 := St.setMut (μ₁ := []) (tk := s5.toks) S5 hn'' (RL.append (.cons R5 .nil)) hs'
        refine ⟨n - (i + 1), by omega, i + 1, ys ++ [d], μ6, g5, rfl, hlt, hP6, fun b x e => S6.st.grow b x (k3 b x (kg b x e)), (S3'.back S6).sub (hst i), O3'.step S6.st (W.alive _ _ w3'), ?_⟩
        exact W.frame _ _ _ w3' (keepW S6.st) fun b x e => ⟨S3'.b.v b x (k3 b x (kg b x e)), S6.b.v b x (S6.st.grow b x (k3 b x (kg b x e)))⟩
    · have hin : i = n := by omega
      subst hin
      refine wpAny_mono (W.done og τ s' g₁ _ _ S' O' w') ?_ fun _ _ e => e
      rintro r s1 ⟨rfl, S1⟩
      have hy : Step (wrt (compEnvC scope cl H.objs.size C.env)) og.s og.g og.μ s1 g₁ ((D, ys) :: μ) := S1.st
      have fr : C.o.s.heap.get? H.objs.size = none ∧ H.objs.size ∉ priv C.env := ⟨(hCO H.objs.size (by simp)).1, (hCO H.objs.size (by simp)).2.2.2.1⟩
      have SE := S4.hidden O3 (X := wrt (compEnvC scope cl H.objs.size C.env)) (fun b hb => by
        have hb' : b = H.objs.size := by
          unfold wrt at hb
          rcases List.mem_cons.mp hb with h | h
          · exact h
          · cases h
        exact hb' ▸ fr) hy S1.b
      obtain ⟨m, hm, _⟩ := S1.f.ns
      have oc := S1.f.off H.objs.size List.mem_cons_self
      obtain ⟨hh, tt, es⟩ := hy.same
      refine fin D H.objs.size ys μ s1 g₁ m SE hP hm (fun b hb => ?_) kg ⟨hh, tt, es⟩
      rw [List.mem_singleton.mp hb]
      exact ⟨fr.1, oc.1, oc.2.1, fr.2, (hCO H.objs.size (by simp)).2.2.2.2⟩
  exact codeAny_compStart_list (loop _ rfl) (W.self 0 _ _ _ w4 (loop _ rfl))

/-- what a comprehension asks; F says what is to be done with the list -/
noncomputable def COMP (C : Cx) (elt target iter : Expr) (ifs : List Expr) (scope : Scope) (cl : List (Str × Addr)) (σ : Sg) (μ : Mu) (F : List D → Mu → Prop) : Prop :=
  SRC C (fun e => e.scope = relabel scope C.env) target iter σ μ fun n asg μ₁ => n ≤ sizeLine ∧ ∃ (τ : Sg) (P : Nat → List D → Mu → Prop), Sub σ τ ∧ (∀ x d, τ.lookup x = some d → (relabel scope C.env).names.lookup x ≠ some .local) ∧ (∀ i, Sub (asg i τ) τ) ∧
    P 0 [] μ₁ ∧ (∀ i ys μ, P i ys μ → ys.length ≤ i) ∧
    (∀ i ys μ D a o, i < n → P i ys μ → D ∉ μ.map (·.1) → TSL (C.comp scope cl a o) ifs (asg i τ) ((D, ys) :: μ) fun b μ₂ => ∃ μ₃, μ₂ = (D, ys) :: μ₃ ∧ (b = false → P (i + 1) ys μ₃) ∧
      (b = true → EV (C.comp scope cl a o) elt (asg i τ) ((D, ys) :: μ₃) fun d μ₄ => ∃ μ₅, μ₄ = (D, ys) :: μ₅ ∧ P (i + 1) (ys ++ [d]) μ₅)) ∧
    ∀ ys μ, P n ys μ → F ys μ

structure CompOk (C : Cx) (scope : Scope) (cl : List (Str × Addr)) : Prop where
  clos : closureFor scope C.env = pure cl
  cl : ∀ p ∈ cl, C.env.cells.lookup p.1 = some p.2 ∧ (C.env.kindOf p.1 = some .cell ∨ C.env.kindOf p.1 = some .free)
  cell : ∀ y ∈ scope.names, y.2 ≠ .cell
  kind : scope.kind = .function
  names : ∀ x ∈ scope.names, x.2 = .local → scope.names.lookup x.1 = some .local

theorem St.dropHead {h₀ : Heap} {fs : List Env} {o : Org} {env : Env} {σ : Sg} {s : Shared} {g : View} {μ : Mu} {a : Addr} {xs : List D} (S : St h₀ fs o env σ s g ((a, xs) :: μ)) : ∃ g', (∀ b o, g b = some o → g' b = some o) ∧ (∀ b o, g' b = some o → g b = some o ∨ b = a) ∧ St h₀ fs o env σ s g' μ ∧ RepV g' (.ref a) (.list xs) := St.freeze (μ₁ := []) S

variable {μ : Mu} {Q : D → Mu → Prop} {QS : Fl → Sg → Mu → Prop}

theorem ev_compCore {elt target iter : Expr} {ifs : List Expr} {scope : Scope} {cl : List (Str × Addr)} {pos : Pos} {F : List D → Mu → Prop} (K : CompOk C scope cl) (h : COMP C elt target iter ifs scope cl σ μ F)
    (k : ∀ s g a ys μ', St C.h₀ C.fs C.o C.env σ s g ((a, ys) :: μ') → F ys μ' → Post C σ g Q (.ref a) s)
    (hs : ∀ x, foldedSetIterable iter C.env x = pure x) : EV C (.ListComp elt [⟨target, iter, ifs, 0⟩] scope pos) σ μ Q := by
  intro s g S
  rw [eval_ListComp]
  refine wpAny_comprehension_free (use := none) rfl hs K.clos K.kind K.names (wpAny_mono (h s g S) (fun x s₁ h₁ => wpAny_mono h₁ ?_ fun _ _ e => e) fun _ _ e => e)
  rintro v s2 ⟨I, n, wr, Sw, asg, g', μ', rfl, k2, S2, O2, w2, it, hn, τ, P, hτ, hτk, hst, h0, hlen, turn, fin⟩
  refine comp_core τ P (RR := compPost (model C.prog C.w) C.A C.E none (Post C σ g Q)) S2 O2 w2 it hτ hτk K.cl K.cell K.kind hn hst h0 hlen turn ?_
  intro D a ys μ₅ s' g₅ m S5 hP hm hO kg _
  refine ⟨m, hm, fun h' hs' => ?_⟩
  have S6 := S5.iter (h' := h') (tk := s'.toks) hO fun b o hb e => (hs'.2 b fun q => hb (by rw [q]; simp)).trans e
  exact Post.grow (fun b x e => kg b x (k2 b x e)) (k _ g₅ D ys μ₅ S6 (fin ys μ₅ hP))
theorem ev_comp {elt target iter : Expr} {ifs : List Expr} {scope : Scope} {cl : List (Str × Addr)} {pos : Pos} (K : CompOk C scope cl) (h : COMP C elt target iter ifs scope cl σ μ fun ys μ' => Q (.list ys) μ')
    (hs : ∀ x, foldedSetIterable iter C.env x = pure x := by intro _; rfl) : EV C (.ListComp elt [⟨target, iter, ifs, 0⟩] scope pos) σ μ Q :=
  ev_compCore K h (fun s g a ys μ' S q => let ⟨g', k, _, S', R⟩ := S.dropHead; ⟨_, g', μ', k, S', R, q⟩) hs
theorem ev_compM {elt target iter : Expr} {ifs : List Expr} {scope : Scope} {cl : List (Str × Addr)} {pos : Pos} (K : CompOk C scope cl) (h : COMP C elt target iter ifs scope cl σ μ fun ys μ' => ∀ a, a ∉ μ'.map (·.1) → Q (.ref a) ((a, ys) :: μ'))
    (hs : ∀ x, foldedSetIterable iter C.env x = pure x := by intro _; rfl) : EV C (.ListComp elt [⟨target, iter, ifs, 0⟩] scope pos) σ μ Q :=
  ev_compCore K h (fun s g a ys μ' S q => ⟨_, g, _, fun _ _ e => e, S, .ref a, q a (List.nodup_cons.mp S.b.nd).1⟩) hs

theorem x_compCore {elt target iter : Expr} {ifs : List Expr} {scope : Scope} {cl : List (Str × Addr)} {pos spos py : Pos} {y : Str} {F : List D → Mu → Prop} (K : CompOk C scope cl) (h : COMP C elt target iter ifs scope cl σ μ F)
    (hsw : swapsWith (.ListComp elt [⟨target, iter, ifs, 0⟩] scope pos) (some (.Name y py)) spos.line C.env = pure true) (hy : C.env.kindOf y = some .local)
    (k : ∀ s g a ys μ', St C.h₀ C.fs C.o C.env σ s g ((a, ys) :: μ') → F ys μ' → ∃ g' μ'' d, (∀ b x, g b = some x → g' b = some x) ∧ St C.h₀ C.fs C.o C.env σ s g' μ'' ∧ RepV g' (.ref a) d ∧ (∀ c, Off C.o C.env C.fs g ((a, ys) :: μ') [c] → Off C.o C.env C.fs g' μ'' [c]) ∧ QS .next ((y, d) :: σ) μ'')
    (hs : ∀ x, foldedSetIterable iter C.env x = pure x) : EX C (.Assign [.Name y py] (.ListComp elt [⟨target, iter, ifs, 0⟩] scope pos) spos) σ μ QS := by
  intro s g S
  rw [exec_Assign_Name_used _ _ _ _ hsw]
  refine wpAny_bind (wpAny_standAt (wpAny_bind ?_))
  show wpAny _ C.A (do let _ ← comprehension (.ListComp elt [⟨target, iter, ifs, 0⟩] scope pos) scope C.env _ (newList []) false (eval iter C.env) (some (assign (.Name y py) C.env))) _ _ s
  refine wpAny_bind (wpAny_mono (wpAny_comprehension_free (use := some (assign (.Name y py) C.env)) (Q := fun _ s' => PostS C QS .next s') rfl hs K.clos K.kind K.names (wpAny_mono (h s g S) (fun x s₁ h₁ => wpAny_mono h₁ ?_ fun _ _ e => e) fun _ _ e => e)) (fun _ s' hq => wpAny_pure (wpAny_pure hq)) fun _ _ e => e)
  rintro v s2 ⟨I, n, wr, Sw, asg, g', μ', rfl, k2, S2, O2, w2, it, hn, τ, P, hτ, hτk, hst, h0, hlen, turn, fin⟩
  refine comp_core τ P (RR := compPost (model C.prog C.w) C.A C.E (some (assign (.Name y py) C.env)) fun _ s' => PostS C QS .next s') S2 O2 w2 it hτ hτk K.cl K.cell K.kind hn hst h0 hlen turn ?_
  intro D a ys μ₅ s' g₅ m S5 hP hm hO kg _
  obtain ⟨g₆, μ₆, d, k6, S6, R6, hO6, q⟩ := k s' g₅ D ys μ₅ S5 (fin ys μ₅ hP)
  show wpAny _ C.A (assign (.Name y py) C.env (.ref D)) _ _ _
  have hO' := hO6 a hO
  have hac : a ≠ C.env.locals := fun q => (hO' a (by simp)).2.2.2.1 (q ▸ List.mem_cons_self)
  refine wpAny_assign_Name (S6.storeL hy R6 fun h₂ tk hs₂ S7 => ⟨m, hm.sameBut hs₂ hac, fun h₃ hs₃ => ?_⟩)
  have S8 := S7.iter (h' := h₃) (tk := tk) hO' fun b o hb e => (hs₃.2 b fun q => hb (by rw [q]; simp)).trans e
  exact ⟨.next, _, g₆, μ₆, .next, S8, q⟩
theorem x_comp {elt target iter : Expr} {ifs : List Expr} {scope : Scope} {cl : List (Str × Addr)} {pos spos py : Pos} {y : Str} (K : CompOk C scope cl) (hsw : swapsWith (.ListComp elt [⟨target, iter, ifs, 0⟩] scope pos) (some (.Name y py)) spos.line C.env = pure true) (hy : C.env.kindOf y = some .local)
    (h : COMP C elt target iter ifs scope cl σ μ fun ys μ' => QS .next ((y, .list ys) :: σ) μ') (hs : ∀ x, foldedSetIterable iter C.env x = pure x := by intro _; rfl) : EX C (.Assign [.Name y py] (.ListComp elt [⟨target, iter, ifs, 0⟩] scope pos) spos) σ μ QS := by
  refine x_compCore K h hsw hy (fun s g a ys μ' S q => ?_) hs
  obtain ⟨g', k, ki, S', R⟩ := S.dropHead
  refine ⟨g', μ', _, k, S', R, fun c hO b hb => ?_, q⟩
  obtain ⟨a1, a2, a3, a4, a5⟩ := hO b hb
  refine ⟨a1, ?_, fun hm => a3 (List.mem_cons_of_mem _ hm), a4, a5⟩
  cases e : g' b with
  | none => rfl
  | some o =>
    rcases ki b o e with h | h
    · rw [a2] at h; cases h
    · exact absurd (h ▸ List.mem_cons_self) a3
theorem x_compM {elt target iter : Expr} {ifs : List Expr} {scope : Scope} {cl : List (Str × Addr)} {pos spos py : Pos} {y : Str} (K : CompOk C scope cl) (hsw : swapsWith (.ListComp elt [⟨target, iter, ifs, 0⟩] scope pos) (some (.Name y py)) spos.line C.env = pure true) (hy : C.env.kindOf y = some .local)
    (h : COMP C elt target iter ifs scope cl σ μ fun ys μ' => ∀ a, a ∉ μ'.map (·.1) → QS .next ((y, .ref a) :: σ) ((a, ys) :: μ')) (hs : ∀ x, foldedSetIterable iter C.env x = pure x := by intro _; rfl) : EX C (.Assign [.Name y py] (.ListComp elt [⟨target, iter, ifs, 0⟩] scope pos) spos) σ μ QS :=
  x_compCore K h hsw hy (fun s g a ys μ' S q => ⟨g, _, _, fun _ _ e => e, S, .ref a, fun c hO => hO, q a (List.nodup_cons.mp S.b.nd).1⟩) hs
end

end Mine

namespace Mine

structure Wd where
  prog : Program
  w : World
  h₀ : Heap
  mg : Str → Option Value
  mb : Str → Option Value
structure Wd.Ok (W : Wd) : Prop where
  nolimit : W.h₀.NoLimit
  g : W.h₀.Ns mainGlobals W.mg
  b : W.h₀.Ns builtinsNs W.mb

/-- a def of the text stands at f -/
structure Def (W : Wd) (f : Addr) (ps : List Str) (body : List Stmt) (sc : Scope) : Prop where
  out : ∃ name qual params dV kV doc pm an cdv ct o, W.h₀.get? f = some o ∧ o.data = .func (fnOf name qual params body sc dV kV doc pm an cdv ct) ∧ W.h₀.CodeRec cdv qual ∧
    ∀ vs : List Value, vs.length = ps.length → bindArgs (fnOf name qual params body sc dV kV doc pm an cdv ct) ⟨vs, []⟩ = pure (ps.zip vs)

noncomputable def fenv (sc : Scope) (L f : Addr) (q : Str) (cd : Value) : Env := newEnv sc L mainGlobals (cellsFrom (L + 1) sc.names []) q (some f) cd none builtinsNs
noncomputable def Wd.cx (W : Wd) (fs : List Env) (A : Around) (o : Org) (sc : Scope) (L f : Addr) (q : Str) (cd : Value) (E : Value → Shared → Prop) : Cx :=
  { prog := W.prog, w := W.w, h₀ := W.h₀, mg := W.mg, mb := W.mb, fs := fenv sc L f q cd :: fs, A := A.deeper (fenv sc L f q cd), o := o, env := fenv sc L f q cd, E := E }
noncomputable abbrev Wd.cx0 (W : Wd) (fs : List Env) (A : Around) (o : Org) (sc : Scope) (L f : Addr) (q : Str) (cd : Value) : Cx := W.cx fs A o sc L f q cd fun _ _ => False

noncomputable def retPost (Q : D → Mu → Prop) (fl : Fl) (_σ : Sg) (μ : Mu) : Prop := match fl with
  | .ret d => Q d μ
  | .next => Q .none μ
  | _ => False

theorem lookup_zip {kindOf : Str → Option NameKind} : ∀ (ps : List Str) (vs : List Value) (m : Str → Option Value) (y : Str), ps.Nodup → kindOf y = some .local → bindL kindOf (ps.zip vs) m y = match (ps.zip vs).lookup y with | some v => some v | none => m y
  | [], _, _, _, _, _ => rfl
  | p :: ps, [], m, y, _, _ => rfl
  | p :: ps, v :: vs, m, y, hn, hk => by
    obtain ⟨h1, h2⟩ := List.nodup_cons.mp hn
    rw [List.zip_cons_cons, bindL, lookup_zip ps vs _ y h2 hk, List.lookup_cons]
    have none_of : ∀ z : Str, z ∉ ps → (ps.zip vs).lookup z = none := fun z hz => by
      cases e : (ps.zip vs).lookup z with
      | none => rfl
      | some v => exact absurd (List.of_mem_zip (mem_of_lookup e)).1 hz
    by_cases hy : y = p
    · subst hy
      simp only [beq_self_eq_true]
      rw [none_of y h1, if_pos hk]
      simp
    · rw [beq_false_of_ne hy]
      cases (ps.zip vs).lookup y with
      | some v => rfl
      | none => by_cases hp : kindOf p = some .local <;> simp [hp, hy]
theorem lookup_zipC {kindOf : Str → Option NameKind} : ∀ (ps : List Str) (vs : List Value) (m : Str → Option Value) (y : Str), ps.Nodup → kindOf y ≠ some .local → bindC kindOf (ps.zip vs) m y = match (ps.zip vs).lookup y with | some v => some v | none => m y
  | [], _, _, _, _, _ => rfl
  | p :: ps, [], m, y, _, _ => rfl
  | p :: ps, v :: vs, m, y, hn, hk => by
    obtain ⟨h1, h2⟩ := List.nodup_cons.mp hn
    rw [List.zip_cons_cons, bindC, lookup_zipC ps vs _ y h2 hk, List.lookup_cons]
    have none_of : ∀ z : Str, z ∉ ps → (ps.zip vs).lookup z = none := fun z hz => by
      cases e : (ps.zip vs).lookup z with
      | none => rfl
      | some v => exact absurd (List.of_mem_zip (mem_of_lookup e)).1 hz
    by_cases hy : y = p
    · subst hy
      simp only [beq_self_eq_true]
      rw [none_of y h1, if_neg hk]
      simp
    · rw [beq_false_of_ne hy]
      cases (ps.zip vs).lookup y with
      | some v => rfl
      | none => by_cases hp : kindOf p = some .local <;> simp [hp, hy]
theorem RepL.lookup {g : View} {y : Str} {d : D} : ∀ {ps : List Str} {vs : List Value} {ds : List D}, RepL g vs ds → (ps.zip ds).lookup y = some d → ∃ v, (ps.zip vs).lookup y = some v ∧ RepV g v d
  | [], _, _, _, h => by cases h
  | p :: ps, [], [], _, h => by cases h
  | p :: ps, [], d :: ds, R, _ => absurd R.1 (by simp)
  | p :: ps, v :: vs, [], R, _ => absurd R.1 (by simp)
  | p :: ps, v :: vs, e :: ds, R, h => by
    rw [List.zip_cons_cons, List.lookup_cons] at h
    rw [List.zip_cons_cons, List.lookup_cons]
    by_cases hy : y = p
    · subst hy
      simp only [beq_self_eq_true] at h ⊢
      cases h
      exact ⟨v, rfl, R.head⟩
    · rw [beq_false_of_ne hy] at h ⊢
      exact RepL.lookup R.tail h

theorem kinds_zip {sc : Scope} {ps : List Str} {vs : List Value} (h : (ps.all fun y => sc.names.lookup y == some .local || sc.names.lookup y == some .cell) = true) : ((ps.zip vs).all fun y => sc.names.lookup y.1 == some .local || sc.names.lookup y.1 == some .cell) = true := by
  rw [List.all_eq_true] at h ⊢
  intro x hx
  exact h x.1 (List.of_mem_zip hx).1

theorem room_in {A : Around} {n : Nat} {fs : List Env} {env : Env} (R : Room A (n + 1) fs) : Room (A.deeper env) n (env :: fs) :=
  ⟨R.handled, by have := R.depth; show A.depth + 1 + n < _; omega, by have := R.units; show A.units + 3 + 8 * n < _; omega, Around.frames_deeper R.frames⟩

theorem cellsFrom_names : ∀ (names : List (Str × NameKind)) (n m : Nat) (acc acc' : List (Str × Addr)), acc.map (·.1) = acc'.map (·.1) → (cellsFrom n names acc).map (·.1) = (cellsFrom m names acc').map (·.1)
  | [], _, _, _, _, h => h
  | (x, k) :: r, n, m, acc, acc', h => by
    unfold cellsFrom
    split
    · exact cellsFrom_names r _ _ _ _ (by rw [List.map_cons, List.map_cons, h])
    · exact cellsFrom_names r _ _ _ _ h
theorem lookup_of_nodup {α : Type} : ∀ {l : List (Str × α)}, (l.map (·.1)).Nodup → ∀ p ∈ l, l.lookup p.1 = some p.2
  | q :: r, hn, p, hp => by
    obtain ⟨h1, h2⟩ := List.nodup_cons.mp hn
    rw [List.lookup_cons]
    rcases List.mem_cons.mp hp with rfl | hp
    · simp
    · have hne : p.1 ≠ q.1 := fun e => h1 (List.mem_map.mpr ⟨p, hp, e⟩)
      rw [beq_false_of_ne hne]
      exact lookup_of_nodup h2 p hp

/-- entering a def -/
theorem fn_enter {W : Wd} (WO : W.Ok) {f : Addr} {ps : List Str} {body : List Stmt} {sc : Scope} (Df : Def W f ps body sc) {fs : List Env} {n : Nat} {ds : List D} {μ : Mu} {A : Around} {s : Shared} {g : View} {vs : List Value} {Q : Value → Shared → Prop} {X E : Value → Shared → Prop}
    (R : Room A (n + 1) fs) (B : Base W.h₀ fs s g μ) (RL : RepL g vs ds) (hk : sc.kind = .function) (hco : sc.isCoroutine = false) (hgen : sc.isGenerator = false) (hnd : ps.Nodup) (hlen : ds.length = ps.length)
    (hcn : ((cellsFrom 0 sc.names []).map (·.1)).Nodup) (hps : (ps.all fun y => sc.names.lookup y == some .local || sc.names.lookup y == some .cell) = true)
    (h : ∀ q cd, Room (A.deeper (fenv sc s.heap.objs.size f q cd)) n (fenv sc s.heap.objs.size f q cd :: fs) →
      ∀ s₁, St W.h₀ (fenv sc s.heap.objs.size f q cd :: fs) ⟨s, g, μ⟩ (fenv sc s.heap.objs.size f q cd) (ps.zip ds) s₁ g μ →
      wpAny (model W.prog W.w) (A.deeper (fenv sc s.heap.objs.size f q cd)) (execs body (fenv sc s.heap.objs.size f q cd)) (fun fl s' => Q (match fl with | .ret v => v | _ => .none) s')
        (fun e s' => wpAny (model W.prog W.w) (A.deeper (fenv sc s.heap.objs.size f q cd)) (leaving (fenv sc s.heap.objs.size f q cd) e) (fun _ s'' => E e s'') (fun e' s'' => E e' s'') s') s₁) :
    wpAny (model W.prog W.w) A (call (.ref f) vs) Q E s := by
  obtain ⟨name, qual, params, dV, kV, doc, pm, an, cdv, ct, o, ho, hd, hcd, hbind⟩ := Df.out
  have kk : ∀ b o, W.h₀.get? b = some o → s.heap.get? b = some o := fun b o e => B.v b o (B.w b o e)
  have hvl : vs.length = ps.length := by rw [RL.1, hlen]
  refine wpAny_call (codeAny_call_cells (fd := fnOf name qual params body sc dV kV doc pm an cdv ct) (binds := ps.zip vs) (by have := R.depth; omega) (kk _ _ ho) hd (WO.nolimit.keeps kk) (hcd.keeps kk) rfl (hbind vs hvl) rfl (kindsX (kinds_zip hps) _) (fun s₁ X₁ => ?_) hco hgen hk)
  have key := h (qual ++ ".<locals>.") cdv (room_in R) s₁ ?_
  · exact key
  · let env := fenv sc s.heap.objs.size f (qual ++ ".<locals>.") cdv
    have X₂ : InCallC s env.locals (bindL env.kindOf (ps.zip vs) fun _ => none) env.cells (bindC env.kindOf (ps.zip vs) fun _ => none) s₁ := X₁
    obtain ⟨h1, t1, rfl⟩ := X₂.toInCall.same
    have B1 := B.keeps (tk := t1) (h' := h1) X₂.toInCall.keep
    have newL : s.heap.get? env.locals = none := fresh_size _
    have newP : ∀ p ∈ priv env, s.heap.get? p = none := fun p hp => by
      rcases List.mem_cons.mp hp with rfl | hp
      · exact newL
      · obtain ⟨q, hq, rfl⟩ := List.mem_map.mp hp
        exact fresh_ge (Nat.le_of_lt (X₂.above q.1 q.2 hq))
    have cellOf : ∀ p, p ∈ env.cells → env.cells.lookup p.1 = some p.2 := fun p hp =>
      lookup_of_nodup (by rw [show env.cells.map (·.1) = _ from cellsFrom_names sc.names _ 0 [] [] rfl]; exact hcn) p hp
    refine ⟨⟨B1.w, B1.v, B1.m, B1.nd, ?_⟩, ⟨hk, ⟨_, X₂.toInCall.ns, fun x d hd' hkx => ?_⟩, fun x c hc => ⟨_, X₂.cell x c hc, fun d hd' hkx => ?_⟩, fun _ => X₂.apart, fun p hp => ⟨?_, ?_, ?_⟩, fun hm => ?_⟩, ?_⟩
    · exact .cons (by show sc.kind ≠ _; rw [hk]; decide) rfl X₂.toInCall.ns (by cases e : W.h₀.get? env.locals with | none => exact e | some z => have := kk _ _ e; rw [newL] at this; cases this) B1.fr
    · obtain ⟨v, e, r⟩ := RL.lookup hd'
      exact ⟨v, by rw [lookup_zip ps vs _ x hnd hkx, e], r⟩
    · obtain ⟨v, e, r⟩ := RL.lookup hd'
      exact ⟨v, by rw [lookup_zipC ps vs _ x hnd (fun q => by rw [q] at hkx; rcases hkx with h | h <;> cases h), e], r⟩
    · exact B.fresh (newP p hp)
    · exact B.notMu (newP p hp)
    · rcases List.mem_cons.mp hp with rfl | hp
      · obtain ⟨z, _, _, hz, _⟩ := X₂.toInCall.ns; exact ⟨z, hz⟩
      · obtain ⟨q, hq, rfl⟩ := List.mem_map.mp hp
        obtain ⟨z, hz, _⟩ := X₂.cell q.1 q.2 (cellOf q hq)
        exact ⟨z, hz⟩
    · obtain ⟨q, hq, e⟩ := List.mem_map.mp hm
      have := X₂.above q.1 q.2 hq
      rw [e] at this; exact Nat.lt_irrefl _ this
    · exact (Step.keeps (X := wrt env) X₂.toInCall.keep)

/-- a def that never raises, by its body -/
theorem fn_intro {W : Wd} (WO : W.Ok) {f : Addr} {ps : List Str} {body : List Stmt} {sc : Scope} (Df : Def W f ps body sc) {fs : List Env} {n : Nat} {ds : List D} {μ : Mu} {Q : D → Mu → Prop}
    (hk : sc.kind = .function) (hco : sc.isCoroutine = false) (hgen : sc.isGenerator = false) (hnd : ps.Nodup) (hlen : ds.length = ps.length) (hcn : ((cellsFrom 0 sc.names []).map (·.1)).Nodup)
    (hps : (ps.all fun y => sc.names.lookup y == some .local || sc.names.lookup y == some .cell) = true)
    (h : ∀ (A : Around) (o : Org) (L : Addr) (q : Str) (cd : Value), Room (A.deeper (fenv sc L f q cd)) n (fenv sc L f q cd :: fs) → EXS (W.cx0 fs A o sc L f q cd) body (ps.zip ds) μ (retPost Q)) : FN W.prog W.w W.h₀ fs (n + 1) f ds μ Q := by
  intro A s g vs R B RL
  refine fn_enter (X := fun _ _ => False) WO Df R B RL hk hco hgen hnd hlen hcn hps fun q cd R' s₁ S₁ => ?_
  refine wpAny_mono (h A ⟨s, g, μ⟩ _ q cd R' s₁ g S₁) ?_ fun _ _ e => e.elim
  rintro fl s' ⟨fd, σ', g', μ', RF, S', q'⟩
  have st : Step [] s g μ s' g' μ' := by
    refine S'.st.mono fun b hb => .inr ?_
    have := (S'.f.off b (wrt_sub hb))
    cases e : s.heap.get? b with
    | none => exact e
    | some z =>
      exfalso
      have hlt := Heap.lt_size e
      rcases List.mem_cons.mp (wrt_sub hb) with rfl | hb'
      · exact Nat.lt_irrefl _ hlt
      · obtain ⟨p, hp, rfl⟩ := List.mem_map.mp hb'
        have hp' : p ∈ cellsFrom (s.heap.objs.size + 1) sc.names [] := hp
        have := (cellsFrom_ok sc.names (s.heap.push { cls := .type "frame", data := .dict #[] }) (s.heap.objs.size + 1) [] ⟨fun _ _ hm => (nomatch hm), List.Pairwise.nil⟩ (by rw [Heap.size_push]; exact Nat.le_refl _))
        rw [Heap.size_push] at this
        have hle := (this.empty p.1 p.2 hp').2
        exact absurd hlt (Nat.not_lt.mpr (Nat.le_of_lt hle))
  have bs : Base W.h₀ fs s' g' μ' := ⟨S'.b.w, S'.b.v, S'.b.m, S'.b.nd, S'.b.fr.2.2⟩
  cases RF with
  | ret r => exact ⟨_, g', μ', st, bs, r, q'⟩
  | next => exact ⟨_, g', μ', st, bs, .none, q'⟩
  | brk => exact q'.elim
  | cont => exact q'.elim

/-! more of expressions -/
section
variable {C : Cx} {σ : Sg} {μ : Mu} {Q : D → Mu → Prop}

/-- a changing list, handed on for good -/
theorem ev_nameFz {x : Str} {pos : Pos} {a : Addr} {xs : List D} {μ₁ μ₂ : Mu} (hd : σ.lookup x = some (.ref a)) (hk : isVar C.env x = true)
    (hb : C.env.kindOf x = some .local ∨ (C.env.cells.lookup x).isSome = true) (hμ : μ = μ₁ ++ (a, xs) :: μ₂) (q : Q (.list xs) (μ₁ ++ μ₂))
    (hdb : (x == ("__debug__" : Str)) = false := by decide) (hc : (x == ("__classdict__" : Str)) = false := by decide) : EV C (.Name x pos) σ μ Q := by
  subst hμ
  intro s g S
  obtain ⟨g', k, _, S', R⟩ := S.freeze
  exact wpAny_Name (S.load hd hk hc hb fun v Rv => by rw [Rv.ref_inv]; exact ⟨_, g', _, k, S', R, q⟩) hdb

theorem wok {W : Wd} (WO : W.Ok) {fs : List Env} {A : Around} {o : Org} {sc : Scope} {L f : Addr} {q : Str} {cd : Value} {E : Value → Shared → Prop} : Wok (W.cx fs A o sc L f q cd E) := ⟨WO.nolimit, WO.g, WO.b⟩
theorem env1 {W : Wd} {fs : List Env} {A : Around} {o : Org} {sc : Scope} {L f : Addr} {q : Str} {cd : Value} {E : Value → Shared → Prop} : Env1 (W.cx fs A o sc L f q cd E) := ⟨rfl, rfl⟩
theorem Wok.comp {scope : Scope} {cl : List (Str × Addr)} {a : Addr} {o : Org} (W : Wok C) : Wok (C.comp scope cl a o) := ⟨W.nolimit, W.g, W.b⟩
theorem Env1.comp {scope : Scope} {cl : List (Str × Addr)} {a : Addr} {o : Org} (H : Env1 C) : Env1 (C.comp scope cl a o) := ⟨H.gl, H.bl⟩
theorem Wok.withO {o : Org} (W : Wok C) : Wok (C.withO o) := ⟨W.nolimit, W.g, W.b⟩
theorem Env1.withO {o : Org} (H : Env1 C) : Env1 (C.withO o) := ⟨H.gl, H.bl⟩

/-! ints -/
theorem op_add {i j : Int} : IntOp C .Add i j (i + j) := fun s t u P h => add_int h
theorem op_sub {i j : Int} : IntOp C .Sub i j (i - j) := fun s t u P h => sub_int h
theorem op_and {i j : Int} : IntOp C .BitAnd i j (Builtin.bitAnd i j) := fun s t u P h => and_int h
theorem op_mod {i j : Int} (hj : j ≠ 0) : IntOp C .Mod i j (i.fmod j) := fun s t u P h => mod_int' hj h
theorem op_div {i j : Int} (hj : j ≠ 0) (hs : j.natAbs.log2 < 9000) : IntOp C .FloorDiv i j (i.fdiv j) := fun s t u P h => floordiv_int hj h (.inl (PyProof.noPylong_of_log2 hs))
theorem op_mul {i j : Int} (h : IntMulOk i j) : IntOp C .Mult i j (i * j) := fun s t u P hp => PySem.P.mul_int hp h
theorem op_shl {i n : Int} (h0 : 0 ≤ n) (h1 : n ≤ 1000000) (h2 : i.natAbs < 2 ^ 64) : IntOp C .LShift i n (i * 2 ^ n.toNat) := fun s t u P h => lshift_int_small h0 h1 h2 h
theorem op_shr {i n : Int} (h0 : 0 ≤ n) : IntOp C .RShift i n (i.fdiv (2 ^ n.toNat)) := fun s t u P h => rshift_int h0 h
theorem op_pow {i n : Int} (h0 : 0 ≤ n) (h1 : n ≤ 1000000) (h2 : i.natAbs < 2 ^ 64) : IntOp C .Pow i n (i ^ n.toNat) := fun s t u P h => pow_int_small h0 h1 h2 h
theorem iop_add {i j : Int} : IntIop C .Add i j (i + j) := fun s t u P h => iadd_int h
theorem iop_sub {i j : Int} : IntIop C .Sub i j (i - j) := fun s t u P h => PySem.P.isub_int h
theorem iop_shr {i n : Int} (h0 : 0 ≤ n) : IntIop C .RShift i n (i.fdiv (2 ^ n.toNat)) := fun s t u P h => irshift_int h0 h

theorem Base.same {h₀ : Heap} {s : Shared} {P : Value → Shared → Prop} {v : Value} (h : ∀ h' tk, (∀ b o, s.heap.get? b = some o → h'.get? b = some o) → P v { s with heap := h', toks := tk }) : P v s := h s.heap s.toks fun _ _ e => e
theorem c_eq {i j : Int} : CmpOk C .Eq (.int i) (.int j) μ (i == j) := fun s g v v' P B R R' h => by
  obtain ⟨t, rfl⟩ := R.int_inv; obtain ⟨u, rfl⟩ := R'.int_inv; exact PySem.P.eq_int (h s.heap s.toks fun _ _ e => e)
theorem c_ne {i j : Int} : CmpOk C .NotEq (.int i) (.int j) μ (i != j) := fun s g v v' P B R R' h => by
  obtain ⟨t, rfl⟩ := R.int_inv; obtain ⟨u, rfl⟩ := R'.int_inv; exact PySem.P.ne_int (h s.heap s.toks fun _ _ e => e)
theorem c_lt {i j : Int} : CmpOk C .Lt (.int i) (.int j) μ (decide (i < j)) := fun s g v v' P B R R' h => by
  obtain ⟨t, rfl⟩ := R.int_inv; obtain ⟨u, rfl⟩ := R'.int_inv; exact PySem.P.lt_int (h s.heap s.toks fun _ _ e => e)
theorem c_le {i j : Int} : CmpOk C .LtE (.int i) (.int j) μ (decide (i ≤ j)) := fun s g v v' P B R R' h => by
  obtain ⟨t, rfl⟩ := R.int_inv; obtain ⟨u, rfl⟩ := R'.int_inv; exact PySem.P.le_int (h s.heap s.toks fun _ _ e => e)
theorem c_gt {i j : Int} : CmpOk C .Gt (.int i) (.int j) μ (decide (i > j)) := fun s g v v' P B R R' h => by
  obtain ⟨t, rfl⟩ := R.int_inv; obtain ⟨u, rfl⟩ := R'.int_inv; exact PySem.P.gt_int (h s.heap s.toks fun _ _ e => e)
end

end Mine

namespace Mine

noncomputable abbrev dInts (l : List Int) : D := .list (l.map .int)
noncomputable abbrev dMat (m : List (List Int)) : D := .list (m.map dInts)
noncomputable def dOpt : Option (List (List Int)) → D
  | none => .none
  | some m => dMat m
noncomputable abbrev pInts (l : List Int) : PyData := .list (l.map .int)
noncomputable abbrev pMat (m : List (List Int)) : PyData := .list (m.map pInts)
noncomputable def pOpt : Option (List (List Int)) → PyData
  | none => .none
  | some m => pMat m

theorem reads_all {h : Heap} {g : View} {f : α → D} {p : α → PyData} (k : ∀ b o, g b = some o → h.get? b = some o) (one : ∀ x v, RepV g v (f x) → ∃ as, Reads h v (p x) as) :
    ∀ (l : List α) (vs : List Value), RepL g vs (l.map f) → ∃ as, ReadsAll h vs (l.map p) as
  | [], [], _ => ⟨_, .nil⟩
  | [], v :: vs, R => absurd R.1 (by simp)
  | x :: l, [], R => absurd R.1 (by simp)
  | x :: l, v :: vs, R => by
    obtain ⟨as, h1⟩ := one x v R.head
    obtain ⟨bs, h2⟩ := reads_all k one l vs R.tail
    exact ⟨_, .cons h1 h2⟩
theorem reads_ints {h : Heap} {g : View} (k : ∀ b o, g b = some o → h.get? b = some o) (l : List Int) (v : Value) (R : RepV g v (dInts l)) : ∃ as, Reads h v (pInts l) as := by
  obtain ⟨a, o, n, vs, rfl, h1, h2, h3, RL⟩ := R.list_inv
  obtain ⟨as, h4⟩ := reads_all (p := .int) k (fun i v r => by obtain ⟨t, rfl⟩ := r.int_inv; exact ⟨_, .int i t⟩) l vs RL
  exact ⟨_, .list (k _ _ h1) h2 h3 (by simpa using h4)⟩
theorem reads_mat {h : Heap} {g : View} (k : ∀ b o, g b = some o → h.get? b = some o) (m : List (List Int)) (v : Value) (R : RepV g v (dMat m)) : ∃ as, Reads h v (pMat m) as := by
  obtain ⟨a, o, n, vs, rfl, h1, h2, h3, RL⟩ := R.list_inv
  obtain ⟨as, h4⟩ := reads_all (p := pInts) k (fun i v r => reads_ints k i v r) m vs RL
  exact ⟨_, .list (k _ _ h1) h2 h3 (by simpa using h4)⟩
theorem reads_opt {h : Heap} {g : View} (k : ∀ b o, g b = some o → h.get? b = some o) (m : Option (List (List Int))) (v : Value) (R : RepV g v (dOpt m)) : ∃ as, Reads h v (pOpt m) as := by
  cases m with
  | none => rw [RepV.none_inv R]; exact ⟨_, .none⟩
  | some m => exact reads_mat k m v R

theorem lay_ints : ∀ l : List Int, PyData.canLayAll0 (l.map .int) = true ∧ PyData.depthAll (l.map .int) ≤ 0
  | [] => by simp [PyData.canLayAll0, PyData.depthAll]
  | i :: l => by have := lay_ints l; simp [PyData.canLayAll0, PyData.canLay0, PyData.depthAll, PyData.depth, this.1]; omega
theorem lay_mat : ∀ m : List (List Int), PyData.canLayAll0 (m.map pInts) = true ∧ PyData.depthAll (m.map pInts) ≤ 1
  | [] => by simp [PyData.canLayAll0, PyData.depthAll]
  | l :: m => by
    have h1 := lay_mat m
    have h2 := lay_ints l
    rw [List.map_cons]
    simp only [PyData.canLayAll0, PyData.canLay0, PyData.depthAll, PyData.depth, h1.1, h2.1, Bool.and_self, true_and]
    have a := h1.2
    have b := h2.2
    omega
theorem shaped_ints (l : List Int) : SeqAt.shaped (pInts l) = true := by
  unfold SeqAt.shaped
  simp only [PyData.canLay0, PyData.depth, (lay_ints l).1, Bool.true_and]
  exact decide_eq_true (by have := (lay_ints l).2; omega)
theorem shaped_mat (m : List (List Int)) : SeqAt.shaped (pMat m) = true := by
  unfold SeqAt.shaped
  simp only [PyData.canLay0, PyData.depth, (lay_mat m).1, Bool.true_and]
  exact decide_eq_true (by have := (lay_mat m).2; omega)
theorem shaped_opt (m : Option (List (List Int))) : SeqAt.shaped (pOpt m) = true := by
  cases m with
  | none => rfl
  | some m => exact shaped_mat m
theorem eqv_ints : ∀ a b : List Int, PyData.eqvAll (a.map .int) (b.map .int) = decide (a = b)
  | [], [] => by simp [PyData.eqvAll]
  | [], _ :: _ => by simp [PyData.eqvAll]
  | _ :: _, [] => by simp [PyData.eqvAll]
  | i :: a, j :: b => by
    simp only [List.map_cons, PyData.eqvAll, PyData.eqv, eqv_ints a b, List.cons.injEq, Bool.decide_and]
    congr 1
theorem eqv_mat : ∀ a b : List (List Int), PyData.eqvAll (a.map pInts) (b.map pInts) = decide (a = b)
  | [], [] => by simp [PyData.eqvAll]
  | [], _ :: _ => by simp [PyData.eqvAll]
  | _ :: _, [] => by simp [PyData.eqvAll]
  | i :: a, j :: b => by
    simp only [List.map_cons, PyData.eqvAll, PyData.eqv, eqv_mat a b, eqv_ints, List.cons.injEq, Bool.decide_and]
theorem eqv_opt (a b : Option (List (List Int))) : PyData.eqv (pOpt a) (pOpt b) = decide (a = b) := by
  cases a <;> cases b <;> simp [pOpt, PyData.eqv, eqv_mat]

section
variable {C : Cx} {σ : Sg} {μ : Mu} {Q : D → Mu → Prop}

theorem c_neOpt {a b : Option (List (List Int))} (hu : C.A.units + 64 < cLine) : CmpOk C .NotEq (dOpt a) (dOpt b) μ (!decide (a = b)) := fun s g v v' P B R R' h => by
  obtain ⟨as, r1⟩ := reads_opt B.v a v R
  obtain ⟨bs, r2⟩ := reads_opt B.v b v' R'
  refine ne_dataH r1 r2 (shaped_opt a) (shaped_opt b) hu ?_
  rw [eqv_opt]
  exact h s.heap s.toks fun _ _ e => e
theorem c_neInts {a b : List Int} (hu : C.A.units + 64 < cLine) : CmpOk C .NotEq (dInts a) (dInts b) μ (!decide (a = b)) := fun s g v v' P B R R' h => by
  obtain ⟨as, r1⟩ := reads_ints B.v a v R
  obtain ⟨bs, r2⟩ := reads_ints B.v b v' R'
  refine ne_dataH r1 r2 (shaped_ints a) (shaped_ints b) hu ?_
  have e : PyData.eqv (pInts a) (pInts b) = decide (a = b) := by rw [PyData.eqv, eqv_ints]
  rw [e]
  exact h s.heap s.toks fun _ _ e => e
theorem c_eqInts {a b : List Int} (hu : C.A.units + 64 < cLine) : CmpOk C .Eq (dInts a) (dInts b) μ (decide (a = b)) := fun s g v v' P B R R' h => by
  obtain ⟨as, r1⟩ := reads_ints B.v a v R
  obtain ⟨bs, r2⟩ := reads_ints B.v b v' R'
  refine eq_dataH r1 r2 (shaped_ints a) (shaped_ints b) hu ?_
  have e : PyData.eqv (pInts a) (pInts b) = decide (a = b) := by rw [PyData.eqv, eqv_ints]
  rw [e]
  exact h s.heap s.toks fun _ _ e => e
theorem c_eqMat {a b : List (List Int)} (hu : C.A.units + 64 < cLine) : CmpOk C .Eq (dMat a) (dMat b) μ (decide (a = b)) := fun s g v v' P B R R' h => by
  obtain ⟨as, r1⟩ := reads_mat B.v a v R
  obtain ⟨bs, r2⟩ := reads_mat B.v b v' R'
  refine eq_dataH r1 r2 (shaped_mat a) (shaped_mat b) hu ?_
  have e : PyData.eqv (pMat a) (pMat b) = decide (a = b) := by rw [PyData.eqv, eqv_mat]
  rw [e]
  exact h s.heap s.toks fun _ _ e => e
theorem c_neMat {a b : List (List Int)} (hu : C.A.units + 64 < cLine) : CmpOk C .NotEq (dMat a) (dMat b) μ (!decide (a = b)) := c_neOpt (a := some a) (b := some b) hu |> fun h => by
  have e : (decide (some a = some b)) = decide (a = b) := by simp
  rw [← e]; exact h
theorem c_eqBool {a b : Bool} : CmpOk C .Eq (.bool a) (.bool b) μ (a == b) := fun s g v v' P B R R' h => by
  rw [R.bool_inv, R'.bool_inv]; exact PyProof.Rows.eq_bool (h s.heap s.toks fun _ _ e => e)
theorem c_neBool {a b : Bool} : CmpOk C .NotEq (.bool a) (.bool b) μ (a != b) := fun s g v v' P B R R' h => by
  rw [R.bool_inv, R'.bool_inv]; exact PyProof.Rows.ne_bool (h s.heap s.toks fun _ _ e => e)
theorem c_isNone {a : Option (List (List Int))} : CmpOk C .Is (dOpt a) .none μ a.isNone := fun s g v v' P B R R' h => by
  rw [RepV.none_inv R']
  have k := h s.heap s.toks fun _ _ e => e
  cases a with
  | none => rw [RepV.none_inv R]; exact wpAny_is_self rfl k
  | some m =>
    obtain ⟨a, o, n, vs, rfl, _⟩ := RepV.list_inv R
    exact wpAny_is_other rfl (by simp) k
theorem c_isNotNone {a : Option (List (List Int))} : CmpOk C .IsNot (dOpt a) .none μ a.isSome := fun s g v v' P B R R' h => by
  rw [RepV.none_inv R']
  have k := h s.heap s.toks fun _ _ e => e
  cases a with
  | none => rw [RepV.none_inv R]; exact wpAny_isNot_self rfl k
  | some m =>
    obtain ⟨a, o, n, vs, rfl, _⟩ := RepV.list_inv R
    exact wpAny_isNot_other rfl (by simp) k
end

end Mine

namespace Mine

noncomputable def mainBody : List Stmt := PySem.Challenge.pw_pq0538_01.main.body
noncomputable def bodyF (i : Nat) : List Stmt := match mainBody.drop i with
  | .FunctionDef _ _ b _ _ _ _ _ _ _ :: _ => b
  | _ => []
noncomputable def scopeF (i : Nat) : Scope := match mainBody.drop i with
  | .FunctionDef _ _ _ _ _ _ s _ _ _ :: _ => s
  | _ => default
noncomputable def parsF (i : Nat) : List Str := match mainBody.drop i with
  | .FunctionDef _ a _ _ _ _ _ _ _ _ :: _ => a.args.map (·.arg)
  | _ => []
noncomputable def nameF (i : Nat) : Str := match mainBody.drop i with
  | .FunctionDef n _ _ _ _ _ _ _ _ _ :: _ => n
  | _ => default

/-- the text's world: where its defs stand, and the built-ins that it names -/
structure PW (W : Wd) where
  ok : W.Ok
  addr : Nat → Addr
  d : ∀ i, i ∈ [5, 6, 7, 8, 9, 10, 12, 13, 14, 15, 16, 17, 18, 19, 20, 22, 23, 24, 26, 27, 28, 29, 30, 31, 32, 33, 34, 35] → Def W (addr i) (parsF i) (bodyF i) (scopeF i)
  g : ∀ i, i ∈ [5, 6, 7, 8, 9, 10, 12, 13, 14, 15, 16, 17, 18, 19, 20, 22, 23, 24, 26, 27, 28, 29, 30, 31, 32, 33, 34, 35] → W.mg (nameF i) = some (.ref (addr i))
  b : ∀ n : Str, n ∈ (["len", "abs", "sum"] : List Str) → W.mg n = none
  blen : W.mb "len" = some (.builtin "len")
  babs : W.mb "abs" = some (.builtin "abs")
  bsum : W.mb "sum" = some (.builtin "sum")
  t : ∀ n : Str, n ∈ (["range", "enumerate", "zip"] : List Str) → W.mg n = none
  trange : W.mb "range" = some (.type "range")
  tenum : W.mb "enumerate" = some (.type "enumerate")
  tzip : W.mb "zip" = some (.type "zip")

end Mine

namespace Mine

noncomputable def limbs (B n : Nat) : List Nat := if h : n = 0 ∨ B < 2 then [] else (n % B) :: limbs B (n / B)
termination_by n
decreasing_by exact Nat.div_lt_self (by omega) (by omega)
noncomputable def vN (B : Nat) : List Nat → Nat
  | [] => 0
  | d :: r => d + B * vN B r
noncomputable def Dig (B : Nat) (l : List Nat) : Prop := ∀ d ∈ l, d < B
noncomputable def normR : List Nat → List Nat
  | [] => []
  | d :: r => if normR r = [] ∧ d = 0 then [] else d :: normR r

theorem normR_zero : ∀ l : List Nat, normR (l ++ [0]) = normR l
  | [] => by simp [normR]
  | d :: r => by simp only [List.cons_append, normR, normR_zero r]
theorem normR_last {x : Nat} (h : x ≠ 0) : ∀ l : List Nat, normR (l ++ [x]) = l ++ [x]
  | [] => by simp [normR, h]
  | d :: r => by simp [normR, normR_last h r]
theorem normR_le : ∀ l : List Nat, (normR l).length ≤ l.length
  | [] => Nat.le_refl _
  | d :: r => by
    have := normR_le r
    unfold normR; split
    · simp
    · simp; omega
theorem normR_full : ∀ l : List Nat, l.length ≤ (normR l).length → normR l = l
  | [], _ => rfl
  | d :: r, h => by
    have := normR_le r
    unfold normR at h ⊢; split at h
    · simp at h
    · rename_i hn
      rw [if_neg hn, normR_full r (by simpa using h)]
theorem limbs_zero {B : Nat} : limbs B 0 = [] := by rw [limbs]; simp
theorem limbs_pos {B n : Nat} (hB : 2 ≤ B) (hn : 0 < n) : limbs B n = (n % B) :: limbs B (n / B) := by
  rw [limbs, dif_neg (by omega)]
theorem limbs_nil {B n : Nat} (hB : 2 ≤ B) : limbs B n = [] ↔ n = 0 := by
  constructor
  · intro h
    rcases Nat.eq_zero_or_pos n with h0 | h0
    · exact h0
    · rw [limbs_pos hB h0] at h; cases h
  · rintro rfl; exact limbs_zero
theorem vN_limbs {B : Nat} (hB : 2 ≤ B) (n : Nat) : vN B (limbs B n) = n := by
  induction n using Nat.strongRecOn with
  | ind n ih =>
    rcases Nat.eq_zero_or_pos n with h0 | h0
    · subst h0; rw [limbs_zero]; rfl
    · rw [limbs_pos hB h0, vN, ih _ (Nat.div_lt_self h0 (by omega))]
      exact Nat.mod_add_div n B
theorem limbs_dig {B : Nat} (hB : 2 ≤ B) (n : Nat) : Dig B (limbs B n) := by
  induction n using Nat.strongRecOn with
  | ind n ih =>
    rcases Nat.eq_zero_or_pos n with h0 | h0
    · subst h0; rw [limbs_zero]; intro d hd; cases hd
    · rw [limbs_pos hB h0]
      intro d hd
      rcases List.mem_cons.mp hd with rfl | hd
      · exact Nat.mod_lt _ (by omega)
      · exact ih _ (Nat.div_lt_self h0 (by omega)) d hd
theorem limbs_of {B : Nat} (hB : 2 ≤ B) : ∀ l : List Nat, Dig B l → normR l = limbs B (vN B l)
  | [], _ => limbs_zero.symm
  | d :: r, h => by
    have ih := limbs_of hB r fun x hx => h x (List.mem_cons_of_mem _ hx)
    have hd : d < B := h d List.mem_cons_self
    simp only [normR, vN, ih, limbs_nil hB]
    by_cases h0 : vN B r = 0 ∧ d = 0
    · rw [if_pos h0, h0.1, h0.2]; simp [limbs_zero]
    · rw [if_neg h0]
      have hpos : 0 < d + B * vN B r := by
        rcases Nat.eq_zero_or_pos (vN B r) with e | e
        · have : d ≠ 0 := fun k => h0 ⟨e, k⟩
          omega
        · have := Nat.mul_pos (show 0 < B by omega) e; omega
      rw [limbs_pos hB hpos, Nat.add_mul_mod_self_left, Nat.mod_eq_of_lt hd, Nat.add_mul_div_left _ _ (by omega), Nat.div_eq_of_lt hd, Nat.zero_add]
theorem limbs_canon {B : Nat} (hB : 2 ≤ B) (n : Nat) : normR (limbs B n) = limbs B n := by
  rw [limbs_of hB _ (limbs_dig hB n), vN_limbs hB]
theorem vN_app (B : Nat) : ∀ (l r : List Nat), vN B (l ++ r) = vN B l + B ^ l.length * vN B r
  | [], r => by simp [vN]
  | d :: l, r => by
    rw [List.cons_append, vN, vN_app B l r, vN, List.length_cons, Nat.pow_succ]
    grind
theorem vN_lt {B : Nat} : ∀ l : List Nat, Dig B l → vN B l < B ^ l.length
  | [], _ => by simp [vN]
  | d :: r, h => by
    have ih := vN_lt r fun x hx => h x (List.mem_cons_of_mem _ hx)
    have hd : d < B := h d List.mem_cons_self
    rw [vN, List.length_cons, Nat.pow_succ]
    have := Nat.mul_le_mul_left B (show vN B r + 1 ≤ B ^ r.length from ih)
    rw [Nat.mul_add, Nat.mul_one] at this
    rw [Nat.mul_comm (B ^ r.length)]
    omega
theorem limbs_len {B : Nat} (hB : 2 ≤ B) : ∀ (k n : Nat), n < B ^ k → (limbs B n).length ≤ k
  | 0, n, h => by
    have : n = 0 := by simpa using h
    subst this; rw [limbs_zero]; exact Nat.le_refl _
  | k + 1, n, h => by
    rcases Nat.eq_zero_or_pos n with h0 | h0
    · subst h0; rw [limbs_zero]; exact Nat.zero_le _
    · rw [limbs_pos hB h0, List.length_cons]
      have := limbs_len hB k (n / B) (by rw [Nat.div_lt_iff_lt_mul (by omega)]; rw [Nat.pow_succ] at h; exact h)
      omega
theorem limbs_len2 {B k n : Nat} (hB : 2 ≤ B) (h : n < 2 ^ k) : (limbs B n).length ≤ k :=
  limbs_len hB k n (Nat.lt_of_lt_of_le h (Nat.pow_le_pow_left hB k))
theorem limbs_mono {B : Nat} (hB : 2 ≤ B) (n : Nat) : ∀ m, n ≤ m → (limbs B n).length ≤ (limbs B m).length := by
  induction n using Nat.strongRecOn with
  | ind n ih =>
    intro m hm
    rcases Nat.eq_zero_or_pos n with h0 | h0
    · subst h0; rw [limbs_zero]; exact Nat.zero_le _
    · rw [limbs_pos hB h0, limbs_pos hB (by omega : 0 < m), List.length_cons, List.length_cons]
      have := ih (n / B) (Nat.div_lt_self h0 (by omega)) (m / B) (Nat.div_le_div_right hm)
      omega
theorem limbs_lt {B n m : Nat} (hB : 2 ≤ B) (h : (limbs B n).length < (limbs B m).length) : n < m := by
  rcases Nat.lt_or_ge n m with k | k
  · exact k
  · have := limbs_mono hB m n k; omega
theorem limbs_inj {B n m : Nat} (hB : 2 ≤ B) (h : limbs B n = limbs B m) : n = m := by rw [← vN_limbs hB n, h, vN_limbs hB m]
theorem vN_cmp {B : Nat} {x y : Nat} {t : List Nat} (hx : x < y) : ∀ (a b : List Nat), a.length = b.length → Dig B a → Dig B b → vN B (a ++ x :: t) < vN B (b ++ y :: t)
  | [], [], _, _, _ => by simp only [List.nil_append, vN]; omega
  | [], _ :: _, h, _, _ => by simp at h
  | _ :: _, [], h, _, _ => by simp at h
  | d :: a, e :: b, h, ha, hb => by
    have ih := vN_cmp (t := t) hx a b (by simpa using h) (fun x hx => ha x (List.mem_cons_of_mem _ hx)) (fun x hx => hb x (List.mem_cons_of_mem _ hx))
    have hd : d < B := ha d List.mem_cons_self
    rw [List.cons_append, List.cons_append, vN, vN]
    have := Nat.mul_le_mul_left B (show vN B (a ++ x :: t) + 1 ≤ vN B (b ++ y :: t) from ih)
    rw [Nat.mul_add, Nat.mul_one] at this
    omega
theorem vN_last (B : Nat) (l : List Nat) (x : Nat) : vN B (l ++ [x]) = vN B l + B ^ l.length * x := by rw [vN_app]; simp [vN]
theorem vN_takeS {B i x : Nat} {l : List Nat} (h : l[i]? = some x) : vN B (l.take (i + 1)) = vN B (l.take i) + B ^ i * x := by
  obtain ⟨hi, rfl⟩ := List.getElem?_eq_some_iff.mp h
  rw [List.take_succ_eq_append_getElem hi, vN_last, List.length_take, Nat.min_eq_left (Nat.le_of_lt hi)]
theorem Dig.snoc {B x : Nat} {l : List Nat} (h : Dig B l) (hx : x < B) : Dig B (l ++ [x]) := by
  intro d hd
  rcases List.mem_append.mp hd with k | k
  · exact h d k
  · rw [List.mem_singleton.mp k]; exact hx
theorem Dig.get {B i x : Nat} {l : List Nat} (h : Dig B l) (e : l[i]? = some x) : x < B := h x (List.mem_of_getElem? e)

/-- end of add -/
theorem add_end {B : Nat} (hB : 2 ≤ B) {n m c : Nat} {f : List Nat} (hf : Dig B f) (hl : f.length = (limbs B n).length) (hc : c ≤ 1) (e : vN B f + B ^ f.length * c = n + m) :
    (if c > 0 then f ++ [c] else f) = limbs B (n + m) := by
  by_cases h : c > 0
  · rw [if_pos h, ← normR_last (by omega : c ≠ 0) f, limbs_of hB _ (hf.snoc (by omega)), vN_last, e]
  · have h0 : c = 0 := by omega
    subst h0
    rw [if_neg h]
    have e' : vN B f = n + m := by simpa using e
    have h1 := limbs_of hB f hf
    rw [e'] at h1
    rw [← h1]
    refine (normR_full f ?_).symm
    rw [h1, hl]
    exact limbs_mono hB _ _ (Nat.le_add_right _ _)
/-- end of sub -/
theorem sub_end {B : Nat} (hB : 2 ≤ B) {n m c : Nat} {f : List Nat} (hf : Dig B f) (hc : c ≤ 1) (hm : m ≤ n) (e : n + B ^ f.length * c = vN B f + m) : normR f = limbs B (n - m) := by
  have hlt := vN_lt f hf
  rw [limbs_of hB f hf]
  have h0 : c = 0 := by
    rcases Nat.eq_zero_or_pos c with h | h
    · exact h
    · have : c = 1 := by omega
      subst this; omega
  subst h0
  congr 1
  omega
/-- one digit: what goes into the list and what is carried -/
theorem carry_step {B : Nat} (hB : 2 ≤ B) {v s k p : Nat} (e : v + p * k = s) : v + p * (k % B) + (p * B) * (k / B) = s := by
  have := Nat.mod_add_div k B
  calc v + p * (k % B) + (p * B) * (k / B) = v + p * (k % B + B * (k / B)) := by grind
    _ = s := by rw [this]; exact e
end Mine
namespace Mine
theorem dig_step {B : Nat} (hB : 2 ≤ B) {f : List Nat} {i k s : Nat} (hf : Dig B f) (hl : f.length = i) (e : vN B f + B ^ i * k = s) :
    (f ++ [k % B]).length = i + 1 ∧ Dig B (f ++ [k % B]) ∧ vN B (f ++ [k % B]) + B ^ (i + 1) * (k / B) = s := by
  refine ⟨by simp [hl], hf.snoc (Nat.mod_lt _ (by omega)), ?_⟩
  rw [vN_last, hl, Nat.pow_succ]
  exact carry_step hB e
theorem div_le_one {B k : Nat} (h : k < B * 2) : k / B ≤ 1 := Nat.lt_succ_iff.mp (Nat.div_lt_of_lt_mul h)
end Mine

namespace Mine
noncomputable abbrev Mat := List (List Int)
noncomputable def en (m : Mat) (i j : Nat) : Int := (m.getD i []).getD j 0
noncomputable def Sq (n : Nat) (m : Mat) : Prop := m.length = n ∧ ∀ r ∈ m, r.length = n
noncomputable def subm (r h : List Int) (q : Int) : List Int := (List.range r.length).map fun j => r.getD j 0 - q * h.getD j 0

theorem subm_len (r h : List Int) (q : Int) : (subm r h q).length = r.length := by simp [subm]
theorem subm_get {r h : List Int} (hl : h.length = r.length) (q : Int) (j : Nat) : (subm r h q).getD j 0 = r.getD j 0 - q * h.getD j 0 := by
  unfold subm
  rw [List.getD_eq_getElem?_getD, List.getElem?_map]
  rcases Nat.lt_or_ge j r.length with h1 | h1
  · rw [List.getElem?_range h1]; rfl
  · rw [List.getElem?_eq_none (by simpa using h1), List.getD_eq_getElem?_getD, List.getD_eq_getElem?_getD, List.getElem?_eq_none h1, List.getElem?_eq_none (by omega)]; simp

theorem Sq.row {n : Nat} {m : Mat} (h : Sq n m) {i : Nat} (hi : i < n) : m[i]? = some (m.getD i []) ∧ m.getD i [] ∈ m ∧ (m.getD i []).length = n := by
  have e : m[i]? = some (m.getD i []) := by rw [List.getD_eq_getElem?_getD, List.getElem?_eq_getElem (by rw [h.1]; exact hi)]; rfl
  exact ⟨e, List.mem_of_getElem? e, h.2 _ (List.mem_of_getElem? e)⟩
theorem Sq.set {n : Nat} {m : Mat} (h : Sq n m) {i : Nat} {r : List Int} (hr : r.length = n) : Sq n (m.set i r) :=
  ⟨by rw [List.length_set]; exact h.1, fun x hx => by
    rcases List.mem_or_eq_of_mem_set hx with h' | rfl
    · exact h.2 x h'
    · exact hr⟩
theorem getD_set {m : Mat} {i s : Nat} {r : List Int} (hi : i < m.length) : (m.set i r).getD s [] = if s = i then r else m.getD s [] := by
  rw [List.getD_eq_getElem?_getD, List.getElem?_set]
  by_cases h : i = s
  · subst h; simp [hi]
  · rw [if_neg h, if_neg (fun q => h q.symm), List.getD_eq_getElem?_getD]

inductive Lat (m : Mat) : (Nat → Int) → Prop
  | zero : Lat m fun _ => 0
  | add {f : Nat → Int} {r : List Int} (t : Int) : Lat m f → r ∈ m → Lat m fun j => f j + t * r.getD j 0
theorem Lat.cast {m : Mat} {f g : Nat → Int} (h : Lat m f) (e : ∀ j, f j = g j) : Lat m g := by
  have : f = g := funext e
  exact this ▸ h
theorem Lat.mem {m : Mat} {r : List Int} (h : r ∈ m) : Lat m fun j => r.getD j 0 := (Lat.add 1 .zero h).cast fun j => by simp
theorem Lat.plus {m : Mat} {f g : Nat → Int} (hf : Lat m f) (hg : Lat m g) : Lat m fun j => f j + g j := by
  induction hg with
  | zero => exact hf.cast fun j => by simp
  | add t _ hr ih => exact (Lat.add t ih hr).cast fun j => by dsimp only; omega
theorem Lat.times {m : Mat} {f : Nat → Int} (t : Int) (hf : Lat m f) : Lat m fun j => t * f j := by
  induction hf with
  | zero => exact Lat.zero.cast fun j => by simp
  | add u _ hr ih => exact (Lat.add (t * u) ih hr).cast fun j => by grind
theorem Lat.le {m m' : Mat} {f : Nat → Int} (h : ∀ r ∈ m, Lat m' fun j => r.getD j 0) (hf : Lat m f) : Lat m' f := by
  induction hf with
  | zero => exact .zero
  | add t _ hr ih => exact (ih.plus ((h _ hr).times t)).cast fun j => rfl
noncomputable def Eqv (m m' : Mat) : Prop := ∀ f, Lat m f ↔ Lat m' f
theorem Eqv.of {m m' : Mat} (h : ∀ r ∈ m, Lat m' fun j => r.getD j 0) (h' : ∀ r ∈ m', Lat m fun j => r.getD j 0) : Eqv m m' := fun f => ⟨Lat.le h, Lat.le h'⟩
theorem Eqv.refl (m : Mat) : Eqv m m := fun _ => Iff.rfl
theorem Eqv.trans {a b c : Mat} (x : Eqv a b) (y : Eqv b c) : Eqv a c := fun f => (x f).trans (y f)
theorem Eqv.symm {a b : Mat} (x : Eqv a b) : Eqv b a := fun f => (x f).symm

theorem mem_row {n : Nat} {m : Mat} (h : Sq n m) {r : List Int} (hr : r ∈ m) : ∃ s, s < n ∧ m.getD s [] = r := by
  obtain ⟨s, hs, e⟩ := List.mem_iff_getElem.mp hr
  exact ⟨s, by rw [← h.1]; exact hs, by rw [List.getD_eq_getElem?_getD, List.getElem?_eq_getElem hs, e]; rfl⟩
theorem row_set {n : Nat} {m : Mat} (h : Sq n m) {i s : Nat} {x : List Int} (hi : i < n) (hs : s < n) : (if s = i then x else m.getD s []) ∈ m.set i x := by
  rw [← getD_set (by rw [h.1]; exact hi)]
  have : s < (m.set i x).length := by rw [List.length_set, h.1]; exact hs
  rw [List.getD_eq_getElem?_getD, List.getElem?_eq_getElem this]
  exact List.getElem_mem _

theorem eqv_sub {n : Nat} {m : Mat} (h : Sq n m) {i k : Nat} (hi : i < n) (hk : k < n) (hik : i ≠ k) (q : Int) : Eqv (m.set i (subm (m.getD i []) (m.getD k []) q)) m := by
  obtain ⟨_, mi, li⟩ := h.row hi
  obtain ⟨_, mk, lk⟩ := h.row hk
  have g := subm_get (r := m.getD i []) (h := m.getD k []) (by rw [li, lk]) q
  refine Eqv.of (fun r hr => ?_) fun r hr => ?_
  · rcases List.mem_or_eq_of_mem_set hr with h' | rfl
    · exact Lat.mem h'
    · exact ((Lat.mem mi).plus ((Lat.mem mk).times (-q))).cast fun j => by rw [g]; grind
  · obtain ⟨s, hs, rfl⟩ := mem_row h hr
    have k1 := row_set h (x := subm (m.getD i []) (m.getD k []) q) hi hs
    have k2 := row_set h (x := subm (m.getD i []) (m.getD k []) q) hi hk
    rw [if_neg (Ne.symm hik)] at k2
    by_cases e : s = i
    · subst e
      rw [if_pos rfl] at k1
      exact ((Lat.mem k1).plus ((Lat.mem k2).times q)).cast fun j => by rw [g]; grind
    · rw [if_neg e] at k1
      exact Lat.mem k1
theorem neg_get (r : List Int) (j : Nat) : (r.map fun x => -x).getD j 0 = -(r.getD j 0) := by
  rw [List.getD_eq_getElem?_getD, List.getD_eq_getElem?_getD, List.getElem?_map]
  cases r[j]? <;> simp
theorem eqv_neg {n : Nat} {m : Mat} (h : Sq n m) {i : Nat} (hi : i < n) : Eqv (m.set i ((m.getD i []).map fun x => -x)) m := by
  obtain ⟨_, mi, li⟩ := h.row hi
  have g := neg_get (m.getD i [])
  refine Eqv.of (fun r hr => ?_) fun r hr => ?_
  · rcases List.mem_or_eq_of_mem_set hr with h' | rfl
    · exact Lat.mem h'
    · exact ((Lat.mem mi).times (-1)).cast fun j => by rw [g]; omega
  · obtain ⟨s, hs, rfl⟩ := mem_row h hr
    have k1 := row_set h (x := (m.getD i []).map fun x => -x) hi hs
    by_cases e : s = i
    · subst e
      rw [if_pos rfl] at k1
      exact ((Lat.mem k1).times (-1)).cast fun j => by rw [g]; omega
    · rw [if_neg e] at k1
      exact Lat.mem k1
noncomputable def swp (m : Mat) (i k : Nat) : Mat := (m.set i (m.getD k [])).set k (m.getD i [])
theorem swp_get {n : Nat} {m : Mat} (h : Sq n m) {i k s : Nat} (hi : i < n) (hk : k < n) : (swp m i k).getD s [] = if s = k then m.getD i [] else if s = i then m.getD k [] else m.getD s [] := by
  unfold swp
  rw [getD_set (by rw [List.length_set, h.1]; exact hk), getD_set (by rw [h.1]; exact hi)]
theorem swp_sq {n : Nat} {m : Mat} (h : Sq n m) {i k : Nat} (hi : i < n) (hk : k < n) : Sq n (swp m i k) := (h.set (h.row hk).2.2).set (h.row hi).2.2
theorem eqv_swp {n : Nat} {m : Mat} (h : Sq n m) {i k : Nat} (hi : i < n) (hk : k < n) : Eqv (swp m i k) m := by
  have hs := swp_sq h hi hk
  refine Eqv.of (fun r hr => ?_) fun r hr => ?_
  · obtain ⟨s, hs, rfl⟩ := mem_row hs hr
    rw [swp_get h hi hk]
    split
    · exact Lat.mem (h.row hi).2.1
    · split
      · exact Lat.mem (h.row hk).2.1
      · exact Lat.mem (h.row hs).2.1
  · obtain ⟨s, hs', rfl⟩ := mem_row h hr
    have a1 := (hs.row hk).2.1
    have a2 := (hs.row hi).2.1
    have a3 := (hs.row hs').2.1
    rw [swp_get h hi hk] at a1 a2 a3
    rw [if_pos rfl] at a1
    by_cases e1 : s = i
    · subst e1; exact Lat.mem a1
    · by_cases e2 : s = k
      · subst e2
        by_cases e3 : i = s
        · exact absurd e3.symm e1
        · rw [if_neg e3, if_pos rfl] at a2; exact Lat.mem a2
      · rw [if_neg e2, if_neg e1] at a3; exact Lat.mem a3

/-! the size -/
noncomputable def minor (m : Mat) (i : Nat) : Mat := ((List.range m.length).filter fun s => s != i).map fun s => (m.getD s []).drop 1
noncomputable def det : Nat → Mat → Int
  | 0, _ => 1
  | k + 1, m => ((List.range m.length).map fun i => (if i % 2 = 0 then en m i 0 else 0 - en m i 0) * det k (minor m i)).sum
theorem det1 (a : Int) : det 1 [[a]] = a := by simp [det, minor, en]
theorem det2 (a b c d : Int) : det 2 [[a, b], [c, d]] = a * d - c * b := by
  simp [det, minor, en, List.range, List.range.loop, List.filter]
  grind
theorem det3 (a b c d e f g h i : Int) : det 3 [[a, b, c], [d, e, f], [g, h, i]] = a * (e * i - h * f) - d * (b * i - h * c) + g * (b * f - e * c) := by
  simp [det, minor, en, List.range, List.range.loop, List.filter]
  grind
theorem len1 {α : Type} {l : List α} (h : l.length = 1) : ∃ a, l = [a] := List.length_eq_one_iff.mp h
theorem len2 {α : Type} {l : List α} (h : l.length = 2) : ∃ a b, l = [a, b] := by
  match l, h with
  | [a, b], _ => exact ⟨a, b, rfl⟩
theorem len3 {α : Type} {l : List α} (h : l.length = 3) : ∃ a b c, l = [a, b, c] := by
  match l, h with
  | [a, b, c], _ => exact ⟨a, b, c, rfl⟩
theorem Sq.one {m : Mat} (h : Sq 1 m) : ∃ a, m = [[a]] := by
  obtain ⟨r, rfl⟩ := len1 h.1
  obtain ⟨a, rfl⟩ := len1 (h.2 r (by simp))
  exact ⟨a, rfl⟩
theorem Sq.two {m : Mat} (h : Sq 2 m) : ∃ a b c d, m = [[a, b], [c, d]] := by
  obtain ⟨r, s, rfl⟩ := len2 h.1
  obtain ⟨a, b, rfl⟩ := len2 (h.2 r (by simp))
  obtain ⟨c, d, rfl⟩ := len2 (h.2 s (by simp))
  exact ⟨a, b, c, d, rfl⟩
theorem Sq.three {m : Mat} (h : Sq 3 m) : ∃ a b c d e f g h i, m = [[a, b, c], [d, e, f], [g, h, i]] := by
  obtain ⟨r, s, t, rfl⟩ := len3 h.1
  obtain ⟨a, b, c, rfl⟩ := len3 (h.2 r (by simp))
  obtain ⟨d, e, f, rfl⟩ := len3 (h.2 s (by simp))
  obtain ⟨g, j, i, rfl⟩ := len3 (h.2 t (by simp))
  exact ⟨a, b, c, d, e, f, g, j, i, rfl⟩
theorem three_cases {n : Nat} (h1 : 1 ≤ n) (h3 : n ≤ 3) : n = 1 ∨ n = 2 ∨ n = 3 := by omega
theorem subm1 (a x q : Int) : subm [a] [x] q = [a - q * x] := rfl
theorem subm2 (a b x y q : Int) : subm [a, b] [x, y] q = [a - q * x, b - q * y] := rfl
theorem subm3 (a b c x y z q : Int) : subm [a, b, c] [x, y, z] q = [a - q * x, b - q * y, c - q * z] := rfl
theorem det_sub {n : Nat} {m : Mat} (h1 : 1 ≤ n) (h3 : n ≤ 3) (h : Sq n m) {i k : Nat} (hi : i < n) (hk : k < n) (hik : i ≠ k) (q : Int) : det n (m.set i (subm (m.getD i []) (m.getD k []) q)) = det n m := by
  rcases three_cases h1 h3 with rfl | rfl | rfl
  · omega
  · obtain ⟨a, b, c, d, rfl⟩ := h.two
    rcases (show i = 0 ∨ i = 1 by omega) with rfl | rfl <;> rcases (show k = 0 ∨ k = 1 by omega) with rfl | rfl <;> first | exact absurd rfl hik | (show det 2 [_, _] = _; simp only [List.getD_cons_zero, List.getD_cons_succ, subm2, det2]; grind)
  · obtain ⟨a, b, c, d, e, f, g, h, j, rfl⟩ := h.three
    rcases (show i = 0 ∨ i = 1 ∨ i = 2 by omega) with rfl | rfl | rfl <;> rcases (show k = 0 ∨ k = 1 ∨ k = 2 by omega) with rfl | rfl | rfl <;> first | exact absurd rfl hik | (show det 3 [_, _, _] = _; simp only [List.getD_cons_zero, List.getD_cons_succ, subm3, det3]; grind)
theorem det_neg {n : Nat} {m : Mat} (h1 : 1 ≤ n) (h3 : n ≤ 3) (h : Sq n m) {i : Nat} (hi : i < n) : det n (m.set i ((m.getD i []).map fun x => -x)) = -det n m := by
  rcases three_cases h1 h3 with rfl | rfl | rfl
  · obtain ⟨a, rfl⟩ := h.one
    rcases (show i = 0 by omega) with rfl
    show det 1 [[_]] = _; simp only [det1]
  · obtain ⟨a, b, c, d, rfl⟩ := h.two
    rcases (show i = 0 ∨ i = 1 by omega) with rfl | rfl <;> (show det 2 [[_, _], [_, _]] = _; simp only [det2]; grind)
  · obtain ⟨a, b, c, d, e, f, g, h, j, rfl⟩ := h.three
    rcases (show i = 0 ∨ i = 1 ∨ i = 2 by omega) with rfl | rfl | rfl <;> (show det 3 [[_, _, _], [_, _, _], [_, _, _]] = _; simp only [det3]; grind)
theorem det_swp {n : Nat} {m : Mat} (h1 : 1 ≤ n) (h3 : n ≤ 3) (h : Sq n m) {i k : Nat} (hi : i < n) (hk : k < n) : (det n (swp m i k)).natAbs = (det n m).natAbs := by
  by_cases hik : i = k
  · subst hik
    have : swp m i i = m := by
      unfold swp
      obtain ⟨e, _, _⟩ := h.row hi
      have hi' : i < m.length := by rw [h.1]; exact hi
      rw [List.set_set]
      refine List.ext_getElem? fun s => ?_
      rw [List.getElem?_set]
      split
      · rename_i hs; subst hs; first | exact e.symm | (rw [if_pos hi']; exact e.symm)
      · rfl
    rw [this]
  · have : det n (swp m i k) = -det n m := by
      rcases three_cases h1 h3 with rfl | rfl | rfl
      · omega
      · obtain ⟨a, b, c, d, rfl⟩ := h.two
        rcases (show i = 0 ∨ i = 1 by omega) with rfl | rfl <;> rcases (show k = 0 ∨ k = 1 by omega) with rfl | rfl <;> first | exact absurd rfl hik | (show det 2 [[_, _], [_, _]] = _; simp only [det2]; grind)
      · obtain ⟨a, b, c, d, e, f, g, h, j, rfl⟩ := h.three
        rcases (show i = 0 ∨ i = 1 ∨ i = 2 by omega) with rfl | rfl | rfl <;> rcases (show k = 0 ∨ k = 1 ∨ k = 2 by omega) with rfl | rfl | rfl <;> first | exact absurd rfl hik | (show det 3 [[_, _, _], [_, _, _], [_, _, _]] = _; simp only [det3]; grind)
    rw [this, Int.natAbs_neg]
end Mine

namespace Mine

theorem round_arith {M x h K : Nat} (h1 : 1 ≤ h) (hx : h < x) (hK : M * x * x * h ≤ K) :
    M * (1 + x / h) * h * h ≤ K ∧ (x % h ≠ 0 → M * (1 + x / h) * h * h * (x % h) ≤ K) ∧ (x % h = 0 → ∀ r, r < h → M * (1 + x / h) * h * h * r ≤ K) := by
  have e := Nat.div_add_mod x h
  have ht : 1 ≤ x / h := (Nat.one_le_div_iff (by omega)).mpr (by omega)
  have hr : x % h < h := Nat.mod_lt _ (by omega)
  generalize x / h = t at *
  generalize x % h = r at *
  have key : ∀ z, (1 + t) * h * z ≤ x * x → M * (1 + t) * h * h * z ≤ K := fun z hz => by
    refine Nat.le_trans ?_ hK
    have := Nat.mul_le_mul_left (M * h) hz
    calc M * (1 + t) * h * h * z = M * h * ((1 + t) * h * z) := by grind
      _ ≤ M * h * (x * x) := this
      _ = M * x * x * h := by grind
  have hxx : x * x = t * t * (h * h) + 2 * (t * (h * r)) + r * r := by rw [← e]; grind
  refine ⟨?_, fun h0 => key r ?_, fun h0 z hz => key z ?_⟩
  · have := key 1 (by
      have a1 : (1 + t) * h * 1 = h + h * t := by grind
      have a2 : 2 * x ≤ x * x := Nat.mul_le_mul_right x (by omega)
      omega)
    simpa using this
  · have a1 : (1 + t) * h * r = h * r + t * (h * r) := by grind
    have a2 : h * r ≤ t * (h * r) := Nat.le_mul_of_pos_left _ (by omega)
    omega
  · subst h0
    have ht2 : 2 ≤ t := by
      rcases Nat.lt_or_ge t 2 with k | k
      · have : t = 1 := by omega
        subst this; omega
      · exact k
    have a1 : (1 + t) * h * z ≤ (1 + t) * h * h := Nat.mul_le_mul_left _ (Nat.le_of_lt hz)
    have a2 : (1 + t) * h * h = (1 + t) * (h * h) := by grind
    have a3 : (1 + t) * (h * h) ≤ t * t * (h * h) := Nat.mul_le_mul_right _ (by have := Nat.mul_le_mul_right t ht2; omega)
    omega

/-- the columns before k stand -/
noncomputable def Tri (n : Nat) (m : Mat) (k : Nat) : Prop := ∀ j, j < k → 0 < en m j j ∧ (∀ i, j < i → i < n → en m i j = 0) ∧ ∀ i, i < j → 0 ≤ en m i j ∧ en m i j < en m j j
noncomputable def HNF (n : Nat) (m : Mat) : Prop := Sq n m ∧ Tri n m n

theorem det_none {n k : Nat} {m : Mat} (h1 : 1 ≤ n) (h3 : n ≤ 3) (h : Sq n m) (hk : k < n) (hT : ∀ j, j < k → ∀ i, j < i → i < n → en m i j = 0) (h0 : ∀ i, k ≤ i → i < n → en m i k = 0) : det n m = 0 := by
  rcases three_cases h1 h3 with rfl | rfl | rfl
  · obtain ⟨a, rfl⟩ := h.one
    have : k = 0 := by omega
    subst this
    have a0 : a = 0 := h0 0 (by omega) (by omega)
    rw [det1, a0]
  · obtain ⟨a, b, c, d, rfl⟩ := h.two
    rw [det2]
    rcases (show k = 0 ∨ k = 1 by omega) with rfl | rfl
    · have a0 : a = 0 := h0 0 (by omega) (by omega)
      have c0 : c = 0 := h0 1 (by omega) (by omega)
      rw [a0, c0]; simp
    · have c0 : c = 0 := hT 0 (by omega) 1 (by omega) (by omega)
      have d0 : d = 0 := h0 1 (by omega) (by omega)
      rw [c0, d0]; simp
  · obtain ⟨a, b, c, d, e, f, g, i, j, rfl⟩ := h.three
    rw [det3]
    rcases (show k = 0 ∨ k = 1 ∨ k = 2 by omega) with rfl | rfl | rfl
    · have a0 : a = 0 := h0 0 (by omega) (by omega)
      have d0 : d = 0 := h0 1 (by omega) (by omega)
      have g0 : g = 0 := h0 2 (by omega) (by omega)
      rw [a0, d0, g0]; simp
    · have d0 : d = 0 := hT 0 (by omega) 1 (by omega) (by omega)
      have g0 : g = 0 := hT 0 (by omega) 2 (by omega) (by omega)
      have e0 : e = 0 := h0 1 (by omega) (by omega)
      have i0 : i = 0 := h0 2 (by omega) (by omega)
      rw [d0, g0, e0, i0]; simp
    · have d0 : d = 0 := hT 0 (by omega) 1 (by omega) (by omega)
      have g0 : g = 0 := hT 0 (by omega) 2 (by omega) (by omega)
      have i0 : i = 0 := hT 1 (by omega) 2 (by omega) (by omega)
      have j0 : j = 0 := h0 2 (by omega) (by omega)
      rw [d0, g0, i0, j0]; simp

theorem HNF.one {m : Mat} (h : HNF 1 m) : ∃ a, m = [[a]] ∧ 0 < a := by
  obtain ⟨hs, hT⟩ := h
  obtain ⟨a, rfl⟩ := hs.one
  exact ⟨a, rfl, (hT 0 (by omega)).1⟩
theorem HNF.two {m : Mat} (h : HNF 2 m) : ∃ a b d, m = [[a, b], [0, d]] ∧ 0 < a ∧ 0 < d ∧ 0 ≤ b ∧ b < d := by
  obtain ⟨hs, hT⟩ := h
  obtain ⟨a, b, c, d, rfl⟩ := hs.two
  have c0 : c = 0 := (hT 0 (by omega)).2.1 1 (by omega) (by omega)
  have hb := (hT 1 (by omega)).2.2 0 (by omega)
  subst c0
  exact ⟨a, b, d, rfl, (hT 0 (by omega)).1, (hT 1 (by omega)).1, hb.1, hb.2⟩
theorem HNF.three {m : Mat} (h : HNF 3 m) : ∃ a b c d e f, m = [[a, b, c], [0, d, e], [0, 0, f]] ∧ 0 < a ∧ 0 < d ∧ 0 < f ∧ (0 ≤ b ∧ b < d) ∧ (0 ≤ c ∧ c < f) ∧ 0 ≤ e ∧ e < f := by
  obtain ⟨hs, hT⟩ := h
  obtain ⟨a, b, c, d, e, f, g, i, j, rfl⟩ := hs.three
  have d0 : d = 0 := (hT 0 (by omega)).2.1 1 (by omega) (by omega)
  have g0 : g = 0 := (hT 0 (by omega)).2.1 2 (by omega) (by omega)
  have i0 : i = 0 := (hT 1 (by omega)).2.1 2 (by omega) (by omega)
  subst d0 g0 i0
  exact ⟨a, b, c, e, f, j, rfl, (hT 0 (by omega)).1, (hT 1 (by omega)).1, (hT 2 (by omega)).1, (hT 1 (by omega)).2.2 0 (by omega), (hT 2 (by omega)).2.2 0 (by omega), (hT 2 (by omega)).2.2 1 (by omega)⟩
theorem det_pos {n : Nat} {m : Mat} (h1 : 1 ≤ n) (h3 : n ≤ 3) (h : HNF n m) : 0 < det n m := by
  rcases three_cases h1 h3 with rfl | rfl | rfl
  · obtain ⟨a, rfl, ha⟩ := h.one
    rw [det1]; exact ha
  · obtain ⟨a, b, d, rfl, ha, hd, _⟩ := h.two
    rw [det2]
    have := Int.mul_pos ha hd
    omega
  · obtain ⟨a, b, c, d, e, f, rfl, ha, hd, hf, _⟩ := h.three
    rw [det3]
    have := Int.mul_pos ha (Int.mul_pos hd hf)
    simpa using this

theorem lat1 {a : Int} {g : Nat → Int} (h : Lat [[a]] g) : ∃ x, g 0 = x * a := by
  induction h with
  | zero => exact ⟨0, by simp⟩
  | add t _ hr ih =>
    obtain ⟨x, hx⟩ := ih
    have := List.mem_singleton.mp hr
    subst this
    exact ⟨x + t, by simp only [hx, List.getD_cons_zero]; grind⟩
theorem lat2 {a b d : Int} {g : Nat → Int} (h : Lat [[a, b], [0, d]] g) : ∃ x y, g 0 = x * a ∧ g 1 = x * b + y * d := by
  induction h with
  | zero => exact ⟨0, 0, by simp, by simp⟩
  | add t _ hr ih =>
    obtain ⟨x, y, hx, hy⟩ := ih
    rcases List.mem_cons.mp hr with rfl | hr
    · exact ⟨x + t, y, by simp only [hx, List.getD_cons_zero]; grind, by simp only [hy, List.getD_cons_zero, List.getD_cons_succ]; grind⟩
    · have := List.mem_singleton.mp hr
      subst this
      exact ⟨x, y + t, by simp only [hx, List.getD_cons_zero]; grind, by simp only [hy, List.getD_cons_zero, List.getD_cons_succ]; grind⟩
theorem lat3 {a b c d e f : Int} {g : Nat → Int} (h : Lat [[a, b, c], [0, d, e], [0, 0, f]] g) : ∃ x y z, g 0 = x * a ∧ g 1 = x * b + y * d ∧ g 2 = x * c + y * e + z * f := by
  induction h with
  | zero => exact ⟨0, 0, 0, by simp, by simp, by simp⟩
  | add t _ hr ih =>
    obtain ⟨x, y, z, hx, hy, hz⟩ := ih
    rcases List.mem_cons.mp hr with rfl | hr
    · exact ⟨x + t, y, z, by simp only [hx, List.getD_cons_zero]; grind, by simp only [hy, List.getD_cons_zero, List.getD_cons_succ]; grind, by simp only [hz, List.getD_cons_zero, List.getD_cons_succ]; grind⟩
    · rcases List.mem_cons.mp hr with rfl | hr
      · exact ⟨x, y + t, z, by simp only [hx, List.getD_cons_zero]; grind, by simp only [hy, List.getD_cons_zero, List.getD_cons_succ]; grind, by simp only [hz, List.getD_cons_zero, List.getD_cons_succ]; grind⟩
      · have := List.mem_singleton.mp hr
        subst this
        exact ⟨x, y, z + t, by simp only [hx, List.getD_cons_zero]; grind, by simp only [hy, List.getD_cons_zero, List.getD_cons_succ]; grind, by simp only [hz, List.getD_cons_zero, List.getD_cons_succ]; grind⟩

theorem zero_of {x a : Int} (ha : 0 < a) (h : 0 = x * a) : x = 0 := by
  rcases Int.mul_eq_zero.mp h.symm with h | h
  · exact h
  · omega
theorem one_of {x a : Int} (ha : 0 < a) (h : a = x * a) : x = 1 := by
  have : (x - 1) * a = 0 := by rw [Int.sub_mul]; omega
  rcases Int.mul_eq_zero.mp this with h | h <;> omega
theorem same_mod {e e' f z : Int} (h1 : 0 ≤ e) (h2 : e < f) (h3 : 0 ≤ e') (h4 : e' < f) (h : e' = e + z * f) : z = 0 ∧ e' = e := by
  have a := Int.emod_eq_of_lt h1 h2
  have b := Int.emod_eq_of_lt h3 h4
  rw [h, Int.add_mul_emod_self_right, a] at b
  refine ⟨?_, by omega⟩
  have : z * f = 0 := by omega
  rcases Int.mul_eq_zero.mp this with h | h <;> omega
theorem dvd_same {a a' x y : Int} (ha : 0 < a) (ha' : 0 < a') (h : a' = x * a) (h' : a = y * a') : a' = a :=
  Int.dvd_antisymm (by omega) (by omega) ⟨y, by rw [h']; exact Int.mul_comm _ _⟩ ⟨x, by rw [h]; exact Int.mul_comm _ _⟩

theorem form_one {n : Nat} {m m' : Mat} (h1 : 1 ≤ n) (h3 : n ≤ 3) (h : HNF n m) (h' : HNF n m') (E : Eqv m m') : m = m' := by
  rcases three_cases h1 h3 with rfl | rfl | rfl
  · obtain ⟨a, rfl, ha⟩ := h.one
    obtain ⟨a', rfl, ha'⟩ := h'.one
    obtain ⟨x, hx⟩ := lat1 ((E _).mpr (Lat.mem (m := [[a']]) (r := [a']) (by simp)))
    obtain ⟨y, hy⟩ := lat1 ((E _).mp (Lat.mem (m := [[a]]) (r := [a]) (by simp)))
    have := dvd_same ha ha' hx hy
    rw [this]
  · obtain ⟨a, b, d, rfl, ha, hd, hb, hb'⟩ := h.two
    obtain ⟨a', b', d', rfl, ha', hd', kb, kb'⟩ := h'.two
    obtain ⟨x, y, hx, hy⟩ := lat2 ((E _).mpr (Lat.mem (r := [a', b']) (by simp)))
    obtain ⟨x2, y2, hx2, hy2⟩ := lat2 ((E _).mp (Lat.mem (r := [a, b]) (by simp)))
    obtain ⟨u, v, hu, hv⟩ := lat2 ((E _).mpr (Lat.mem (r := [0, d']) (by simp)))
    obtain ⟨u2, v2, hu2, hv2⟩ := lat2 ((E _).mp (Lat.mem (r := [0, d]) (by simp)))
    simp only [List.getD_cons_zero, List.getD_cons_succ] at hx hy hx2 hy2 hu hv hu2 hv2
    have ea := dvd_same ha ha' hx hx2
    have u0 := zero_of ha hu
    have u20 := zero_of ha' hu2
    rw [u0] at hv; rw [u20] at hv2
    have ed := dvd_same hd hd' (by omega : d' = v * d) (by omega : d = v2 * d')
    subst ea ed
    have x1 := one_of ha hx
    rw [x1] at hy
    have := same_mod hb hb' kb kb' (z := y) (by omega)
    rw [this.2]
  · obtain ⟨a, b, c, d, e, f, rfl, ha, hd, hf, ⟨hb, hb'⟩, ⟨hc, hc'⟩, he, he'⟩ := h.three
    obtain ⟨a', b', c', d', e', f', rfl, ha', hd', hf', ⟨kb, kb'⟩, ⟨kc, kc'⟩, ke, ke'⟩ := h'.three
    obtain ⟨x, y, z, hx, hy, hz⟩ := lat3 ((E _).mpr (Lat.mem (r := [a', b', c']) (by simp)))
    obtain ⟨x2, y2, z2, hx2, hy2, hz2⟩ := lat3 ((E _).mp (Lat.mem (r := [a, b, c]) (by simp)))
    obtain ⟨u, v, w, hu, hv, hw⟩ := lat3 ((E _).mpr (Lat.mem (r := [0, d', e']) (by simp)))
    obtain ⟨u2, v2, w2, hu2, hv2, hw2⟩ := lat3 ((E _).mp (Lat.mem (r := [0, d, e]) (by simp)))
    obtain ⟨p, q, r, hp, hq, hr⟩ := lat3 ((E _).mpr (Lat.mem (r := [0, 0, f']) (by simp)))
    obtain ⟨p2, q2, r2, hp2, hq2, hr2⟩ := lat3 ((E _).mp (Lat.mem (r := [0, 0, f]) (by simp)))
    simp only [List.getD_cons_zero, List.getD_cons_succ] at hx hy hz hx2 hy2 hz2 hu hv hw hu2 hv2 hw2 hp hq hr hp2 hq2 hr2
    have ea := dvd_same ha ha' hx hx2
    have u0 := zero_of ha hu
    have u20 := zero_of ha' hu2
    have p0 := zero_of ha hp
    have p20 := zero_of ha' hp2
    rw [u0] at hv hw; rw [u20] at hv2 hw2; rw [p0] at hq hr; rw [p20] at hq2 hr2
    have ed := dvd_same hd hd' (by omega : d' = v * d) (by omega : d = v2 * d')
    have q0 := zero_of hd (by omega : 0 = q * d)
    have q20 := zero_of hd' (by omega : 0 = q2 * d')
    rw [q0] at hr; rw [q20] at hr2
    have ef := dvd_same hf hf' (by omega : f' = r * f) (by omega : f = r2 * f')
    subst ea ed ef
    have x1 := one_of ha hx
    have v1 := one_of hd (by omega : _ = v * _)
    rw [x1] at hy hz
    rw [v1] at hw
    have s1 := same_mod hb hb' kb kb' (z := y) (by omega)
    rw [s1.1] at hz
    have s2 := same_mod hc hc' kc kc' (z := z) (by omega)
    have s3 := same_mod he he' ke ke' (z := w) (by omega)
    rw [s1.2, s2.2, s3.2]

theorem goes_dvd {n c : Nat} {m : Mat} {g : Nat → Int} (h1 : 1 ≤ n) (h3 : n ≤ 3) (h : HNF n m) (hL : Lat m g) (hc : c < n) (h0 : ∀ j, j < c → g j = 0) : ∃ t, g c = t * en m c c := by
  rcases three_cases h1 h3 with rfl | rfl | rfl
  · obtain ⟨a, rfl, ha⟩ := h.one
    obtain ⟨x, hx⟩ := lat1 hL
    have : c = 0 := by omega
    subst this
    exact ⟨x, hx⟩
  · obtain ⟨a, b, d, rfl, ha, hd, hb, hb'⟩ := h.two
    obtain ⟨x, y, hx, hy⟩ := lat2 hL
    rcases (show c = 0 ∨ c = 1 by omega) with rfl | rfl
    · exact ⟨x, hx⟩
    · rw [h0 0 (by omega)] at hx
      rw [zero_of ha hx] at hy
      exact ⟨y, by rw [hy]; simp [en]⟩
  · obtain ⟨a, b, c', d, e, f, rfl, ha, hd, hf, _⟩ := h.three
    obtain ⟨x, y, z, hx, hy, hz⟩ := lat3 hL
    rcases (show c = 0 ∨ c = 1 ∨ c = 2 by omega) with rfl | rfl | rfl
    · exact ⟨x, hx⟩
    · rw [h0 0 (by omega)] at hx
      rw [zero_of ha hx] at hy
      exact ⟨y, by rw [hy]; simp [en]⟩
    · rw [h0 0 (by omega)] at hx
      rw [zero_of ha hx] at hy hz
      rw [h0 1 (by omega)] at hy
      rw [zero_of hd (by omega : 0 = y * d)] at hz
      exact ⟨z, by rw [hz]; simp [en]⟩
end Mine

namespace Mine

/-! what floor division leaves -/
theorem rem_pos {a b : Int} (hb : 0 < b) : 0 ≤ a - a.fdiv b * b ∧ a - a.fdiv b * b < b := by
  have e : a - a.fdiv b * b = a % b := by
    rw [Int.fdiv_eq_ediv_of_nonneg _ (by omega)]
    have := Int.emod_def a b
    rw [Int.mul_comm b] at this
    omega
  rw [e]
  exact ⟨Int.emod_nonneg _ (by omega), Int.emod_lt_of_pos _ hb⟩
theorem fdiv_negs (a b : Int) : (-a).fdiv (-b) = a.fdiv b := by rw [Int.neg_fdiv_neg]
theorem rem_neg {a b : Int} (hb : b < 0) : a - a.fdiv b * b ≤ 0 ∧ b < a - a.fdiv b * b := by
  have := rem_pos (a := -a) (b := -b) (by omega)
  rw [fdiv_negs, Int.mul_neg] at this
  omega
theorem rem_lt {a b : Int} (hb : b ≠ 0) : (a - a.fdiv b * b).natAbs < b.natAbs := by
  rcases Int.lt_or_gt_of_ne hb with h | h
  · have := rem_neg (a := a) h; omega
  · have := rem_pos (a := a) h; omega
theorem rem_sign {a b : Int} (hb : b ≠ 0) : 0 ≤ (a - a.fdiv b * b) * b := by
  rcases Int.lt_or_gt_of_ne hb with h | h
  · exact Int.mul_nonneg_of_nonpos_of_nonpos (rem_neg (a := a) h).1 (by omega)
  · exact Int.mul_nonneg (rem_pos (a := a) h).1 (by omega)
theorem quo_le {a b : Int} (hb : b ≠ 0) : (a.fdiv b).natAbs ≤ a.natAbs := by
  have h := rem_lt (a := a) hb
  generalize a.fdiv b = q at *
  have e : (q * b).natAbs = q.natAbs * b.natAbs := Int.natAbs_mul q b
  have h2 : (q * b).natAbs ≤ a.natAbs + (a - q * b).natAbs := by omega
  rw [e] at h2
  have hb' : 1 ≤ b.natAbs := by omega
  rcases Nat.eq_zero_or_pos q.natAbs with h0 | h0
  · omega
  · have : q.natAbs + b.natAbs ≤ q.natAbs * b.natAbs + 1 := by
      obtain ⟨x, hx⟩ : ∃ x, q.natAbs = x + 1 := ⟨q.natAbs - 1, by omega⟩
      obtain ⟨y, hy⟩ : ∃ y, b.natAbs = y + 1 := ⟨b.natAbs - 1, by omega⟩
      rw [hx, hy]
      have : (x + 1) * (y + 1) = x * y + x + y + 1 := by grind
      omega
    omega
/-- of one sign: as with numbers from nought on -/
theorem quo_same {a b : Int} (hb : b ≠ 0) (h : 0 ≤ a * b) : (a.fdiv b).natAbs = a.natAbs / b.natAbs ∧ (a - a.fdiv b * b).natAbs = a.natAbs % b.natAbs := by
  have pos : ∀ n m : Nat, 0 < m → ((n : Int).fdiv m).natAbs = n / m ∧ ((n : Int) - (n : Int).fdiv m * m).natAbs = n % m := fun n m hm => by
    have e : (n : Int).fdiv m = ((n / m : Nat) : Int) := by rw [Int.fdiv_eq_ediv_of_nonneg _ (by omega)]; simp
    rw [e]
    refine ⟨rfl, ?_⟩
    have := Nat.div_add_mod n m
    have e2 : ((n / m : Nat) : Int) * (m : Int) = ((m * (n / m) : Nat) : Int) := by rw [Nat.mul_comm, Int.natCast_mul]
    rw [e2]
    omega
  rcases Int.lt_or_gt_of_ne hb with hb' | hb'
  · have ha : a ≤ 0 := by
      rcases Int.lt_or_le 0 a with h1 | h1
      · have := Int.mul_neg_of_pos_of_neg h1 hb'; omega
      · exact h1
    have := pos a.natAbs b.natAbs (by omega)
    rw [show ((a.natAbs : Nat) : Int) = -a by omega, show ((b.natAbs : Nat) : Int) = -b by omega, fdiv_negs, Int.mul_neg] at this
    refine ⟨this.1, ?_⟩
    rw [← this.2]; omega
  · have ha : 0 ≤ a := by
      rcases Int.lt_or_le a 0 with h1 | h1
      · have := Int.mul_neg_of_neg_of_pos h1 hb'; omega
      · exact h1
    have := pos a.natAbs b.natAbs (by omega)
    rw [show ((a.natAbs : Nat) : Int) = a by omega, show ((b.natAbs : Nat) : Int) = b by omega] at this
    exact this

/-! the state while a column is done -/
noncomputable def Bnd (N : Nat) (m : Mat) : Prop := ∀ i j, (en m i j).natAbs ≤ N
structure Good (a : Mat) (n k : Nat) (m : Mat) : Prop where
  sq : Sq n m
  eqv : Eqv m a
  det : (det n m).natAbs = (Mine.det n a).natAbs
  tri : Tri n m k

noncomputable def lessq (m : Mat) (k s : Nat) : List Int := subm (m.getD s []) (m.getD k []) ((en m s k).fdiv (en m k k))
theorem en_set {n : Nat} {m : Mat} (h : Sq n m) {i s j : Nat} {r : List Int} (hi : i < n) : en (m.set i r) s j = if s = i then r.getD j 0 else en m s j := by
  unfold en
  rw [getD_set (by rw [h.1]; exact hi)]
  split <;> rfl
theorem en_subm {n : Nat} {m : Mat} (h : Sq n m) {i k : Nat} (hi : i < n) (hk : k < n) (q : Int) (j : Nat) : (subm (m.getD i []) (m.getD k []) q).getD j 0 = en m i j - q * en m k j :=
  subm_get (by rw [(h.row hi).2.2, (h.row hk).2.2]) q j
theorem en_swp {n : Nat} {m : Mat} (h : Sq n m) {i k s j : Nat} (hi : i < n) (hk : k < n) : en (swp m i k) s j = if s = k then en m i j else if s = i then en m k j else en m s j := by
  unfold en
  rw [swp_get h hi hk]
  split
  · rfl
  · split <;> rfl

theorem Good.swp {a : Mat} {n k l : Nat} {m : Mat} (h1 : 1 ≤ n) (h3 : n ≤ 3) (G : Good a n k m) (hk : k < n) (hl : l < n) (hkl : k ≤ l) : Good a n k (swp m k l) := by
  refine ⟨swp_sq G.sq hk hl, (eqv_swp G.sq hk hl).trans G.eqv, by rw [det_swp h1 h3 G.sq hk hl]; exact G.det, fun j hj => ?_⟩
  obtain ⟨t1, t2, t3⟩ := G.tri j hj
  refine ⟨?_, fun i hji hi => ?_, fun i hij => ?_⟩
  · rw [en_swp G.sq hk hl, if_neg (by omega), if_neg (by omega)]; exact t1
  · rw [en_swp G.sq hk hl]
    split
    · exact t2 k (by omega) hk
    · split
      · exact t2 l (by omega) hl
      · exact t2 i hji hi
  · rw [en_swp G.sq hk hl, if_neg (by omega), if_neg (by omega), en_swp G.sq hk hl, if_neg (by omega), if_neg (by omega)]; exact t3 i hij
theorem Good.sub {a : Mat} {n k i : Nat} {m : Mat} (h1 : 1 ≤ n) (h3 : n ≤ 3) (G : Good a n k m) (hk : k < n) (hi : i < n) (hik : i ≠ k) (q : Int) : Good a n k (m.set i (subm (m.getD i []) (m.getD k []) q)) := by
  refine ⟨G.sq.set (by rw [subm_len]; exact (G.sq.row hi).2.2), (eqv_sub G.sq hi hk hik q).trans G.eqv, by rw [det_sub h1 h3 G.sq hi hk hik]; exact G.det, fun j hj => ?_⟩
  obtain ⟨t1, t2, t3⟩ := G.tri j hj
  have e : ∀ s, en (m.set i (subm (m.getD i []) (m.getD k []) q)) s j = en m s j := fun s => by
    rw [en_set G.sq hi]
    split
    · rename_i hs
      rw [en_subm G.sq hi hk, t2 k (by omega) hk, hs]; simp
    · rfl
  refine ⟨by rw [e]; exact t1, fun s hs hs' => by rw [e]; exact t2 s hs hs', fun s hs => by rw [e, e]; exact t3 s hs⟩
theorem Good.neg {a : Mat} {n k : Nat} {m : Mat} (h1 : 1 ≤ n) (h3 : n ≤ 3) (G : Good a n k m) (hk : k < n) : Good a n k (m.set k ((m.getD k []).map fun x => -x)) := by
  refine ⟨G.sq.set (by rw [List.length_map]; exact (G.sq.row hk).2.2), (eqv_neg G.sq hk).trans G.eqv, by rw [det_neg h1 h3 G.sq hk, Int.natAbs_neg]; exact G.det, fun j hj => ?_⟩
  obtain ⟨t1, t2, t3⟩ := G.tri j hj
  have e : ∀ s, en (m.set k ((m.getD k []).map fun x => -x)) s j = en m s j := fun s => by
    rw [en_set G.sq hk]
    split
    · rename_i hs
      rw [neg_get, hs]
      have := t2 k (by omega) hk
      unfold en at this ⊢
      omega
    · rfl
  refine ⟨by rw [e]; exact t1, fun s hs hs' => by rw [e]; exact t2 s hs hs', fun s hs => by rw [e, e]; exact t3 s hs⟩

/-- after the first round of a column -/
noncomputable def Later (n k K : Nat) (m : Mat) (M x : Nat) : Prop := k + 1 < n ∧ (en m k k).natAbs = x ∧ 0 < x ∧ Bnd M m ∧ (∀ i, k < i → i < n → (en m i k).natAbs < x ∧ 0 ≤ en m i k * en m k k) ∧ M * x * x ≤ K ∧
  ((∀ i, k < i → i < n → en m i k = 0) ∨ ∃ j, k < j ∧ j < n ∧ en m j k ≠ 0 ∧ M * x * x * (en m j k).natAbs ≤ K)
noncomputable def kOf (N : Nat) : Nat := (N + N * N) * N * N * N
noncomputable def WInv (n k N : Nat) (m : Mat) (x : Nat) : Prop := (x = N + 1 ∧ Bnd N m) ∨ ∃ M, Later n k (kOf N) m M x

theorem kOf_ge {N : Nat} (hN : 1 ≤ N) : N ≤ kOf N ∧ N * N ≤ kOf N := by
  unfold kOf
  have a : N + N * N ≤ (N + N * N) * N := Nat.le_mul_of_pos_right _ hN
  have b : (N + N * N) * N ≤ (N + N * N) * N * N := Nat.le_mul_of_pos_right _ hN
  have c : (N + N * N) * N * N ≤ (N + N * N) * N * N * N := Nat.le_mul_of_pos_right _ hN
  constructor <;> omega

/-- the least one of the column was found -/
structure Least (n k : Nat) (m : Mat) (l : Nat) : Prop where
  lo : k ≤ l
  hi : l < n
  ne : en m l k ≠ 0
  le : ∀ i, k ≤ i → i < n → en m i k ≠ 0 → (en m l k).natAbs ≤ (en m i k).natAbs

theorem Bnd.swp {n N k l : Nat} {m : Mat} (h : Sq n m) (B : Bnd N m) (hk : k < n) (hl : l < n) : Bnd N (swp m k l) := fun i j => by
  rw [en_swp h hk hl]
  split
  · exact B _ _
  · split <;> exact B _ _

/-- what a round asks of its numbers -/
theorem round_sizes {n k N x l : Nat} {m : Mat} (hN : 1 ≤ N) (h : Sq n m) (hk : k < n) (w : WInv n k N m x) (L : Least n k m l) (other : ∃ i, k ≤ i ∧ i < n ∧ i ≠ l ∧ en m i k ≠ 0) :
    (en m l k).natAbs < x ∧ ∀ s, k < s → s < n → ∀ j, (en (swp m k l) s j).natAbs ≤ kOf N ∧ (en (swp m k l) k j).natAbs ≤ kOf N ∧
      ((en (swp m k l) s k).fdiv (en (swp m k l) k k) * en (swp m k l) k j).natAbs ≤ kOf N ∧ ((en (swp m k l) s k).fdiv (en (swp m k l) k k)).natAbs ≤ kOf N := by
  obtain ⟨l1, l2, l3, l4⟩ := L
  have ckk : en (swp m k l) k k = en m l k := by
    rw [en_swp h hk l2]; split
    · rename_i e; rw [e]
    · rw [if_pos rfl]
  have hc : en (swp m k l) k k ≠ 0 := by rw [ckk]; exact l3
  rcases w with ⟨rfl, B⟩ | ⟨M, h0, w1, w2, B, w4, w5, w6⟩
  · refine ⟨by have := B l k; omega, fun s hs hs' j => ?_⟩
    have B' := B.swp h hk l2
    obtain ⟨g1, g2⟩ := kOf_ge hN
    have q := quo_le (a := en (swp m k l) s k) hc
    have b1 := B' s k
    refine ⟨Nat.le_trans (B' s j) g1, Nat.le_trans (B' k j) g1, ?_, by omega⟩
    rw [Int.natAbs_mul]
    exact Nat.le_trans (Nat.mul_le_mul (Nat.le_trans q b1) (B' k j)) g2
  · obtain ⟨i, i1, i2, i3, i4⟩ := other
    have hw6 : ∃ j, k < j ∧ j < n ∧ en m j k ≠ 0 ∧ M * x * x * (en m j k).natAbs ≤ kOf N := by
      rcases w6 with w6 | w6
      · exfalso
        have e1 : i = k := by
          rcases Nat.lt_or_ge k i with e | e
          · exact absurd (w6 i e i2) i4
          · omega
        have e2 : l = k := by
          rcases Nat.lt_or_ge k l with e | e
          · exact absurd (w6 l e l2) l3
          · omega
        omega
      · exact w6
    obtain ⟨j, j1, j2, j3, j4⟩ := hw6
    have hj := l4 j (by omega) j2 j3
    have hjx := (w4 j j1 j2).1
    have hlx : (en m l k).natAbs < x := by omega
    refine ⟨hlx, fun s hs hs' j' => ?_⟩
    have hlk : l ≠ k := fun e => by rw [e, w1] at hlx; omega
    have hKM : M * x * x * (en m l k).natAbs ≤ kOf N := Nat.le_trans (Nat.mul_le_mul_left _ hj) j4
    obtain ⟨ra, _, _⟩ := round_arith (M := M) (x := x) (h := (en m l k).natAbs) (by omega) hlx hKM
    have hM' : M * (1 + x / (en m l k).natAbs) ≤ kOf N := by
      refine Nat.le_trans ?_ ra
      rw [Nat.mul_assoc (M * (1 + x / (en m l k).natAbs))]
      refine Nat.le_mul_of_pos_right _ ?_
      exact Nat.mul_pos (by omega) (by omega)
    have hM : M ≤ kOf N := Nat.le_trans (Nat.le_mul_of_pos_right _ (Nat.lt_of_lt_of_le Nat.one_pos (Nat.le_add_right _ _))) hM'
    have B' := B.swp h hk l2
    have sgnl := (w4 l (by omega) l2).2
    have hs1 : (en (swp m k l) s k).natAbs ≤ x ∧ 0 ≤ en (swp m k l) s k * en (swp m k l) k k := by
      rw [ckk, en_swp h hk l2]
      by_cases e : s = l
      · rw [if_pos e]
        refine ⟨by omega, ?_⟩
        rw [Int.mul_comm]; exact sgnl
      · rw [if_neg e, if_neg (by omega)]
        have hsg := w4 s hs hs'
        refine ⟨by omega, ?_⟩
        have hk0 : en m k k ≠ 0 := by omega
        have h2 : 0 ≤ (en m s k * en m l k) * (en m k k * en m k k) := by
          have := Int.mul_nonneg hsg.2 sgnl
          have e2 : en m s k * en m k k * (en m l k * en m k k) = (en m s k * en m l k) * (en m k k * en m k k) := by grind
          rw [← e2]; exact this
        have h4 : 0 < en m k k * en m k k := by
          rcases Int.lt_or_gt_of_ne hk0 with h5 | h5
          · exact Int.mul_pos_of_neg_of_neg h5 h5
          · exact Int.mul_pos h5 h5
        rcases Int.lt_or_le (en m s k * en m l k) 0 with h5 | h5
        · have := Int.mul_neg_of_neg_of_pos h5 h4; omega
        · exact h5
    have qs := (quo_same hc hs1.2).1
    have qq : ((en (swp m k l) s k).fdiv (en (swp m k l) k k)).natAbs ≤ x / (en m l k).natAbs := by
      rw [qs, ckk]; exact Nat.div_le_div_right hs1.1
    refine ⟨Nat.le_trans (B' s j') hM, Nat.le_trans (B' k j') hM, ?_, ?_⟩
    · rw [Int.natAbs_mul]
      refine Nat.le_trans (Nat.mul_le_mul qq (B' k j')) (Nat.le_trans ?_ hM')
      rw [Nat.mul_comm, Nat.mul_add, Nat.mul_one]; omega
    · exact Nat.le_trans (quo_le hc) (Nat.le_trans (B' s k) hM)

/-- a round -/
theorem round_goes {n k N x l : Nat} {m m' : Mat} (hN : 1 ≤ N) (h : Sq n m) (hk : k < n) (w : WInv n k N m x) (L : Least n k m l) (other : ∃ i, k ≤ i ∧ i < n ∧ i ≠ l ∧ en m i k ≠ 0)
    (keep : ∀ s, ¬ (k < s ∧ s < n) → m'.getD s [] = (swp m k l).getD s []) (chg : ∀ s, k < s → s < n → m'.getD s [] = lessq (swp m k l) k s) : WInv n k N m' (en m l k).natAbs := by
  have hs1 := swp_sq h hk L.hi
  have e1 : ∀ s j, ¬ (k < s ∧ s < n) → en m' s j = en (swp m k l) s j := fun s j hs => by unfold en; rw [keep s hs]
  have e2 : ∀ s j, k < s → s < n → en m' s j = en (swp m k l) s j - (en (swp m k l) s k).fdiv (en (swp m k l) k k) * en (swp m k l) k j := fun s j a b => by
    unfold en; rw [chg s a b]; exact en_subm hs1 b hk _ j
  have ekk : en m' k k = en (swp m k l) k k := e1 k k (by omega)
  have ckk : en (swp m k l) k k = en m l k := by
    rw [en_swp h hk L.hi]; split
    · rename_i e; rw [e]
    · rw [if_pos rfl]
  have hc : en (swp m k l) k k ≠ 0 := by rw [ckk]; exact L.ne
  have small : ∀ i, k < i → i < n → (en m' i k).natAbs < (en m l k).natAbs ∧ 0 ≤ en m' i k * en m' k k := fun i a b => by
    rw [e2 i k a b, ekk]
    exact ⟨by rw [← ckk]; exact rem_lt hc, rem_sign hc⟩
  have hpos : 0 < (en m l k).natAbs := by have := L.ne; omega
  obtain ⟨i0, i1, i2, i3, i4⟩ := other
  have hk1 : k + 1 < n := by have := L.lo; have := L.hi; omega
  obtain ⟨l1, l2, l3, l4⟩ := L
  right
  rcases w with ⟨rfl, B⟩ | ⟨M, h0, w1, w2, B, w4, w5, w6⟩
  · have B' := B.swp h hk l2
    have hB : Bnd (N + N * N) m' := fun i j => by
      by_cases hi : k < i ∧ i < n
      · rw [e2 i j hi.1 hi.2]
        have a1 := B' i j
        have a2 : ((en (swp m k l) i k).fdiv (en (swp m k l) k k) * en (swp m k l) k j).natAbs ≤ N * N := by
          rw [Int.natAbs_mul]
          exact Nat.mul_le_mul (Nat.le_trans (quo_le hc) (B' i k)) (B' k j)
        omega
      · rw [e1 i j hi]
        exact Nat.le_trans (B' i j) (Nat.le_add_right _ _)
    have hl : (en m l k).natAbs ≤ N := B l k
    refine ⟨N + N * N, hk1, by rw [ekk, ckk], hpos, hB, small, ?_, ?_⟩
    · unfold kOf
      have a1 : (N + N * N) * (en m l k).natAbs * (en m l k).natAbs ≤ (N + N * N) * N * N := Nat.mul_le_mul (Nat.mul_le_mul_left _ hl) hl
      have a2 : (N + N * N) * N * N ≤ (N + N * N) * N * N * N := Nat.le_mul_of_pos_right _ hN
      omega
    · by_cases hz : ∀ i, k < i → i < n → en m' i k = 0
      · exact .inl hz
      · simp only [Classical.not_forall] at hz
        obtain ⟨j, j1, j2, j3⟩ := hz
        refine .inr ⟨j, j1, j2, j3, ?_⟩
        have hj := (small j j1 j2).1
        exact Nat.mul_le_mul (Nat.mul_le_mul (Nat.mul_le_mul_left _ hl) hl) (by omega)
  · have hw6 : ∃ j, k < j ∧ j < n ∧ en m j k ≠ 0 ∧ M * x * x * (en m j k).natAbs ≤ kOf N := by
      rcases w6 with w6 | w6
      · exfalso
        have e1 : i0 = k := by
          rcases Nat.lt_or_ge k i0 with e | e
          · exact absurd (w6 i0 e i2) i4
          · omega
        have e2 : l = k := by
          rcases Nat.lt_or_ge k l with e | e
          · exact absurd (w6 l e l2) l3
          · omega
        omega
      · exact w6
    obtain ⟨j, j1, j2, j3, j4⟩ := hw6
    have hj := l4 j (by omega) j2 j3
    have hjx := (w4 j j1 j2).1
    have hlx : (en m l k).natAbs < x := by omega
    have hlk : l ≠ k := fun e => by rw [e, w1] at hlx; omega
    have hKM : M * x * x * (en m l k).natAbs ≤ kOf N := Nat.le_trans (Nat.mul_le_mul_left _ hj) j4
    obtain ⟨ra, rb, rc⟩ := round_arith (M := M) (x := x) (h := (en m l k).natAbs) (by omega) hlx hKM
    have B' := B.swp h hk l2
    have sgnl := (w4 l (by omega) l2).2
    have hs1' : ∀ s, k < s → s < n → (en (swp m k l) s k).natAbs ≤ x ∧ 0 ≤ en (swp m k l) s k * en (swp m k l) k k := fun s hs hs' => by
      rw [ckk, en_swp h hk l2]
      by_cases e : s = l
      · rw [if_pos e]
        refine ⟨by omega, ?_⟩
        rw [Int.mul_comm]; exact sgnl
      · rw [if_neg e, if_neg (by omega)]
        have hsg := w4 s hs hs'
        refine ⟨by omega, ?_⟩
        have hk0 : en m k k ≠ 0 := by omega
        have h2 : 0 ≤ (en m s k * en m l k) * (en m k k * en m k k) := by
          have := Int.mul_nonneg hsg.2 sgnl
          have e2 : en m s k * en m k k * (en m l k * en m k k) = (en m s k * en m l k) * (en m k k * en m k k) := by grind
          rw [← e2]; exact this
        have h4 : 0 < en m k k * en m k k := by
          rcases Int.lt_or_gt_of_ne hk0 with h5 | h5
          · exact Int.mul_pos_of_neg_of_neg h5 h5
          · exact Int.mul_pos h5 h5
        rcases Int.lt_or_le (en m s k * en m l k) 0 with h5 | h5
        · have := Int.mul_neg_of_neg_of_pos h5 h4; omega
        · exact h5
    have hB : Bnd (M * (1 + x / (en m l k).natAbs)) m' := fun i j => by
      have eM : M * (1 + x / (en m l k).natAbs) = M + x / (en m l k).natAbs * M := by grind
      by_cases hi : k < i ∧ i < n
      · rw [e2 i j hi.1 hi.2, eM]
        have a1 := B' i j
        have a2 : ((en (swp m k l) i k).fdiv (en (swp m k l) k k) * en (swp m k l) k j).natAbs ≤ x / (en m l k).natAbs * M := by
          rw [Int.natAbs_mul]
          refine Nat.mul_le_mul ?_ (B' k j)
          rw [(quo_same hc (hs1' i hi.1 hi.2).2).1, ckk]
          exact Nat.div_le_div_right (hs1' i hi.1 hi.2).1
        generalize x / (en m l k).natAbs * M = z at *
        omega
      · rw [e1 i j hi, eM]
        exact Nat.le_trans (B' i j) (Nat.le_add_right _ _)
    refine ⟨M * (1 + x / (en m l k).natAbs), hk1, by rw [ekk, ckk], hpos, hB, small, ra, ?_⟩
    have hll : en m' l k = en (swp m k l) l k - (en (swp m k l) l k).fdiv (en (swp m k l) k k) * en (swp m k l) k k := e2 l k (by omega) l2
    have hlr : (en m' l k).natAbs = x % (en m l k).natAbs := by
      rw [hll, (quo_same hc (hs1' l (by omega) l2).2).2, ckk, en_swp h hk l2, if_pos rfl, w1]
    by_cases hr : x % (en m l k).natAbs = 0
    · by_cases hz : ∀ i, k < i → i < n → en m' i k = 0
      · exact .inl hz
      · simp only [Classical.not_forall] at hz
        obtain ⟨j, j1, j2, j3⟩ := hz
        exact .inr ⟨j, j1, j2, j3, rc hr _ (small j j1 j2).1⟩
    · exact .inr ⟨l, by omega, l2, by omega, by rw [hlr]; exact rb hr⟩

/-- the column is done -/
theorem round_ends {n k N x l : Nat} {m : Mat} (hN : 1 ≤ N) (h : Sq n m) (hk : k < n) (w : WInv n k N m x) (L : Least n k m l) (only : ∀ i, k ≤ i → i < n → i ≠ l → en m i k = 0) :
    Bnd (if k + 1 < n then kOf N else N) (swp m k l) ∧ en (swp m k l) k k ≠ 0 ∧ ∀ i, k < i → i < n → en (swp m k l) i k = 0 := by
  have ckk : en (swp m k l) k k = en m l k := by
    rw [en_swp h hk L.hi]; split
    · rename_i e; rw [e]
    · rw [if_pos rfl]
  refine ⟨?_, by rw [ckk]; exact L.ne, fun i a b => ?_⟩
  · rcases w with ⟨rfl, B⟩ | ⟨M, h0, w1, w2, B, w4, w5, w6⟩
    · have B' := B.swp h hk L.hi
      intro i j
      have := B' i j
      have := (kOf_ge hN).1
      split <;> omega
    · have B' := B.swp h hk L.hi
      rw [if_pos h0]
      intro i j
      refine Nat.le_trans (B' i j) (Nat.le_trans ?_ w5)
      rw [Nat.mul_assoc]
      exact Nat.le_mul_of_pos_right _ (Nat.mul_pos w2 w2)
  · rw [en_swp h hk L.hi]
    have lo := L.lo
    split
    · rename_i e
      exact only k (Nat.le_refl _) hk (by omega)
    · rename_i e
      rw [if_neg (by omega)]
      exact only i (by omega) b e
end Mine

namespace Mine

noncomputable def bdE : Nat → Nat
  | 0 => 15
  | 1 => 76
  | 2 => 763
  | _ => 1527
theorem kOf_pow (e : Nat) : kOf (2 ^ e) ≤ 2 ^ (5 * e + 1) := by
  unfold kOf
  have h1 : 1 ≤ 2 ^ e := Nat.two_pow_pos e
  have e5 : 2 ^ (5 * e + 1) = (2 ^ e * 2 ^ e * 2) * 2 ^ e * 2 ^ e * 2 ^ e := by
    rw [Nat.pow_succ, show 5 * e = e + e + e + e + e by omega, Nat.pow_add, Nat.pow_add, Nat.pow_add, Nat.pow_add]
    generalize (2 : Nat) ^ e = x
    grind
  rw [e5]
  generalize (2 : Nat) ^ e = x at *
  refine Nat.mul_le_mul_right _ (Nat.mul_le_mul_right _ (Nat.mul_le_mul_right _ ?_))
  have := Nat.le_mul_of_pos_right x h1
  omega
/-- the bound in column k, before what stands above is done -/
noncomputable def wOf (n k : Nat) : Nat := if k + 1 < n then kOf (2 ^ bdE k) else 2 ^ bdE k
theorem pow_le {a b : Nat} (h : a ≤ b) : 2 ^ a ≤ 2 ^ b := Nat.pow_le_pow_right (by decide) h
theorem kOf_small {n k : Nat} (h3 : n ≤ 3) (hk : k + 1 < n) : kOf (2 ^ bdE k) ≤ 2 ^ 381 := by
  rcases (show k = 0 ∨ k = 1 by omega) with rfl | rfl
  · exact Nat.le_trans (kOf_pow 15) (pow_le (by decide))
  · exact Nat.le_trans (kOf_pow 76) (pow_le (by decide))
theorem wOf_small {n k : Nat} (h3 : n ≤ 3) (hk : k < n) : wOf n k ≤ 2 ^ 763 := by
  unfold wOf
  split
  · rename_i h; exact Nat.le_trans (kOf_small h3 h) (pow_le (by decide))
  · rcases (show k = 0 ∨ k = 1 ∨ k = 2 by omega) with rfl | rfl | rfl <;> exact pow_le (by decide)
theorem wOf_next {n k : Nat} (h3 : n ≤ 3) (hk : k < n) : (if k = 0 then wOf n k else wOf n k + wOf n k * wOf n k) ≤ 2 ^ bdE (k + 1) := by
  have sq : ∀ {w e f : Nat}, w ≤ 2 ^ e → 2 * e + 1 ≤ f → w + w * w ≤ 2 ^ f := fun {w e f} h hf => by
    refine Nat.le_trans ?_ (pow_le hf)
    have a : w * w ≤ 2 ^ e * 2 ^ e := Nat.mul_le_mul h h
    have b : 2 ^ e ≤ 2 ^ e * 2 ^ e := Nat.le_mul_of_pos_right _ (Nat.two_pow_pos e)
    rw [Nat.pow_succ, show 2 * e = e + e by omega, Nat.pow_add]
    omega
  rcases (show k = 0 ∨ k = 1 ∨ k = 2 by omega) with rfl | rfl | rfl
  · rw [if_pos rfl]
    unfold wOf
    split
    · exact Nat.le_trans (kOf_pow 15) (pow_le (by decide))
    · exact pow_le (by decide)
  · rw [if_neg (by omega)]
    refine sq (e := 381) ?_ (by decide)
    unfold wOf
    split
    · exact Nat.le_trans (kOf_pow 76) (pow_le (by decide))
    · exact pow_le (by decide)
  · rw [if_neg (by omega)]
    refine sq (e := 763) ?_ (by decide)
    unfold wOf
    split
    · omega
    · exact pow_le (by decide)

/-- column k, cleared below -/
structure Clear (a : Mat) (n k : Nat) (m : Mat) : Prop where
  good : Good a n k m
  bnd : Bnd (wOf n k) m
  zero : ∀ i, k < i → i < n → en m i k = 0
theorem Clear.neg {a : Mat} {n k : Nat} {m : Mat} (h1 : 1 ≤ n) (h3 : n ≤ 3) (hk : k < n) (C : Clear a n k m) : Clear a n k (m.set k ((m.getD k []).map fun x => -x)) ∧ en (m.set k ((m.getD k []).map fun x => -x)) k k = -en m k k := by
  have e : ∀ s j, en (m.set k ((m.getD k []).map fun x => -x)) s j = if s = k then -en m k j else en m s j := fun s j => by
    rw [en_set C.good.sq hk]
    split
    · rw [neg_get]; rfl
    · rfl
  refine ⟨⟨C.good.neg h1 h3 hk, fun i j => ?_, fun i a b => by rw [e, if_neg (by omega)]; exact C.zero i a b⟩, by rw [e, if_pos rfl]⟩
  rw [e]
  split
  · rw [Int.natAbs_neg]; exact C.bnd k j
  · exact C.bnd i j

theorem above_sizes {a : Mat} {n k : Nat} {m : Mat} (h3 : n ≤ 3) (hk : k < n) (C : Clear a n k m) (hp : 0 < en m k k) (s j : Nat) :
    (en m s j).natAbs ≤ 2 ^ 763 ∧ (en m k j).natAbs ≤ 2 ^ 763 ∧ ((en m s k).fdiv (en m k k) * en m k j).natAbs ≤ 2 ^ 1526 ∧ ((en m s k).fdiv (en m k k)).natAbs ≤ 2 ^ 763 := by
  have w := wOf_small h3 hk
  have q := quo_le (a := en m s k) (show en m k k ≠ 0 by omega)
  have b1 := C.bnd s j
  have b2 := C.bnd k j
  have b3 := C.bnd s k
  refine ⟨Nat.le_trans b1 w, Nat.le_trans b2 w, ?_, Nat.le_trans q (Nat.le_trans b3 w)⟩
  rw [Int.natAbs_mul, show 1526 = 763 + 763 by decide, Nat.pow_add]
  exact Nat.mul_le_mul (Nat.le_trans q (Nat.le_trans b3 w)) (Nat.le_trans b2 w)

theorem above_done {a : Mat} {n k : Nat} {m m' : Mat} (h3 : n ≤ 3) (hk : k < n) (C : Clear a n k m) (hp : 0 < en m k k) (G : Good a n k m')
    (keep : ∀ s, ¬ s < k → m'.getD s [] = m.getD s []) (chg : ∀ s, s < k → m'.getD s [] = lessq m k s) : Good a n (k + 1) m' ∧ Bnd (2 ^ bdE (k + 1)) m' := by
  have e1 : ∀ s j, ¬ s < k → en m' s j = en m s j := fun s j h => by unfold en; rw [keep s h]
  have e2 : ∀ s j, s < k → en m' s j = en m s j - (en m s k).fdiv (en m k k) * en m k j := fun s j h => by
    unfold en; rw [chg s h]; exact en_subm C.good.sq (by omega) hk _ j
  refine ⟨⟨G.sq, G.eqv, G.det, fun j hj => ?_⟩, fun i j => Nat.le_trans ?_ (wOf_next h3 hk)⟩
  · rcases (show j < k ∨ j = k by omega) with h | rfl
    · exact G.tri j h
    · refine ⟨by rw [e1 _ _ (by omega)]; exact hp, fun i a b => by rw [e1 _ _ (by omega)]; exact C.zero i a b, fun i h => ?_⟩
      rw [e2 i j h, e1 j j (by omega)]
      exact rem_pos hp
  · by_cases h : i < k
    · rw [if_neg (by omega), e2 i j h]
      have q := quo_le (a := en m i k) (show en m k k ≠ 0 by omega)
      have b1 := C.bnd i j
      have b2 := C.bnd k j
      have b3 := C.bnd i k
      have b4 : ((en m i k).fdiv (en m k k) * en m k j).natAbs ≤ wOf n k * wOf n k := by
        rw [Int.natAbs_mul]
        exact Nat.mul_le_mul (Nat.le_trans q b3) b2
      omega
    · rw [e1 i j h]
      have := C.bnd i j
      split <;> omega

/-- what is found: the form, or none -/
noncomputable def FormOf (n : Nat) (a : Mat) : Option Mat → Prop
  | none => det n a = 0
  | some m => HNF n m ∧ Eqv m a ∧ (det n m).natAbs = (det n a).natAbs ∧ Bnd (2 ^ 1527) m
theorem FormOf.size {n : Nat} {a m : Mat} (h1 : 1 ≤ n) (h3 : n ≤ 3) (h : FormOf n a (some m)) : det n m = ((det n a).natAbs : Int) ∧ det n a ≠ 0 := by
  have := det_pos h1 h3 h.1
  have e := h.2.2.1
  constructor <;> omega
theorem FormOf.same {n : Nat} {a b : Mat} {x y : Option Mat} (h1 : 1 ≤ n) (h3 : n ≤ 3) (hx : FormOf n a x) (hy : FormOf n b y) (E : Eqv a b) (D : (det n a).natAbs = (det n b).natAbs) : x = y := by
  cases x with
  | none =>
    cases y with
    | none => rfl
    | some y =>
      have := (hy.size h1 h3).2
      have : det n a = 0 := hx
      omega
  | some x =>
    cases y with
    | none =>
      have := (hx.size h1 h3).2
      have : det n b = 0 := hy
      omega
    | some y => rw [form_one h1 h3 hx.1 hy.1 (hx.2.1.trans (E.trans hy.2.1.symm))]
theorem Good.start {n : Nat} {a : Mat} (h : Sq n a) : Good a n 0 a := ⟨h, Eqv.refl a, rfl, fun j hj => by omega⟩
theorem Good.form {n : Nat} {a m : Mat} (h1 : 1 ≤ n) (h3 : n ≤ 3) (G : Good a n n m) (B : Bnd (2 ^ bdE n) m) : FormOf n a (some m) :=
  ⟨⟨G.sq, G.tri⟩, G.eqv, G.det, fun i j => Nat.le_trans (B i j) (pow_le (by rcases three_cases h1 h3 with rfl | rfl | rfl <;> decide))⟩
theorem Good.none {n k : Nat} {a m : Mat} (h1 : 1 ≤ n) (h3 : n ≤ 3) (G : Good a n k m) (hk : k < n) (h0 : ∀ i, k ≤ i → i < n → en m i k = 0) : FormOf n a none := by
  have := det_none h1 h3 G.sq hk (fun j hj => (G.tri j hj).2.1) h0
  have e := G.det
  rw [this] at e
  show Mine.det n a = 0
  omega
theorem bd_pos (k : Nat) : 1 ≤ 2 ^ bdE k := Nat.two_pow_pos _
end Mine

namespace Mine

noncomputable abbrev dN (l : List Nat) : D := .list (l.map fun n : Nat => .int n)
theorem dN_get {l : List Nat} {i x : Nat} (h : l[i]? = some x) : (l.map fun n : Nat => D.int n)[i]? = some (.int x) := by simp [h]
theorem dN_app (l : List Nat) (x : Nat) : (l.map fun n : Nat => D.int n) ++ [.int (x : Int)] = (l ++ [x]).map fun n : Nat => D.int n := by simp

section
variable {C : Cx} {σ : Sg} {μ : Mu} {Q : D → Mu → Prop} {T F : Mu → Prop}
theorem ev_itemN {value slice : Expr} {pos : Pos} (h : EV C value σ μ fun d μ₁ => EV C slice σ μ₁ fun e μ₂ => ∃ (l : List Nat) (i x : Nat), d = dN l ∧ e = .int i ∧ i < 2 ^ 62 ∧ l[i]? = some x ∧ Q (.int x) μ₂)
    (hs : ∀ a k u, subscripted slice false (.ref a) (.int k u) = operate [.ref a, .int k u] (getItem (.ref a) (.int k u)) := by intro _ _ _; with_unfolding_all rfl) : EV C (.Subscript value slice pos) σ μ Q :=
  ev_item (h.mono fun d μ₁ h => h.mono fun e μ₂ ⟨l, i, x, hd, he, hi, hx, q⟩ => ⟨_, i, .int x, .inl hd, he, by omega, by omega, by rw [Int.toNat_natCast]; exact dN_get hx, q⟩) hs
/-- one of a fixed list -/
theorem ev_itemL {value slice : Expr} {pos : Pos} (h : EV C value σ μ fun d μ₁ => EV C slice σ μ₁ fun e μ₂ => ∃ (l : List D) (i : Nat) (x : D), Holds d μ₂ l ∧ e = .int i ∧ i < 2 ^ 62 ∧ l[i]? = some x ∧ Q x μ₂)
    (hs : ∀ a k u, subscripted slice false (.ref a) (.int k u) = operate [.ref a, .int k u] (getItem (.ref a) (.int k u)) := by intro _ _ _; with_unfolding_all rfl) : EV C (.Subscript value slice pos) σ μ Q :=
  ev_item (h.mono fun d μ₁ h => h.mono fun e μ₂ ⟨l, i, x, hd, he, hi, hx, q⟩ => ⟨_, i, x, hd, he, by omega, by omega, by rw [Int.toNat_natCast]; exact hx, q⟩) hs
/-- one of a tuple of two -/
theorem ev_fst {value : Expr} {pos p : Pos} {k : Nat} (h : EV C value σ μ fun d μ₁ => ∃ x r, d = .tup (x :: r) ∧ Q x μ₁) : EV C (.Subscript value (.Constant (.int 0) k p) pos) σ μ Q :=
  ev_itemT (h.mono fun d μ₁ ⟨x, r, hd, q⟩ => ev_int ⟨_, 0, x, hd, rfl, by decide, by decide, rfl, q⟩) (by intro _ _ _; with_unfolding_all rfl)
theorem ev_snd {value : Expr} {pos p : Pos} {k : Nat} (h : EV C value σ μ fun d μ₁ => ∃ x y r, d = .tup (x :: y :: r) ∧ Q y μ₁) : EV C (.Subscript value (.Constant (.int 1) k p) pos) σ μ Q :=
  ev_itemT (h.mono fun d μ₁ ⟨x, y, r, hd, q⟩ => ev_int ⟨_, 1, y, hd, rfl, by decide, by decide, rfl, q⟩) (by intro _ _ _; with_unfolding_all rfl)

theorem ev_add {l r : Expr} {pos : Pos} (h : EV C l σ μ fun d μ₁ => EV C r σ μ₁ fun e μ₂ => ∃ i j, d = .int i ∧ e = .int j ∧ Q (.int (i + j)) μ₂) : EV C (.BinOp l .Add r pos) σ μ Q :=
  ev_bin (h.mono fun d μ₁ h => h.mono fun e μ₂ ⟨i, j, hd, he, q⟩ => ⟨i, j, _, hd, he, op_add, q⟩)
theorem ev_sub {l r : Expr} {pos : Pos} (h : EV C l σ μ fun d μ₁ => EV C r σ μ₁ fun e μ₂ => ∃ i j, d = .int i ∧ e = .int j ∧ Q (.int (i - j)) μ₂) : EV C (.BinOp l .Sub r pos) σ μ Q :=
  ev_bin (h.mono fun d μ₁ h => h.mono fun e μ₂ ⟨i, j, hd, he, q⟩ => ⟨i, j, _, hd, he, op_sub, q⟩)
theorem ev_band {l r : Expr} {pos : Pos} (h : EV C l σ μ fun d μ₁ => EV C r σ μ₁ fun e μ₂ => ∃ i j, d = .int i ∧ e = .int j ∧ Q (.int (Builtin.bitAnd i j)) μ₂) : EV C (.BinOp l .BitAnd r pos) σ μ Q :=
  ev_bin (h.mono fun d μ₁ h => h.mono fun e μ₂ ⟨i, j, hd, he, q⟩ => ⟨i, j, _, hd, he, op_and, q⟩)
theorem ev_mod {l r : Expr} {pos : Pos} (h : EV C l σ μ fun d μ₁ => EV C r σ μ₁ fun e μ₂ => ∃ i j, d = .int i ∧ e = .int j ∧ j ≠ 0 ∧ Q (.int (i.fmod j)) μ₂) : EV C (.BinOp l .Mod r pos) σ μ Q :=
  ev_bin (h.mono fun d μ₁ h => h.mono fun e μ₂ ⟨i, j, hd, he, hj, q⟩ => ⟨i, j, _, hd, he, op_mod hj, q⟩)
theorem ev_div {l r : Expr} {pos : Pos} (h : EV C l σ μ fun d μ₁ => EV C r σ μ₁ fun e μ₂ => ∃ i j, d = .int i ∧ e = .int j ∧ j ≠ 0 ∧ j.natAbs < 2 ^ 9000 ∧ Q (.int (i.fdiv j)) μ₂) : EV C (.BinOp l .FloorDiv r pos) σ μ Q :=
  ev_bin (h.mono fun d μ₁ h => h.mono fun e μ₂ ⟨i, j, hd, he, hj, hl, q⟩ => ⟨i, j, _, hd, he, op_div hj ((Nat.log2_lt (by omega)).mpr hl), q⟩)
theorem ev_mul {l r : Expr} {pos : Pos} (h : EV C l σ μ fun d μ₁ => EV C r σ μ₁ fun e μ₂ => ∃ i j, d = .int i ∧ e = .int j ∧ IntMulOk i j ∧ Q (.int (i * j)) μ₂) : EV C (.BinOp l .Mult r pos) σ μ Q :=
  ev_bin (h.mono fun d μ₁ h => h.mono fun e μ₂ ⟨i, j, hd, he, hj, q⟩ => ⟨i, j, _, hd, he, op_mul hj, q⟩)
theorem ev_shl {l r : Expr} {pos : Pos} (h : EV C l σ μ fun d μ₁ => EV C r σ μ₁ fun e μ₂ => ∃ (i : Int) (j : Nat), d = .int i ∧ e = .int j ∧ j ≤ 1000000 ∧ i.natAbs < 2 ^ 64 ∧ Q (.int (i * 2 ^ j)) μ₂) : EV C (.BinOp l .LShift r pos) σ μ Q :=
  ev_bin (h.mono fun d μ₁ h => h.mono fun e μ₂ ⟨i, j, hd, he, h1, h2, q⟩ => ⟨i, j, _, hd, he, op_shl (by omega) (by omega) h2, by rw [Int.toNat_natCast]; exact q⟩)
theorem ev_pow {l r : Expr} {pos : Pos} (h : EV C l σ μ fun d μ₁ => EV C r σ μ₁ fun e μ₂ => ∃ (i : Int) (j : Nat), d = .int i ∧ e = .int j ∧ j ≤ 1000000 ∧ i.natAbs < 2 ^ 64 ∧ Q (.int (i ^ j)) μ₂) : EV C (.BinOp l .Pow r pos) σ μ Q :=
  ev_bin (h.mono fun d μ₁ h => h.mono fun e μ₂ ⟨i, j, hd, he, h1, h2, q⟩ => ⟨i, j, _, hd, he, op_pow (by omega) (by omega) h2, by rw [Int.toNat_natCast]; exact q⟩)

noncomputable def CT (C : Cx) (e : Expr) (σ : Sg) (μ : Mu) (T F : Mu → Prop) : Prop := TS C e σ μ fun b μ' => (b = true → T μ') ∧ (b = false → F μ')
theorem ct_of {op : CmpOp} {d e : D} {μ : Mu} {p : Prop} [Decidable p] (hc : CmpOk C op d e μ (decide p)) (hT : p → T μ) (hF : ¬ p → F μ) : ∃ b, CmpOk C op d e μ b ∧ (b = true → T μ) ∧ (b = false → F μ) :=
  ⟨_, hc, fun h => hT (of_decide_eq_true h), fun h => hF (of_decide_eq_false h)⟩
theorem ct_lt {l r : Expr} {pos : Pos} (h : EV C l σ μ fun d μ₁ => EV C r σ μ₁ fun e μ₂ => ∃ i j, d = .int i ∧ e = .int j ∧ (i < j → T μ₂) ∧ (¬ i < j → F μ₂)) (hm : behindInMarks .Lt r = false := by with_unfolding_all rfl) : CT C (.Compare l [.Lt] [r] pos) σ μ T F :=
  ts_cmp (h.mono fun d μ₁ h => h.mono fun e μ₂ ⟨i, j, hd, he, t, f⟩ => by subst hd he; exact ct_of c_lt t f) hm
theorem ct_le {l r : Expr} {pos : Pos} (h : EV C l σ μ fun d μ₁ => EV C r σ μ₁ fun e μ₂ => ∃ i j, d = .int i ∧ e = .int j ∧ (i ≤ j → T μ₂) ∧ (¬ i ≤ j → F μ₂)) (hm : behindInMarks .LtE r = false := by with_unfolding_all rfl) : CT C (.Compare l [.LtE] [r] pos) σ μ T F :=
  ts_cmp (h.mono fun d μ₁ h => h.mono fun e μ₂ ⟨i, j, hd, he, t, f⟩ => by subst hd he; exact ct_of c_le t f) hm
theorem ct_gt {l r : Expr} {pos : Pos} (h : EV C l σ μ fun d μ₁ => EV C r σ μ₁ fun e μ₂ => ∃ i j, d = .int i ∧ e = .int j ∧ (i > j → T μ₂) ∧ (¬ i > j → F μ₂)) (hm : behindInMarks .Gt r = false := by with_unfolding_all rfl) : CT C (.Compare l [.Gt] [r] pos) σ μ T F :=
  ts_cmp (h.mono fun d μ₁ h => h.mono fun e μ₂ ⟨i, j, hd, he, t, f⟩ => by subst hd he; exact ct_of c_gt t f) hm
theorem c_eq' {i j : Int} : CmpOk C .Eq (.int i) (.int j) μ (decide (i = j)) := by
  have : (i == j) = decide (i = j) := by by_cases h : i = j <;> simp [h]
  rw [← this]; exact c_eq
theorem c_ne' {i j : Int} : CmpOk C .NotEq (.int i) (.int j) μ (decide (i ≠ j)) := by
  have : (i != j) = decide (i ≠ j) := by by_cases h : i = j <;> simp [h]
  rw [← this]; exact c_ne
theorem ct_eq {l r : Expr} {pos : Pos} (h : EV C l σ μ fun d μ₁ => EV C r σ μ₁ fun e μ₂ => ∃ i j, d = .int i ∧ e = .int j ∧ (i = j → T μ₂) ∧ (¬ i = j → F μ₂)) (hm : behindInMarks .Eq r = false := by with_unfolding_all rfl) : CT C (.Compare l [.Eq] [r] pos) σ μ T F :=
  ts_cmp (h.mono fun d μ₁ h => h.mono fun e μ₂ ⟨i, j, hd, he, t, f⟩ => by subst hd he; exact ct_of c_eq' t f) hm
theorem ct_ne {l r : Expr} {pos : Pos} (h : EV C l σ μ fun d μ₁ => EV C r σ μ₁ fun e μ₂ => ∃ i j, d = .int i ∧ e = .int j ∧ (i ≠ j → T μ₂) ∧ (i = j → F μ₂)) (hm : behindInMarks .NotEq r = false := by with_unfolding_all rfl) : CT C (.Compare l [.NotEq] [r] pos) σ μ T F :=
  ts_cmp (h.mono fun d μ₁ h => h.mono fun e μ₂ ⟨i, j, hd, he, t, f⟩ => by subst hd he; exact ct_of c_ne' t fun k => f (Classical.not_not.mp k)) hm
/-- any other comparing -/
theorem ct_cmp {l r : Expr} {op : CmpOp} {pos : Pos} (h : EV C l σ μ fun d μ₁ => EV C r σ μ₁ fun e μ₂ => ∃ b, CmpOk C op d e μ₂ b ∧ (b = true → T μ₂) ∧ (b = false → F μ₂)) (hm : behindInMarks op r = false := by with_unfolding_all rfl) : CT C (.Compare l [op] [r] pos) σ μ T F := ts_cmp h hm
theorem ct_not {x : Expr} {pos : Pos} (h : CT C x σ μ F T) : CT C (.UnaryOp .Not x pos) σ μ T F :=
  ts_not (TS.mono h fun b μ' ⟨t, f⟩ => ⟨fun e => f (by simpa using e), fun e => t (by simpa using e)⟩)
theorem ct_and {x y : Expr} {pos : Pos} (h : CT C x σ μ (fun μ₁ => CT C y σ μ₁ T F) F) : CT C (.BoolOp .And [x, y] pos) σ μ T F :=
  ts_and2 (TS.mono h fun b μ' ⟨t, f⟩ => ⟨fun e => ⟨fun h => (nomatch h), fun _ => f e⟩, fun e => t e⟩)
theorem ct_bool {e : Expr} (h : EV C e σ μ fun d μ₁ => ∃ b, d = .bool b ∧ (b = true → T μ₁) ∧ (b = false → F μ₁)) (he : isTrue e C.env (eval e C.env) = (do let v ← eval e C.env; standAt e.pos; holding [v] (truthy v)) := by rfl) : CT C e σ μ T F := ts_bool h he
theorem ev_ifC {test body orelse : Expr} {pos : Pos} (h : CT C test σ μ (fun μ₁ => EV C body σ μ₁ Q) (fun μ₁ => EV C orelse σ μ₁ Q)) : EV C (.IfExp test body orelse pos) σ μ Q := ev_if h
theorem ev_cmpC {l r : Expr} {op : CmpOp} {pos : Pos} (h : EV C l σ μ fun d μ₁ => EV C r σ μ₁ fun e μ₂ => ∃ b, CmpOk C op d e μ₂ b ∧ Q (.bool b) μ₂) (hm : behindInMarks op r = false := by with_unfolding_all rfl) : EV C (.Compare l [op] [r] pos) σ μ Q := ev_cmp h hm
theorem ev_ltC {l r : Expr} {pos : Pos} (h : EV C l σ μ fun d μ₁ => EV C r σ μ₁ fun e μ₂ => ∃ i j, d = .int i ∧ e = .int j ∧ Q (.bool (decide (i < j))) μ₂) (hm : behindInMarks .Lt r = false := by with_unfolding_all rfl) : EV C (.Compare l [.Lt] [r] pos) σ μ Q :=
  ev_cmp (h.mono fun d μ₁ h => h.mono fun e μ₂ ⟨i, j, hd, he, q⟩ => by subst hd he; exact ⟨_, c_lt, q⟩) hm
theorem ev_gtC {l r : Expr} {pos : Pos} (h : EV C l σ μ fun d μ₁ => EV C r σ μ₁ fun e μ₂ => ∃ i j, d = .int i ∧ e = .int j ∧ Q (.bool (decide (i > j))) μ₂) (hm : behindInMarks .Gt r = false := by with_unfolding_all rfl) : EV C (.Compare l [.Gt] [r] pos) σ μ Q :=
  ev_cmp (h.mono fun d μ₁ h => h.mono fun e μ₂ ⟨i, j, hd, he, q⟩ => by subst hd he; exact ⟨_, c_gt, q⟩) hm

noncomputable def CO (C : Cx) (xs : List Expr) (σ : Sg) (μ : Mu) (T F : Mu → Prop) : Prop := OrS C xs σ μ fun b μ' => (b = true → T μ') ∧ (b = false → F μ')
theorem ct_or {xs : List Expr} {pos : Pos} (h : CO C xs σ μ T F) : CT C (.BoolOp .Or xs pos) σ μ T F := ts_ors h
theorem co_nil (q : F μ) : CO C [] σ μ T F := or_nil ⟨fun h => (nomatch h), fun _ => q⟩
theorem co_cons {x : Expr} {xs : List Expr} (h : CT C x σ μ T (fun μ₁ => CO C xs σ μ₁ T F)) : CO C (x :: xs) σ μ T F :=
  or_cons (TS.mono h fun b μ' ⟨t, f⟩ => ⟨fun e => ⟨fun _ => t e, fun h => (nomatch h)⟩, fun e => f e⟩)
end
section
variable {C : Cx} {σ : Sg} {μ : Mu} {Q : Fl → Sg → Mu → Prop}
theorem x_ifC {test : Expr} {body orelse : List Stmt} {pos : Pos} (h : CT C test σ μ (fun μ' => EXS C body σ μ' Q) (fun μ' => EXS C orelse σ μ' Q)) : EX C (.If test body orelse pos) σ μ Q := x_if h
theorem x_whileC {test : Expr} {body : List Stmt} {pos : Pos} {α : Type} (cσ : α → Sg) (cμ : α → Mu) (P : α → Prop) (m : α → Nat) (a₀ : α) (hE : PassesOwn (model C.prog C.w) C.A C.env C.E)
    (h0 : Sub σ (cσ a₀)) (hμ : μ = cμ a₀) (hP : P a₀)
    (turn : ∀ a, P a → CT C test (cσ a) (cμ a) (fun μ₁ => EXS C body (cσ a) μ₁ (LoopQ Q (NextW P cσ cμ m (m a)))) (fun μ₁ => Q .next (cσ a) μ₁)) : EX C (.While test body [] pos) σ μ Q :=
  x_while cσ cμ P m a₀ hE h0 hμ hP fun a ha => TS.mono (turn a ha) fun b μ' ⟨t, f⟩ => ⟨f, t⟩
theorem x_addI {x : Str} {p pos : Pos} {value : Expr} {i : Int} (hd : σ.lookup x = some (.int i)) (hk : isVar C.env x = true) (hb : C.env.kindOf x = some .local ∨ (C.env.cells.lookup x).isSome = true)
    (h : EV C value σ μ fun e μ₁ => ∃ j, e = .int j ∧ AN C x (.int (i + j)) σ μ₁ fun σ₁ μ₂ => Q .next σ₁ μ₂) (hc : (x == ("__classdict__" : Str)) = false := by decide +kernel) : EX C (.AugAssign (.Name x p) .Add value pos) σ μ Q :=
  x_aug hd hk hb (h.mono fun e μ₁ ⟨j, he, q⟩ => ⟨i, j, _, rfl, he, iop_add, q⟩) hc
theorem x_subI {x : Str} {p pos : Pos} {value : Expr} {i : Int} (hd : σ.lookup x = some (.int i)) (hk : isVar C.env x = true) (hb : C.env.kindOf x = some .local ∨ (C.env.cells.lookup x).isSome = true)
    (h : EV C value σ μ fun e μ₁ => ∃ j, e = .int j ∧ AN C x (.int (i - j)) σ μ₁ fun σ₁ μ₂ => Q .next σ₁ μ₂) (hc : (x == ("__classdict__" : Str)) = false := by decide +kernel) : EX C (.AugAssign (.Name x p) .Sub value pos) σ μ Q :=
  x_aug hd hk hb (h.mono fun e μ₁ ⟨j, he, q⟩ => ⟨i, j, _, rfl, he, iop_sub, q⟩) hc
theorem x_shrI {x : Str} {p pos : Pos} {value : Expr} {i : Int} (hd : σ.lookup x = some (.int i)) (hk : isVar C.env x = true) (hb : C.env.kindOf x = some .local ∨ (C.env.cells.lookup x).isSome = true)
    (h : EV C value σ μ fun e μ₁ => ∃ j : Nat, e = .int j ∧ AN C x (.int (i.fdiv (2 ^ j))) σ μ₁ fun σ₁ μ₂ => Q .next σ₁ μ₂) (hc : (x == ("__classdict__" : Str)) = false := by decide +kernel) : EX C (.AugAssign (.Name x p) .RShift value pos) σ μ Q :=
  x_aug hd hk hb (h.mono fun e μ₁ ⟨j, he, q⟩ => ⟨i, j, _, rfl, he, iop_shr (by omega), by rw [Int.toNat_natCast]; exact q⟩) hc
end

theorem band_mask (n w : Nat) : Builtin.bitAnd (n : Int) ((2 : Int) ^ w - 1) = ((n % 2 ^ w : Nat) : Int) := by
  have h1 : ((2 : Int) ^ w - 1) = ((2 ^ w - 1 : Nat) : Int) := by
    have := Nat.two_pow_pos w
    rw [Int.natCast_sub this]; simp
  rw [h1, bitAnd_pp (by omega) (by omega), Int.toNat_natCast, Int.toNat_natCast, Nat.and_two_pow_sub_one_eq_mod]
theorem fdiv_pow (n w : Nat) : (n : Int).fdiv (2 ^ w) = ((n / 2 ^ w : Nat) : Int) := by
  rw [Int.fdiv_eq_ediv_of_nonneg _ (by exact Int.le_of_lt (Int.pow_pos (by decide)))]
  simp
end Mine
namespace Mine
noncomputable abbrev CutQ {α : Type} (P : α → Prop) (τ : α → Sg) (ν : α → Mu) : Fl → Sg → Mu → Prop := fun f σ₁ μ₁ => f = .next ∧ ∃ a, P a ∧ Sub σ₁ (τ a) ∧ μ₁ = ν a
theorem xs_cutS {C : Cx} {σ : Sg} {μ : Mu} {Q : Fl → Sg → Mu → Prop} {st : Stmt} {r : List Stmt} {α : Type} (τ : α → Sg) (ν : α → Mu) (P : α → Prop) (h : EX C st σ μ (CutQ P τ ν)) (k : ∀ a, P a → EXS C r (τ a) (ν a) Q) : EXS C (st :: r) σ μ Q :=
  xs_cut (fun σ₁ μ₁ => ∃ a, P a ∧ Sub σ₁ (τ a) ∧ μ₁ = ν a) h fun σ₁ μ₁ ⟨a, ha, hs, hm⟩ => by subst hm; exact (k a ha).sub hs
end Mine
namespace Mine
section
variable {C : Cx} {σ : Sg} {μ : Mu} {Q : Fl → Sg → Mu → Prop}
theorem xs_ret {e : Expr} {pos : Pos} {r : List Stmt} (h : EV C e σ μ fun d μ' => Q (.ret d) σ μ') : EXS C (.Return (some e) pos :: r) σ μ Q := xs_cons (x_return h)
theorem xs_asg {x : Str} {p pos : Pos} {value : Expr} {r : List Stmt} (h : EV C value σ μ fun d μ₁ => AN C x d σ μ₁ fun σ₁ μ₂ => EXS C r σ₁ μ₂ Q) (hs : swapsWith value (some (.Name x p)) pos.line C.env = pure false) : EXS C (.Assign [.Name x p] value pos :: r) σ μ Q := xs_cons (x_assign h hs)
theorem xs_brk {pos : Pos} {r : List Stmt} (q : Q .brk σ μ) : EXS C (.Break pos :: r) σ μ Q := xs_cons (x_break q)
theorem xs_ifC {test : Expr} {body orelse r : List Stmt} {pos : Pos} (h : CT C test σ μ (fun μ' => EXS C body σ μ' (SeqQ C r Q)) (fun μ' => EXS C orelse σ μ' (SeqQ C r Q))) : EXS C (.If test body orelse pos :: r) σ μ Q := xs_cons (x_ifC h)
end
end Mine
namespace Mine
section
variable {C : Cx} {σ : Sg} {μ : Mu}
theorem idEV {e : Expr} {Q : D → Mu → Prop} (h : EV C e σ μ Q) : EV C e σ μ Q := h
theorem idEVs {e : List Expr} {Q : List D → Mu → Prop} (h : EVs C e σ μ Q) : EVs C e σ μ Q := h
theorem idCT {e : Expr} {T F : Mu → Prop} (h : CT C e σ μ T F) : CT C e σ μ T F := h
theorem idXS {b : List Stmt} {Q : Fl → Sg → Mu → Prop} (h : EXS C b σ μ Q) : EXS C b σ μ Q := h
end
/-- the post as a name (it keeps the proof terms small) -/
theorem xs_abs {C : Cx} {b : List Stmt} {σ : Sg} {μ : Mu} {Q : Fl → Sg → Mu → Prop} (h : ∀ Q' : Fl → Sg → Mu → Prop, (∀ fl σ₁ μ₁, Q fl σ₁ μ₁ → Q' fl σ₁ μ₁) → EXS C b σ μ Q') : EXS C b σ μ Q := h Q fun _ _ _ q => q
theorem lineLe {n : Nat} (h : n ≤ 2000000) : n ≤ sizeLine := Nat.le_trans h (by decide)
end Mine

open PySem PySem.Calls PyProof.Rows PySem.W
set_option Elab.async false
set_option linter.unusedVariables false
set_option maxRecDepth 100000
set_option maxHeartbeats 400000

namespace Mine

local macro_rules | `(tactic| walk_at "nm") => `(tactic| ((with_reducible refine ev_name (d := ?d) ?hd ?hk ?hb ?_ (by decide +kernel) (by decide +kernel)); (case hd => exact rfl); (case hk => exact rfl); (case hb => first | exact .inl rfl | exact .inr rfl)))
local macro_rules | `(tactic| walk_at "as") => `(tactic| ((with_reducible refine xs_asg ?_ ?hs); (case hs => rfl)))
local macro_rules | `(tactic| walk_at "ec") => `(tactic| ((with_reducible refine evs_cons ?_ ?he); (case he => rfl)))
local macro_rules | `(tactic| walk_at "an") => `(tactic| ((with_reducible refine an_local ?hl ?_); (case hl => rfl)))
local macro_rules | `(tactic| walk_at "c") => `(tactic| (first
  | ((with_reducible refine idEV ?_); (first
    | walk_at "nm"
    | (with_reducible refine ev_int ?_)
    | (with_reducible refine ev_add ?_)
    | (with_reducible refine ev_sub ?_)
    | (with_reducible refine ev_band ?_)
    | (with_reducible refine ev_true ?_)
    | (with_reducible refine ev_none ?_)
    | (with_reducible refine ev_neg ?_)
    | fail))
  | ((with_reducible refine idCT ?_); (first
    | (with_reducible refine ct_lt ?_)
    | (with_reducible refine ct_le ?_)
    | (with_reducible refine ct_gt ?_)
    | (with_reducible refine ct_not ?_)
    | (with_reducible refine ct_and ?_)
    | fail))
  | ((with_reducible refine idEVs ?_); (first
    | (with_reducible refine evs_nil ?_)
    | walk_at "ec"
    | fail))
  | ((with_reducible refine idXS ?_); (first
    | (with_reducible refine xs_nil ?_)
    | (with_reducible refine xs_ret ?_)
    | walk_at "as"
    | (with_reducible refine xs_brk ?_)
    | fail))
  | walk_at "an"
  | (with_reducible refine as_name ?_)
  | (with_reducible refine ⟨_, _, rfl, rfl, ?_⟩)
  | (with_reducible refine ⟨_, rfl, ?_⟩)
  | fail))
local macro_rules | `(tactic| walk_at "e") => `(tactic| repeat' (first | walk_at "c" | (with_reducible refine ev_ifC ?_) | fail))
local macro_rules | `(tactic| walk_at "g") => `(tactic| repeat' (first | walk_at "c" | fail))

variable {W : Wd}
noncomputable abbrev idxs : List Nat := [5, 6, 7, 8, 9, 10, 12, 13, 14, 15, 16, 17, 18, 19, 20, 22, 23, 24, 26, 27, 28, 29, 30, 31, 32, 33, 34, 35]
theorem ev_fn {C : Cx} {σ : Sg} {μ : Mu} {Q : D → Mu → Prop} (P : PW W) (i : Nat) {n : Nat} {x : Str} {np pos : Pos} {es : List Expr} (WK : Wok C) (E1 : Env1 C) (R : Room C.A n C.fs)
    (h : EVs C es σ μ fun ds μ₂ => FN C.prog C.w C.h₀ C.fs n (P.addr i) ds μ₂ Q) (hk : C.env.kindOf x = some .globalImplicit := by rfl) (hi : i ∈ idxs := by decide) (hx : x = nameF i := by decide +kernel) (hdb : (x == ("__debug__" : Str)) = false := by decide +kernel) (hC : C.mg = W.mg ∧ C.h₀ = W.h₀ := by exact ⟨rfl, rfl⟩)
    (hne : ∃ e r, es = e :: r ∧ starEach (e :: r) C.env = (false, eval e C.env) :: starEach r C.env := by exact ⟨_, _, rfl, rfl⟩) (hw : ∀ f, callWith pos f [] (backTo pos (starEach es C.env)) (backToKw pos (keywordEach [] C.env)) = callWith pos f [] (backTo pos (starEach es C.env)) [] := by intro _; rfl) :
    EV C (.Call (.Name x np) es [] pos) σ μ Q := by
  obtain ⟨_, _, _, _, _, _, _, _, _, _, o, h1, h2, _⟩ := (P.d i hi).out
  exact ev_call (n := n) (ev_global WK E1 (v := .ref (P.addr i)) (by rw [hC.1, hx]; exact P.g i hi) (fun g => .ref _) hk ⟨P.addr i, rfl, ⟨o, _, by rw [hC.2]; exact h1, h2⟩, h⟩ hdb) R hne hw

/-- the walk stands in the text's world -/
structure InW (W : Wd) (C : Cx) : Prop where
  mg : C.mg = W.mg
  mb : C.mb = W.mb
  h₀ : C.h₀ = W.h₀
  gl : C.env.globals = mainGlobals
  bl : C.env.builtins = builtinsNs
theorem InW.wok {W : Wd} {C : Cx} (P : PW W) (h : InW W C) : Wok C := ⟨by rw [h.h₀]; exact P.ok.nolimit, by rw [h.h₀, h.mg]; exact P.ok.g, by rw [h.h₀, h.mb]; exact P.ok.b⟩
theorem InW.env1 {W : Wd} {C : Cx} (h : InW W C) : Env1 C := ⟨h.gl, h.bl⟩

section
variable {C : Cx} {σ : Sg} {μ : Mu} {Q : D → Mu → Prop}
theorem ev_cal (P : PW W) (i : Nat) {n : Nat} {x : Str} {np pos : Pos} {es : List Expr} (R : Room C.A n C.fs)
    (h : EVs C es σ μ fun ds μ₂ => FN C.prog C.w C.h₀ C.fs n (P.addr i) ds μ₂ Q) (hk : C.env.kindOf x = some .globalImplicit := by rfl) (hi : i ∈ idxs := by decide) (hx : x = nameF i := by decide +kernel) (hdb : (x == ("__debug__" : Str)) = false := by decide +kernel) (hC : InW W C := by exact ⟨rfl, rfl, rfl, rfl, rfl⟩)
    (hne : ∃ e r, es = e :: r ∧ starEach (e :: r) C.env = (false, eval e C.env) :: starEach r C.env := by exact ⟨_, _, rfl, rfl⟩) (hw : ∀ f, callWith pos f [] (backTo pos (starEach es C.env)) (backToKw pos (keywordEach [] C.env)) = callWith pos f [] (backTo pos (starEach es C.env)) [] := by intro _; rfl) :
    EV C (.Call (.Name x np) es [] pos) σ μ Q := ev_fn P i (hC.wok P) hC.env1 R h hk hi hx hdb ⟨hC.mg, hC.h₀⟩ hne hw
theorem ev_len (P : PW W) {np pos : Pos} {e : Expr} (h : EV C e σ μ fun d μ₁ => ∃ xs, Holds d μ₁ xs ∧ xs.length < 2 ^ 62 ∧ Q (.int xs.length) μ₁)
    (hk : C.env.kindOf ("len" : Str) = some .globalImplicit := by rfl) (hC : InW W C := by exact ⟨rfl, rfl, rfl, rfl, rfl⟩)
    (hne : ∃ e' r, [e] = e' :: r ∧ starEach (e' :: r) C.env = (false, eval e' C.env) :: starEach r C.env ∧ (backTo pos (starEach [e] C.env)).any (·.1) = false := by exact ⟨_, _, rfl, rfl, rfl⟩) (hw : ∀ f, callWith pos f [] (backTo pos (starEach [e] C.env)) (backToKw pos (keywordEach [] C.env)) = callWith pos f [] (backTo pos (starEach [e] C.env)) [] := by intro _; rfl)
    (he : starEach [e] C.env = (false, eval e C.env) :: starEach [] C.env := by rfl) :
    EV C (.Call (.Name ("len" : Str) np) [e] [] pos) σ μ Q :=
  ev_bcall (hC.wok P) hC.env1 (by rw [hC.mg]; exact P.b "len" (by decide)) (by rw [hC.mb]; exact P.blen) hk (evs_cons (h.mono fun d μ₁ ⟨xs, a, b, q⟩ => evs_nil (blt_len a b q)) he) (by decide +kernel) hne hw
theorem ev_lenN (P : PW W) {np pos : Pos} {e : Expr} (h : EV C e σ μ fun d μ₁ => ∃ xs : List Nat, d = dN xs ∧ xs.length < 2 ^ 62 ∧ Q (.int xs.length) μ₁)
    (hk : C.env.kindOf ("len" : Str) = some .globalImplicit := by rfl) (hC : InW W C := by exact ⟨rfl, rfl, rfl, rfl, rfl⟩)
    (hne : ∃ e' r, [e] = e' :: r ∧ starEach (e' :: r) C.env = (false, eval e' C.env) :: starEach r C.env ∧ (backTo pos (starEach [e] C.env)).any (·.1) = false := by exact ⟨_, _, rfl, rfl, rfl⟩) (hw : ∀ f, callWith pos f [] (backTo pos (starEach [e] C.env)) (backToKw pos (keywordEach [] C.env)) = callWith pos f [] (backTo pos (starEach [e] C.env)) [] := by intro _; rfl)
    (he : starEach [e] C.env = (false, eval e C.env) :: starEach [] C.env := by rfl) :
    EV C (.Call (.Name ("len" : Str) np) [e] [] pos) σ μ Q :=
  ev_len P (h.mono fun d μ₁ ⟨xs, hd, b, q⟩ => ⟨_, .inl hd, by simpa using b, by rw [List.length_map]; exact q⟩) hk hC hne hw he
theorem ev_abs (P : PW W) {np pos : Pos} {e : Expr} (h : EV C e σ μ fun d μ₁ => ∃ i, d = .int i ∧ Q (.int (i.natAbs : Nat)) μ₁)
    (hk : C.env.kindOf ("abs" : Str) = some .globalImplicit := by rfl) (hC : InW W C := by exact ⟨rfl, rfl, rfl, rfl, rfl⟩)
    (hne : ∃ e' r, [e] = e' :: r ∧ starEach (e' :: r) C.env = (false, eval e' C.env) :: starEach r C.env ∧ (backTo pos (starEach [e] C.env)).any (·.1) = false := by exact ⟨_, _, rfl, rfl, rfl⟩) (hw : ∀ f, callWith pos f [] (backTo pos (starEach [e] C.env)) (backToKw pos (keywordEach [] C.env)) = callWith pos f [] (backTo pos (starEach [e] C.env)) [] := by intro _; rfl)
    (he : starEach [e] C.env = (false, eval e C.env) :: starEach [] C.env := by rfl) :
    EV C (.Call (.Name ("abs" : Str) np) [e] [] pos) σ μ Q :=
  ev_bcall (hC.wok P) hC.env1 (by rw [hC.mg]; exact P.b "abs" (by decide)) (by rw [hC.mb]; exact P.babs) hk (evs_cons (h.mono fun d μ₁ ⟨i, hd, q⟩ => by
    subst hd
    refine evs_nil (blt_abs ?_)
    have : (if i < 0 then -i else i) = (i.natAbs : Int) := by split <;> omega
    rw [this]; exact q) he) (by decide +kernel) hne hw
theorem ev_sum (P : PW W) {np pos : Pos} {e : Expr} (hh : C.A.handled = none) (h : EV C e σ μ fun d μ₁ => ∃ l : List Int, d = dInts l ∧ Q (.int l.sum) μ₁)
    (hk : C.env.kindOf ("sum" : Str) = some .globalImplicit := by rfl) (hC : InW W C := by exact ⟨rfl, rfl, rfl, rfl, rfl⟩)
    (hne : ∃ e' r, [e] = e' :: r ∧ starEach (e' :: r) C.env = (false, eval e' C.env) :: starEach r C.env ∧ (backTo pos (starEach [e] C.env)).any (·.1) = false := by exact ⟨_, _, rfl, rfl, rfl⟩) (hw : ∀ f, callWith pos f [] (backTo pos (starEach [e] C.env)) (backToKw pos (keywordEach [] C.env)) = callWith pos f [] (backTo pos (starEach [e] C.env)) [] := by intro _; rfl)
    (he : starEach [e] C.env = (false, eval e C.env) :: starEach [] C.env := by rfl) :
    EV C (.Call (.Name ("sum" : Str) np) [e] [] pos) σ μ Q :=
  ev_bcall (hC.wok P) hC.env1 (by rw [hC.mg]; exact P.b "sum" (by decide)) (by rw [hC.mb]; exact P.bsum) hk (evs_cons (h.mono fun d μ₁ ⟨i, hd, q⟩ => by
    subst hd
    exact evs_nil (blt_sum hh q)) he) (by decide +kernel) hne hw

variable {K : Nat → (Nat → Sg → Sg) → Mu → Prop}
theorem s_range1 (P : PW W) {x : Str} {px np pos : Pos} {e : Expr} (hh : C.A.handled = none) {ok : Env → Prop} (hok : ∀ env₂, ok env₂ → env₂.kindOf x = some .local)
    (h : EV C e σ μ fun d μ₁ => ∃ n : Nat, d = .int n ∧ n < 2 ^ 60 ∧ K n (fun i σ => (x, .int (i : Nat)) :: σ) μ₁)
    (hx : C.env.kindOf ("range" : Str) = some .globalImplicit := by rfl) (hC : InW W C := by exact ⟨rfl, rfl, rfl, rfl, rfl⟩)
    (he : starEach [e] C.env = [(false, eval e C.env)] := by rfl) : SRC C ok (.Name x px) (.Call (.Name "range" np) [e] [] pos) σ μ K :=
  src_range1 (hC.wok P) hC.env1 hh hok (by rw [hC.mg]; exact P.t "range" (by decide)) (by rw [hC.mb]; exact P.trange) hx h he
theorem s_range1S (P : PW W) {x : Str} {px np pos : Pos} {e : Expr} (hh : C.A.handled = none) {ok : Env → Prop} (hok : ∀ env₂, ok env₂ → Sto env₂ x)
    (h : EV C e σ μ fun d μ₁ => ∃ n : Nat, d = .int n ∧ n < 2 ^ 60 ∧ K n (fun i σ => (x, .int (i : Nat)) :: σ) μ₁)
    (hx : C.env.kindOf ("range" : Str) = some .globalImplicit := by rfl) (hC : InW W C := by exact ⟨rfl, rfl, rfl, rfl, rfl⟩)
    (he : starEach [e] C.env = [(false, eval e C.env)] := by rfl) : SRC C ok (.Name x px) (.Call (.Name "range" np) [e] [] pos) σ μ K :=
  src_range1S (hC.wok P) hC.env1 hh hok (by rw [hC.mg]; exact P.t "range" (by decide)) (by rw [hC.mb]; exact P.trange) hx h he
theorem s_range2 (P : PW W) {x : Str} {px np pos : Pos} {e f : Expr} (hh : C.A.handled = none) {ok : Env → Prop} (hok : ∀ env₂, ok env₂ → env₂.kindOf x = some .local)
    (h : EV C e σ μ fun d μ₁ => EV C f σ μ₁ fun d' μ₂ => ∃ a n : Nat, d = .int a ∧ d' = .int n ∧ a < 2 ^ 60 ∧ n < 2 ^ 60 ∧ K (n - a) (fun i σ => (x, .int ((a + i : Nat) : Int)) :: σ) μ₂)
    (hx : C.env.kindOf ("range" : Str) = some .globalImplicit := by rfl) (hC : InW W C := by exact ⟨rfl, rfl, rfl, rfl, rfl⟩)
    (he : starEach [e, f] C.env = [(false, eval e C.env), (false, eval f C.env)] := by rfl) (hf : starEach [f] C.env = [(false, eval f C.env)] := by rfl) : SRC C ok (.Name x px) (.Call (.Name "range" np) [e, f] [] pos) σ μ K :=
  src_range2 (hC.wok P) hC.env1 hh hok (by rw [hC.mg]; exact P.t "range" (by decide)) (by rw [hC.mb]; exact P.trange) hx h he hf
theorem s_rangeDown (P : PW W) {x : Str} {px np pos : Pos} {e f k : Expr} (hh : C.A.handled = none) {ok : Env → Prop} (hok : ∀ env₂, ok env₂ → env₂.kindOf x = some .local)
    (h : EV C e σ μ fun d μ₁ => EV C f σ μ₁ fun d' μ₂ => EV C k σ μ₂ fun d'' μ₃ => ∃ n : Nat, d = .int ((n : Int) - 1) ∧ d' = .int (-1) ∧ d'' = .int (-1) ∧ n < 2 ^ 60 ∧ K n (fun i σ => (x, .int ((n : Int) - 1 - i)) :: σ) μ₃)
    (hx : C.env.kindOf ("range" : Str) = some .globalImplicit := by rfl) (hC : InW W C := by exact ⟨rfl, rfl, rfl, rfl, rfl⟩)
    (he : starEach [e, f, k] C.env = [(false, eval e C.env), (false, eval f C.env), (false, eval k C.env)] := by rfl) (hf : starEach [f, k] C.env = [(false, eval f C.env), (false, eval k C.env)] := by rfl) (hk : starEach [k] C.env = [(false, eval k C.env)] := by rfl) : SRC C ok (.Name x px) (.Call (.Name "range" np) [e, f, k] [] pos) σ μ K :=
  src_rangeDown (hC.wok P) hC.env1 hh hok (by rw [hC.mg]; exact P.t "range" (by decide)) (by rw [hC.mb]; exact P.trange) hx h he hf hk
theorem s_enum (P : PW W) {x y : Str} {px py tp np pos : Pos} {kk : Nat} {e : Expr} (hh : C.A.handled = none) {ok : Env → Prop} (hok : ∀ env₂, ok env₂ → env₂.kindOf x = some .local ∧ env₂.kindOf y = some .local)
    (h : EV C e σ μ fun d μ₁ => ∃ xs, d = .list xs ∧ K xs.length (fun i σ => (y, xs.getD i .none) :: (x, .int (i : Nat)) :: σ) μ₁)
    (hx : C.env.kindOf ("enumerate" : Str) = some .globalImplicit := by rfl) (hC : InW W C := by exact ⟨rfl, rfl, rfl, rfl, rfl⟩)
    (he : starEach [e] C.env = [(false, eval e C.env)] := by rfl) : SRC C ok (.Tuple [.Name x px, .Name y py] kk tp) (.Call (.Name "enumerate" np) [e] [] pos) σ μ K :=
  src_enum (hC.wok P) hC.env1 hh hok (by rw [hC.mg]; exact P.t "enumerate" (by decide)) (by rw [hC.mb]; exact P.tenum) hx h he
theorem s_enumS (P : PW W) {x y : Str} {px py tp np pos : Pos} {kk : Nat} {e : Expr} (hh : C.A.handled = none) {ok : Env → Prop} (hok : ∀ env₂, ok env₂ → Sto env₂ x ∧ Sto env₂ y)
    (h : EV C e σ μ fun d μ₁ => ∃ xs, d = .list xs ∧ K xs.length (fun i σ => (y, xs.getD i .none) :: (x, .int (i : Nat)) :: σ) μ₁)
    (hx : C.env.kindOf ("enumerate" : Str) = some .globalImplicit := by rfl) (hC : InW W C := by exact ⟨rfl, rfl, rfl, rfl, rfl⟩)
    (he : starEach [e] C.env = [(false, eval e C.env)] := by rfl) : SRC C ok (.Tuple [.Name x px, .Name y py] kk tp) (.Call (.Name "enumerate" np) [e] [] pos) σ μ K :=
  src_enumS (hC.wok P) hC.env1 hh hok (by rw [hC.mg]; exact P.t "enumerate" (by decide)) (by rw [hC.mb]; exact P.tenum) hx h he
theorem s_zip (P : PW W) {x y : Str} {px py tp np pos : Pos} {kk : Nat} {e f : Expr} (hh : C.A.handled = none) {ok : Env → Prop} (hok : ∀ env₂, ok env₂ → env₂.kindOf x = some .local ∧ env₂.kindOf y = some .local)
    (h : EV C e σ μ fun d μ₁ => EV C f σ μ₁ fun d' μ₂ => ∃ xs ys, d = .list xs ∧ d' = .list ys ∧ K (min xs.length ys.length) (fun i σ => (y, ys.getD i .none) :: (x, xs.getD i .none) :: σ) μ₂)
    (hx : C.env.kindOf ("zip" : Str) = some .globalImplicit := by rfl) (hC : InW W C := by exact ⟨rfl, rfl, rfl, rfl, rfl⟩)
    (he : starEach [e, f] C.env = [(false, eval e C.env), (false, eval f C.env)] := by rfl) (hf : starEach [f] C.env = [(false, eval f C.env)] := by rfl) : SRC C ok (.Tuple [.Name x px, .Name y py] kk tp) (.Call (.Name "zip" np) [e, f] [] pos) σ μ K :=
  src_zip (hC.wok P) hC.env1 hh hok (by rw [hC.mg]; exact P.t "zip" (by decide)) (by rw [hC.mb]; exact P.tzip) hx h he hf
end

theorem fn_normal (P : PW W) (fs : List Env) (l : List Nat) (hl : l.length < 2 ^ 20) (μ : Mu) (Q : D → Mu → Prop) (q : Q (dN (normR l)) μ) : FN W.prog W.w W.h₀ fs 3 (P.addr 5) [dN l] μ Q := by
  refine fn_intro P.ok (P.d 5 (by decide)) rfl rfl rfl (by decide +kernel) rfl (by decide +kernel) (by decide +kernel) fun A o L q' cd R => ?_
  refine xs_cons (x_assign ?_ (by rfl))
  refine ev_lenN P ?_
  walk_at "e"
  refine ⟨by omega, ?_⟩
  walk_at "e"
  refine xs_cut (fun σ₁ μ₁ => ∃ e : Nat, e ≤ l.length ∧ l.take e = normR l ∧ σ₁ = ([("end", .int e), ("a", dN l)] : Sg) ∧ μ₁ = μ) ?_ ?_
  · refine x_whileC (α := Nat) (fun e => [("end", .int e), ("a", dN l)]) (fun _ => μ) (fun e => e ≤ l.length ∧ normR (l.take e) = normR l) id l.length PassesOwn.never (.cons rfl (.cons rfl .nil)) rfl ⟨Nat.le_refl _, by rw [List.take_length]⟩ fun e he => ?_
    walk_at "e"
    refine ⟨fun hp => ?_, fun hp => ⟨rfl, e, he.1, ?_, rfl, rfl⟩⟩
    · obtain ⟨x, hx⟩ : ∃ x, l[e - 1]? = some x := ⟨_, List.getElem?_eq_getElem (by omega)⟩
      have e1 : l.take e = l.take (e - 1) ++ [x] := by
        obtain ⟨hi, rfl⟩ := List.getElem?_eq_some_iff.mp hx
        rw [← List.take_succ_eq_append_getElem hi]; congr 1; omega
      refine ct_eq ?_
      refine ev_itemN ?_
      walk_at "e"
      refine ⟨l, e - 1, x, rfl, by congr 1; omega, by omega, hx, ?_⟩
      walk_at "e"
      refine ⟨fun hx0 => ?_, fun hx0 => ⟨rfl, e, he.1, ?_, rfl, rfl⟩⟩
      · have hx0' : x = 0 := by omega
        subst hx0'
        refine xs_cons (x_subI rfl rfl (.inl rfl) ?_)
        walk_at "e"
        refine ⟨e - 1, ⟨by omega, ?_⟩, .cons (show some (D.int ((e : Int) - 1)) = some (D.int ((e - 1 : Nat) : Int)) by congr 2; omega) (.cons rfl .nil), rfl, ?_⟩
        · rw [← he.2, e1, normR_zero]
        · show e - 1 < e
          omega
      · rw [← he.2, e1, normR_last (by omega)]
    · have : e = 0 := by omega
      subst this
      rw [← he.2]; rfl
  · rintro σ₁ μ₁ ⟨e, h1, h2, rfl, rfl⟩
    walk_at "e"
    refine ev_slice ?_
    walk_at "e"
    refine evo_none (evo_some ?_)
    walk_at "e"
    refine ⟨_, none, some (e : Int), .inl rfl, by simp [sizeLine]; omega, .inl ⟨rfl, rfl⟩, .inr ⟨_, rfl, rfl⟩, .inl rfl, (by simp), (by simp), ?_⟩
    show Q (.list ((l.map fun n : Nat => D.int n).take (e : Int).toNat)) _
    rw [Int.toNat_natCast, ← List.map_take, h2]
    exact q

variable {W : Wd}
theorem fn_nat_of (P : PW W) (fs : List Env) (n w : Nat) (hw : 3 ≤ w) (hw8 : w ≤ 8) (hn : n < 2 ^ 1600) (μ : Mu) (Q : D → Mu → Prop) (q : Q (dN (limbs (2 ^ w) n)) μ) : FN W.prog W.w W.h₀ fs 3 (P.addr 6) [.int n, .int w] μ Q := by
  have hB : 2 ≤ 2 ^ w := Nat.le_trans (by decide : 2 ≤ 2 ^ 3) (Nat.pow_le_pow_right (by decide) hw)
  have hlen := limbs_len2 hB hn
  refine fn_intro P.ok (P.d 6 (by decide)) rfl rfl rfl (by decide +kernel) rfl (by decide +kernel) (by decide +kernel) fun A o L q' cd R => ?_
  refine xs_cons (x_ifC ?_)
  walk_at "e"
  refine ⟨fun h => absurd h (by omega), fun _ => ?_⟩
  walk_at "e"
  refine xs_cons (x_swap R.handled rfl ?_)
  refine ev_tuple ?_
  walk_at "e"
  refine ev_listM ?_
  walk_at "e"
  refine ⟨by decide, fun a ha => ?_⟩
  walk_at "e"
  refine ev_shl ?_
  walk_at "e"
  refine ⟨by omega, by decide, ?_⟩
  walk_at "e"
  refine ⟨by first | exact Nat.le_of_ble_eq_true rfl | simp [sizeLine], _, rfl, rfl, ?_⟩
  refine anl_cons (an_local rfl (anl_cons (an_local rfl (anl_nil ?_))))
  refine xs_cutS (α := Unit) (fun _ => [("found", .ref a)]) (fun _ => (a, (limbs (2 ^ w) n).map fun n : Nat => D.int n) :: μ) (fun _ => True) ?_ ?_
  · refine x_whileC (α := List Nat × Nat) (fun p => [("found", .ref a), ("number", .int p.2), ("mask", .int (1 * 2 ^ w - 1)), ("w", .int w)]) (fun p => (a, p.1.map fun n : Nat => D.int n) :: μ) (fun p => p.1 ++ limbs (2 ^ w) p.2 = limbs (2 ^ w) n) (·.2) ([], n) PassesOwn.never
      (.cons rfl (.cons rfl (.cons rfl (.cons rfl .nil)))) rfl rfl fun p hp => ?_
    obtain ⟨f, m⟩ := p
    dsimp only at hp
    walk_at "e"
    refine ⟨fun hm => ?_, fun hm => ⟨rfl, (), trivial, .cons rfl .nil, ?_⟩⟩
    · have hm' : 0 < m := by omega
      rw [limbs_pos hB hm'] at hp
      have hl := congrArg List.length hp
      simp only [List.length_append, List.length_cons] at hl
      refine xs_cons (x_append ?_)
      walk_at "e"
      refine ⟨⟨_, List.mem_cons_self⟩, ?_⟩
      walk_at "e"
      refine ⟨_, [], μ, rfl, by simp [sizeLine]; omega, ?_⟩
      rw [Int.one_mul, band_mask, dN_app]
      refine xs_cons (x_shrI rfl rfl (.inl rfl) ?_)
      walk_at "e"
      refine ⟨(f ++ [m % 2 ^ w], m / 2 ^ w), by simpa using hp, .cons rfl (.cons ?_ (.cons rfl (.cons rfl .nil))), rfl, ?_⟩
      · rw [fdiv_pow]; rfl
      · exact Nat.div_lt_self hm' (by omega)
    · have : m = 0 := by omega
      subst this
      rw [limbs_zero, List.append_nil] at hp
      rw [hp]
  · intro _ _
    refine xs_ret ?_
    refine ev_nameFz rfl rfl (.inl rfl) (μ₁ := []) rfl ?_
    exact q

variable {W : Wd}
noncomputable def cmpN (n m : Nat) : Int := if n < m then -1 else if m < n then 1 else 0
theorem cmp_at {B n m i x y : Nat} (hB : 2 ≤ B) (hi : (limbs B n)[i]? = some x) (hj : (limbs B m)[i]? = some y) (ht : (limbs B n).drop (i + 1) = (limbs B m).drop (i + 1)) (h : x < y) : n < m := by
  obtain ⟨h1, e1⟩ := List.getElem?_eq_some_iff.mp hi
  obtain ⟨h2, e2⟩ := List.getElem?_eq_some_iff.mp hj
  have a1 : limbs B n = (limbs B n).take i ++ x :: (limbs B n).drop (i + 1) := by rw [← e1, List.getElem_cons_drop, List.take_append_drop]
  have a2 : limbs B m = (limbs B m).take i ++ y :: (limbs B n).drop (i + 1) := by rw [ht, ← e2, List.getElem_cons_drop, List.take_append_drop]
  rw [← vN_limbs hB n, ← vN_limbs hB m, a1]
  conv => rhs; rw [a2]
  refine vN_cmp h _ _ (by simp; omega) (fun d hd => limbs_dig hB n d (List.mem_of_mem_take hd)) (fun d hd => limbs_dig hB m d (List.mem_of_mem_take hd))

theorem fn_compare (P : PW W) (fs : List Env) (n m B : Nat) (hB : 2 ≤ B) (hn : n < 2 ^ 1600) (hm : m < 2 ^ 1600) (μ : Mu) (Q : D → Mu → Prop) (q : Q (.int (cmpN n m)) μ) : FN W.prog W.w W.h₀ fs 3 (P.addr 7) [dN (limbs B n), dN (limbs B m)] μ Q := by
  have hla := limbs_len2 hB hn
  have hlb := limbs_len2 hB hm
  refine fn_intro P.ok (P.d 7 (by decide)) rfl rfl rfl (by decide +kernel) rfl (by decide +kernel) (by decide +kernel) fun A o L q' cd R => ?_
  refine xs_ifC (ct_ne ?_)
  refine ev_lenN P ?_
  walk_at "e"
  refine ⟨by omega, ?_⟩
  refine ev_lenN P ?_
  walk_at "e"
  refine ⟨by omega, ?_⟩
  walk_at "e"
  refine ⟨fun hne => ?_, fun heq => ?_⟩
  · walk_at "e"
    refine ev_lenN P ?_
    walk_at "e"
    refine ⟨by omega, ?_⟩
    refine ev_lenN P ?_
    walk_at "e"
    refine ⟨by omega, ?_⟩
    walk_at "e"
    refine ⟨fun h => ?_, fun h => ?_⟩
    · walk_at "e"
      have : n < m := limbs_lt hB (by omega)
      unfold cmpN at q
      rw [if_pos this] at q
      exact q
    · walk_at "e"
      have : m < n := limbs_lt hB (by omega)
      unfold cmpN at q
      rw [if_neg (by omega), if_pos this] at q
      exact q
  · walk_at "e"
    have heq' : (limbs B n).length = (limbs B m).length := by omega
    refine xs_cons (x_for (α := Unit) (fun _ => [("a", dN (limbs B n)), ("b", dN (limbs B m))]) (fun _ => μ) PassesOwn.never ?_)
    refine s_rangeDown P R.handled (by rintro _ rfl; rfl) ?_
    walk_at "e"
    refine ev_lenN P ?_
    walk_at "e"
    refine ⟨by omega, ?_⟩
    walk_at "e"
    refine ⟨rfl, rfl, by omega, fun i _ => (limbs B n).drop ((limbs B n).length - i) = (limbs B m).drop ((limbs B n).length - i), (), .cons rfl (.cons rfl .nil), rfl, ?_, ?_, ?_⟩
    · dsimp only
      rw [Nat.sub_zero, List.drop_length, heq', List.drop_length]
    · intro i _ o' hi hI
      obtain ⟨x, hx⟩ : ∃ x, (limbs B n)[(limbs B n).length - 1 - i]? = some x := ⟨_, List.getElem?_eq_getElem (by omega)⟩
      obtain ⟨y, hy⟩ : ∃ x, (limbs B m)[(limbs B n).length - 1 - i]? = some x := ⟨_, List.getElem?_eq_getElem (by omega)⟩
      have hk : (limbs B n).length - i = (limbs B n).length - 1 - i + 1 := by omega
      rw [hk] at hI
      refine xs_ifC (ct_ne ?_)
      refine ev_itemN ?_
      walk_at "e"
      refine ⟨_, (limbs B n).length - 1 - i, x, rfl, by congr 1; omega, by omega, hx, ?_⟩
      refine ev_itemN ?_
      walk_at "e"
      refine ⟨_, (limbs B n).length - 1 - i, y, rfl, by congr 1; omega, by omega, hy, ?_⟩
      walk_at "e"
      refine ⟨fun hne => ?_, fun he => ?_⟩
      · walk_at "e"
        refine ev_itemN ?_
        walk_at "e"
        refine ⟨_, (limbs B n).length - 1 - i, x, rfl, by congr 1; omega, by omega, hx, ?_⟩
        refine ev_itemN ?_
        walk_at "e"
        refine ⟨_, (limbs B n).length - 1 - i, y, rfl, by congr 1; omega, by omega, hy, ?_⟩
        walk_at "e"
        refine ⟨fun h => ?_, fun h => ?_⟩
        · walk_at "e"
          have : n < m := cmp_at hB hx hy hI (by omega)
          unfold cmpN at q
          rw [if_pos this] at q
          exact q
        · walk_at "e"
          have : m < n := cmp_at hB hy hx hI.symm (by omega)
          unfold cmpN at q
          rw [if_neg (by omega), if_pos this] at q
          exact q
      · walk_at "e"
        refine ⟨(), ?_, .cons rfl (.cons rfl .nil), rfl⟩
        have hxy : x = y := by omega
        obtain ⟨h1, e1⟩ := List.getElem?_eq_some_iff.mp hx
        obtain ⟨h2, e2⟩ := List.getElem?_eq_some_iff.mp hy
        dsimp only
        rw [show (limbs B n).length - (i + 1) = (limbs B n).length - 1 - i by omega, ← List.getElem_cons_drop h1, ← List.getElem_cons_drop h2, e1, e2, hxy, hI]
    · intro _ hI
      rw [Nat.sub_self, List.drop_zero, List.drop_zero] at hI
      have := limbs_inj hB hI
      subst this
      walk_at "e"
      unfold cmpN at q
      rw [if_neg (by omega), if_neg (by omega)] at q
      exact q

variable {W : Wd}
theorem two_le {w : Nat} (hw : 3 ≤ w) : 2 ≤ 2 ^ w := Nat.le_trans (by decide : 2 ≤ 2 ^ 3) (Nat.pow_le_pow_right (by decide) hw)

theorem fn_add (P : PW W) (fs : List Env) (n₀ m₀ w : Nat) (hw : 3 ≤ w) (hw8 : w ≤ 8) (hn : n₀ < 2 ^ 1600) (hm : m₀ < 2 ^ 1600) (μ : Mu) (Q : D → Mu → Prop) (q : Q (dN (limbs (2 ^ w) (n₀ + m₀))) μ) : FN W.prog W.w W.h₀ fs 3 (P.addr 8) [dN (limbs (2 ^ w) n₀), dN (limbs (2 ^ w) m₀), .int w] μ Q := by
  have hB := two_le hw
  have hla := limbs_len2 hB hn
  have hlb := limbs_len2 hB hm
  clear hn hm
  refine fn_intro P.ok (P.d 8 (by decide)) rfl rfl rfl (by decide +kernel) rfl (by decide +kernel) (by decide +kernel) fun A o L q' cd R => ?_
  refine xs_cutS (α := Nat × Nat) (fun p => [("a", dN (limbs (2 ^ w) p.1)), ("b", dN (limbs (2 ^ w) p.2)), ("w", .int w)]) (fun _ => μ) (fun p => p.1 + p.2 = n₀ + m₀ ∧ (limbs (2 ^ w) p.2).length ≤ (limbs (2 ^ w) p.1).length ∧ (limbs (2 ^ w) p.1).length ≤ 1600) ?_ ?_
  · refine x_ifC (ct_lt ?_)
    refine ev_lenN P ?_
    walk_at "e"
    refine ⟨by omega, ?_⟩
    refine ev_lenN P ?_
    walk_at "e"
    refine ⟨by omega, ?_⟩
    walk_at "e"
    refine ⟨fun h => ?_, fun h => ?_⟩
    · refine xs_cons (x_swap R.handled (ns := [("a" : Str), ("b" : Str)]) rfl ?_)
      refine ev_tuple ?_
      walk_at "e"
      refine ⟨by first | exact Nat.le_of_ble_eq_true rfl | simp [sizeLine], _, rfl, rfl, ?_⟩
      refine anl_cons (an_local rfl (anl_cons (an_local rfl (anl_nil ?_))))
      walk_at "e"
      exact ⟨rfl, (m₀, n₀), ⟨Nat.add_comm _ _, by dsimp only; omega, hlb⟩, .cons rfl (.cons rfl (.cons rfl .nil)), rfl⟩
    · walk_at "e"
      exact ⟨rfl, (n₀, m₀), ⟨rfl, by dsimp only; omega, hla⟩, .cons rfl (.cons rfl (.cons rfl .nil)), rfl⟩
  rintro ⟨n, m⟩ ⟨h1, h2, h3⟩
  dsimp only at h1 h2 h3
  dsimp only
  rw [← h1] at q
  clear h1 hla hlb
  refine xs_cons (x_swap R.handled (ns := [("found" : Str), ("carry" : Str), ("mask" : Str)]) rfl ?_)
  refine ev_tuple ?_
  walk_at "e"
  refine ev_listM ?_
  walk_at "e"
  refine ⟨by decide, fun a ha => ?_⟩
  walk_at "e"
  refine ev_shl ?_
  walk_at "e"
  refine ⟨by omega, by decide, ?_⟩
  walk_at "e"
  refine ⟨by first | exact Nat.le_of_ble_eq_true rfl | simp [sizeLine], _, rfl, rfl, ?_⟩
  refine anl_cons (an_local rfl (anl_cons (an_local rfl (anl_cons (an_local rfl (anl_nil ?_))))))
  refine xs_cutS (α := List Nat × Nat) (fun p => [("found", .ref a), ("carry", .int p.2), ("mask", .int (1 * 2 ^ w - 1)), ("a", dN (limbs (2 ^ w) n)), ("b", dN (limbs (2 ^ w) m)), ("w", .int w)]) (fun p => (a, p.1.map fun n : Nat => D.int n) :: μ)
    (fun p => p.1.length = (limbs (2 ^ w) m).length ∧ Dig (2 ^ w) p.1 ∧ vN (2 ^ w) p.1 + (2 ^ w) ^ (limbs (2 ^ w) m).length * p.2 = vN (2 ^ w) ((limbs (2 ^ w) n).take (limbs (2 ^ w) m).length) + m ∧ p.2 ≤ 1) ?_ ?_
  · refine x_for (α := List Nat × Nat) (fun p => [("found", .ref a), ("carry", .int p.2), ("mask", .int (1 * 2 ^ w - 1)), ("a", dN (limbs (2 ^ w) n)), ("b", dN (limbs (2 ^ w) m)), ("w", .int w)]) (fun p => (a, p.1.map fun n : Nat => D.int n) :: μ) PassesOwn.never ?_
    refine s_range1 P R.handled (by rintro _ rfl; rfl) ?_
    refine ev_lenN P ?_
    walk_at "e"
    refine ⟨by omega, ?_⟩
    walk_at "e"
    refine ⟨by omega, fun i p => p.1.length = i ∧ Dig (2 ^ w) p.1 ∧ vN (2 ^ w) p.1 + (2 ^ w) ^ i * p.2 = vN (2 ^ w) ((limbs (2 ^ w) n).take i) + vN (2 ^ w) ((limbs (2 ^ w) m).take i) ∧ p.2 ≤ 1, ([], 0), .cons rfl (.cons rfl (.cons rfl (.cons rfl (.cons rfl (.cons rfl .nil))))), rfl, ?_, ?_, ?_⟩
    · exact ⟨rfl, (by intro d hd; cases hd), by simp [vN], Nat.zero_le _⟩
    · rintro i ⟨f, c⟩ o' hi ⟨f1, f2, f3, f4⟩
      dsimp only at f1 f2 f3 f4
      obtain ⟨x, hx⟩ : ∃ x, (limbs (2 ^ w) n)[i]? = some x := ⟨_, List.getElem?_eq_getElem (by omega)⟩
      obtain ⟨y, hy⟩ : ∃ x, (limbs (2 ^ w) m)[i]? = some x := ⟨_, List.getElem?_eq_getElem (by omega)⟩
      have hxB := (limbs_dig hB n).get hx
      have hyB := (limbs_dig hB m).get hy
      refine xs_cons (x_addI rfl rfl (.inl rfl) ?_)
      refine ev_add ?_
      refine ev_itemN ?_
      walk_at "e"
      refine ⟨_, i, x, rfl, rfl, by omega, hx, ?_⟩
      refine ev_itemN ?_
      walk_at "e"
      refine ⟨_, i, y, rfl, rfl, by omega, hy, ?_⟩
      walk_at "e"
      refine xs_cons (x_append ?_)
      walk_at "e"
      refine ⟨⟨_, List.mem_cons_self⟩, ?_⟩
      walk_at "e"
      refine ⟨_, [], μ, rfl, by simp [sizeLine]; omega, ?_⟩
      rw [Int.one_mul, ← Int.natCast_add, ← Int.natCast_add, band_mask, dN_app]
      refine xs_cons (x_shrI rfl rfl (.inl rfl) ?_)
      walk_at "e"
      obtain ⟨g1, g2, g3⟩ := dig_step hB (k := c + (x + y)) f2 f1 (s := vN (2 ^ w) ((limbs (2 ^ w) n).take (i + 1)) + vN (2 ^ w) ((limbs (2 ^ w) m).take (i + 1))) (by rw [vN_takeS hx, vN_takeS hy, Nat.mul_add, Nat.mul_add]; omega)
      refine ⟨(f ++ [(c + (x + y)) % 2 ^ w], (c + (x + y)) / 2 ^ w), ⟨g1, g2, g3, div_le_one (by omega)⟩, .cons rfl (.cons ?_ (.cons rfl (.cons rfl (.cons rfl (.cons rfl .nil))))), rfl⟩
      rw [fdiv_pow]; rfl
    · rintro ⟨f, c⟩ ⟨f1, f2, f3, f4⟩
      rw [List.take_length, vN_limbs hB] at f3
      exact ⟨rfl, (f, c), ⟨f1, f2, f3, f4⟩, Sub.refl, rfl⟩
  · rintro ⟨f, c⟩ ⟨f1, f2, f3, f4⟩
    dsimp only at f1 f2 f3 f4
    dsimp only
    refine xs_cutS (α := List Nat × Nat) (fun p => [("found", .ref a), ("carry", .int p.2)]) (fun p => (a, p.1.map fun n : Nat => D.int n) :: μ)
      (fun p => p.1.length = (limbs (2 ^ w) n).length ∧ Dig (2 ^ w) p.1 ∧ vN (2 ^ w) p.1 + (2 ^ w) ^ p.1.length * p.2 = n + m ∧ p.2 ≤ 1) ?_ ?_
    · refine x_for (α := List Nat × Nat) (fun p => [("found", .ref a), ("carry", .int p.2), ("mask", .int (1 * 2 ^ w - 1)), ("a", dN (limbs (2 ^ w) n)), ("w", .int w)]) (fun p => (a, p.1.map fun n : Nat => D.int n) :: μ) PassesOwn.never ?_
      refine s_range2 P R.handled (by rintro _ rfl; rfl) ?_
      refine ev_lenN P ?_
      walk_at "e"
      refine ⟨by omega, ?_⟩
      refine ev_lenN P ?_
      walk_at "e"
      refine ⟨by omega, ?_⟩
      walk_at "e"
      refine ⟨by omega, by omega, fun i p => p.1.length = (limbs (2 ^ w) m).length + i ∧ Dig (2 ^ w) p.1 ∧ vN (2 ^ w) p.1 + (2 ^ w) ^ ((limbs (2 ^ w) m).length + i) * p.2 = vN (2 ^ w) ((limbs (2 ^ w) n).take ((limbs (2 ^ w) m).length + i)) + m ∧ p.2 ≤ 1, (f, c), .cons rfl (.cons rfl (.cons rfl (.cons rfl (.cons rfl .nil)))), rfl, ⟨f1, f2, f3, f4⟩, ?_, ?_⟩
      · rintro i ⟨f, c⟩ o' hi ⟨f1, f2, f3, f4⟩
        dsimp only at f1 f2 f3 f4
        obtain ⟨x, hx⟩ : ∃ x, (limbs (2 ^ w) n)[(limbs (2 ^ w) m).length + i]? = some x := ⟨_, List.getElem?_eq_getElem (by omega)⟩
        have hxB := (limbs_dig hB n).get hx
        refine xs_cons (x_addI rfl rfl (.inl rfl) ?_)
        refine ev_itemN ?_
        walk_at "e"
        refine ⟨_, _, x, rfl, rfl, by omega, hx, ?_⟩
        walk_at "e"
        refine xs_cons (x_append ?_)
        walk_at "e"
        refine ⟨⟨_, List.mem_cons_self⟩, ?_⟩
        walk_at "e"
        refine ⟨_, [], μ, rfl, by simp [sizeLine]; omega, ?_⟩
        rw [Int.one_mul, ← Int.natCast_add, band_mask, dN_app]
        refine xs_cons (x_shrI rfl rfl (.inl rfl) ?_)
        walk_at "e"
        obtain ⟨g1, g2, g3⟩ := dig_step hB (k := c + x) f2 f1 (s := vN (2 ^ w) ((limbs (2 ^ w) n).take ((limbs (2 ^ w) m).length + i + 1)) + m) (by rw [vN_takeS hx, Nat.mul_add]; omega)
        refine ⟨(f ++ [(c + x) % 2 ^ w], (c + x) / 2 ^ w), ⟨g1, g2, g3, div_le_one (by omega)⟩, .cons rfl (.cons ?_ (.cons rfl (.cons rfl (.cons rfl .nil)))), rfl⟩
        rw [fdiv_pow]; rfl
      · rintro ⟨f, c⟩ ⟨f1, f2, f3, f4⟩
        dsimp only at f1 f2 f3 f4
        have hk : (limbs (2 ^ w) m).length + ((limbs (2 ^ w) n).length - (limbs (2 ^ w) m).length) = (limbs (2 ^ w) n).length := by omega
        rw [hk] at f1 f3
        rw [List.take_length, vN_limbs hB] at f3
        exact ⟨rfl, (f, c), ⟨f1, f2, by rw [f1]; exact f3, f4⟩, .cons rfl (.cons rfl .nil), rfl⟩
    · rintro ⟨f, c⟩ ⟨f1, f2, f3, f4⟩
      dsimp only at f1 f2 f3 f4
      dsimp only
      have E := add_end hB f2 f1 f4 f3
      refine xs_ifC (ct_gt ?_)
      walk_at "e"
      refine ⟨fun h => ?_, fun h => ?_⟩
      · refine xs_cons (x_append ?_)
        walk_at "e"
        refine ⟨⟨_, List.mem_cons_self⟩, ?_⟩
        walk_at "e"
        refine ⟨_, [], μ, rfl, by simp [sizeLine]; omega, ?_⟩
        rw [dN_app]
        refine xs_nil ?_
        refine xs_ret (ev_nameFz rfl rfl (.inl rfl) (μ₁ := []) rfl ?_)
        rw [if_pos (by omega)] at E
        rw [E]
        exact q
      · refine xs_nil ?_
        refine xs_ret (ev_nameFz rfl rfl (.inl rfl) (μ₁ := []) rfl ?_)
        rw [if_neg (by omega)] at E
        rw [E]
        exact q

variable {W : Wd}
theorem sub_step {p vA vF vB x c y d c' B : Nat} (h : d + c + y = x + B * c') (e : vA + p * c = vF + vB) : (vA + p * x) + (p * B) * c' = (vF + p * d) + (vB + p * y) := by
  have := congrArg (p * ·) h
  simp only [Nat.mul_add] at this
  rw [Nat.mul_assoc]
  omega
theorem vN_takeS' {B i : Nat} {l : List Nat} : vN B (l.take (i + 1)) = vN B (l.take i) + B ^ i * (l[i]?.getD 0) := by
  rcases Nat.lt_or_ge i l.length with h | h
  · rw [vN_takeS (List.getElem?_eq_getElem h), List.getElem?_eq_getElem h]; rfl
  · rw [List.getElem?_eq_none h, List.take_of_length_le (by omega), List.take_of_length_le h]; simp
theorem fn_sub (P : PW W) (fs : List Env) (n m w : Nat) (hw : 3 ≤ w) (hw8 : w ≤ 8) (hn : n < 2 ^ 1600) (hm : m ≤ n) (μ : Mu) (Q : D → Mu → Prop) (q : Q (dN (limbs (2 ^ w) (n - m))) μ) : FN W.prog W.w W.h₀ fs 5 (P.addr 9) [dN (limbs (2 ^ w) n), dN (limbs (2 ^ w) m), .int w] μ Q := by
  have hB := two_le hw
  have hla := limbs_len2 hB hn
  have hlb := limbs_mono hB m n hm
  have hm' : m < 2 ^ 1600 := Nat.lt_of_le_of_lt hm hn
  have cmpq : cmpN n m = 0 ∨ cmpN n m = 1 := by unfold cmpN; rw [if_neg (by omega)]; split <;> simp
  refine fn_intro P.ok (P.d 9 (by decide)) rfl rfl rfl (by decide +kernel) rfl (by decide +kernel) (by decide +kernel) fun A o L q' cd R => ?_
  refine xs_ifC (ct_lt ?_)
  refine ev_cal P 7 (n := 3) (R.less (by first | decide | omega)) ?_
  walk_at "e"
  refine fn_compare P _ n m (2 ^ w) hB hn hm' μ _ ?_
  clear hn hm'
  walk_at "e"
  refine ⟨fun h => absurd h (by omega), fun _ => ?_⟩
  walk_at "e"
  refine xs_cons (x_swap R.handled (ns := [("found" : Str), ("borrow" : Str), ("base" : Str)]) rfl ?_)
  refine ev_tuple ?_
  walk_at "e"
  refine ev_listM ?_
  walk_at "e"
  refine ⟨by decide, fun a ha => ?_⟩
  walk_at "e"
  refine ev_shl ?_
  walk_at "e"
  refine ⟨by omega, by decide, ?_⟩
  walk_at "e"
  refine ⟨by first | exact Nat.le_of_ble_eq_true rfl | simp [sizeLine], _, rfl, rfl, ?_⟩
  refine anl_cons (an_local rfl (anl_cons (an_local rfl (anl_cons (an_local rfl (anl_nil ?_))))))
  refine xs_cutS (α := List Nat × Nat) (fun p => [("found", .ref a)]) (fun p => (a, p.1.map fun n : Nat => D.int n) :: μ)
    (fun p => p.1.length = (limbs (2 ^ w) n).length ∧ Dig (2 ^ w) p.1 ∧ n + (2 ^ w) ^ p.1.length * p.2 = vN (2 ^ w) p.1 + m ∧ p.2 ≤ 1) ?_ ?_
  · refine x_for (α := List Nat × Nat) (fun p => [("found", .ref a), ("borrow", .int p.2), ("base", .int (1 * 2 ^ w)), ("a", dN (limbs (2 ^ w) n)), ("b", dN (limbs (2 ^ w) m))]) (fun p => (a, p.1.map fun n : Nat => D.int n) :: μ) PassesOwn.never ?_
    refine s_range1 P R.handled (by rintro _ rfl; rfl) ?_
    refine ev_lenN P ?_
    walk_at "e"
    refine ⟨by omega, ?_⟩
    walk_at "e"
    refine ⟨by omega, fun i p => p.1.length = i ∧ Dig (2 ^ w) p.1 ∧ vN (2 ^ w) ((limbs (2 ^ w) n).take i) + (2 ^ w) ^ i * p.2 = vN (2 ^ w) p.1 + vN (2 ^ w) ((limbs (2 ^ w) m).take i) ∧ p.2 ≤ 1, ([], 0), .cons rfl (.cons rfl (.cons rfl (.cons rfl (.cons rfl .nil)))), rfl, ?_, ?_, ?_⟩
    · exact ⟨rfl, (by intro d hd; cases hd), by simp [vN], Nat.zero_le _⟩
    · rintro i ⟨f, c⟩ o' hi ⟨f1, f2, f3, f4⟩
      dsimp only at f1 f2 f3 f4
      obtain ⟨x, hx⟩ : ∃ x, (limbs (2 ^ w) n)[i]? = some x := ⟨_, List.getElem?_eq_getElem (by omega)⟩
      obtain ⟨y, hy⟩ : ∃ y, y = (limbs (2 ^ w) m)[i]?.getD 0 := ⟨_, rfl⟩
      have hxB := (limbs_dig hB n).get hx
      have hyB : y < 2 ^ w := by
        rcases Nat.lt_or_ge i (limbs (2 ^ w) m).length with h | h
        · rw [hy]
          exact (limbs_dig hB m).get (by rw [List.getElem?_eq_getElem h]; rfl)
        · rw [hy, List.getElem?_eq_none h]
          exact Nat.two_pow_pos w
      walk_at "e"
      refine ev_itemN ?_
      walk_at "e"
      refine ⟨_, i, x, rfl, rfl, by omega, hx, ?_⟩
      walk_at "g"
      refine EV.mono (Q' := fun d μ' => d = .int (y : Nat) ∧ μ' = (a, f.map fun n : Nat => D.int n) :: μ) ?_ ?_
      · refine ev_ifC (ct_lt ?_)
        walk_at "e"
        refine ev_lenN P ?_
        walk_at "e"
        refine ⟨by omega, ?_⟩
        walk_at "e"
        refine ⟨fun h => ?_, fun h => ?_⟩
        · refine ev_itemN ?_
          walk_at "e"
          refine ⟨_, i, y, rfl, rfl, by omega, by rw [hy, List.getElem?_eq_getElem (by omega)]; rfl, ?_⟩
          exact ⟨rfl, rfl⟩
        · walk_at "e"
          refine ⟨?_, rfl⟩
          rw [hy, List.getElem?_eq_none (by omega)]
          rfl
      rintro _ _ ⟨rfl, rfl⟩
      walk_at "g"
      refine EV.mono (Q' := fun d μ' => d = .int (if (x : Int) - c - y < 0 then 1 else 0) ∧ μ' = (a, f.map fun n : Nat => D.int n) :: μ) ?_ ?_
      · refine ev_ifC (ct_lt ?_)
        walk_at "e"
        refine ⟨fun h => ?_, fun h => ?_⟩
        · walk_at "e"
          exact ⟨by rw [if_pos h], rfl⟩
        · walk_at "e"
          exact ⟨by rw [if_neg h], rfl⟩
      rintro _ _ ⟨rfl, rfl⟩
      walk_at "e"
      refine xs_cons (x_append ?_)
      walk_at "e"
      refine ⟨⟨_, List.mem_cons_self⟩, ?_⟩
      obtain ⟨d, c', hd, hd2, hdB, hc', hc2⟩ : ∃ d c' : Nat, d + c + y = x + 2 ^ w * c' ∧ (d : Int) = (if (x : Int) - c - y < 0 then (x : Int) - c - y + 2 ^ w else (x : Int) - c - y) ∧ d < 2 ^ w ∧ c' ≤ 1 ∧ (if (x : Int) - c - y < 0 then (1 : Int) else 0) = c' := by
        have h2 : ((2 ^ w : Nat) : Int) = 2 ^ w := by simp
        by_cases h : (x : Int) - c - y < 0
        · refine ⟨x + 2 ^ w - c - y, 1, by omega, ?_, by omega, Nat.le_refl _, by rw [if_pos h]; rfl⟩
          rw [if_pos h]; omega
        · refine ⟨x - c - y, 0, by omega, ?_, by omega, Nat.zero_le _, by rw [if_neg h]; rfl⟩
          rw [if_neg h]; omega
      refine EV.mono (Q' := fun d' μ' => d' = .int d ∧ μ' = (a, f.map fun n : Nat => D.int n) :: μ) ?_ ?_
      · refine ev_ifC (ct_lt ?_)
        walk_at "e"
        refine ⟨fun h => ?_, fun h => ?_⟩
        · walk_at "e"
          refine ⟨?_, rfl⟩
          rw [hd2, if_pos h, Int.one_mul]
        · walk_at "e"
          exact ⟨by rw [hd2, if_neg h], rfl⟩
      rintro _ _ ⟨rfl, rfl⟩
      refine ⟨_, [], μ, rfl, by simp [sizeLine]; omega, ?_⟩
      rw [dN_app, hc2]
      walk_at "e"
      refine ⟨(f ++ [d], c'), ⟨by simp [f1], f2.snoc hdB, ?_, hc'⟩, .cons rfl (.cons rfl (.cons rfl (.cons rfl (.cons rfl .nil)))), rfl⟩
      dsimp only
      rw [vN_last, f1, vN_takeS hx, vN_takeS', ← hy, Nat.pow_succ]
      exact sub_step hd f3
    · rintro ⟨f, c⟩ ⟨f1, f2, f3, f4⟩
      dsimp only at f1 f2 f3 f4
      rw [List.take_length, List.take_of_length_le hlb, vN_limbs hB, vN_limbs hB, ← f1] at f3
      exact ⟨rfl, (f, c), ⟨f1, f2, f3, f4⟩, .cons rfl .nil, rfl⟩
  · rintro ⟨f, c⟩ ⟨f1, f2, f3, f4⟩
    dsimp only at f1 f2 f3 f4
    dsimp only
    refine xs_ret ?_
    refine ev_cal P 5 (n := 3) (R.less (by first | decide | omega)) ?_
    refine evs_cons ?_
    refine ev_nameFz rfl rfl (.inl rfl) (μ₁ := []) rfl ?_
    walk_at "e"
    refine fn_normal P _ f (by omega) _ _ ?_
    rw [sub_end hB f2 f4 hm f3]
    exact q

variable {W : Wd}
theorem dN_getD {l : List Nat} {i x : Nat} (h : l[i]? = some x) : (l.map fun n : Nat => D.int n).getD i .none = .int x := by
  rw [List.getD_eq_getElem?_getD, dN_get h]; rfl
theorem fn_add_limb (P : PW W) (fs : List Env) (n w : Nat) (hw : 3 ≤ w) (hw8 : w ≤ 8) (hn : n < 2 ^ 1600) (μ : Mu) (Q : D → Mu → Prop) (q : Q (dN (limbs (2 ^ w) (n + 1))) μ) : FN W.prog W.w W.h₀ fs 3 (P.addr 10) [dN (limbs (2 ^ w) n), .int 1, .int w] μ Q := by
  have hB := two_le hw
  have hla := limbs_len2 hB hn
  clear hn
  refine fn_intro P.ok (P.d 10 (by decide)) rfl rfl rfl (by decide +kernel) rfl (by decide +kernel) (by decide +kernel) fun A o L q' cd R => ?_
  refine xs_cons (x_swap R.handled (ns := [("found" : Str), ("mask" : Str)]) rfl ?_)
  refine ev_tuple ?_
  walk_at "e"
  refine ev_listM ?_
  walk_at "e"
  refine ⟨by decide, fun a ha => ?_⟩
  walk_at "e"
  refine ev_shl ?_
  walk_at "e"
  refine ⟨by omega, by decide, ?_⟩
  walk_at "e"
  refine ⟨by first | exact Nat.le_of_ble_eq_true rfl | simp [sizeLine], _, rfl, rfl, ?_⟩
  refine anl_cons (an_local rfl (anl_cons (an_local rfl (anl_nil ?_))))
  refine xs_cutS (α := List Nat × Nat) (fun p => [("found", .ref a), ("limb", .int p.2)]) (fun p => (a, p.1.map fun n : Nat => D.int n) :: μ)
    (fun p => p.1.length = (limbs (2 ^ w) n).length ∧ Dig (2 ^ w) p.1 ∧ vN (2 ^ w) p.1 + (2 ^ w) ^ p.1.length * p.2 = n + 1 ∧ p.2 ≤ 1) ?_ ?_
  · refine x_for (α := List Nat × Nat) (fun p => [("found", .ref a), ("limb", .int p.2), ("mask", .int (1 * 2 ^ w - 1)), ("w", .int w)]) (fun p => (a, p.1.map fun n : Nat => D.int n) :: μ) PassesOwn.never ?_
    refine src_list R.handled (by rintro _ rfl; rfl) ?_
    walk_at "e"
    rw [List.length_map]
    refine ⟨fun i p => p.1.length = i ∧ Dig (2 ^ w) p.1 ∧ vN (2 ^ w) p.1 + (2 ^ w) ^ i * p.2 = vN (2 ^ w) ((limbs (2 ^ w) n).take i) + 1 ∧ p.2 ≤ 1, ([], 1), .cons rfl (.cons rfl (.cons rfl (.cons rfl .nil))), rfl, ?_, ?_, ?_⟩
    · exact ⟨rfl, (by intro d hd; cases hd), by simp [vN], Nat.le_refl _⟩
    · rintro i ⟨f, c⟩ o' hi ⟨f1, f2, f3, f4⟩
      dsimp only at f1 f2 f3 f4
      obtain ⟨x, hx⟩ : ∃ x, (limbs (2 ^ w) n)[i]? = some x := ⟨_, List.getElem?_eq_getElem (by omega)⟩
      have hxB := (limbs_dig hB n).get hx
      dsimp only
      rw [dN_getD hx]
      refine xs_cons (x_addI rfl rfl (.inl rfl) ?_)
      walk_at "e"
      refine xs_cons (x_append ?_)
      walk_at "e"
      refine ⟨⟨_, List.mem_cons_self⟩, ?_⟩
      walk_at "e"
      refine ⟨_, [], μ, rfl, by simp [sizeLine]; omega, ?_⟩
      rw [Int.one_mul, ← Int.natCast_add, band_mask, dN_app]
      refine xs_cons (x_shrI rfl rfl (.inl rfl) ?_)
      walk_at "e"
      obtain ⟨g1, g2, g3⟩ := dig_step hB (k := c + x) f2 f1 (s := vN (2 ^ w) ((limbs (2 ^ w) n).take (i + 1)) + 1) (by rw [vN_takeS hx, Nat.mul_add]; omega)
      refine ⟨(f ++ [(c + x) % 2 ^ w], (c + x) / 2 ^ w), ⟨g1, g2, g3, div_le_one (by omega)⟩, .cons rfl (.cons ?_ (.cons rfl (.cons rfl .nil))), rfl⟩
      rw [fdiv_pow]; rfl
    · rintro ⟨f, c⟩ ⟨f1, f2, f3, f4⟩
      dsimp only at f1 f2 f3 f4
      rw [List.take_length, vN_limbs hB] at f3
      exact ⟨rfl, (f, c), ⟨f1, f2, by rw [f1]; exact f3, f4⟩, .cons rfl (.cons rfl .nil), rfl⟩
  · rintro ⟨f, c⟩ ⟨f1, f2, f3, f4⟩
    dsimp only at f1 f2 f3 f4
    dsimp only
    have E := add_end hB f2 f1 f4 f3
    refine xs_ifC (ct_gt ?_)
    walk_at "e"
    refine ⟨fun h => ?_, fun h => ?_⟩
    · refine xs_cons (x_append ?_)
      walk_at "e"
      refine ⟨⟨_, List.mem_cons_self⟩, ?_⟩
      walk_at "e"
      refine ⟨_, [], μ, rfl, by simp [sizeLine]; omega, ?_⟩
      rw [dN_app]
      refine xs_nil ?_
      refine xs_ret (ev_nameFz rfl rfl (.inl rfl) (μ₁ := []) rfl ?_)
      rw [if_pos (by omega)] at E
      rw [E]
      exact q
    · refine xs_nil ?_
      refine xs_ret (ev_nameFz rfl rfl (.inl rfl) (μ₁ := []) rfl ?_)
      rw [if_neg (by omega)] at E
      rw [E]
      exact q

/-- a signed number -/
noncomputable def dS (B : Nat) (k : Int) : D := .tup [.bool (decide (k < 0)), dN (limbs B k.natAbs)]
noncomputable def sgn (b : Bool) (n : Nat) : Int := if b then -n else n
theorem sgn_abs (b : Bool) (n : Nat) : (sgn b n).natAbs = n := by unfold sgn; split <;> omega
theorem dS_sgn (B : Nat) (b : Bool) (n : Nat) : D.tup [.bool (b && decide (0 < n)), dN (limbs B n)] = dS B (sgn b n) := by
  unfold dS
  rw [sgn_abs]
  congr 3
  unfold sgn
  cases b <;> simp <;> omega
theorem sgn_of (k : Int) : sgn (decide (k < 0)) k.natAbs = k := by unfold sgn; by_cases h : k < 0 <;> simp [h] <;> omega
theorem limbs_some {B n : Nat} (hB : 2 ≤ B) : ((limbs B n).length : Int) > 0 ↔ 0 < n := by
  rcases Nat.eq_zero_or_pos n with h | h
  · subst h; rw [limbs_zero]; simp
  · rw [limbs_pos hB h]; simp; omega

theorem fn_signed (P : PW W) (fs : List Env) (b : Bool) (n B : Nat) (hB : 2 ≤ B) (hn : n < 2 ^ 1600) (μ : Mu) (Q : D → Mu → Prop) (q : Q (dS B (sgn b n)) μ) : FN W.prog W.w W.h₀ fs 3 (P.addr 12) [.bool b, dN (limbs B n)] μ Q := by
  have hla := limbs_len2 hB hn
  clear hn
  refine fn_intro P.ok (P.d 12 (by decide)) rfl rfl rfl (by decide +kernel) rfl (by decide +kernel) (by decide +kernel) fun A o L q' cd R => ?_
  refine xs_ret ?_
  refine ev_tuple ?_
  refine evs_cons ?_
  refine EV.mono (Q' := fun d μ' => d = .bool (b && decide (0 < n)) ∧ μ' = μ) ?_ ?_
  · refine ev_and2 ?_
    walk_at "e"
    refine ⟨fun h => ⟨by rw [h]; rfl, rfl⟩, fun h => ?_⟩
    refine ev_gtC ?_
    refine ev_lenN P ?_
    walk_at "e"
    refine ⟨by omega, ?_⟩
    walk_at "e"
    refine ⟨?_, rfl⟩
    rw [h, Bool.true_and]
    congr 1
    exact decide_eq_decide.mpr (limbs_some hB)
  rintro _ _ ⟨rfl, rfl⟩
  walk_at "e"
  refine ⟨by first | exact Nat.le_of_ble_eq_true rfl | simp [sizeLine], ?_⟩
  show Q _ _
  rw [dS_sgn]
  exact q

theorem fn_s_of (P : PW W) (fs : List Env) (k : Int) (w : Nat) (hw : 3 ≤ w) (hw8 : w ≤ 8) (hk : k.natAbs < 2 ^ 1600) (μ : Mu) (Q : D → Mu → Prop) (q : Q (dS (2 ^ w) k) μ) : FN W.prog W.w W.h₀ fs 5 (P.addr 13) [.int k, .int w] μ Q := by
  refine fn_intro P.ok (P.d 13 (by decide)) rfl rfl rfl (by decide +kernel) rfl (by decide +kernel) (by decide +kernel) fun A o L q' cd R => ?_
  refine xs_ret ?_
  refine ev_tuple ?_
  refine evs_cons ?_
  refine ev_ltC ?_
  walk_at "e"
  refine ev_cal P 6 (n := 3) (R.less (by first | decide | omega)) ?_
  refine evs_cons ?_
  refine ev_abs P ?_
  walk_at "e"
  refine fn_nat_of P _ _ w hw hw8 hk _ _ ?_
  walk_at "e"
  exact ⟨by first | exact Nat.le_of_ble_eq_true rfl | simp [sizeLine], q⟩

theorem fn_s_neg (P : PW W) (fs : List Env) (k : Int) (B : Nat) (hB : 2 ≤ B) (hk : k.natAbs < 2 ^ 1600) (μ : Mu) (Q : D → Mu → Prop) (q : Q (dS B (-k)) μ) : FN W.prog W.w W.h₀ fs 5 (P.addr 14) [dS B k] μ Q := by
  refine fn_intro P.ok (P.d 14 (by decide)) rfl rfl rfl (by decide +kernel) rfl (by decide +kernel) (by decide +kernel) fun A o L q' cd R => ?_
  refine xs_ret ?_
  refine ev_cal P 12 (n := 3) (R.less (by first | decide | omega)) ?_
  refine evs_cons ?_
  refine ev_not ?_
  refine ev_fst ?_
  walk_at "nm"
  refine ⟨_, _, rfl, _, rfl, ?_⟩
  refine evs_cons ?_
  refine ev_snd ?_
  walk_at "nm"
  refine ⟨_, _, _, rfl, ?_⟩
  walk_at "e"
  refine fn_signed P _ _ _ B hB hk _ _ ?_
  have : sgn (!decide (k < 0)) k.natAbs = -k := by unfold sgn; by_cases h : k < 0 <;> simp [h] <;> omega
  rw [this]
  exact q

theorem fn_s_sign (P : PW W) (fs : List Env) (k : Int) (B : Nat) (hB : 2 ≤ B) (hk : k.natAbs < 2 ^ 1600) (μ : Mu) (Q : D → Mu → Prop) (q : Q (.int k.sign) μ) : FN W.prog W.w W.h₀ fs 3 (P.addr 15) [dS B k] μ Q := by
  have hla := limbs_len2 hB hk
  have hs := limbs_some (n := k.natAbs) hB
  clear hk
  refine fn_intro P.ok (P.d 15 (by decide)) rfl rfl rfl (by decide +kernel) rfl (by decide +kernel) (by decide +kernel) fun A o L q' cd R => ?_
  refine xs_ifC (ct_eq ?_)
  refine ev_lenN P ?_
  refine ev_snd ?_
  walk_at "nm"
  refine ⟨_, _, _, rfl, _, rfl, by omega, ?_⟩
  walk_at "e"
  refine ⟨fun h => ?_, fun h => ?_⟩
  · walk_at "e"
    have : k = 0 := by omega
    subst this
    exact q
  · walk_at "e"
    refine ct_bool ?_
    refine ev_fst ?_
    walk_at "nm"
    refine ⟨_, _, rfl, _, rfl, fun h' => ?_, fun h' => ?_⟩
    · walk_at "e"
      rw [Int.sign_eq_neg_one_of_neg (of_decide_eq_true h')] at q
      exact q
    · walk_at "e"
      have := of_decide_eq_false h'
      rw [Int.sign_eq_one_of_pos (by omega)] at q
      exact q

variable {W : Wd}
theorem mulOk {a b : Int} {m n : Nat} (ha : a.natAbs < 2 ^ m) (hb : b.natAbs < 2 ^ n) (h : m + n ≤ 134217728) : IntMulOk a b := .of_le (intBits_le_iff.mpr ha) (intBits_le_iff.mpr hb) h
theorem pow_cast (w : Nat) : ((2 : Int) ^ w) = ((2 ^ w : Nat) : Int) := by simp
theorem fn_there (P : PW W) (i : Nat) (hi : i ∈ idxs := by decide) : ∃ o fd, W.h₀.get? (P.addr i) = some o ∧ o.data = .func fd := by
  obtain ⟨_, _, _, _, _, _, _, _, _, _, o, h1, h2, _⟩ := (P.d i hi).out
  exact ⟨o, _, h1, h2⟩

section
variable {C : Cx} {σ : Sg} {μ : Mu} {Q : D → Mu → Prop}
theorem ev_addL {l r : Expr} {pos : Pos} (h : EV C l σ μ fun d μ₁ => EV C r σ μ₁ fun e μ₂ => ∃ xs ys, d = .list xs ∧ e = .list ys ∧ xs.length + ys.length ≤ sizeLine ∧ Q (.list (xs ++ ys)) μ₂) : EV C (.BinOp l .Add r pos) σ μ Q := by
  intro s g S
  refine wpAny_BinOp (wpAny_mono (h s g S) ?_ fun _ _ e => e)
  rintro v s1 ⟨d, g1, μ1, k1, S1, R1, h2⟩
  refine wpAny_mono (h2 s1 g1 S1) ?_ fun _ _ e => e
  rintro v2 s2 ⟨d2, g2, μ2, k2, S2, R2, xs, ys, rfl, rfl, hsz, hq⟩
  obtain ⟨a, vs, rfl, hl, RL⟩ := (Holds.isList (μ := μ2) (.inl rfl) S2.b (R1.mono k2))
  obtain ⟨b, ws, rfl, hb, RL'⟩ := (Holds.isList (μ := μ2) (.inl rfl) S2.b R2)
  obtain ⟨⟨cls, dd, data, sl⟩, ho, hc, n, hd⟩ := id hl
  obtain ⟨⟨cls2, dd2, data2, sl2⟩, ho2, hc2, n2, hd2⟩ := id hb
  simp only at hc hd hc2 hd2
  subst hc hd hc2 hd2
  have e : vs.toArray ++ ws.toArray = (vs ++ ws).toArray := by simp
  refine concat_meets ⟨_, ho, rfl⟩ ⟨_, ho2, rfl⟩ noFill_list_add seq_list_add PySem.F.slot_list_add PySem.F.entry_list_add (PySem.F.args_list_add_2 _ _) (list_addW a b vs.toArray ws.toArray n n2 dd dd2 sl sl2 (by rw [List.size_toArray, List.size_toArray, RL.1, RL'.1]; exact hsz)) ⟨ho, ho2, ?_⟩
  rw [e]
  have S3 := S2.made (tk := s2.toks) (a := s2.heap.objs.size) (o := { cls := .type "list", data := .seq (vs ++ ws).toArray }) (fun b o e => Heap.get?_push_of_some _ e) (fresh_size _) (Heap.get?_push_size _ rfl)
  have gr := View.put_grow (o := { cls := .type "list", data := .seq (vs ++ ws).toArray }) (S2.b.fresh (fresh_size _))
  exact ⟨_, _, _, fun b x e => gr b x (k2 b x (k1 b x e)), S3, .mkList View.put_self rfl rfl ((RL.append RL').mono gr), hq⟩

noncomputable def NoLoc (ns : List (Str × NameKind)) (τ : Sg) : Prop := ∀ x d, τ.lookup x = some d → ns.lookup x ≠ some .local
theorem NoLoc.nil {ns : List (Str × NameKind)} : NoLoc ns [] := fun _ _ h => by cases h
theorem NoLoc.cons {ns : List (Str × NameKind)} {τ : Sg} {x : Str} {d : D} {k : Option NameKind} (h : ns.lookup x = k) (hk : k ≠ some .local) (t : NoLoc ns τ) : NoLoc ns ((x, d) :: τ) := fun y e hy => by
  rw [List.lookup_cons] at hy
  by_cases hyx : y = x
  · subst hyx; rw [h]; exact hk
  · rw [show (y == x) = false by simp [hyx]] at hy
    exact t y e hy
noncomputable abbrev MuK (C : Cx) (elt : Expr) (scope : Scope) (cl : List (Str × Addr)) (σ : Sg) (F : List D → Mu → Prop) : Nat → (Nat → Sg → Sg) → Mu → Prop := fun n asg μ₁ => n ≤ sizeLine ∧ ∃ (τ : Sg) (P : Nat → List D → Mu → Prop), Sub σ τ ∧ NoLoc (relabel scope C.env).names τ ∧ (∀ i, Sub (asg i τ) τ) ∧
  P 0 [] μ₁ ∧ (∀ i ys μ, P i ys μ → ys.length ≤ i) ∧
  (∀ i ys μ D a o, i < n → P i ys μ → D ∉ μ.map (·.1) → EV (C.comp scope cl a o) elt (asg i τ) ((D, ys) :: μ) fun d μ₄ => ∃ μ₅, μ₄ = (D, ys) :: μ₅ ∧ P (i + 1) (ys ++ [d]) μ₅) ∧ ∀ ys μ, P n ys μ → F ys μ
theorem comp_mu {elt target iter : Expr} {scope : Scope} {cl : List (Str × Addr)} {F : List D → Mu → Prop} (h : SRC C (fun e => e.scope = relabel scope C.env) target iter σ μ (MuK C elt scope cl σ F)) : COMP C elt target iter [] scope cl σ μ F := by
  intro s g S
  refine wpAny_mono (h s g S) (fun x s₁ h₁ => wpAny_mono h₁ ?_ fun _ _ e => e) fun _ _ e => e
  rintro v s2 ⟨I, n, wr, Sw, asg, g', μ', rfl, k2, S2, O2, w2, it, hn, τ, P, hτ, hτk, hst, p0, pl, turn, fin⟩
  exact ⟨I, n, wr, Sw, asg, g', μ', rfl, k2, S2, O2, w2, it, hn, τ, P, hτ, hτk, hst, p0, pl, fun i ys μ D a o hi hP hD => tsl_nil ⟨_, rfl, fun h => (nomatch h), fun _ => turn i ys μ D a o hi hP hD⟩, fin⟩
noncomputable abbrev MapK (C : Cx) (elt : Expr) (scope : Scope) (cl : List (Str × Addr)) (σ : Sg) (F : List D → Mu → Prop) : Nat → (Nat → Sg → Sg) → Mu → Prop := fun n asg μ₁ => n ≤ sizeLine ∧ ∃ (τ : Sg) (f : Nat → D), Sub σ τ ∧ NoLoc (relabel scope C.env).names τ ∧ (∀ i, Sub (asg i τ) τ) ∧
  (∀ i ys D a o, i < n → D ∉ μ₁.map (·.1) → EV (C.comp scope cl a o) elt (asg i τ) ((D, ys) :: μ₁) fun d μ₄ => d = f i ∧ μ₄ = (D, ys) :: μ₁) ∧ F ((List.range n).map f) μ₁
theorem comp_map {elt target iter : Expr} {scope : Scope} {cl : List (Str × Addr)} {F : List D → Mu → Prop} (h : SRC C (fun e => e.scope = relabel scope C.env) target iter σ μ (MapK C elt scope cl σ F)) : COMP C elt target iter [] scope cl σ μ F := by
  refine comp_mu fun s g S => wpAny_mono (h s g S) (fun x s₁ h₁ => wpAny_mono h₁ ?_ fun _ _ e => e) fun _ _ e => e
  rintro v s2 ⟨I, n, wr, Sw, asg, g', μ', rfl, k2, S2, O2, w2, it, hn, τ, f, hτ, hτk, hst, turn, fin⟩
  refine ⟨I, n, wr, Sw, asg, g', μ', rfl, k2, S2, O2, w2, it, hn, τ, fun i ys μ => ys = (List.range i).map f ∧ μ = μ', hτ, hτk, hst, ⟨rfl, rfl⟩, ?_, ?_, ?_⟩
  · rintro i ys μ ⟨rfl, _⟩; simp
  · rintro i ys μ D a o hi ⟨hys, rfl⟩ hD
    refine (turn i ys D a o hi hD).mono ?_
    rintro d μ₄ ⟨rfl, rfl⟩
    exact ⟨_, rfl, by rw [hys, List.range_succ, List.map_append]; rfl, rfl⟩
  · rintro ys μ ⟨rfl, rfl⟩; exact fin
noncomputable abbrev FilK (C : Cx) (elt test : Expr) (scope : Scope) (cl : List (Str × Addr)) (σ : Sg) (F : List D → Mu → Prop) : Nat → (Nat → Sg → Sg) → Mu → Prop := fun n asg μ₁ => n ≤ sizeLine ∧ ∃ (τ : Sg) (f : Nat → D) (p : Nat → Bool), Sub σ τ ∧ NoLoc (relabel scope C.env).names τ ∧ (∀ i, Sub (asg i τ) τ) ∧
  (∀ i ys D a o, i < n → D ∉ μ₁.map (·.1) → CT (C.comp scope cl a o) test (asg i τ) ((D, ys) :: μ₁) (fun μ₂ => p i = true ∧ μ₂ = (D, ys) :: μ₁) (fun μ₂ => p i = false ∧ μ₂ = (D, ys) :: μ₁)) ∧
  (∀ i ys D a o, i < n → D ∉ μ₁.map (·.1) → p i = true → EV (C.comp scope cl a o) elt (asg i τ) ((D, ys) :: μ₁) fun d μ₄ => d = f i ∧ μ₄ = (D, ys) :: μ₁) ∧ F (((List.range n).filter p).map f) μ₁
theorem comp_filter {elt target iter test : Expr} {scope : Scope} {cl : List (Str × Addr)} {F : List D → Mu → Prop}
    (h : SRC C (fun e => e.scope = relabel scope C.env) target iter σ μ (FilK C elt test scope cl σ F)) :
    COMP C elt target iter [test] scope cl σ μ F := by
  intro s g S
  refine wpAny_mono (h s g S) (fun x s₁ h₁ => wpAny_mono h₁ ?_ fun _ _ e => e) fun _ _ e => e
  rintro v s2 ⟨I, n, wr, Sw, asg, g', μ', rfl, k2, S2, O2, w2, it, hn, τ, f, p, hτ, hτk, hst, tst, turn, fin⟩
  refine ⟨I, n, wr, Sw, asg, g', μ', rfl, k2, S2, O2, w2, it, hn, τ, fun i ys μ => ys = ((List.range i).filter p).map f ∧ μ = μ', hτ, hτk, hst, ⟨rfl, rfl⟩, ?_, ?_, ?_⟩
  · rintro i ys μ ⟨rfl, _⟩
    rw [List.length_map]
    exact Nat.le_trans (List.length_filter_le _ _) (by simp)
  · rintro i ys μ D a o hi ⟨hys, rfl⟩ hD
    refine tsl_one (TS.mono (tst i ys D a o hi hD) ?_)
    rintro b μ₂ ⟨ht, hf⟩
    cases b with
    | false =>
      obtain ⟨hp, rfl⟩ := hf rfl
      exact ⟨_, rfl, fun _ => ⟨by rw [hys, List.range_succ, List.filter_append, List.map_append]; simp [hp], rfl⟩, fun h => (nomatch h)⟩
    | true =>
      obtain ⟨hp, rfl⟩ := ht rfl
      refine ⟨_, rfl, fun h => (nomatch h), fun _ => ?_⟩
      refine (turn i ys D a o hi hD hp).mono ?_
      rintro d μ₄ ⟨rfl, rfl⟩
      exact ⟨_, rfl, by rw [hys, List.range_succ, List.filter_append, List.map_append]; simp [hp], rfl⟩
  · rintro ys μ ⟨rfl, rfl⟩; exact fin
theorem kind_of_scope {e : Env} {sc : Scope} {x : Str} {k : Option NameKind} (h : e.scope = sc) (hk : sc.names.lookup x = k) : e.kindOf x = k := by unfold Env.kindOf; rw [h]; exact hk
end

theorem fn_s_add (P : PW W) (fs : List Env) (x y : Int) (w : Nat) (hw : 3 ≤ w) (hw8 : w ≤ 8) (hx : x.natAbs < 2 ^ 1599) (hy : y.natAbs < 2 ^ 1599) (μ : Mu) (Q : D → Mu → Prop) (q : Q (dS (2 ^ w) (x + y)) μ) : FN W.prog W.w W.h₀ fs 7 (P.addr 16) [dS (2 ^ w) x, dS (2 ^ w) y, .int w] μ Q := by
  have hB := two_le hw
  have h16 : (2 : Nat) ^ 1600 = 2 * 2 ^ 1599 := by rw [Nat.pow_succ]; omega
  have hx' : x.natAbs < 2 ^ 1600 := by rw [h16]; generalize (2 : Nat) ^ 1599 = z at *; omega
  have hy' : y.natAbs < 2 ^ 1600 := by rw [h16]; generalize (2 : Nat) ^ 1599 = z at *; omega
  have hxy : x.natAbs + y.natAbs < 2 ^ 1600 := by rw [h16]; generalize (2 : Nat) ^ 1599 = z at *; omega
  have hs1 : x.natAbs - y.natAbs < 2 ^ 1600 := Nat.lt_of_le_of_lt (Nat.sub_le _ _) hx'
  have hs2 : y.natAbs - x.natAbs < 2 ^ 1600 := Nat.lt_of_le_of_lt (Nat.sub_le _ _) hy'
  clear h16 hx hy
  refine fn_intro P.ok (P.d 16 (by decide)) rfl rfl rfl (by decide +kernel) rfl (by decide +kernel) (by decide +kernel) fun A o L q' cd R => ?_
  refine xs_ifC (ct_cmp ?_)
  refine ev_fst ?_
  walk_at "nm"
  refine ⟨_, _, rfl, ?_⟩
  refine ev_fst ?_
  walk_at "nm"
  refine ⟨_, _, rfl, _, c_eqBool, fun h => ?_, fun h => ?_⟩
  · refine xs_ret ?_
    refine ev_cal P 12 (n := 3) (R.less (by first | decide | omega)) ?_
    refine evs_cons ?_
    refine ev_fst ?_
    walk_at "nm"
    refine ⟨_, _, rfl, ?_⟩
    refine evs_cons ?_
    refine ev_cal P 8 (n := 3) (R.less (by first | decide | omega)) ?_
    refine evs_cons ?_
    refine ev_snd ?_
    walk_at "nm"
    refine ⟨_, _, _, rfl, ?_⟩
    refine evs_cons ?_
    refine ev_snd ?_
    walk_at "nm"
    refine ⟨_, _, _, rfl, ?_⟩
    walk_at "e"
    refine fn_add P _ _ _ w hw hw8 hx' hy' _ _ ?_
    walk_at "e"
    refine fn_signed P _ _ _ _ hB hxy _ _ ?_
    have e : sgn (decide (x < 0)) (x.natAbs + y.natAbs) = x + y := by
      clear hx' hy' hxy hs1 hs2
      have := beq_iff_eq.mp h
      have := decide_eq_decide.mp this
      unfold sgn; by_cases h : x < 0 <;> simp [h] <;> omega
    rw [e]; exact q
  · refine xs_nil ?_
    have hne : ¬ (x < 0 ↔ y < 0) := fun k => by
      have k' : decide (x < 0) = decide (y < 0) := decide_eq_decide.mpr k
      rw [k'] at h; simp at h
    refine xs_ifC (ct_lt ?_)
    refine ev_cal P 7 (n := 3) (R.less (by first | decide | omega)) ?_
    refine evs_cons ?_
    refine ev_snd ?_
    walk_at "nm"
    refine ⟨_, _, _, rfl, ?_⟩
    refine evs_cons ?_
    refine ev_snd ?_
    walk_at "nm"
    refine ⟨_, _, _, rfl, ?_⟩
    walk_at "e"
    refine fn_compare P _ _ _ _ hB hx' hy' _ _ ?_
    walk_at "e"
    refine ⟨fun hc => ?_, fun hc => ?_⟩
    · have hlt : x.natAbs < y.natAbs := by
        unfold cmpN at hc
        split at hc
        · assumption
        · split at hc <;> simp at hc
      refine xs_ret ?_
      refine ev_cal P 12 (n := 3) (R.less (by first | decide | omega)) ?_
      refine evs_cons ?_
      refine ev_fst ?_
      walk_at "nm"
      refine ⟨_, _, rfl, ?_⟩
      refine evs_cons ?_
      refine ev_cal P 9 (n := 5) (R.less (by first | decide | omega)) ?_
      refine evs_cons ?_
      refine ev_snd ?_
      walk_at "nm"
      refine ⟨_, _, _, rfl, ?_⟩
      refine evs_cons ?_
      refine ev_snd ?_
      walk_at "nm"
      refine ⟨_, _, _, rfl, ?_⟩
      walk_at "e"
      refine fn_sub P _ _ _ w hw hw8 hy' (Nat.le_of_lt hlt) _ _ ?_
      walk_at "e"
      refine fn_signed P _ _ _ _ hB hs2 _ _ ?_
      have e : sgn (decide (y < 0)) (y.natAbs - x.natAbs) = x + y := by
        clear hx' hy' hxy hs1 hs2
        unfold sgn; by_cases h : y < 0 <;> simp [h] <;> simp [h] at hne <;> omega
      rw [e]; exact q
    · have hle : y.natAbs ≤ x.natAbs := by
        unfold cmpN at hc
        split at hc
        · simp at hc
        · omega
      refine xs_nil ?_
      refine xs_ret ?_
      refine ev_cal P 12 (n := 3) (R.less (by first | decide | omega)) ?_
      refine evs_cons ?_
      refine ev_fst ?_
      walk_at "nm"
      refine ⟨_, _, rfl, ?_⟩
      refine evs_cons ?_
      refine ev_cal P 9 (n := 5) (R.less (by first | decide | omega)) ?_
      refine evs_cons ?_
      refine ev_snd ?_
      walk_at "nm"
      refine ⟨_, _, _, rfl, ?_⟩
      refine evs_cons ?_
      refine ev_snd ?_
      walk_at "nm"
      refine ⟨_, _, _, rfl, ?_⟩
      walk_at "e"
      refine fn_sub P _ _ _ w hw hw8 hx' hle _ _ ?_
      walk_at "e"
      refine fn_signed P _ _ _ _ hB hs1 _ _ ?_
      have e : sgn (decide (x < 0)) (x.natAbs - y.natAbs) = x + y := by
        clear hx' hy' hxy hs1 hs2
        unfold sgn; by_cases h : x < 0 <;> simp [h] <;> simp [h] at hne <;> omega
      rw [e]; exact q

theorem fn_s_sub (P : PW W) (fs : List Env) (x y : Int) (w : Nat) (hw : 3 ≤ w) (hw8 : w ≤ 8) (hx : x.natAbs < 2 ^ 1599) (hy : y.natAbs < 2 ^ 1599) (μ : Mu) (Q : D → Mu → Prop) (q : Q (dS (2 ^ w) (x - y)) μ) : FN W.prog W.w W.h₀ fs 9 (P.addr 17) [dS (2 ^ w) x, dS (2 ^ w) y, .int w] μ Q := by
  have hB := two_le hw
  refine fn_intro P.ok (P.d 17 (by decide)) rfl rfl rfl (by decide +kernel) rfl (by decide +kernel) (by decide +kernel) fun A o L q' cd R => ?_
  refine xs_ret ?_
  refine ev_cal P 16 (n := 7) (R.less (by first | decide | omega)) ?_
  walk_at "e"
  refine ev_cal P 14 (n := 5) (R.less (by first | decide | omega)) ?_
  walk_at "e"
  refine fn_s_neg P _ _ _ hB (Nat.lt_trans hy (Nat.pow_lt_pow_right (by decide) (by decide))) _ _ ?_
  walk_at "e"
  refine fn_s_add P _ _ _ w hw hw8 hx (by rw [Int.natAbs_neg]; exact hy) _ _ ?_
  rw [← Int.sub_eq_add_neg]
  exact q

variable {W : Wd}
theorem fmod_cast (n m : Nat) : (n : Int).fmod m = ((n % m : Nat) : Int) := by
  rw [Int.fmod_eq_emod_of_nonneg _ (by omega)]; simp
theorem fdiv_cast (n m : Nat) : (n : Int).fdiv m = ((n / m : Nat) : Int) := by
  rw [Int.fdiv_eq_ediv_of_nonneg _ (by omega)]; simp
theorem pow_ne (w : Nat) : (2 : Int) ^ w ≠ 0 := Int.ne_of_gt (Int.pow_pos (by decide))
theorem two_cast (w : Nat) : ((2 : Int) ^ w).natAbs = 2 ^ w := by rw [pow_cast]; rfl

theorem fn_cells (P : PW W) (w : Nat) (hw : 3 ≤ w) (hw8 : w ≤ 8) : ∀ (k : Nat) (fs : List Env) (n : Nat), k ≤ 10000 → n < (2 ^ w) ^ k → ∀ (μ : Mu) (Q : D → Mu → Prop) (q : Q (dN (limbs (2 ^ w) n)) μ), FN W.prog W.w W.h₀ fs (k + 1) (P.addr 27) [.int n, .int w] μ Q := by
  have hB := two_le hw
  intro k
  induction k with
  | zero =>
    intro fs n _ hn μ Q q
    have h0 : n = 0 := by simpa using hn
    subst h0
    refine fn_intro P.ok (P.d 27 (by decide)) rfl rfl rfl (by decide +kernel) rfl (by decide +kernel) (by decide +kernel) fun A o L q' cd R => ?_
    refine xs_ret (ev_ifC (ct_eq ?_))
    walk_at "e"
    refine ⟨fun _ => ?_, fun h => absurd rfl h⟩
    refine ev_list ?_
    walk_at "e"
    rw [limbs_zero] at q
    exact ⟨by decide, q⟩
  | succ k ih =>
    intro fs n hk hn μ Q q
    refine fn_intro P.ok (P.d 27 (by decide)) rfl rfl rfl (by decide +kernel) rfl (by decide +kernel) (by decide +kernel) fun A o L q' cd R => ?_
    have hlen := limbs_len hB k (n / 2 ^ w) (by rw [Nat.div_lt_iff_lt_mul (by omega)]; rw [Nat.pow_succ] at hn; exact hn)
    have h9 : (2 : Nat) ^ w < 2 ^ 9000 := Nat.pow_lt_pow_right (by decide) (by omega)
    refine xs_ret (ev_ifC (ct_eq ?_))
    walk_at "e"
    refine ⟨fun h => ?_, fun h => ?_⟩
    · refine ev_list ?_
      walk_at "e"
      have h0 : n = 0 := by omega
      rw [h0, limbs_zero] at q
      exact ⟨by decide, q⟩
    · have hp : 0 < n := by omega
      refine ev_addL ?_
      refine ev_list ?_
      refine evs_cons ?_
      refine ev_mod ?_
      walk_at "e"
      refine ev_pow ?_
      walk_at "e"
      refine ⟨by omega, by decide, ?_⟩
      refine ⟨_, _, rfl, rfl, pow_ne w, ?_⟩
      walk_at "e"
      refine ⟨by first | exact Nat.le_of_ble_eq_true rfl | simp [sizeLine], ?_⟩
      refine ev_cal P 27 (n := k + 1) (R.less (by first | decide | omega)) ?_
      refine evs_cons ?_
      refine ev_div ?_
      walk_at "e"
      refine ev_pow ?_
      walk_at "e"
      refine ⟨by omega, by decide, ?_⟩
      refine ⟨_, _, rfl, rfl, pow_ne w, by rw [two_cast]; exact h9, ?_⟩
      walk_at "e"
      rw [pow_cast, fdiv_cast, fmod_cast]
      refine ih _ (n / 2 ^ w) (by omega) (by rw [Nat.div_lt_iff_lt_mul (by omega)]; rw [Nat.pow_succ] at hn; exact hn) _ _ ?_
      refine ⟨_, _, rfl, rfl, by simp [sizeLine]; omega, ?_⟩
      rw [limbs_pos hB hp] at q
      exact q

theorem fn_cells' (P : PW W) (w : Nat) (hw : 3 ≤ w) (hw8 : w ≤ 8) (fs : List Env) (n : Nat) (hn : n < 2 ^ 1600) (μ : Mu) (Q : D → Mu → Prop) (q : Q (dN (limbs (2 ^ w) n)) μ) : FN W.prog W.w W.h₀ fs 540 (P.addr 27) [.int n, .int w] μ Q :=
  (fn_cells P w hw hw8 539 fs n (by decide) (by
    refine Nat.lt_of_lt_of_le hn ?_
    rw [← Nat.pow_mul]
    exact Nat.pow_le_pow_right (by decide) (Nat.le_trans (by decide : 1600 ≤ 3 * 539) (Nat.mul_le_mul_right _ hw))) μ Q q)

noncomputable def tl (w : Nat) (l : List Nat) (i : Nat) : List Int := (List.range i).map fun j => ((l.getD j 0 : Nat) : Int) * 2 ^ (w * j)
theorem tl_sum (w : Nat) (l : List Nat) : ∀ i, i ≤ l.length → (tl w l i).sum = vN (2 ^ w) (l.take i)
  | 0, _ => by simp [tl, vN]
  | i + 1, h => by
    have ih := tl_sum w l i (by omega)
    unfold tl at ih ⊢
    rw [List.range_succ, List.map_append, List.sum_append, ih, vN_takeS (List.getElem?_eq_getElem (show i < l.length from h))]
    simp only [List.map_cons, List.map_nil, List.sum_cons, List.sum_nil, List.getD_eq_getElem?_getD, List.getElem?_eq_getElem (show i < l.length from h)]
    simp [← Int.pow_mul, Int.mul_comm]

noncomputable def ClOk (C : Cx) (cl : List (Str × Addr)) : Prop := ∀ p ∈ cl, C.env.cells.lookup p.1 = some p.2 ∧ (C.env.kindOf p.1 = some .cell ∨ C.env.kindOf p.1 = some .free)
theorem ClOk.nil {C : Cx} : ClOk C [] := fun _ h => by cases h
theorem ClOk.cons {C : Cx} {x : Str} {a : Addr} {cl : List (Str × Addr)} (h1 : C.env.cells.lookup x = some a) (h2 : C.env.kindOf x = some .cell ∨ C.env.kindOf x = some .free) (t : ClOk C cl) : ClOk C ((x, a) :: cl) := fun p hp => by
  rcases List.mem_cons.mp hp with rfl | h
  · exact ⟨h1, h2⟩
  · exact t p h
theorem compOk {C : Cx} {scope : Scope} {cl : List (Str × Addr)} (clos : closureFor scope C.env = pure cl) (h : ClOk C cl) (cell : (scope.names.all fun y => decide (y.2 ≠ .cell)) = true) (kind : scope.kind = .function)
    (names : (scope.names.all fun x => decide (x.2 = .local → scope.names.lookup x.1 = some .local)) = true) : CompOk C scope cl :=
  ⟨clos, h, fun y hy => of_decide_eq_true (List.all_eq_true.mp cell y hy), kind, fun x hx => of_decide_eq_true (List.all_eq_true.mp names x hx)⟩
theorem map_range_getD {α : Type} (f : Nat → α) (d : α) {n i : Nat} (h : i < n) : ((List.range n).map f).getD i d = f i := by
  rw [List.getD_eq_getElem?_getD, List.getElem?_map, List.getElem?_range h]; rfl

theorem fn_told (P : PW W) (w : Nat) (hw : 3 ≤ w) (hw8 : w ≤ 8) (fs : List Env) (n : Nat) (hn : n < 2 ^ 1600) (μ : Mu) (Q : D → Mu → Prop) (q : Q (.int n) μ) : FN W.prog W.w W.h₀ fs 3 (P.addr 28) [dN (limbs (2 ^ w) n), .int w] μ Q := by
  have hB := two_le hw
  have hla := limbs_len2 hB hn
  clear hn
  refine fn_intro P.ok (P.d 28 (by decide)) rfl rfl rfl (by decide +kernel) rfl (by decide +kernel) (by decide +kernel) fun A o L q' cd R => ?_
  refine xs_ret (ev_sum P R.handled ?_)
  refine ev_comp (cl := [("w", L + 1)]) (compOk rfl (.cons rfl (.inl rfl) .nil) (by decide +kernel) rfl (by decide +kernel)) (comp_map ?_)
  refine s_enum P R.handled (fun e he => ⟨kind_of_scope he rfl, kind_of_scope he rfl⟩) ?_
  walk_at "e"
  refine ⟨by simp [sizeLine]; omega, [("w", .int w)], fun j => .int (((limbs (2 ^ w) n).getD j 0 : Nat) * 2 ^ (w * j)), .cons rfl .nil, .cons (k := some .cell) rfl (by decide) .nil, fun i => .cons rfl .nil, ?_, ?_⟩
  · intro i ys D a o' hi hD
    rw [List.length_map] at hi
    have hx : (limbs (2 ^ w) n)[i]? = some ((limbs (2 ^ w) n).getD i 0) := by rw [List.getD_eq_getElem?_getD, List.getElem?_eq_getElem hi]; rfl
    have hxB := (limbs_dig hB n).get hx
    dsimp only
    rw [dN_getD hx]
    generalize (limbs (2 ^ w) n).getD i 0 = x at *
    have hwi : w * i ≤ 8 * 1600 := Nat.mul_le_mul hw8 (by omega)
    refine ev_mul ?_
    walk_at "nm"
    refine ev_pow ?_
    walk_at "e"
    refine ev_mul ?_
    walk_at "e"
    refine ⟨mulOk (m := 8) (n := 64) (by omega) (by omega) (by decide), ?_⟩
    refine ⟨2, w * i, rfl, by rw [Int.natCast_mul], by omega, by decide, ?_⟩
    refine ⟨_, _, rfl, rfl, mulOk (m := 8) (n := 12801) ?_ ?_ (by decide), ⟨rfl, rfl⟩⟩
    · have : 2 ^ w ≤ 2 ^ 8 := Nat.pow_le_pow_right (by decide) hw8
      omega
    · rw [two_cast]
      exact Nat.pow_lt_pow_right (by decide) (by omega)
  · refine ⟨tl w (limbs (2 ^ w) n) (limbs (2 ^ w) n).length, ?_, ?_⟩
    · unfold tl
      rw [List.length_map]
      simp only [dInts, List.map_map]
      rfl
    · rw [tl_sum w _ _ (Nat.le_refl _), List.take_length, vN_limbs hB]
      exact q

variable {W : Wd}
theorem fn_times (P : PW W) (w : Nat) (hw : 3 ≤ w) (hw8 : w ≤ 8) (fs : List Env) (n m : Nat) (hn : n < 2 ^ 1600) (hm : m < 2 ^ 1600) (hnm : n * m < 2 ^ 1600) (μ : Mu) (Q : D → Mu → Prop) (q : Q (dN (limbs (2 ^ w) (n * m))) μ) : FN W.prog W.w W.h₀ fs 542 (P.addr 29) [dN (limbs (2 ^ w) n), dN (limbs (2 ^ w) m), .int w] μ Q := by
  refine fn_intro P.ok (P.d 29 (by decide)) rfl rfl rfl (by decide +kernel) rfl (by decide +kernel) (by decide +kernel) fun A o L q' cd R => ?_
  refine xs_ret ?_
  refine ev_cal P 27 (n := 540) (R.less (by first | decide | omega)) ?_
  refine evs_cons ?_
  refine ev_mul ?_
  refine ev_cal P 28 (n := 3) (R.less (by first | decide | omega)) ?_
  walk_at "e"
  refine fn_told P w hw hw8 _ n hn _ _ ?_
  refine ev_cal P 28 (n := 3) (R.less (by first | decide | omega)) ?_
  walk_at "e"
  refine fn_told P w hw hw8 _ m hm _ _ ?_
  refine ⟨_, _, rfl, rfl, mulOk (m := 1600) (n := 1600) hn hm (by decide), ?_⟩
  walk_at "e"
  rw [← Int.natCast_mul]
  exact fn_cells' P w hw hw8 _ _ hnm _ _ q

theorem fn_split (P : PW W) (w : Nat) (hw : 3 ≤ w) (hw8 : w ≤ 8) (fs : List Env) (n m : Nat) (hn : n < 2 ^ 1600) (hm : m < 2 ^ 1600) (h0 : 0 < m) (μ : Mu) (Q : D → Mu → Prop) (q : Q (.tup [dN (limbs (2 ^ w) (n / m)), dN (limbs (2 ^ w) (n % m))]) μ) : FN W.prog W.w W.h₀ fs 542 (P.addr 30) [dN (limbs (2 ^ w) n), dN (limbs (2 ^ w) m), .int w] μ Q := by
  have h9 : m < 2 ^ 9000 := Nat.lt_trans hm (Nat.pow_lt_pow_right (by decide) (by decide))
  refine fn_intro P.ok (P.d 30 (by decide)) rfl rfl rfl (by decide +kernel) rfl (by decide +kernel) (by decide +kernel) fun A o L q' cd R => ?_
  refine xs_ret ?_
  refine ev_tuple ?_
  refine evs_cons ?_
  refine ev_cal P 27 (n := 540) (R.less (by first | decide | omega)) ?_
  refine evs_cons ?_
  refine ev_div ?_
  refine ev_cal P 28 (n := 3) (R.less (by first | decide | omega)) ?_
  walk_at "e"
  refine fn_told P w hw hw8 _ n hn _ _ ?_
  refine ev_cal P 28 (n := 3) (R.less (by first | decide | omega)) ?_
  walk_at "e"
  refine fn_told P w hw hw8 _ m hm _ _ ?_
  refine ⟨_, _, rfl, rfl, by omega, h9, ?_⟩
  walk_at "e"
  rw [fdiv_cast]
  refine fn_cells' P w hw hw8 _ _ (Nat.lt_of_le_of_lt (Nat.div_le_self _ _) hn) _ _ ?_
  refine evs_cons ?_
  refine ev_cal P 27 (n := 540) (R.less (by first | decide | omega)) ?_
  refine evs_cons ?_
  refine ev_mod ?_
  refine ev_cal P 28 (n := 3) (R.less (by first | decide | omega)) ?_
  walk_at "e"
  refine fn_told P w hw hw8 _ n hn _ _ ?_
  refine ev_cal P 28 (n := 3) (R.less (by first | decide | omega)) ?_
  walk_at "e"
  refine fn_told P w hw hw8 _ m hm _ _ ?_
  refine ⟨_, _, rfl, rfl, by omega, ?_⟩
  walk_at "e"
  rw [fmod_cast]
  refine fn_cells' P w hw hw8 _ _ (Nat.lt_of_le_of_lt (Nat.mod_le _ _) hn) _ _ ?_
  walk_at "e"
  exact ⟨by first | exact Nat.le_of_ble_eq_true rfl | simp [sizeLine], q⟩

theorem sgn_mul (x y : Int) : sgn (decide (x < 0) != decide (y < 0)) (x.natAbs * y.natAbs) = x * y := by
  unfold sgn
  by_cases hx : x < 0 <;> by_cases hy : y < 0 <;> simp only [hx, hy, decide_true, decide_false, bne_self_eq_false, Bool.false_eq_true, if_false, Int.natCast_mul] <;> try simp only [Bool.true_bne, Bool.false_bne, Bool.not_false, Bool.not_true, if_true, Bool.false_eq_true, if_false]
  · rw [Int.ofNat_natAbs_of_nonpos (Int.le_of_lt hx), Int.ofNat_natAbs_of_nonpos (Int.le_of_lt hy), Int.neg_mul_neg]
  · rw [Int.ofNat_natAbs_of_nonpos (Int.le_of_lt hx), Int.natAbs_of_nonneg (by omega), Int.neg_mul, Int.neg_neg]
  · rw [Int.ofNat_natAbs_of_nonpos (Int.le_of_lt hy), Int.natAbs_of_nonneg (by omega), Int.mul_neg, Int.neg_neg]
  · rw [Int.natAbs_of_nonneg (by omega), Int.natAbs_of_nonneg (by omega)]

theorem fn_s_mul (P : PW W) (w : Nat) (hw : 3 ≤ w) (hw8 : w ≤ 8) (fs : List Env) (x y : Int) (hx : x.natAbs < 2 ^ 1600) (hy : y.natAbs < 2 ^ 1600) (hxy : (x * y).natAbs < 2 ^ 1600) (μ : Mu) (Q : D → Mu → Prop) (q : Q (dS (2 ^ w) (x * y)) μ) : FN W.prog W.w W.h₀ fs 544 (P.addr 18) [dS (2 ^ w) x, dS (2 ^ w) y, .int w, .ref (P.addr 29)] μ Q := by
  rw [Int.natAbs_mul] at hxy
  refine fn_intro P.ok (P.d 18 (by decide)) rfl rfl rfl (by decide +kernel) rfl (by decide +kernel) (by decide +kernel) fun A o L q' cd R => ?_
  refine xs_ret ?_
  refine ev_cal P 12 (n := 3) (R.less (by first | decide | omega)) ?_
  refine evs_cons ?_
  refine ev_cmpC ?_
  refine ev_fst ?_
  walk_at "nm"
  refine ⟨_, _, rfl, ?_⟩
  refine ev_fst ?_
  walk_at "nm"
  refine ⟨_, _, rfl, _, c_neBool, ?_⟩
  refine evs_cons ?_
  refine ev_call (n := 542) ?_ (R.less (by first | decide | omega))
  walk_at "nm"
  refine ⟨_, rfl, fn_there P 29, ?_⟩
  refine evs_cons ?_
  refine ev_snd ?_
  walk_at "nm"
  refine ⟨_, _, _, rfl, ?_⟩
  refine evs_cons ?_
  refine ev_snd ?_
  walk_at "nm"
  refine ⟨_, _, _, rfl, ?_⟩
  walk_at "e"
  refine fn_times P w hw hw8 _ _ _ hx hy hxy _ _ ?_
  walk_at "e"
  refine fn_signed P _ _ _ _ (two_le hw) hxy _ _ ?_
  rw [sgn_mul]
  exact q

theorem fn_tdiv (P : PW W) (w : Nat) (hw : 3 ≤ w) (hw8 : w ≤ 8) (fs : List Env) (x y : Int) (hx : x.natAbs < 2 ^ 1600) (hy : y.natAbs < 2 ^ 1600) (h0 : y ≠ 0) (μ : Mu) (Q : D → Mu → Prop)
    (q : Q (.tup [dS (2 ^ w) (sgn (decide (x < 0) != decide (y < 0)) (x.natAbs / y.natAbs)), dS (2 ^ w) (sgn (decide (x < 0)) (x.natAbs % y.natAbs))]) μ) : FN W.prog W.w W.h₀ fs 544 (P.addr 19) [dS (2 ^ w) x, dS (2 ^ w) y, .int w, .ref (P.addr 30)] μ Q := by
  have hB := two_le hw
  have hpos := (limbs_some (n := y.natAbs) hB).mpr (by omega)
  have hlen := limbs_len2 hB hy
  refine fn_intro P.ok (P.d 19 (by decide)) rfl rfl rfl (by decide +kernel) rfl (by decide +kernel) (by decide +kernel) fun A o L q' cd R => ?_
  refine xs_ifC (ct_eq ?_)
  refine ev_lenN P ?_
  refine ev_snd ?_
  walk_at "nm"
  refine ⟨_, _, _, rfl, _, rfl, by clear hx hy; omega, ?_⟩
  walk_at "e"
  refine ⟨fun h => absurd h (by clear hx hy; omega), fun _ => ?_⟩
  refine xs_nil ?_
  refine xs_cons (x_unpack ?_)
  refine ev_call (n := 542) ?_ (R.less (by first | decide | omega))
  walk_at "nm"
  refine ⟨_, rfl, fn_there P 30, ?_⟩
  refine evs_cons ?_
  refine ev_snd ?_
  walk_at "nm"
  refine ⟨_, _, _, rfl, ?_⟩
  refine evs_cons ?_
  refine ev_snd ?_
  walk_at "nm"
  refine ⟨_, _, _, rfl, ?_⟩
  walk_at "e"
  refine fn_split P w hw hw8 _ _ _ hx hy (by clear hx hy; omega) _ _ ?_
  refine as_tuple R.handled (asl_cons (as_name (an_local rfl (asl_cons (as_name (an_local rfl (asl_nil ?_)))))))
  refine xs_ret ?_
  refine ev_tuple ?_
  refine evs_cons ?_
  refine ev_cal P 12 (n := 3) (R.less (by first | decide | omega)) ?_
  refine evs_cons ?_
  refine ev_cmpC ?_
  refine ev_fst ?_
  walk_at "nm"
  refine ⟨_, _, rfl, ?_⟩
  refine ev_fst ?_
  walk_at "nm"
  refine ⟨_, _, rfl, _, c_neBool, ?_⟩
  walk_at "e"
  refine fn_signed P _ _ _ _ hB (Nat.lt_of_le_of_lt (Nat.div_le_self _ _) hx) _ _ ?_
  refine evs_cons ?_
  refine ev_cal P 12 (n := 3) (R.less (by first | decide | omega)) ?_
  refine evs_cons ?_
  refine ev_fst ?_
  walk_at "nm"
  refine ⟨_, _, rfl, ?_⟩
  walk_at "e"
  refine fn_signed P _ _ _ _ hB (Nat.lt_of_le_of_lt (Nat.mod_le _ _) hx) _ _ ?_
  walk_at "e"
  exact ⟨by first | exact Nat.le_of_ble_eq_true rfl | simp [sizeLine], q⟩

theorem fdiv_sgn {x y : Int} (h0 : y ≠ 0) : x.fdiv y = if 0 < x.natAbs % y.natAbs ∧ decide (x < 0) ≠ decide (y < 0) then -((x.natAbs / y.natAbs + 1 : Nat) : Int) else sgn (decide (x < 0) != decide (y < 0)) (x.natAbs / y.natAbs) := by
  have key : ∀ m n : Nat, (m + 1) / (n + 1) = if (m + 1) % (n + 1) = 0 then m / (n + 1) + 1 else m / (n + 1) := fun m n => by
    rw [Nat.succ_div]
    by_cases h : (n + 1) ∣ (m + 1)
    · rw [if_pos h, if_pos (Nat.mod_eq_zero_of_dvd h)]
    · rw [if_neg h, if_neg fun k => h (Nat.dvd_of_mod_eq_zero k)]
      rfl
  cases x with
  | ofNat m =>
    cases y with
    | ofNat n =>
      have h1 : ¬ (Int.ofNat m < 0) := by simp
      have h2 : ¬ (Int.ofNat n < 0) := by simp
      rw [decide_eq_false h1, decide_eq_false h2, if_neg (by simp)]
      show ((m : Nat) : Int).fdiv ((n : Nat) : Int) = sgn (false != false) (m / n)
      rw [fdiv_cast]
      simp [sgn]
    | negSucc n =>
      have h1 : ¬ (Int.ofNat m < 0) := by simp
      have h2 : (Int.negSucc n < 0) := Int.negSucc_lt_zero n
      rw [decide_eq_false h1, decide_eq_true h2]
      show Int.fdiv (Int.ofNat m) (Int.negSucc n) = if 0 < m % (n + 1) ∧ _ then -((m / (n + 1) + 1 : Nat) : Int) else sgn _ (m / (n + 1))
      cases m with
      | zero => simp [sgn]
      | succ m =>
        show Int.negSucc (m / (n + 1)) = _
        have k := key m n
        by_cases h : (m + 1) % (n + 1) = 0
        · rw [if_pos h] at k
          rw [if_neg (by omega), k]
          rfl
        · rw [if_neg h] at k
          rw [if_pos ⟨by omega, by simp⟩, k]
          rfl
  | negSucc m =>
    cases y with
    | ofNat n =>
      have h1 : (Int.negSucc m < 0) := Int.negSucc_lt_zero m
      have h2 : ¬ (Int.ofNat n < 0) := by simp
      rw [decide_eq_true h1, decide_eq_false h2]
      cases n with
      | zero => exact absurd rfl h0
      | succ n =>
        show Int.negSucc (m / (n + 1)) = if 0 < (m + 1) % (n + 1) ∧ _ then -(((m + 1) / (n + 1) + 1 : Nat) : Int) else sgn _ ((m + 1) / (n + 1))
        have k := key m n
        by_cases h : (m + 1) % (n + 1) = 0
        · rw [if_pos h] at k
          rw [if_neg (by omega), k]
          rfl
        · rw [if_neg h] at k
          rw [if_pos ⟨by omega, by simp⟩, k]
          rfl
    | negSucc n =>
      have h1 : (Int.negSucc m < 0) := Int.negSucc_lt_zero m
      have h2 : (Int.negSucc n < 0) := Int.negSucc_lt_zero n
      rw [decide_eq_true h1, decide_eq_true h2, if_neg (by simp)]
      show (((m + 1) / (n + 1) : Nat) : Int) = sgn _ ((m + 1) / (n + 1))
      simp [sgn]

theorem fn_fdiv (P : PW W) (w : Nat) (hw : 3 ≤ w) (hw8 : w ≤ 8) (fs : List Env) (x y : Int) (hx : x.natAbs < 2 ^ 1599) (hy : y.natAbs < 2 ^ 1599) (h0 : y ≠ 0) (μ : Mu) (Q : D → Mu → Prop)
    (q : ∀ r, Q (.tup [dS (2 ^ w) (x.fdiv y), r]) μ) : FN W.prog W.w W.h₀ fs 546 (P.addr 20) [dS (2 ^ w) x, dS (2 ^ w) y, .int w, .ref (P.addr 30)] μ Q := by
  have hB := two_le hw
  have hx' : x.natAbs < 2 ^ 1600 := Nat.lt_trans hx (Nat.pow_lt_pow_right (by decide) (by decide))
  have hy' : y.natAbs < 2 ^ 1600 := Nat.lt_trans hy (Nat.pow_lt_pow_right (by decide) (by decide))
  have hr : (sgn (decide (x < 0)) (x.natAbs % y.natAbs)).natAbs < 2 ^ 1599 := by rw [sgn_abs]; exact Nat.lt_of_le_of_lt (Nat.mod_le _ _) hx
  have hq : x.natAbs / y.natAbs < 2 ^ 1600 := Nat.lt_of_le_of_lt (Nat.div_le_self _ _) hx'
  have hl : (limbs (2 ^ w) (x.natAbs % y.natAbs)).length ≤ 1600 := limbs_len2 hB (Nat.lt_of_le_of_lt (Nat.mod_le _ _) hx')
  have hpos := limbs_some (n := x.natAbs % y.natAbs) hB
  have F := fdiv_sgn (x := x) h0
  refine fn_intro P.ok (P.d 20 (by decide)) rfl rfl rfl (by decide +kernel) rfl (by decide +kernel) (by decide +kernel) fun A o L q' cd R => ?_
  refine xs_cons (x_unpack ?_)
  refine ev_cal P 19 (n := 544) (R.less (by first | decide | omega)) ?_
  walk_at "e"
  refine fn_tdiv P w hw hw8 _ x y hx' hy' h0 _ _ ?_
  clear hx'
  refine as_tuple R.handled (asl_cons (as_name (an_local rfl (asl_cons (as_name (an_local rfl (asl_nil ?_)))))))
  refine xs_ifC (ct_and (ct_gt ?_))
  refine ev_lenN P ?_
  refine ev_snd ?_
  walk_at "nm"
  refine ⟨_, _, _, rfl, _, rfl, ?_⟩
  rw [sgn_abs]
  refine ⟨by clear hx hy hy' hr hq; omega, ?_⟩
  walk_at "e"
  refine ⟨fun h1 => ?_, fun h1 => ?_⟩
  · refine ct_cmp ?_
    refine ev_fst ?_
    walk_at "nm"
    refine ⟨_, _, rfl, ?_⟩
    refine ev_fst ?_
    walk_at "nm"
    refine ⟨_, _, rfl, _, c_neBool, fun h2 => ?_, fun h2 => ?_⟩
    · rw [if_pos ⟨hpos.mp h1, by simpa using h2⟩] at F
      refine xs_ret ?_
      refine ev_tuple ?_
      refine evs_cons ?_
      refine ev_tuple ?_
      walk_at "e"
      refine ev_cal P 10 (n := 3) (R.less (by first | decide | omega)) ?_
      refine evs_cons ?_
      refine ev_snd ?_
      walk_at "nm"
      refine ⟨_, _, _, rfl, ?_⟩
      rw [sgn_abs]
      walk_at "e"
      refine fn_add_limb P _ _ w hw hw8 hq _ _ ?_
      walk_at "e"
      refine ⟨by first | exact Nat.le_of_ble_eq_true rfl | simp [sizeLine], ?_⟩
      refine evs_cons ?_
      refine ev_cal P 16 (n := 7) (R.less (by first | decide | omega)) ?_
      walk_at "e"
      refine fn_s_add P _ _ _ w hw hw8 hr hy _ _ ?_
      walk_at "e"
      refine ⟨by first | exact Nat.le_of_ble_eq_true rfl | simp [sizeLine], ?_⟩
      have e : dS (2 ^ w) (x.fdiv y) = .tup [.bool true, dN (limbs (2 ^ w) (x.natAbs / y.natAbs + 1))] := by
        rw [F]
        unfold dS
        rw [Int.natAbs_neg, Int.natAbs_natCast, decide_eq_true (show -((x.natAbs / y.natAbs + 1 : Nat) : Int) < 0 from Int.negSucc_lt_zero _)]
      rw [e] at q
      exact q _
    · rw [if_neg (fun k => k.2 (by simpa using h2))] at F
      refine xs_nil ?_
      refine xs_ret ?_
      refine ev_tuple ?_
      walk_at "e"
      refine ⟨by first | exact Nat.le_of_ble_eq_true rfl | simp [sizeLine], ?_⟩
      rw [F] at q
      exact q _
  · rw [if_neg (fun k => h1 (hpos.mpr k.1))] at F
    refine xs_nil ?_
    refine xs_ret ?_
    refine ev_tuple ?_
    walk_at "e"
    refine ⟨by first | exact Nat.le_of_ble_eq_true rfl | simp [sizeLine], ?_⟩
    rw [F] at q
    exact q _

variable {W : Wd}
noncomputable abbrev dSL (B : Nat) (l : List Int) : D := .list (l.map (dS B))
noncomputable abbrev dSM (B : Nat) (m : List (List Int)) : D := .list (m.map (dSL B))
theorem getD_map {α : Type} (f : α → D) {l : List α} {i : Nat} {x : α} (h : l[i]? = some x) : (l.map f).getD i .none = f x := by
  rw [List.getD_eq_getElem?_getD, List.getElem?_map, h]; rfl
theorem get_map {α : Type} (f : α → D) {l : List α} {i : Nat} {x : α} (h : l[i]? = some x) : (l.map f)[i]? = some (f x) := by
  rw [List.getElem?_map, h]; rfl
theorem range_map {α β : Type} (f : Nat → β) (g : α → β) : ∀ (l : List α), (∀ i x, l[i]? = some x → f i = g x) → (List.range l.length).map f = l.map g
  | l, h => by
    refine List.ext_getElem (by simp) fun i h1 h2 => ?_
    rw [List.getElem_map, List.getElem_map, List.getElem_range]
    exact h i _ (List.getElem?_eq_getElem _)

theorem fn_m_of (P : PW W) (w : Nat) (hw : 3 ≤ w) (hw8 : w ≤ 8) (fs : List Env) (m : List (List Int)) (hm : m.length < 2 ^ 20) (hr : ∀ r ∈ m, r.length < 2 ^ 20 ∧ ∀ x ∈ r, x.natAbs < 2 ^ 1600) (μ : Mu) (Q : D → Mu → Prop) (q : Q (dSM (2 ^ w) m) μ) : FN W.prog W.w W.h₀ fs 10 (P.addr 22) [dMat m, .int w] μ Q := by
  refine fn_intro P.ok (P.d 22 (by decide)) rfl rfl rfl (by decide +kernel) rfl (by decide +kernel) (by decide +kernel) fun A o L q' cd R => ?_
  refine xs_ret ?_
  refine ev_comp (cl := [("w", L + 1)]) (compOk rfl (.cons rfl (.inl rfl) .nil) (by decide +kernel) rfl (by decide +kernel)) (comp_map ?_)
  refine src_list R.handled (fun e he => kind_of_scope he rfl) ?_
  walk_at "e"
  refine ⟨by simp [sizeLine]; omega, [("w", .int w)], fun j => dSL (2 ^ w) (m.getD j []), .cons rfl .nil, .cons (k := some .cell) rfl (by decide) .nil, fun i => .cons rfl .nil, ?_, ?_⟩
  · intro i ys D a o' hi hD
    rw [List.length_map] at hi
    have hx : m[i]? = some (m.getD i []) := by rw [List.getD_eq_getElem?_getD, List.getElem?_eq_getElem hi]; rfl
    have hrow := hr _ (List.mem_of_getElem? hx)
    dsimp only
    rw [getD_map dInts hx]
    generalize m.getD i [] = r at *
    refine ev_comp (cl := [("w", L + 1)]) (compOk rfl (.cons rfl (.inl rfl) .nil) (by decide +kernel) rfl (by decide +kernel)) (comp_map ?_)
    refine src_list R.handled (fun e he => kind_of_scope he rfl) ?_
    walk_at "e"
    refine ⟨by simp [sizeLine]; omega, [("w", .int w)], fun j => dS (2 ^ w) (r.getD j 0), .cons rfl .nil, .cons (k := some .cell) rfl (by decide) .nil, fun i => .cons rfl .nil, ?_, ?_⟩
    · intro j ys' D' a' o'' hj hD'
      rw [List.length_map] at hj
      have hy : r[j]? = some (r.getD j 0) := by rw [List.getD_eq_getElem?_getD, List.getElem?_eq_getElem hj]; rfl
      have hel := hrow.2 _ (List.mem_of_getElem? hy)
      dsimp only
      rw [getD_map Mine.D.int hy]
      generalize r.getD j 0 = x at *
      refine ev_cal P 13 (n := 5) (R.less (by first | decide | omega)) ?_
      walk_at "e"
      exact fn_s_of P _ _ w hw hw8 hel _ _ ⟨rfl, rfl⟩
    · refine ⟨?_, rfl⟩
      rw [List.length_map, range_map (fun j => dS (2 ^ w) (r.getD j 0)) (dS (2 ^ w)) r fun i x h => by rw [List.getD_eq_getElem?_getD, h]; rfl]
  · rw [List.length_map, range_map (fun j => dSL (2 ^ w) (m.getD j [])) (dSL (2 ^ w)) m fun i x h => by rw [List.getD_eq_getElem?_getD, h]; rfl]
    exact q

/-- a row, less so many times the head -/
noncomputable def less (r h : List Int) (c : Nat) : List Int := (List.range r.length).map fun j => r.getD j 0 - (r.getD c 0).fdiv (h.getD c 0) * h.getD j 0
theorem fn_lessened (P : PW W) (w : Nat) (hw : 3 ≤ w) (hw8 : w ≤ 8) (fs : List Env) (r h : List Int) (c : Nat) (hrl : r.length < 2 ^ 20) (hl : h.length = r.length) (hc : c < r.length) (h0 : h.getD c 0 ≠ 0)
    (hr : ∀ j, (r.getD j 0).natAbs < 2 ^ 1599 ∧ (h.getD j 0).natAbs < 2 ^ 1599 ∧ ((r.getD c 0).fdiv (h.getD c 0) * h.getD j 0).natAbs < 2 ^ 1599) (hq : ((r.getD c 0).fdiv (h.getD c 0)).natAbs < 2 ^ 1599)
    (μ : Mu) (Q : D → Mu → Prop) (q : Q (dSL (2 ^ w) (less r h c)) μ) : FN W.prog W.w W.h₀ fs 550 (P.addr 24) [dSL (2 ^ w) r, dSL (2 ^ w) h, .int c, .int w, .ref (P.addr 29), .ref (P.addr 30)] μ Q := by
  have up : ∀ {n : Nat}, n < 2 ^ 1599 → n < 2 ^ 1600 := fun h => Nat.lt_trans h (Nat.pow_lt_pow_right (by decide) (by decide))
  have gr : ∀ j, j < r.length → r[j]? = some (r.getD j 0) := fun j hj => by rw [List.getD_eq_getElem?_getD, List.getElem?_eq_getElem hj]; rfl
  have gh : ∀ j, j < r.length → h[j]? = some (h.getD j 0) := fun j hj => by rw [List.getD_eq_getElem?_getD, List.getElem?_eq_getElem (by rw [hl]; exact hj)]; rfl
  refine fn_intro P.ok (P.d 24 (by decide)) rfl rfl rfl (by decide +kernel) rfl (by decide +kernel) (by decide +kernel) fun A o L q' cd R => ?_
  refine xs_cons (x_unpack ?_)
  refine ev_cal P 20 (n := 546) (R.less (by first | decide | omega)) ?_
  refine evs_cons ?_
  refine ev_itemL ?_
  walk_at "e"
  refine ⟨_, c, _, .inl rfl, rfl, by omega, get_map _ (gr c hc), ?_⟩
  refine evs_cons ?_
  refine ev_itemL ?_
  walk_at "e"
  refine ⟨_, c, _, .inl rfl, rfl, by omega, get_map _ (gh c hc), ?_⟩
  walk_at "e"
  refine fn_fdiv P w hw hw8 _ _ _ (hr c).1 (hr c).2.1 h0 _ _ fun rest => ?_
  generalize hqq : (r.getD c 0).fdiv (h.getD c 0) = qq at *
  refine as_tuple R.handled (asl_cons (as_name (an_cell rfl rfl rfl (asl_cons (as_name (an_local rfl (asl_nil ?_)))))))
  refine xs_ret ?_
  refine ev_comp (cl := [("w", L + 2), ("quotient", L + 4), ("mul", L + 3), ("head", L + 1)]) (compOk rfl (.cons rfl (.inl rfl) (.cons rfl (.inl rfl) (.cons rfl (.inl rfl) (.cons rfl (.inl rfl) .nil)))) (by decide +kernel) rfl (by decide +kernel)) (comp_map ?_)
  refine s_enum P R.handled (fun e he => ⟨kind_of_scope he rfl, kind_of_scope he rfl⟩) ?_
  walk_at "e"
  refine ⟨by simp [sizeLine]; omega, [("w", .int w), ("quotient", dS (2 ^ w) qq), ("mul", .ref (P.addr 29)), ("head", dSL (2 ^ w) h)], fun j => dS (2 ^ w) (r.getD j 0 - qq * h.getD j 0), .cons rfl (.cons rfl (.cons rfl (.cons rfl .nil))),
    .cons (k := some .cell) rfl (by decide) (.cons (k := some .cell) rfl (by decide) (.cons (k := some .cell) rfl (by decide) (.cons (k := some .cell) rfl (by decide) .nil))), fun i => .cons rfl (.cons rfl (.cons rfl (.cons rfl .nil))), ?_, ?_⟩
  · intro i ys D a o' hi hD
    rw [List.length_map] at hi
    obtain ⟨b1, b2, b3⟩ := hr i
    have g1 := gr i hi
    have g2 := gh i hi
    dsimp only
    rw [getD_map (dS (2 ^ w)) g1]
    generalize r.getD i 0 = x at *
    generalize h.getD i 0 = y at *
    refine ev_cal P 17 (n := 9) (R.less (by first | decide | omega)) ?_
    walk_at "e"
    refine ev_cal P 18 (n := 544) (R.less (by first | decide | omega)) ?_
    walk_at "e"
    refine ev_itemL ?_
    walk_at "e"
    refine ⟨_, i, _, .inl rfl, rfl, by omega, get_map _ g2, ?_⟩
    walk_at "e"
    refine fn_s_mul P w hw hw8 _ _ _ (up hq) (up b2) (up b3) _ _ ?_
    walk_at "e"
    exact fn_s_sub P _ _ _ w hw hw8 b1 b3 _ _ ⟨rfl, rfl⟩
  · rw [List.length_map]
    unfold less at q
    rw [hqq, dSL, List.map_map] at q
    exact q

variable {W : Wd}
noncomputable abbrev frs (fs : List Env) : List Addr := fs.filterMap (·.frame)
noncomputable abbrev bmE : List Value := [.type "Exception", .type "BaseException", .type "object"]
noncomputable abbrev NI (W : Wd) (cls : Addr) : Prop := OwnClsQ "NoInverse" cls bmE "Exception.__new__" W.mg W.h₀

/-- objects of frames: the same, up to their slots -/
noncomputable def FrUp (fs : List Env) (h h' : Heap) : Prop := ∀ b ∈ frs fs, ∀ x, h.get? b = some x → ∃ sl, h'.get? b = some { x with slots := sl }
noncomputable def OffF (fs : List Env) (g : View) (μ : Mu) : Prop := ∀ b ∈ frs fs, g b = none ∧ b ∉ μ.map (·.1)

/-- an exception of cls has left a call that began at s -/
noncomputable def Flew (W : Wd) (cls : Addr) (fs : List Env) (s : Shared) (g : View) (μ : Mu) (e : Value) (s'' : Shared) : Prop :=
  ∃ g' μ' B ea t, e = .ref ea ∧ Step (frs fs) s g μ s'' g' μ' ∧ FrUp fs s.heap s''.heap ∧ Heap.FlyingW B fs ea (.ref cls) (.ref t) s''.heap ∧
    (∀ b x, s.heap.get? b = some x → b ∉ μ.map (·.1) → b ∉ frs fs → B.get? b = some x) ∧ (∀ b x, g' b = some x → B.get? b = some x) ∧
    (∀ a xs, (a, xs) ∈ μ' → IsMut B g' a xs ∧ g' a = none) ∧ (μ'.map (·.1)).Nodup ∧ (∀ b x, W.h₀.get? b = some x → g' b = some x) ∧ ∀ p ∈ μ, p ∈ μ'

noncomputable def FNX (W : Wd) (cls : Addr) (n : Nat) (f : Addr) (ds : List D) (μ : Mu) (Q : D → Mu → Prop) (X : Prop) : Prop :=
  ∀ fs A s g vs, Room A n fs → Base W.h₀ fs s g μ → OffF fs g μ → RepL g vs ds →
    wpAny (model W.prog W.w) A (call (.ref f) vs) (fun v s' => ∃ d g' μ', Step [] s g μ s' g' μ' ∧ Base W.h₀ fs s' g' μ' ∧ RepV g' v d ∧ Q d μ') (fun e s'' => X ∧ Flew W cls fs s g μ e s'') s

theorem frs_there {base h : Heap} : ∀ {l : List Env}, h.FunFrames base l → ∀ b ∈ frs l, ∃ o, h.get? b = some o ∧ ∀ vs, o.data ≠ .fields vs
  | [], _, b, hb => by cases hb
  | env :: rest, ⟨hk, ⟨L, o, hf, hn, ho, hd⟩, hr⟩, b, hb => by
    unfold frs at hb
    rw [List.filterMap_cons, hf] at hb
    rcases List.mem_cons.mp hb with rfl | hb
    · exact ⟨o, ho, hd⟩
    · exact frs_there hr b hb

theorem frames_hidden {base h : Heap} : ∀ {l : List Env} (X : List Addr), (∀ b ∈ frs l, b ∈ X) → h.FunFrames base l → h.FunFrames (hideAll h X) l
  | [], _, _, _ => trivial
  | env :: rest, X, hX, ⟨hk, ⟨L, o, hf, hn, ho, hd⟩, hr⟩ => by
    unfold frs at hX
    rw [List.filterMap_cons, hf] at hX
    exact ⟨hk, ⟨L, o, hf, hideAll_none X (hX L List.mem_cons_self), ho, hd⟩, frames_hidden X (fun b hb => hX b (List.mem_cons_of_mem _ hb)) hr⟩

/-- it goes out of the frame in which it was raised -/
theorem flew_out {cls : Addr} {fs : List Env} {A : Around} {env : Env} {o : Org} {σ : Sg} {s : Shared} {g : View} {μ : Mu} {h' : Heap} {tk : Nat} {e : Addr} {args : List Value} {n : Nat} {P : Prop} (hP : P)
    (R : Room A n (env :: fs)) (S : St W.h₀ (env :: fs) o env σ s g μ) (hf : env.frame = some env.locals) (hnew : ∀ b ∈ wrt env, o.s.heap.get? b = none) (Bo : Base W.h₀ fs o.s o.g o.μ) (hoff : OffF fs o.g o.μ)
    (hx : Heap.MadeExcOf s.heap h' e (.ref cls) args) (hμ : ∀ p ∈ o.μ, p ∈ μ) {M : Model} {E : Value → Shared → Prop} :
    wpAny M A (leaving env (.ref e)) (fun _ s'' => P ∧ Flew W cls fs o.s o.g o.μ (.ref e) s'') E { s with heap := h', toks := tk } := by
  have hfr := R.frames
  have frAll : ∀ b ∈ frs (env :: fs), b = env.locals ∨ b ∈ frs fs := fun b hb => by
    unfold frs at hb
    rw [List.filterMap_cons, hf] at hb
    exact List.mem_cons.mp hb
  have offS : ∀ b ∈ frs (env :: fs), g b = none ∧ b ∉ μ.map (·.1) := fun b hb => by
    rcases frAll b hb with rfl | hb
    · exact ⟨(S.f.off _ List.mem_cons_self).1, (S.f.off _ List.mem_cons_self).2.1⟩
    · obtain ⟨x, hx, _⟩ := frs_there Bo.fr b hb
      obtain ⟨h1, h2⟩ := hoff b hb
      refine ⟨?_, fun hm => ?_⟩
      · cases e : g b with
        | none => rfl
        | some y =>
          rcases S.st.new b y e with h | h | h
          · rw [h1] at h; cases h
          · exact absurd h h2
          · rw [hx] at h; cases h
      · rcases S.st.dom b hm with h | h
        · exact h2 h
        · rw [hx] at h; cases h
  refine wpAny_leaves_madeW (base := hideAll s.heap (frs (env :: fs))) (h := s.heap) hfr hf (fun b o e => of_hideAll _ e) (frames_hidden _ (fun b hb => hb) S.b.fr) hx fun h₂ t F _ _ up => ?_
  have up' : s.heap.UpToSlots h₂ := (Heap.UpToSlots.of_keeps hx.keeps).trans up
  have inB : ∀ b x, s.heap.get? b = some x → b ∉ frs (env :: fs) → (hideAll s.heap (frs (env :: fs))).get? b = some x := fun b x e hb => hideAll_get _ e hb
  have kB : ∀ b x, o.s.heap.get? b = some x → b ∉ o.μ.map (·.1) → b ∉ frs fs → (hideAll s.heap (frs (env :: fs))).get? b = some x := fun b x e hb hf' => by
    have hbw : b ∉ wrt env := fun hw => by have := hnew b hw; rw [e] at this; cases this
    refine inB b x (S.st.keep b x hb hbw e) fun hm => ?_
    rcases frAll b hm with rfl | hm
    · exact absurd List.mem_cons_self hbw
    · exact hf' hm
  have gB : ∀ b x, g b = some x → (hideAll s.heap (frs (env :: fs))).get? b = some x := fun b x e => inB b x (S.b.v b x e) fun hm => by rw [(offS b hm).1] at e; cases e
  have fu : FrUp fs o.s.heap h₂ := fun b hb x e => by
    obtain ⟨y, hy, hd⟩ := frs_there Bo.fr b hb
    rw [hy] at e; cases e
    have hbw : b ∉ wrt env := fun hw => by have := hnew b hw; rw [hy] at this; cases this
    exact up' b x (S.st.keep b x (hoff b hb).2 hbw hy) hd
  refine ⟨hP, g, μ, _, e, t, rfl, ⟨?_, ?_, ?_, S.st.grow, S.st.new, S.st.dom⟩, fu, F, kB, gB, ?_, S.b.nd, S.b.w, hμ⟩
  · obtain ⟨h1, t1, e1⟩ := S.st.same
    exact ⟨h₂, tk, by rw [e1]⟩
  · intro b x e
    obtain ⟨y, hy⟩ := S.st.there b x e
    by_cases hb : b ∈ frs (env :: fs)
    · obtain ⟨z, hz, hd⟩ := frs_there S.b.fr b hb
      obtain ⟨sl, h⟩ := up' b z hz hd
      exact ⟨_, h⟩
    · exact ⟨y, F.1 b y (inB b y hy hb)⟩
  · intro b x hb hX e
    exact F.1 b x (kB b x e hb hX)
  · intro a xs hm
    obtain ⟨⟨vs, ⟨n, ho⟩, R'⟩, hg⟩ := S.b.m a xs hm
    exact ⟨⟨vs, ⟨n, inB a _ ho fun hb => (offS a hb).2 (List.mem_map.mpr ⟨(a, xs), hm, rfl⟩)⟩, R'⟩, hg⟩

theorem fnx_intro {cls : Addr} (P : PW W) {f : Addr} {ps : List Str} {body : List Stmt} {sc : Scope} (Df : Def W f ps body sc) {n : Nat} {ds : List D} {μ : Mu} {Q : D → Mu → Prop} {X : Prop}
    (hk : sc.kind = .function) (hco : sc.isCoroutine = false) (hgen : sc.isGenerator = false) (hnd : ps.Nodup) (hlen : ds.length = ps.length) (hcn : ((cellsFrom 0 sc.names []).map (·.1)).Nodup)
    (hps : (ps.all fun y => sc.names.lookup y == some .local || sc.names.lookup y == some .cell) = true)
    (h : ∀ (fs : List Env) (A : Around) (o : Org) (L : Addr) (q : Str) (cd : Value) (E : Value → Shared → Prop), Room (A.deeper (fenv sc L f q cd)) n (fenv sc L f q cd :: fs) → PassesOwn (model W.prog W.w) (A.deeper (fenv sc L f q cd)) (fenv sc L f q cd) E →
      (X → ∀ σ s g μ', (∀ p ∈ μ, p ∈ μ') → St W.h₀ (fenv sc L f q cd :: fs) o (fenv sc L f q cd) σ s g μ' → ∀ h' e tk vs, Heap.MadeExcOf s.heap h' e (.ref cls) vs → E (.ref e) { s with heap := h', toks := tk }) →
      EXS (W.cx fs A o sc L f q cd E) body (ps.zip ds) μ (retPost Q)) : FNX W cls (n + 1) f ds μ Q X := by
  intro fs A s g vs R B hoff RL
  refine fn_enter (X := fun _ _ => False) P.ok Df R B RL hk hco hgen hnd hlen hcn hps fun q cd R' s₁ S₁ => ?_
  have fresh : ∀ b ∈ wrt (fenv sc s.heap.objs.size f q cd), s.heap.get? b = none := fun b hb => by
    cases e : s.heap.get? b with
    | none => rfl
    | some z =>
      exfalso
      have hlt := Heap.lt_size e
      rcases List.mem_cons.mp (wrt_sub hb) with rfl | hb'
      · exact Nat.lt_irrefl _ hlt
      · obtain ⟨p, hp, rfl⟩ := List.mem_map.mp hb'
        have hp' : p ∈ cellsFrom (s.heap.objs.size + 1) sc.names [] := hp
        have := (cellsFrom_ok sc.names (s.heap.push { cls := .type "frame", data := .dict #[] }) (s.heap.objs.size + 1) [] ⟨fun _ _ hm => (nomatch hm), List.Pairwise.nil⟩ (by rw [Heap.size_push]; exact Nat.le_refl _))
        rw [Heap.size_push] at this
        have hle := (this.empty p.1 p.2 hp').2
        exact absurd hlt (Nat.not_lt.mpr (Nat.le_of_lt hle))
  refine wpAny_mono (h fs A ⟨s, g, μ⟩ s.heap.objs.size q cd (fun e s' => wpAny (model W.prog W.w) (A.deeper (fenv sc s.heap.objs.size f q cd)) (leaving (fenv sc s.heap.objs.size f q cd) e) (fun _ s'' => X ∧ Flew W cls fs s g μ e s'') (fun e' s'' => X ∧ Flew W cls fs s g μ e' s'') s')
    R' PassesOwn.leaving (fun hX σ s' g' μ' hμ S h' e tk vs hx => flew_out (o := ⟨s, g, μ⟩) hX R' S rfl fresh B hoff hx hμ) s₁ g S₁) ?_ fun _ _ e => e
  rintro fl s' ⟨fd, σ', g', μ', RF, S', q'⟩
  have st : Step [] s g μ s' g' μ' := S'.st.mono fun b hb => .inr (fresh b hb)
  have bs : Base W.h₀ fs s' g' μ' := ⟨S'.b.w, S'.b.v, S'.b.m, S'.b.nd, S'.b.fr.2.2⟩
  cases RF with
  | ret r => exact ⟨_, g', μ', st, bs, r, q'⟩
  | next => exact ⟨_, g', μ', st, bs, .none, q'⟩
  | brk => exact q'.elim
  | cont => exact q'.elim

section
variable {C : Cx} {σ : Sg} {μ : Mu}
theorem x_raise {cls : Addr} {msg : Str} {x : Str} {np cpos pos p : Pos} {k : Nat} {Q : Fl → Sg → Mu → Prop} (P : PW W) (N : NI W cls) (hC : InW W C) (hh : C.A.handled = none) (hx : C.env.kindOf x = some .globalImplicit) (hn : x = "NoInverse")
    (hE : ∀ s g, St C.h₀ C.fs C.o C.env σ s g μ → ∀ h' e tk vs, Heap.MadeExcOf s.heap h' e (.ref cls) vs → C.E (.ref e) { s with heap := h', toks := tk })
    (he : starEach [(.Constant (.str msg) k p : Expr)] C.env = [(false, eval (.Constant (.str msg) k p) C.env)] := by rfl) :
    EX C (.Raise (some (.Call (.Name x np) [.Constant (.str msg) k p] [] cpos)) none pos) σ μ Q := by
  subst hn
  intro s g S
  obtain ⟨tl, Nn, nm, q, bs, hdct, sn, sub, ab, col, dd, k0, k1, k2, k3, k5, mN, hCo, hN, hni, T⟩ := N.own.obj
  have kk : ∀ b o, W.h₀.get? b = some o → s.heap.get? b = some o := fun b o e => S.b.v b o (S.b.w b o (by rw [hC.h₀]; exact e))
  refine wpAny_Raise_call_subT (C := cls) (nm := nm) (q := q) (N := Nn) (bs := bs) (bm := tl) (hdct := hdct) (sn := sn) (sub := sub) (ab := ab) (col := col) (dd := dd) (k0 := k0) (k1 := k1) (k2 := k2) (k3 := k3) (k5 := k5)
    PySem.F.excBase_Exception (mN := mN) (T.hasType PySem.F.excBase_Exception.hasBase) hh (by rw [he]; rfl) hni ?_
  refine Name_function_global S.f.kind hx (loadGlobal_global (by rw [hC.gl]; exact P.ok.g.keeps kk) N.bound ⟨rfl, ?_⟩) (by decide +kernel)
  rw [he]
  refine evalArgs_plain (spliced_cons (wpAny_Constant_str (k := k) (pos := p) (spliced_nil ?_)))
  refine ⟨rfl, by first | exact Nat.le_of_ble_eq_true rfl | simp [sizeLine], kk _ _ hCo, hN.keeps kk, T.keeps kk, fun h' e hm => ?_⟩
  exact hE s g S h' e _ _ hm

end

variable {W : Wd}
/-- a call that catches on its way: it may have turned the slots of the frames that stand -/
noncomputable def FNF (W : Wd) (n : Nat) (f : Addr) (ds : List D) (μ : Mu) (Q : D → Mu → Prop) : Prop :=
  ∀ fs A s g vs, Room A n fs → Base W.h₀ fs s g μ → OffF fs g μ → RepL g vs ds →
    wpAny (model W.prog W.w) A (call (.ref f) vs) (fun v s' => ∃ d g' μ', Step (frs fs) s g μ s' g' μ' ∧ FrUp fs s.heap s'.heap ∧ Base W.h₀ fs s' g' μ' ∧ RepV g' v d ∧ Q d μ') (fun _ _ => False) s

/-- a call that may raise, within a try -/
theorem ev_callX {C : Cx} {σ : Sg} {μ : Mu} {Q : D → Mu → Prop} {cls : Addr} {X : Prop} {n : Nat} (P : PW W) (i : Nat) {x : Str} {np pos : Pos} {es : List Expr} (R : Room C.A n C.fs) (hO : ∀ σ s g μ, St C.h₀ C.fs C.o C.env σ s g μ → OffF C.fs g μ)
    (h : EVs C es σ μ fun ds μ₂ => FNX W cls n (P.addr i) ds μ₂ Q X ∧ ∀ s g, St C.h₀ C.fs C.o C.env σ s g μ₂ → ∀ e s'', X ∧ Flew W cls C.fs s g μ₂ e s'' → C.E e s'')
    (hp : C.prog = W.prog ∧ C.w = W.w) (hk : C.env.kindOf x = some .globalImplicit := by rfl) (hi : i ∈ idxs := by decide) (hx : x = nameF i := by decide +kernel) (hdb : (x == ("__debug__" : Str)) = false := by decide +kernel) (hC : InW W C := by exact ⟨rfl, rfl, rfl, rfl, rfl⟩)
    (hne : ∃ e r, es = e :: r ∧ starEach (e :: r) C.env = (false, eval e C.env) :: starEach r C.env := by exact ⟨_, _, rfl, rfl⟩) (hw : ∀ f, callWith pos f [] (backTo pos (starEach es C.env)) (backToKw pos (keywordEach [] C.env)) = callWith pos f [] (backTo pos (starEach es C.env)) [] := by intro _; rfl) :
    EV C (.Call (.Name x np) es [] pos) σ μ Q := by
  intro s g S
  obtain ⟨o, fd, ho, hd⟩ := fn_there P i hi
  refine wpAny_Call_ofName (wpAny_mono (ev_global (hC.wok P) hC.env1 (v := .ref (P.addr i)) (Q := fun d μ' => d = .ref (P.addr i) ∧ μ' = μ) (by rw [hC.mg, hx]; exact P.g i hi) (fun g => .ref _) hk ⟨rfl, rfl⟩ hdb s g S) ?_ fun _ _ e => e)
  rintro v s1 ⟨d, g1, μ1, k1, S1, R1, rfl, rfl⟩
  rw [R1.ref_inv, hw]
  refine callWith_function (o := o) (fd := fd) ?_
  obtain ⟨e, r, rfl, he⟩ := hne
  have h3 := h s1 g1 pos S1
  rw [he] at h3 ⊢
  refine evalArgs_plain (wpAny_mono h3 ?_ fun _ _ e => e)
  rintro vs s2 ⟨ds, g2, μ2, k2, S2, R2, hf, hE⟩
  refine ⟨⟨S2.b.v _ o (S2.b.w _ o (by rw [hC.h₀]; exact ho)), hd⟩, ?_⟩
  rw [hp.1, hp.2]
  refine wpAny_mono (hf C.fs C.A s2 g2 vs R (by rw [← hC.h₀]; exact S2.b) (hO _ _ _ _ S2) R2) ?_ fun e s'' x => hE s2 g2 S2 e s'' x
  rintro v s3 ⟨d, g3, μ3, y, B3, R3, q⟩
  exact ⟨d, g3, μ3, fun b x e => y.grow b x (k2 b x (k1 b x e)), S2.lift y (by rw [hC.h₀]; exact B3), R3, q⟩

/-- what comes to a handler -/
noncomputable def Came (W : Wd) (cls : Addr) (env : Env) (fs : List Env) (o : Org) (X : Prop) (e : Value) (s'' : Shared) : Prop :=
  X ∧ ∃ σ s g μ, St W.h₀ (env :: fs) o env σ s g μ ∧ (∀ p ∈ o.μ, p ∈ μ) ∧ Flew W cls (env :: fs) s g μ e s''

theorem offF_in {fs : List Env} {env : Env} {o : Org} {σ : Sg} {s : Shared} {g : View} {μ : Mu} (S : St W.h₀ (env :: fs) o env σ s g μ) (hf : env.frame = some env.locals) (Bo : Base W.h₀ fs o.s o.g o.μ) (hoff : OffF fs o.g o.μ) : OffF (env :: fs) g μ := by
  intro b hb
  unfold frs at hb
  rw [List.filterMap_cons, hf] at hb
  rcases List.mem_cons.mp hb with rfl | hb
  · exact ⟨(S.f.off _ List.mem_cons_self).1, (S.f.off _ List.mem_cons_self).2.1⟩
  · obtain ⟨x, hx, _⟩ := frs_there Bo.fr b hb
    obtain ⟨h1, h2⟩ := hoff b hb
    refine ⟨?_, fun hm => ?_⟩
    · cases e : g b with
      | none => rfl
      | some y =>
        rcases S.st.new b y e with h | h | h
        · rw [h1] at h; cases h
        · exact absurd h h2
        · rw [hx] at h; cases h
    · rcases S.st.dom b hm with h | h
      · exact h2 h
      · rw [hx] at h; cases h

theorem return_none {cls : Addr} (P : PW W) (N : NI W cls) {fs : List Env} {env : Env} {A : Around} {o : Org} {X : Prop} {e : Value} {s'' : Shared} {n : Nat} {np hpos pos p : Pos} {k : Nat} {Q : Flow → Shared → Prop} {E : Value → Shared → Prop}
    (R : Room A n (env :: fs)) (hf : env.frame = some env.locals) (hkind : env.scope.kind = .function) (hgl : env.globals = mainGlobals) (hnew : ∀ b ∈ wrt env, o.s.heap.get? b = none) (Bo : Base W.h₀ fs o.s o.g o.μ) (hoff : OffF fs o.g o.μ)
    (hx : env.kindOf ("NoInverse" : Str) = some .globalImplicit) (hc : Came W cls env fs o X e s'')
    (q : ∀ s' g', Step (frs fs) o.s o.g o.μ s' g' o.μ → FrUp fs o.s.heap s'.heap → Base W.h₀ fs s' g' o.μ → Q (.ret .none) s') :
    wpAny (model W.prog W.w) A (noteFrame e env) (fun _ s₂ => wpAny (model W.prog W.w) A (setFlight e none) (fun _ s₃ =>
      wpAny (model W.prog W.w) A (handleBy e env [.ExceptHandler (some (.Name ("NoInverse" : Str) np)) none [.Return (some (.Constant .none k p)) pos] hpos]) Q E s₃) E s₂) E s'' := by
  obtain ⟨hX, σ, s, g, μ, S, hμ, g', μ', B, ea, t, rfl, y, fu, F, kB, gB, mB, nd, hw, hμ'⟩ := hc
  have hfr := R.frames
  refine wpAny_looks_onW hfr hf F fun h₄ hh₄ u₄ => ?_
  refine wpAny_landsW hh₄ fun h₅ F₅ u₅ => ?_
  obtain ⟨ob, hob, hobc⟩ := F₅.there
  obtain ⟨tl, Nn, nm, qq, bs, hdct, sn, sub, ab, col, dd, k0, k1, k2, k3, k5, mN, hCo, hN, hni, T⟩ := N.obj
  have kk : ∀ b x, W.h₀.get? b = some x → h₅.get? b = some x := fun b x e => F₅.1 b x (gB b x (hw b x e))
  refine wpAny_handleBy_cons (codeAny_handlers_test ?_) (by intro q; cases q)
  refine Name_function_global hkind hx (loadGlobal_global (by rw [hgl]; exact P.ok.g.keeps kk) N.bound ?_) (by decide +kernel)
  refine wpAny_excMatches_sub_self (kk _ _ hCo) hob hobc (T.tail.hasType (by decide)) (codeAny_handlers_suite ?_)
  refine lands_againW F₅ fun h₆ F₆ u₆ => ?_
  refine wpAny_execs_cons (wpAny_Return_some (wpAny_Constant_none ?_))
  -- the state that is left
  have fresh : env.locals ∈ wrt env := List.mem_cons_self
  have yy : Step (frs (env :: fs)) o.s o.g o.μ s'' g' μ' := (S.st.mono fun b hb => .inr (hnew b hb)).trans y
  have upto : s''.heap.UpToSlots h₆ := (u₄.trans u₅).trans u₆
  have inB : ∀ b x, o.s.heap.get? b = some x → b ∉ o.μ.map (·.1) → b ∉ frs fs → B.get? b = some x := fun b x e hb hf' => by
    have hbw : b ∉ wrt env := fun hw => by have := hnew b hw; rw [e] at this; cases this
    refine kB b x (S.st.keep b x hb hbw e) (fun hm => ?_) fun hm => ?_
    · rcases S.st.dom b hm with h | h
      · exact hb h
      · rw [e] at h; cases h
    · unfold frs at hm
      rw [List.filterMap_cons, hf] at hm
      rcases List.mem_cons.mp hm with rfl | hm
      · exact hbw fresh
      · exact hf' hm
  have fup : FrUp fs o.s.heap h₆ := fun b hb x e => by
    obtain ⟨z, hz, hd⟩ := frs_there Bo.fr b hb
    rw [hz] at e; cases e
    have hbw : b ∉ wrt env := fun hw => by have := hnew b hw; rw [hz] at this; cases this
    have e1 := S.st.keep b x (hoff b hb).2 hbw hz
    obtain ⟨sl, e2⟩ := fu b (by unfold frs; rw [List.filterMap_cons, hf]; exact List.mem_cons_of_mem _ hb) x e1
    obtain ⟨sl', e3⟩ := upto b _ e2 hd
    exact ⟨_, e3⟩
  have gv : ∀ b x, g' b = some x → h₆.get? b = some x := fun b x e => F₆.1 b x (gB b x e)
  have bas : Base W.h₀ fs { s'' with heap := h₆ } g' o.μ := by
    refine ⟨hw, gv, fun a xs hm => ?_, Bo.nd, ?_⟩
    · obtain ⟨⟨vs, h1, h2⟩, h3⟩ := mB a xs (hμ' _ (hμ _ hm))
      exact ⟨⟨vs, h1.at (F₆.1 _), h2⟩, h3⟩
    · exact (funFrames_base (fun b x e => gB b x (hw b x e)) F₆.2.2.1).2.2
  refine q { s'' with heap := h₆ } g' ⟨?_, fun b x e => ?_, fun b x hb hx e => F₆.1 b x (inB b x e hb hx), yy.grow, yy.new, fun a ha => .inl ha⟩ fup bas
  · obtain ⟨h1, t1, e1⟩ := yy.same
    exact ⟨h₆, t1, by rw [e1]⟩
  · by_cases h1 : b ∈ o.μ.map (·.1)
    · obtain ⟨p, hp, rfl⟩ := List.mem_map.mp h1
      obtain ⟨⟨vs, ⟨n, ho⟩, _⟩, _⟩ := bas.m p.1 p.2 hp
      exact ⟨_, ho⟩
    · by_cases h2 : b ∈ frs fs
      · obtain ⟨sl, e2⟩ := fup b h2 x e
        exact ⟨_, e2⟩
      · exact ⟨x, F₆.1 b x (inB b x e h1 h2)⟩

variable {W : Wd}
theorem getD_some {α : Type} {l : List α} {j : Nat} {d : α} (h : j < l.length) : l[j]? = some (l.getD j d) := by
  rw [List.getD_eq_getElem?_getD, List.getElem?_eq_getElem h]; rfl
theorem rowGet {B n i : Nat} {m : Mat} (h : Sq n m) (hi : i < n) : (m.map (dSL B))[i]? = some (dSL B (m.getD i [])) := get_map _ (h.row hi).1
theorem elGet {B n i j : Nat} {m : Mat} (h : Sq n m) (hi : i < n) (hj : j < n) : ((m.getD i []).map (dS B))[j]? = some (dS B (en m i j)) :=
  get_map _ (getD_some (by rw [(h.row hi).2.2]; exact hj))
theorem WInv.bnd {n k x : Nat} {m : Mat} (h3 : n ≤ 3) (hk : k < n) (w : WInv n k (2 ^ bdE k) m x) : Bnd (2 ^ 763) m := by
  intro i j
  rcases w with ⟨_, B⟩ | ⟨M, h0, _, w2, B, _, w5, _⟩
  · refine Nat.le_trans (B i j) (pow_le ?_)
    rcases (show k = 0 ∨ k = 1 ∨ k = 2 by omega) with rfl | rfl | rfl <;> decide
  · refine Nat.le_trans (B i j) (Nat.le_trans (Nat.le_trans ?_ w5) (Nat.le_trans (kOf_small h3 h0) (pow_le (by decide))))
    rw [Nat.mul_assoc]
    exact Nat.le_mul_of_pos_right _ (Nat.mul_pos w2 w2)
theorem lt_of_pow {x e f : Nat} (h : x ≤ 2 ^ e) (k : e < f) : x < 2 ^ f := Nat.lt_of_le_of_lt h (Nat.pow_lt_pow_right (by decide) k)

/-- the rows from k on that have something in column k -/
noncomputable def spots (m : Mat) (n k : Nat) : List Nat := ((List.range (n - k)).filter fun i => decide (en m (k + i) k ≠ 0)).map (k + ·)
theorem mem_spots {m : Mat} {n k s : Nat} : s ∈ spots m n k ↔ k ≤ s ∧ s < n ∧ en m s k ≠ 0 := by
  unfold spots
  simp only [List.mem_map, List.mem_filter, List.mem_range, decide_eq_true_eq]
  constructor
  · rintro ⟨i, ⟨h1, h2⟩, rfl⟩; exact ⟨by omega, by omega, h2⟩
  · rintro ⟨h1, h2, h3⟩
    have e : k + (s - k) = s := by omega
    exact ⟨s - k, ⟨by omega, by rw [e]; exact h3⟩, e⟩
theorem spots_len {m : Mat} {n k : Nat} : (spots m n k).length ≤ n := by
  unfold spots
  rw [List.length_map]
  exact Nat.le_trans (List.length_filter_le _ _) (by simp)
theorem two_spots {m : Mat} {n k l : Nat} (h0 : 0 < (spots m n k).length) (h1 : (spots m n k).length ≠ 1) : ∃ i, k ≤ i ∧ i < n ∧ i ≠ l ∧ en m i k ≠ 0 := by
  have nd : (spots m n k).Nodup := by
    unfold spots
    exact List.Pairwise.map _ (fun a b h e => h (Nat.add_left_cancel e)) (List.Pairwise.filter _ List.nodup_range)
  have M := fun s => @mem_spots m n k s
  generalize spots m n k = L at *
  match L, h0, h1 with
  | [x], _, h1 => exact absurd rfl h1
  | x :: y :: r, _, _ =>
    obtain ⟨x1, x2, x3⟩ := (M x).mp List.mem_cons_self
    obtain ⟨y1, y2, y3⟩ := (M y).mp (List.mem_cons_of_mem _ List.mem_cons_self)
    have hxy : x ≠ y := fun e => (List.nodup_cons.mp nd).1 (e ▸ List.mem_cons_self)
    by_cases h : x = l
    · exact ⟨y, y1, y2, fun e => hxy (h.trans e.symm), y3⟩
    · exact ⟨x, x1, x2, h, x3⟩
theorem sign_ne {x : Int} : x.sign ≠ 0 ↔ x ≠ 0 := by
  rw [Ne, Int.sign_eq_zero_iff_zero]

theorem fnx_hermite {cls : Addr} (P : PW W) (N : NI W cls) (w : Nat) (hw : 3 ≤ w) (hw8 : w ≤ 8) (n : Nat) (h1 : 1 ≤ n) (h3 : n ≤ 3) (a : Mat) (hsq : Sq n a) (hb : Bnd (2 ^ 15) a) (μ : Mu) (Q : D → Mu → Prop)
    (q : ∀ m, FormOf n a (some m) → Q (dSM (2 ^ w) m) μ) : FNX W cls 553 (P.addr 23) [dSM (2 ^ w) a, .int w, .ref (P.addr 29), .ref (P.addr 30)] μ Q (FormOf n a none) := by
  have hB := two_le hw
  refine fnx_intro P (P.d 23 (by decide)) rfl rfl rfl (by decide +kernel) rfl (by decide +kernel) (by decide +kernel) fun fs A o L q' cd E R hE hX => ?_
  refine xs_cons (x_assign ?_ (by rfl))
  refine ev_compM (cl := []) (compOk rfl .nil (by decide +kernel) rfl (by decide +kernel)) (comp_map ?_)
  refine src_list R.handled (fun e he => kind_of_scope he rfl) ?_
  walk_at "e"
  refine ⟨by simp [sizeLine, hsq.1]; omega, [], fun j => dSL (2 ^ w) (a.getD j []), .nil, .nil, fun i => .nil, ?_, ?_⟩
  · intro i ys D a' o' hi hD
    rw [List.length_map, hsq.1] at hi
    obtain ⟨e1, _, e2⟩ := hsq.row hi
    dsimp only
    rw [getD_map (dSL (2 ^ w)) e1]
    refine ev_slice ?_
    walk_at "e"
    refine evo_none (evo_none ?_)
    refine ⟨_, none, none, .inl rfl, by rw [List.length_map, e2]; simp [sizeLine]; omega, .inl ⟨rfl, rfl⟩, .inl ⟨rfl, rfl⟩, .inl rfl, (by simp), (by simp), ?_⟩
    exact ⟨rfl, rfl⟩
  rw [List.length_map, range_map (fun j => dSL (2 ^ w) (a.getD j [])) (dSL (2 ^ w)) a fun i x h => by rw [List.getD_eq_getElem?_getD, h]; rfl]
  intro ra hra
  refine an_cell rfl rfl rfl ?_
  refine xs_cutS (α := Mat) (fun _ => [("rows", .ref ra)]) (fun m => (ra, m.map (dSL (2 ^ w))) :: μ) (fun m => FormOf n a (some m)) ?_ ?_
  rotate_left
  · intro m hm
    refine xs_ret ?_
    refine ev_nameFz rfl rfl (.inr rfl) (μ₁ := []) rfl ?_
    exact q m hm
  refine x_forL (α := Mat) (fun _ => [("rows", .ref ra), ("w", .int w), ("mul", .ref (P.addr 29)), ("divrem", .ref (P.addr 30))]) (fun m => (ra, m.map (dSL (2 ^ w))) :: μ) hE ?_
  refine s_range1S P R.handled (by rintro _ rfl; exact .inr ⟨rfl, rfl, rfl⟩) ?_
  refine ev_len P ?_
  walk_at "e"
  refine ⟨_, .inr ⟨_, rfl, List.mem_cons_self⟩, by rw [List.length_map, hsq.1]; omega, ?_⟩
  rw [List.length_map, hsq.1]
  refine ⟨n, rfl, by omega, fun k m => Good a n k m ∧ Bnd (2 ^ bdE k) m, a, .cons rfl (.cons rfl (.cons rfl (.cons rfl .nil))), rfl, ⟨Good.start hsq, hb⟩, ?_, fun m ⟨G, B⟩ => ⟨rfl, m, G.form h1 h3 B, .cons rfl .nil, rfl⟩⟩
  intro k m o' hk ⟨G, B⟩ back
  refine xs_abs fun Q0 hQ0 => ?_
  refine xs_cutS (α := Mat) (fun _ => [("at", .int k), ("rows", .ref ra), ("w", .int w), ("mul", .ref (P.addr 29)), ("divrem", .ref (P.addr 30))]) (fun m => (ra, m.map (dSL (2 ^ w))) :: μ) (fun m => Clear a n k m ∧ en m k k ≠ 0) ?_ ?_
  · refine x_whileC (α := Mat × Nat) (fun _ => [("at", .int k), ("rows", .ref ra), ("w", .int w), ("mul", .ref (P.addr 29)), ("divrem", .ref (P.addr 30))]) (fun p => (ra, p.1.map (dSL (2 ^ w))) :: μ) (fun p => Good a n k p.1 ∧ WInv n k (2 ^ bdE k) p.1 p.2) (·.2) (m, 2 ^ bdE k + 1) hE
      (.cons rfl (.cons rfl (.cons rfl (.cons rfl (.cons rfl .nil))))) rfl ⟨G, .inl ⟨rfl, B⟩⟩ ?_
    clear G B m
    rintro ⟨m, x⟩ ⟨G, w0⟩
    dsimp only at G w0
    dsimp only
    have hs := G.sq
    have B := w0.bnd h3 hk
    have small : ∀ i j, (en m i j).natAbs < 2 ^ 1600 := fun i j => lt_of_pow (B i j) (by decide)
    refine ct_bool (ev_true ⟨true, rfl, fun _ => ?_, fun h => (nomatch h)⟩)
    refine xs_abs fun Q1 hQ1 => ?_
    refine xs_cons (x_comp (cl := [("rows", L + 1), ("at", L + 2)]) (compOk rfl (.cons rfl (.inl rfl) (.cons rfl (.inl rfl) .nil)) (by decide +kernel) rfl (by decide +kernel)) (by rfl) rfl (comp_filter ?_))
    refine s_range2 P R.handled (fun e he => kind_of_scope he rfl) ?_
    walk_at "e"
    refine ev_len P ?_
    walk_at "e"
    refine ⟨_, .inr ⟨_, rfl, List.mem_cons_self⟩, by rw [List.length_map, hs.1]; omega, ?_⟩
    rw [List.length_map, hs.1]
    refine ⟨k, n, rfl, rfl, by omega, by omega, ?_⟩
    refine ⟨by simp [sizeLine]; omega, [("at", .int k), ("rows", .ref ra)], fun i => .int ((k + i : Nat) : Int), fun i => decide (en m (k + i) k ≠ 0), .cons rfl (.cons rfl .nil), .cons (k := some .cell) rfl (by decide) (.cons (k := some .cell) rfl (by decide) .nil), fun i => .cons rfl (.cons rfl .nil), ?_, ?_, ?_⟩
    · intro i ys D a' o'' hi hD
      have hki : k + i < n := by omega
      refine ct_ne ?_
      refine ev_cal P 15 (n := 3) (R.less (by first | decide | omega)) ?_
      refine evs_cons ?_
      refine ev_itemL ?_
      refine ev_itemL ?_
      walk_at "nm"
      walk_at "nm"
      refine ⟨_, k + i, _, .inr ⟨_, rfl, .tail _ (.head _)⟩, rfl, by omega, rowGet hs hki, ?_⟩
      walk_at "nm"
      refine ⟨_, k, _, .inl rfl, rfl, by omega, elGet hs hki hk, ?_⟩
      walk_at "e"
      refine fn_s_sign P _ _ _ hB (small _ _) _ _ ?_
      walk_at "e"
      exact ⟨fun h => ⟨decide_eq_true (sign_ne.mp h), rfl⟩, fun h => ⟨decide_eq_false (fun k => k (Int.sign_eq_zero_iff_zero.mp h)), rfl⟩⟩
    · intro i ys D a' o'' hi hD hp
      walk_at "e"
      exact ⟨rfl, rfl⟩
    have hsp : (((List.range (n - k)).filter fun i => decide (en m (k + i) k ≠ 0)).map fun i => D.int ((k + i : Nat) : Int)) = (spots m n k).map fun n : Nat => D.int n := by
      unfold spots; rw [List.map_map]; rfl
    rw [hsp]
    clear hsp
    have hlen := spots_len (m := m) (n := n) (k := k)
    refine xs_ifC (ct_eq ?_)
    refine ev_lenN P ?_
    walk_at "e"
    refine ⟨by omega, ?_⟩
    walk_at "e"
    refine ⟨fun h0 => ?_, fun h0 => ?_⟩
    · have none : FormOf n a none := G.none h1 h3 hk fun i a b => Classical.byContradiction fun c => by
        have := List.length_pos_of_mem (mem_spots.mpr ⟨a, b, c⟩)
        omega
      exact xs_cons (x_raise P N ⟨rfl, rfl, rfl, rfl, rfl⟩ R.handled rfl rfl fun s g S => hX none _ s g _ (fun p hp => List.mem_cons_of_mem _ hp) (back _ _ _ _ S))
    walk_at "e"
    have hpos : 0 < (spots m n k).length := by omega
    clear h0
    refine ev_itemN ?_
    walk_at "e"
    refine ⟨_, 0, _, rfl, rfl, by omega, getD_some (d := 0) hpos, ?_⟩
    walk_at "e"
    refine xs_cutS (α := Nat) (fun l => [("least", .int l), ("some", dN (spots m n k)), ("at", .int k), ("rows", .ref ra), ("w", .int w), ("mul", .ref (P.addr 29)), ("divrem", .ref (P.addr 30))]) (fun _ => (ra, m.map (dSL (2 ^ w))) :: μ) (fun l => Least n k m l) ?_ ?_
    · refine x_for (α := Nat) (fun l => [("least", .int l), ("some", dN (spots m n k)), ("at", .int k), ("rows", .ref ra), ("w", .int w), ("mul", .ref (P.addr 29)), ("divrem", .ref (P.addr 30))]) (fun _ => (ra, m.map (dSL (2 ^ w))) :: μ) hE ?_
      refine src_list R.handled (by rintro _ rfl; rfl) ?_
      walk_at "e"
      rw [List.length_map]
      refine ⟨fun i l => l ∈ spots m n k ∧ ∀ j s, j < i → (spots m n k)[j]? = some s → (en m l k).natAbs ≤ (en m s k).natAbs, (spots m n k).getD 0 0, .cons rfl (.cons rfl (.cons rfl (.cons rfl (.cons rfl (.cons rfl (.cons rfl .nil)))))), rfl, ⟨List.mem_of_getElem? (getD_some hpos), by intro j s hj; omega⟩, ?_, ?_⟩
      · intro i l o'' hi ⟨hl, hle⟩
        have hsx := getD_some (d := 0) hi
        dsimp only
        rw [dN_getD hsx]
        obtain ⟨s1, s2, s3⟩ := mem_spots.mp (List.mem_of_getElem? hsx)
        generalize hsE : (spots m n k).getD i 0 = s at *
        obtain ⟨l1, l2, l3⟩ := mem_spots.mp hl
        refine xs_ifC (ct_lt ?_)
        refine ev_cal P 7 (n := 3) (R.less (by first | decide | omega)) ?_
        refine evs_cons ?_
        refine ev_snd ?_
        refine ev_itemL ?_
        refine ev_itemL ?_
        walk_at "nm"
        walk_at "nm"
        refine ⟨_, s, _, .inr ⟨_, rfl, .head _⟩, rfl, by omega, rowGet hs s2, ?_⟩
        walk_at "nm"
        refine ⟨_, k, _, .inl rfl, rfl, by omega, elGet hs s2 hk, _, _, _, rfl, ?_⟩
        refine evs_cons ?_
        refine ev_snd ?_
        refine ev_itemL ?_
        refine ev_itemL ?_
        walk_at "nm"
        walk_at "nm"
        refine ⟨_, l, _, .inr ⟨_, rfl, .head _⟩, rfl, by omega, rowGet hs l2, ?_⟩
        walk_at "nm"
        refine ⟨_, k, _, .inl rfl, rfl, by omega, elGet hs l2 hk, _, _, _, rfl, ?_⟩
        walk_at "e"
        refine fn_compare P _ _ _ _ hB (small _ _) (small _ _) _ _ ?_
        walk_at "e"
        refine ⟨fun hc => ?_, fun hc => ?_⟩
        · walk_at "e"
          have hlt : (en m s k).natAbs < (en m l k).natAbs := by
            unfold cmpN at hc
            split at hc
            · assumption
            · split at hc <;> simp at hc
          refine ⟨s, ⟨List.mem_of_getElem? hsx, fun j t hj ht => ?_⟩, .cons rfl (.cons rfl (.cons rfl (.cons rfl (.cons rfl (.cons rfl (.cons rfl .nil)))))), rfl⟩
          rcases (show j < i ∨ j = i by omega) with h | rfl
          · exact Nat.le_trans (Nat.le_of_lt hlt) (hle j t h ht)
          · rw [hsx] at ht; cases ht; exact Nat.le_refl _
        · walk_at "e"
          have hge : (en m l k).natAbs ≤ (en m s k).natAbs := by
            unfold cmpN at hc
            split at hc
            · simp at hc
            · omega
          refine ⟨l, ⟨hl, fun j t hj ht => ?_⟩, .cons rfl (.cons rfl (.cons rfl (.cons rfl (.cons rfl (.cons rfl (.cons rfl .nil)))))), rfl⟩
          rcases (show j < i ∨ j = i by omega) with h | rfl
          · exact hle j t h ht
          · rw [hsx] at ht; cases ht; exact hge
      · intro l ⟨hl, hle⟩
        obtain ⟨l1, l2, l3⟩ := mem_spots.mp hl
        refine ⟨rfl, l, ⟨l1, l2, l3, fun i a b c => ?_⟩, Sub.refl, rfl⟩
        obtain ⟨j, hj, e⟩ := List.mem_iff_getElem.mp (mem_spots.mpr ⟨a, b, c⟩)
        exact hle j i hj (by rw [List.getElem?_eq_getElem hj, e])
    intro l Ll
    have l2 := Ll.hi
    have hs1 := swp_sq hs hk l2
    refine xs_cons (x_unpack ?_)
    refine ev_tuple ?_
    refine evs_cons ?_
    refine ev_itemL ?_
    walk_at "nm"
    walk_at "nm"
    refine ⟨_, l, _, .inr ⟨_, rfl, .head _⟩, rfl, by omega, rowGet hs l2, ?_⟩
    refine evs_cons ?_
    refine ev_itemL ?_
    walk_at "nm"
    walk_at "nm"
    refine ⟨_, k, _, .inr ⟨_, rfl, .head _⟩, rfl, by omega, rowGet hs hk, ?_⟩
    walk_at "e"
    refine ⟨by first | exact Nat.le_of_ble_eq_true rfl | simp [sizeLine], ?_⟩
    refine as_tuple R.handled (asl_cons (as_item ?_))
    walk_at "nm"
    walk_at "nm"
    refine ⟨_, k, _, [], μ, rfl, rfl, rfl, by rw [List.length_map, hs.1]; exact hk, by omega, ?_⟩
    refine asl_cons (as_item ?_)
    walk_at "nm"
    walk_at "nm"
    refine ⟨_, l, _, [], μ, rfl, rfl, rfl, by rw [List.length_set, List.length_map, hs.1]; exact l2, by omega, ?_⟩
    refine asl_nil ?_
    rw [show ([] : Mu) ++ (ra, ((m.map (dSL (2 ^ w))).set k (dSL (2 ^ w) (m.getD l []))).set l (dSL (2 ^ w) (m.getD k []))) :: μ = (ra, (swp m k l).map (dSL (2 ^ w))) :: μ by unfold swp; rw [List.map_set, List.map_set]; rfl]
    refine xs_ifC (ct_eq ?_)
    refine ev_lenN P ?_
    walk_at "e"
    refine ⟨by omega, ?_⟩
    walk_at "e"
    refine ⟨fun h0 => ?_, fun h0 => ?_⟩
    · walk_at "e"
      obtain ⟨z, hz⟩ := List.length_eq_one_iff.mp (show (spots m n k).length = 1 by omega)
      have hlz : l = z := List.mem_singleton.mp (hz ▸ mem_spots.mpr ⟨Ll.lo, l2, Ll.ne⟩)
      have only : ∀ i, k ≤ i → i < n → i ≠ l → en m i k = 0 := fun i a b c => Classical.byContradiction fun d =>
        c ((List.mem_singleton.mp (hz ▸ mem_spots.mpr ⟨a, b, d⟩)).trans hlz.symm)
      obtain ⟨r1, r2, r3⟩ := round_ends (bd_pos k) hs hk w0 Ll only
      exact hQ1 _ _ _ ⟨rfl, swp m k l, ⟨⟨G.swp h1 h3 hk l2 Ll.lo, r1, r3⟩, r2⟩, .cons rfl (.cons rfl (.cons rfl (.cons rfl (.cons rfl .nil)))), rfl⟩
    walk_at "e"
    have other := two_spots (l := l) hpos (fun e => h0 (by rw [e]; rfl))
    have hk1 : k + 1 < n := by
      obtain ⟨i, i1, i2, i3, _⟩ := other
      have := Ll.lo
      omega
    obtain ⟨hx, sizes⟩ := round_sizes (bd_pos k) hs hk w0 Ll other
    have G1 := G.swp h1 h3 hk l2 Ll.lo
    have lt : ∀ {y : Nat}, y ≤ kOf (2 ^ bdE k) → y < 2 ^ 1599 := fun h => lt_of_pow (Nat.le_trans h (kOf_small h3 hk1)) (by decide)
    have ckk : en (swp m k l) k k ≠ 0 := by
      rw [en_swp hs hk l2]
      split
      · rename_i e; have := Ll.ne; rw [← e] at this; exact this
      · rw [if_pos rfl]; exact Ll.ne
    refine xs_cons (x_for (α := Mat) (fun _ => [("at", .int k), ("rows", .ref ra), ("w", .int w), ("mul", .ref (P.addr 29)), ("divrem", .ref (P.addr 30))]) (fun m => (ra, m.map (dSL (2 ^ w))) :: μ) hE ?_)
    refine s_range2 P R.handled (by rintro _ rfl; rfl) ?_
    walk_at "e"
    refine ev_len P ?_
    walk_at "e"
    refine ⟨_, .inr ⟨_, rfl, .head _⟩, by rw [List.length_map, hs1.1]; omega, ?_⟩
    rw [List.length_map, hs1.1]
    refine ⟨k + 1, n, rfl, rfl, by omega, by omega, fun i m' => Good a n k m' ∧ (∀ s, ¬ (k < s ∧ s < k + 1 + i) → m'.getD s [] = (swp m k l).getD s []) ∧ ∀ s, k < s → s < k + 1 + i → m'.getD s [] = lessq (swp m k l) k s, swp m k l,
      .cons rfl (.cons rfl (.cons rfl (.cons rfl (.cons rfl .nil)))), rfl, ⟨G1, fun _ _ => rfl, fun s a b => by omega⟩, ?_, ?_⟩
    · intro i m' o'' hi ⟨G', keep, chg⟩
      have hs' := G'.sq
      have e0 := keep (k + 1 + i) (by omega)
      have e1 := keep k (by omega)
      have hi' : k + 1 + i < n := by omega
      have sz := sizes (k + 1 + i) (by omega) hi'
      refine xs_cons (x_setitem ?_)
      refine ev_cal P 24 (n := 550) (R.less (by first | decide | omega)) ?_
      refine evs_cons ?_
      refine ev_itemL ?_
      walk_at "nm"
      walk_at "nm"
      refine ⟨_, k + 1 + i, _, .inr ⟨_, rfl, .head _⟩, rfl, by omega, rowGet hs' hi', ?_⟩
      refine evs_cons ?_
      refine ev_itemL ?_
      walk_at "nm"
      walk_at "nm"
      refine ⟨_, k, _, .inr ⟨_, rfl, .head _⟩, rfl, by omega, rowGet hs' hk, ?_⟩
      walk_at "e"
      rw [e0, e1]
      refine fn_lessened P w hw hw8 _ _ _ k (by rw [(hs1.row hi').2.2]; omega) (by rw [(hs1.row hi').2.2, (hs1.row hk).2.2]) (by rw [(hs1.row hi').2.2]; exact hk) ckk (fun j => ⟨lt (sz j).1, lt (sz j).2.1, lt (sz j).2.2.1⟩) (lt (sz 0).2.2.2) _ _ ?_
      refine as_item ?_
      walk_at "nm"
      walk_at "nm"
      refine ⟨_, k + 1 + i, _, [], μ, rfl, rfl, rfl, by rw [List.length_map, hs'.1]; exact hi', by omega, ?_⟩
      walk_at "e"
      refine ⟨m'.set (k + 1 + i) (lessq (swp m k l) k (k + 1 + i)), ⟨?_, fun s h => ?_, fun s a b => ?_⟩, .cons rfl (.cons rfl (.cons rfl (.cons rfl (.cons rfl .nil)))), ?_⟩
      · have := G'.sub h1 h3 hk hi' (by omega) ((en (swp m k l) (k + 1 + i) k).fdiv (en (swp m k l) k k))
        rw [e0, e1] at this
        exact this
      · rw [getD_set (by rw [hs'.1]; exact hi'), if_neg (by omega)]
        exact keep s (by omega)
      · rw [getD_set (by rw [hs'.1]; exact hi')]
        split
        · rename_i e; rw [e]
        · exact chg s a (by omega)
      · (try dsimp only); rw [List.map_set]; rfl
    · intro m' ⟨G', keep, chg⟩
      rw [show k + 1 + (n - (k + 1)) = n by omega] at keep chg
      walk_at "e"
      exact hQ1 _ _ _ ⟨(m', (en m l k).natAbs), ⟨G', round_goes (bd_pos k) hs hk w0 Ll other keep chg⟩, Sub.refl, rfl, hx⟩
  · rintro m1 ⟨C1, c0⟩
    clear G B m
    have hs := C1.good.sq
    refine xs_cutS (α := Mat) (fun _ => [("at", .int k), ("rows", .ref ra), ("w", .int w), ("mul", .ref (P.addr 29)), ("divrem", .ref (P.addr 30))]) (fun m => (ra, m.map (dSL (2 ^ w))) :: μ) (fun m => Clear a n k m ∧ 0 < en m k k) ?_ ?_
    · refine x_ifC (ct_bool ?_)
      refine ev_fst ?_
      refine ev_itemL ?_
      refine ev_itemL ?_
      walk_at "nm"
      walk_at "nm"
      refine ⟨_, k, _, .inr ⟨_, rfl, .head _⟩, rfl, by omega, rowGet hs hk, ?_⟩
      walk_at "nm"
      refine ⟨_, k, _, .inl rfl, rfl, by omega, elGet hs hk hk, _, _, rfl, _, rfl, fun h => ?_, fun h => ?_⟩
      · have hneg : en m1 k k < 0 := of_decide_eq_true h
        obtain ⟨C2, e2⟩ := C1.neg h1 h3 hk
        refine xs_cons (x_setitem ?_)
        refine ev_comp (cl := []) (compOk rfl .nil (by decide +kernel) rfl (by decide +kernel)) (comp_map ?_)
        refine src_list R.handled (fun e he => kind_of_scope he rfl) ?_
        refine ev_itemL ?_
        walk_at "nm"
        walk_at "nm"
        refine ⟨_, k, _, .inr ⟨_, rfl, .head _⟩, rfl, by omega, rowGet hs hk, _, rfl, ?_⟩
        rw [List.length_map]
        refine ⟨by rw [(hs.row hk).2.2]; simp [sizeLine]; omega, [], fun j => dS (2 ^ w) (-((m1.getD k []).getD j 0)), .nil, .nil, fun i => .nil, ?_, ?_⟩
        · intro i ys D a' o'' hi hD
          dsimp only
          rw [getD_map (dS (2 ^ w)) (getD_some (d := 0) hi)]
          refine ev_cal P 14 (n := 5) (R.less (by first | decide | omega)) ?_
          walk_at "e"
          have := C1.bnd k i
          exact fn_s_neg P _ _ _ hB (lt_of_pow (Nat.le_trans (C1.bnd k i) (wOf_small h3 hk)) (by decide)) _ _ ⟨rfl, rfl⟩
        rw [range_map (fun j => dS (2 ^ w) (-((m1.getD k []).getD j 0))) (fun x => dS (2 ^ w) (-x)) (m1.getD k []) fun i x h => by rw [List.getD_eq_getElem?_getD, h]; rfl]
        refine as_item ?_
        walk_at "nm"
        walk_at "nm"
        refine ⟨_, k, _, [], μ, rfl, rfl, rfl, by rw [List.length_map, hs.1]; exact hk, by omega, ?_⟩
        walk_at "e"
        refine ⟨rfl, _, ⟨C2, by rw [e2]; omega⟩, .cons rfl (.cons rfl (.cons rfl (.cons rfl (.cons rfl .nil)))), ?_⟩
        (try dsimp only); rw [List.map_set, dSL, List.map_map]; rfl
      · walk_at "e"
        have := of_decide_eq_false h
        exact ⟨rfl, m1, ⟨C1, by omega⟩, .cons rfl (.cons rfl (.cons rfl (.cons rfl (.cons rfl .nil)))), rfl⟩
    rintro m2 ⟨C2, hp⟩
    clear C1 c0 hs m1
    have hs := C2.good.sq
    refine xs_cons (x_for (α := Mat) (fun _ => [("at", .int k), ("rows", .ref ra), ("w", .int w), ("mul", .ref (P.addr 29)), ("divrem", .ref (P.addr 30))]) (fun m => (ra, m.map (dSL (2 ^ w))) :: μ) hE ?_)
    refine s_range1 P R.handled (by rintro _ rfl; rfl) ?_
    walk_at "e"
    refine ⟨by omega, fun i m' => Good a n k m' ∧ (∀ s, ¬ s < i → m'.getD s [] = m2.getD s []) ∧ ∀ s, s < i → m'.getD s [] = lessq m2 k s, m2, .cons rfl (.cons rfl (.cons rfl (.cons rfl (.cons rfl .nil)))), rfl, ⟨C2.good, fun _ _ => rfl, fun s h => by omega⟩, ?_, ?_⟩
    · intro i m' o'' hi ⟨G', keep, chg⟩
      have hs' := G'.sq
      have e0 := keep i (by omega)
      have e1 := keep k (by omega)
      have hi' : i < n := by omega
      have sz := above_sizes h3 hk C2 hp i
      refine xs_cons (x_setitem ?_)
      refine ev_cal P 24 (n := 550) (R.less (by first | decide | omega)) ?_
      refine evs_cons ?_
      refine ev_itemL ?_
      walk_at "nm"
      walk_at "nm"
      refine ⟨_, i, _, .inr ⟨_, rfl, .head _⟩, rfl, by omega, rowGet hs' hi', ?_⟩
      refine evs_cons ?_
      refine ev_itemL ?_
      walk_at "nm"
      walk_at "nm"
      refine ⟨_, k, _, .inr ⟨_, rfl, .head _⟩, rfl, by omega, rowGet hs' hk, ?_⟩
      walk_at "e"
      rw [e0, e1]
      refine fn_lessened P w hw hw8 _ _ _ k (by rw [(hs.row hi').2.2]; omega) (by rw [(hs.row hi').2.2, (hs.row hk).2.2]) (by rw [(hs.row hi').2.2]; exact hk) (Int.ne_of_gt hp) (fun j => ⟨lt_of_pow (sz j).1 (by decide), lt_of_pow (sz j).2.1 (by decide), lt_of_pow (sz j).2.2.1 (by decide)⟩) (lt_of_pow (sz 0).2.2.2 (by decide)) _ _ ?_
      refine as_item ?_
      walk_at "nm"
      walk_at "nm"
      refine ⟨_, i, _, [], μ, rfl, rfl, rfl, by rw [List.length_map, hs'.1]; exact hi', by omega, ?_⟩
      walk_at "e"
      refine ⟨m'.set i (lessq m2 k i), ⟨?_, fun s h => ?_, fun s h => ?_⟩, .cons rfl (.cons rfl (.cons rfl (.cons rfl (.cons rfl .nil)))), ?_⟩
      · have := G'.sub h1 h3 hk hi' (by omega) ((en m2 i k).fdiv (en m2 k k))
        rw [e0, e1] at this
        exact this
      · rw [getD_set (by rw [hs'.1]; exact hi'), if_neg (by omega)]
        exact keep s (by omega)
      · rw [getD_set (by rw [hs'.1]; exact hi')]
        split
        · rename_i e; rw [e]
        · exact chg s (by omega)
      · (try dsimp only); rw [List.map_set]; rfl
    · intro m' ⟨G', keep, chg⟩
      walk_at "e"
      exact hQ0 _ _ _ ⟨m', above_done h3 hk C2 hp G' keep chg, .cons rfl (.cons rfl (.cons rfl (.cons rfl .nil))), rfl⟩

variable {W : Wd}
theorem exs_run {C : Cx} {b : List Stmt} {σ : Sg} {s : Shared} {g : View} {μ : Mu} {Q : Fl → Sg → Mu → Prop} (h : EXS C b σ μ Q) (S : St C.h₀ C.fs C.o C.env σ s g μ) : wpAny (model C.prog C.w) C.A (execs b C.env) (PostS C Q) C.E s := h s g S
theorem ev_fnName {C : Cx} {σ : Sg} {μ : Mu} {Q : D → Mu → Prop} (P : PW W) (i : Nat) {x : Str} {pos : Pos} (q : Q (.ref (P.addr i)) μ)
    (hk : C.env.kindOf x = some .globalImplicit := by rfl) (hi : i ∈ idxs := by decide) (hx : x = nameF i := by decide +kernel) (hdb : (x == ("__debug__" : Str)) = false := by decide +kernel) (hC : InW W C := by exact ⟨rfl, rfl, rfl, rfl, rfl⟩) : EV C (.Name x pos) σ μ Q :=
  ev_global (hC.wok P) hC.env1 (v := .ref (P.addr i)) (by rw [hC.mg, hx]; exact P.g i hi) (fun g => .ref _) hk q hdb
theorem wrt_fresh {sc : Scope} {s : Shared} {f : Addr} {q : Str} {cd : Value} : ∀ b ∈ wrt (fenv sc s.heap.objs.size f q cd), s.heap.get? b = none := fun b hb => by
  cases e : s.heap.get? b with
  | none => rfl
  | some z =>
    exfalso
    have hlt := Heap.lt_size e
    rcases List.mem_cons.mp (wrt_sub hb) with rfl | hb'
    · exact Nat.lt_irrefl _ hlt
    · obtain ⟨p, hp, rfl⟩ := List.mem_map.mp hb'
      have hp' : p ∈ cellsFrom (s.heap.objs.size + 1) sc.names [] := hp
      have := (cellsFrom_ok sc.names (s.heap.push { cls := .type "frame", data := .dict #[] }) (s.heap.objs.size + 1) [] ⟨fun _ _ hm => (nomatch hm), List.Pairwise.nil⟩ (by rw [Heap.size_push]; exact Nat.le_refl _))
      rw [Heap.size_push] at this
      have hle := (this.empty p.1 p.2 hp').2
      exact absurd hlt (Nat.not_lt.mpr (Nat.le_of_lt hle))
theorem fr_same {fs : List Env} {s s' : Shared} {g g' : View} {μ μ' : Mu} (hoff : OffF fs g μ) (y : Step [] s g μ s' g' μ') : FrUp fs s.heap s'.heap := fun b hb x e => ⟨x.slots, y.keep b x (hoff b hb).2 (fun h => by cases h) e⟩

theorem fnf_form {cls : Addr} (P : PW W) (N : NI W cls) (w : Nat) (hw : 3 ≤ w) (hw8 : w ≤ 8) (n : Nat) (h1 : 1 ≤ n) (h3 : n ≤ 3) (a : Mat) (hsq : Sq n a) (hb : Bnd (2 ^ 15) a) (μ : Mu) (Q : D → Mu → Prop)
    (q : ∀ r, FormOf n a r → Q (dOpt r) μ) : FNF W 556 (P.addr 31) [dMat a, .int w] μ Q := by
  have hB := two_le hw
  intro fs A s g vs R B hoff RL
  refine fn_enter (n := 555) (X := fun _ _ => False) P.ok (P.d 31 (by decide)) R B RL rfl rfl rfl (by decide +kernel) rfl (by decide +kernel) (by decide +kernel) fun q' cd R' s₁ S₁ => ?_
  have hnew := wrt_fresh (sc := scopeF 31) (s := s) (f := P.addr 31) (q := q') (cd := cd)
  refine wpAny_execs_cons (wpAny_Try_except ?_)
  refine wpAny_mono (exs_run (C := W.cx fs A ⟨s, g, μ⟩ (scopeF 31) s.heap.objs.size (P.addr 31) q' cd (Came W cls (fenv (scopeF 31) s.heap.objs.size (P.addr 31) q' cd) fs ⟨s, g, μ⟩ (FormOf n a none)))
    (Q := fun fl σ₁ μ₁ => fl = .next ∧ μ₁ = μ ∧ ∃ m, FormOf n a (some m) ∧ Sub σ₁ [("found", dSM (2 ^ w) m), ("w", .int w)]) ?_ S₁) ?_ ?_
  · refine xs_cons (x_assign ?_)
    refine ev_callX (cls := cls) (X := FormOf n a none) P 23 (n := 553) (R'.less (by first | decide | omega)) (fun σ s g μ S => offF_in S rfl B hoff) ?_ ⟨rfl, rfl⟩
    refine evs_cons ?_
    refine ev_cal P 22 (n := 10) (R'.less (by first | decide | omega)) ?_
    walk_at "e"
    refine fn_m_of P w hw hw8 _ a (by rw [hsq.1]; omega) (fun r hr => ⟨by rw [hsq.2 r hr]; omega, fun x hx => ?_⟩) _ _ ?_
    · obtain ⟨i, hi, rfl⟩ := mem_row hsq hr
      obtain ⟨j, hj, rfl⟩ := List.mem_iff_getElem.mp hx
      have := hb i j
      unfold en at this
      rw [List.getD_eq_getElem?_getD (l := a.getD i []), List.getElem?_eq_getElem hj] at this
      exact lt_of_pow this (by decide)
    walk_at "e"
    refine ev_fnName P 29 ?_
    refine evs_cons ?_
    refine ev_fnName P 30 ?_
    walk_at "e"
    refine ⟨fnx_hermite P N w hw hw8 n h1 h3 a hsq hb μ _ fun m hm => ?_, fun s₂ g₂ S₂ e s'' x => ⟨x.1, _, s₂, g₂, μ, S₂, fun p hp => hp, x.2⟩⟩
    walk_at "e"
    exact ⟨rfl, rfl, m, hm, .cons rfl (.cons rfl .nil)⟩
  · rintro f s₂ ⟨fl, σ₂, g₂, μ₂, RF, S₂, rfl, rfl, m, hm, hsub⟩
    cases RF
    refine wpAny_execs_nil ?_
    show wpAny _ _ _ _ _ _
    refine wpAny_mono (exs_run (C := W.cx0 fs A ⟨s, g, μ₂⟩ (scopeF 31) s.heap.objs.size (P.addr 31) q' cd) (Q := retPost Q) ?_ (S₂.sub hsub)) ?_ fun _ _ e => e.elim
    · have hs := hm.1.1
      have hbm := hm.2.2.2
      refine xs_ret ?_
      refine ev_comp (cl := [("w", s.heap.objs.size + 1)]) (compOk rfl (.cons rfl (.inl rfl) .nil) (by decide +kernel) rfl (by decide +kernel)) (comp_map ?_)
      refine src_list R'.handled (fun e he => kind_of_scope he rfl) ?_
      walk_at "e"
      refine ⟨by simp [sizeLine, hs.1]; omega, [("w", .int w)], fun j => dInts (m.getD j []), .cons rfl .nil, .cons (k := some .cell) rfl (by decide) .nil, fun i => .cons rfl .nil, ?_, ?_⟩
      · intro i ys D a' o' hi hD
        rw [List.length_map, hs.1] at hi
        obtain ⟨e1, _, e2⟩ := hs.row hi
        dsimp only
        rw [getD_map (dSL (2 ^ w)) e1]
        refine ev_comp (cl := [("w", s.heap.objs.size + 1)]) (compOk rfl (.cons rfl (.inl rfl) .nil) (by decide +kernel) rfl (by decide +kernel)) (comp_map ?_)
        refine src_list R'.handled (fun e he => kind_of_scope he rfl) ?_
        walk_at "e"
        refine ⟨by rw [List.length_map, e2]; simp [sizeLine]; omega, [("w", .int w)], fun j => .int ((m.getD i []).getD j 0), .cons rfl .nil, .cons (k := some .cell) rfl (by decide) .nil, fun i => .cons rfl .nil, ?_, ?_⟩
        · intro j ys' D' a'' o'' hj hD'
          rw [List.length_map] at hj
          have hz := lt_of_pow (hbm i j) (show 1527 < 1600 by decide)
          dsimp only
          rw [getD_map (dS (2 ^ w)) (getD_some (d := 0) hj)]
          unfold en at hz
          generalize (m.getD i []).getD j 0 = z at *
          refine ev_ifC (ct_bool ?_)
          refine ev_fst ?_
          walk_at "nm"
          refine ⟨_, _, rfl, _, rfl, fun h => ?_, fun h => ?_⟩
          · refine ev_sub ?_
            walk_at "e"
            refine ev_cal P 28 (n := 3) (R'.less (by first | decide | omega)) ?_
            refine evs_cons ?_
            refine ev_snd ?_
            walk_at "nm"
            refine ⟨_, _, _, rfl, ?_⟩
            walk_at "e"
            refine fn_told P w hw hw8 _ _ hz _ _ ?_
            refine ⟨_, _, rfl, rfl, ?_, rfl⟩
            have := of_decide_eq_true h
            congr 1
            clear hz
            omega
          · refine ev_cal P 28 (n := 3) (R'.less (by first | decide | omega)) ?_
            refine evs_cons ?_
            refine ev_snd ?_
            walk_at "nm"
            refine ⟨_, _, _, rfl, ?_⟩
            walk_at "e"
            refine fn_told P w hw hw8 _ _ hz _ _ ?_
            have := of_decide_eq_false h
            refine ⟨?_, rfl⟩
            congr 1
            clear hz
            omega
        · refine ⟨?_, rfl⟩
          rw [List.length_map, range_map (fun j => Mine.D.int ((m.getD i []).getD j 0)) Mine.D.int (m.getD i []) fun i x h => by rw [List.getD_eq_getElem?_getD, h]; rfl]
      · rw [List.length_map, range_map (fun j => dInts (m.getD j [])) dInts m fun i x h => by rw [List.getD_eq_getElem?_getD, h]; rfl]
        exact q (some m) hm
    · rintro fl s' ⟨fd, σ', g', μ', RF, S', q'⟩
      have st : Step [] s g μ₂ s' g' μ' := S'.st.mono fun b hb => .inr (hnew b hb)
      have bs : Base W.h₀ fs s' g' μ' := ⟨S'.b.w, S'.b.v, S'.b.m, S'.b.nd, S'.b.fr.2.2⟩
      have y := st.mono (Y := frs fs) fun _ h => by cases h
      cases RF with
      | ret r => exact ⟨_, g', μ', y, fr_same hoff st, bs, r, q'⟩
      | next => exact ⟨_, g', μ', y, fr_same hoff st, bs, .none, q'⟩
      | brk => exact q'.elim
      | cont => exact q'.elim
  · intro e s'' hc
    exact return_none P N R' rfl rfl rfl hnew B hoff rfl hc fun s' g' y fu b => ⟨_, g', μ, y, fu, b, .none, q none hc.1⟩

variable {W : Wd}
theorem fn_chip (P : PW W) (fs : List Env) (bits : List Nat) (p many : Nat) (hl : bits.length < 2 ^ 20) (hp : p < 2 ^ 20) (hm : 0 < many) (ba : Addr) (μ₁ μ₂ : Mu) (Q : D → Mu → Prop)
    (q : ∀ c : Nat, c < many → Q (.int c) (μ₁ ++ (ba, [dN bits, .int ((p + 1 : Nat) : Int)]) :: μ₂)) : FN W.prog W.w W.h₀ fs 3 (P.addr 26) [.ref ba, .int many] (μ₁ ++ (ba, [dN bits, .int p]) :: μ₂) Q := by
  refine fn_intro P.ok (P.d 26 (by decide)) rfl rfl rfl (by decide +kernel) rfl (by decide +kernel) (by decide +kernel) fun A o L q' cd R => ?_
  refine xs_cons (x_assign ?_)
  refine ev_itemL ?_
  walk_at "e"
  refine ⟨_, 1, _, .inr ⟨_, rfl, List.mem_append_right _ List.mem_cons_self⟩, rfl, by decide, rfl, ?_⟩
  walk_at "e"
  refine xs_cons (x_setitem ?_)
  walk_at "e"
  refine as_item ?_
  walk_at "e"
  refine ⟨_, 1, _, μ₁, μ₂, rfl, rfl, rfl, by simp, by decide, ?_⟩
  show EXS _ _ _ (μ₁ ++ (ba, [dN bits, .int ((p : Int) + 1)]) :: μ₂) _
  rw [show (p : Int) + 1 = ((p + 1 : Nat) : Int) by omega]
  walk_at "e"
  refine ev_mod ?_
  refine EV.mono (Q' := fun d μ' => (∃ v : Nat, d = .int v) ∧ μ' = μ₁ ++ (ba, [dN bits, .int ((p + 1 : Nat) : Int)]) :: μ₂) ?_ ?_
  · refine ev_ifC (ct_lt ?_)
    walk_at "e"
    refine ev_lenN P ?_
    refine ev_itemL ?_
    walk_at "e"
    refine ⟨_, 0, _, .inr ⟨_, rfl, List.mem_append_right _ List.mem_cons_self⟩, rfl, by decide, rfl, _, rfl, by omega, ?_⟩
    walk_at "e"
    refine ⟨fun h => ?_, fun h => ?_⟩
    · refine ev_itemN ?_
      refine ev_itemL ?_
      walk_at "e"
      refine ⟨_, 0, _, .inr ⟨_, rfl, List.mem_append_right _ List.mem_cons_self⟩, rfl, by decide, rfl, ?_⟩
      walk_at "e"
      exact ⟨bits, p, _, rfl, rfl, by omega, getD_some (d := 0) (by omega), ⟨_, rfl⟩, rfl⟩
    · walk_at "e"
      refine ev_div ?_
      walk_at "e"
      refine ⟨by decide, Nat.lt_of_lt_of_le (by decide : (2 : Int).natAbs < 2 ^ 2) (Nat.pow_le_pow_right (by decide) (by decide)), ?_⟩
      walk_at "e"
      rw [show ((2 : Int)) = ((2 : Nat) : Int) by rfl, fdiv_cast]
      exact ⟨⟨p + p / 2 + 2, by congr 1⟩, rfl⟩
  rintro _ _ ⟨⟨v, rfl⟩, rfl⟩
  walk_at "e"
  refine ⟨by omega, ?_⟩
  rw [fmod_cast]
  exact q _ (Nat.mod_lt _ hm)

theorem Bnd.mem {N : Nat} {m : Mat} (B : Bnd N m) {r : List Int} (hr : r ∈ m) {x : Int} (hx : x ∈ r) : x.natAbs ≤ N := by
  obtain ⟨i, hi, rfl⟩ := List.mem_iff_getElem.mp hr
  obtain ⟨j, hj, rfl⟩ := List.mem_iff_getElem.mp hx
  have := B i j
  unfold en at this
  rw [List.getD_eq_getElem?_getD, List.getD_eq_getElem?_getD, List.getElem?_eq_getElem hi] at this
  dsimp only [Option.getD] at this
  rw [List.getElem?_eq_getElem hj] at this
  exact this
theorem Bnd.of {N : Nat} {m : Mat} (h : ∀ r ∈ m, ∀ x ∈ r, x.natAbs ≤ N) : Bnd N m := fun i j => by
  unfold en
  rcases Nat.lt_or_ge i m.length with hi | hi
  · have hr := List.mem_of_getElem? (getD_some (d := []) hi)
    rcases Nat.lt_or_ge j (m.getD i []).length with hj | hj
    · exact h _ hr _ (List.mem_of_getElem? (getD_some (d := 0) hj))
    · rw [List.getD_eq_getElem?_getD (l := m.getD i []), List.getElem?_eq_none hj]; simp
  · rw [List.getD_eq_getElem?_getD (l := m), List.getElem?_eq_none hi]; simp
theorem minor_ok {N k i : Nat} {m : Mat} (hk : k ≤ 2) (h : Sq (k + 1) m) (B : Bnd N m) (hi : i < k + 1) : Sq k (minor m i) ∧ Bnd N (minor m i) := by
  refine ⟨?_, Bnd.of fun r hr x hx => ?_⟩
  · rcases (show k = 0 ∨ k = 1 ∨ k = 2 by omega) with rfl | rfl | rfl
    · obtain ⟨a, rfl⟩ := h.one
      rcases (show i = 0 by omega) with rfl
      exact ⟨rfl, fun r hr => by cases hr⟩
    · obtain ⟨a, b, c, d, rfl⟩ := h.two
      rcases (show i = 0 ∨ i = 1 by omega) with rfl | rfl
      · exact ⟨rfl, fun r hr => by rw [List.mem_singleton.mp hr]; rfl⟩
      · exact ⟨rfl, fun r hr => by rw [List.mem_singleton.mp hr]; rfl⟩
    · obtain ⟨a, b, c, d, e, f, g, h, j, rfl⟩ := h.three
      have two : ∀ (x y : List Int), x.length = 2 → y.length = 2 → ∀ r ∈ [x, y], r.length = 2 := fun x y hx hy r hr => by
        rcases List.mem_cons.mp hr with rfl | hr
        · exact hx
        · rw [List.mem_singleton.mp hr]; exact hy
      rcases (show i = 0 ∨ i = 1 ∨ i = 2 by omega) with rfl | rfl | rfl
      · exact ⟨rfl, two _ _ rfl rfl⟩
      · exact ⟨rfl, two _ _ rfl rfl⟩
      · exact ⟨rfl, two _ _ rfl rfl⟩
  · obtain ⟨s, hs, rfl⟩ := List.mem_map.mp hr
    have hx' := List.mem_of_mem_drop hx
    have hs' : s < m.length := List.mem_range.mp (List.mem_filter.mp hs).1
    exact B.mem (List.mem_of_getElem? (getD_some hs')) hx'
theorem sum_le {b : Nat} : ∀ l : List Int, (∀ x ∈ l, x.natAbs ≤ b) → l.sum.natAbs ≤ l.length * b
  | [], _ => by simp
  | x :: l, h => by
    have h1 := h x List.mem_cons_self
    have h2 := sum_le l fun y hy => h y (List.mem_cons_of_mem _ hy)
    rw [List.sum_cons, List.length_cons, Nat.add_mul, Nat.one_mul]
    omega
theorem det_le {e : Nat} : ∀ (k : Nat) (m : Mat), k ≤ 3 → Sq k m → Bnd (2 ^ e) m → (det k m).natAbs ≤ 2 ^ ((e + 2) * k)
  | 0, m, _, _, _ => by simp [det]
  | k + 1, m, hk, h, B => by
    have e1 : 2 ^ ((e + 2) * (k + 1)) = 4 * (2 ^ e * 2 ^ ((e + 2) * k)) := by
      rw [Nat.mul_succ, Nat.pow_add, Nat.pow_add]
      generalize 2 ^ ((e + 2) * k) = x
      generalize 2 ^ e = y
      grind
    rw [e1]
    unfold det
    refine Nat.le_trans (sum_le (b := 2 ^ e * 2 ^ ((e + 2) * k)) _ fun x hx => ?_) ?_
    · obtain ⟨i, hi, rfl⟩ := List.mem_map.mp hx
      have hi' : i < k + 1 := by rw [← h.1]; exact List.mem_range.mp hi
      obtain ⟨m1, m2⟩ := minor_ok (by omega) h B hi'
      rw [Int.natAbs_mul]
      refine Nat.mul_le_mul ?_ (det_le k _ (by omega) m1 m2)
      have := B i 0
      split <;> omega
    · rw [List.length_map, List.length_range, h.1]
      exact Nat.mul_le_mul_right _ (by omega)

theorem fn_size (P : PW W) : ∀ (k : Nat) (m : Mat) (fs : List Env), k ≤ 3 → Sq k m → Bnd (2 ^ 1527) m → ∀ (μ : Mu) (Q : D → Mu → Prop) (q : Q (.int (det k m)) μ), FN W.prog W.w W.h₀ fs (k + 12) (P.addr 32) [dMat m] μ Q := by
  intro k
  induction k with
  | zero =>
    intro m fs _ hs _ μ Q q
    have hm : m = [] := List.length_eq_zero_iff.mp hs.1
    subst hm
    refine fn_intro P.ok (P.d 32 (by decide)) rfl rfl rfl (by decide +kernel) rfl (by decide +kernel) (by decide +kernel) fun A o L q' cd R => ?_
    have hu : (A.deeper (fenv (scopeF 32) L (P.addr 32) q' cd)).units + 64 < cLine := by have := R.units; omega
    refine xs_ifC (ct_cmp ?_)
    walk_at "e"
    refine ev_list ?_
    walk_at "e"
    refine ⟨by decide, _, c_eqMat (a := []) (b := []) hu, fun _ => ?_, fun h => by simp at h⟩
    walk_at "e"
    exact q
  | succ k ih =>
    intro m fs hk hs B μ Q q
    refine fn_intro P.ok (P.d 32 (by decide)) rfl rfl rfl (by decide +kernel) rfl (by decide +kernel) (by decide +kernel) fun A o L q' cd R => ?_
    have hu : (A.deeper (fenv (scopeF 32) L (P.addr 32) q' cd)).units + 64 < cLine := by have := R.units; omega
    have hne : m ≠ [] := fun h => by have := hs.1; rw [h] at this; simp at this
    refine xs_ifC (ct_cmp ?_)
    walk_at "e"
    refine ev_list ?_
    walk_at "e"
    refine ⟨by decide, _, c_eqMat (a := m) (b := []) hu, fun h => absurd (of_decide_eq_true h) hne, fun _ => ?_⟩
    walk_at "e"
    let term : Nat → Int := fun i => (if i % 2 = 0 then en m i 0 else 0 - en m i 0) * det k (minor m i)
    refine xs_cons (x_for (α := Int) (fun t => [("found", .int t), ("rows", dMat m)]) (fun _ => μ) PassesOwn.never ?_)
    refine s_enumS P R.handled (by rintro _ rfl; exact ⟨.inr ⟨rfl, rfl, rfl⟩, .inl rfl⟩) ?_
    walk_at "e"
    rw [List.length_map]
    refine ⟨fun i t => t = ((List.range i).map term).sum, 0, .cons rfl (.cons rfl .nil), rfl, rfl, ?_, ?_⟩
    · intro i t o' hi ht
      rw [hs.1] at hi
      refine xs_abs fun Q0 hQ0 => ?_
      obtain ⟨e1, _, e2⟩ := hs.row hi
      obtain ⟨m1, m2⟩ := minor_ok (by omega) hs B hi
      have d1 := det_le k _ (by omega) m1 m2
      have b1 := B i 0
      dsimp only
      rw [getD_map dInts e1]
      refine xs_cons (x_comp (cl := [("at", L + 1)]) (compOk rfl (.cons rfl (.inl rfl) .nil) (by decide +kernel) rfl (by decide +kernel)) (by rfl) rfl (comp_filter ?_))
      refine s_enum P R.handled (fun e he => ⟨kind_of_scope he rfl, kind_of_scope he rfl⟩) ?_
      walk_at "e"
      rw [List.length_map]
      refine ⟨by simp [sizeLine, hs.1]; omega, [("at", .int i)], fun s => dInts ((m.getD s []).drop 1), fun s => s != i, .cons rfl .nil, .cons (k := some .cell) rfl (by decide) .nil, fun i => .cons rfl .nil, ?_, ?_, ?_⟩
      · intro s ys D a o'' hi hD
        refine ct_ne ?_
        walk_at "e"
        exact ⟨fun h => ⟨bne_iff_ne.mpr (by omega), rfl⟩, fun h => ⟨by rw [show s = i by omega]; simp, rfl⟩⟩
      · intro s ys D a o'' hi hD hp
        rw [hs.1] at hi
        obtain ⟨f1, _, f2⟩ := hs.row hi
        dsimp only
        rw [getD_map dInts f1]
        refine ev_slice ?_
        walk_at "e"
        refine evo_some ?_
        walk_at "e"
        refine evo_none ?_
        refine ⟨_, some 1, none, .inl rfl, by rw [List.length_map, f2]; simp [sizeLine]; omega, .inr ⟨_, rfl, rfl⟩, .inl ⟨rfl, rfl⟩, .inr rfl, (by simp), (by simp), ?_⟩
        refine ⟨?_, rfl⟩
        show Mine.D.list (((m.getD s []).map Mine.D.int).drop 1) = _
        rw [← List.map_drop]
      have em : ((List.range m.length).filter fun s => s != i).map (fun s => dInts ((m.getD s []).drop 1)) = (minor m i).map dInts := by unfold minor; rw [List.map_map]; rfl
      rw [em]
      refine xs_cons (x_assign ?_)
      refine ev_add ?_
      walk_at "e"
      refine ev_mul ?_
      refine EV.mono (Q' := fun d μ' => d = .int (if i % 2 = 0 then en m i 0 else 0 - en m i 0) ∧ μ' = μ) ?_ ?_
      · refine ev_ifC (ct_eq ?_)
        refine ev_mod ?_
        walk_at "e"
        refine ⟨by decide, ?_⟩
        walk_at "e"
        rw [show (2 : Int) = ((2 : Nat) : Int) by rfl, fmod_cast]
        have eg : (m.getD i [])[0]? = some (en m i 0) := getD_some (by omega)
        refine ⟨fun h => ?_, fun h => ?_⟩
        · refine ev_itemL ?_
          walk_at "e"
          refine ⟨_, 0, _, .inl rfl, rfl, by decide, get_map _ eg, ?_⟩
          exact ⟨by rw [if_pos (by omega)], rfl⟩
        · refine ev_sub ?_
          walk_at "e"
          refine ev_itemL ?_
          walk_at "e"
          refine ⟨_, 0, _, .inl rfl, rfl, by decide, get_map _ eg, ?_⟩
          walk_at "e"
          exact ⟨by rw [if_neg (by omega)], rfl⟩
      rintro _ _ ⟨rfl, rfl⟩
      refine ev_cal P 32 (n := k + 12) (R.less (by first | decide | omega)) ?_
      walk_at "e"
      refine ih (minor m i) _ (by omega) m1 m2 _ _ ?_
      refine ⟨_, _, rfl, rfl, mulOk (m := 1528) (n := 6000) (Nat.lt_of_le_of_lt (Nat.le_trans (show _ ≤ (en m i 0).natAbs by split <;> omega) b1) (Nat.pow_lt_pow_right (by decide) (by decide))) (Nat.lt_of_le_of_lt d1 (Nat.pow_lt_pow_right (by decide) ?_)) (by decide), ?_⟩
      · have : k ≤ 2 := by omega
        have := Nat.mul_le_mul_left (1527 + 2) this
        omega
      walk_at "e"
      have hsum : ((List.range (i + 1)).map term).sum = t + term i := by
        rw [ht, List.range_succ, List.map_append, List.sum_append]
        simp
      exact hQ0 _ _ _ ⟨_, rfl, .cons (by rw [hsum]; rfl) (.cons rfl .nil), rfl⟩
    · intro t ht
      walk_at "e"
      rw [ht]
      exact q

variable {W : Wd}
theorem filt_none {n : Nat} {f : Nat → D} : ((List.range n).filter fun _ => false).map f = [] := by simp
theorem fn_tidy (P : PW W) (fs : List Env) (n : Nat) (h3 : n ≤ 3) (m : Mat) (h : HNF n m) (μ : Mu) (Q : D → Mu → Prop) (q : Q (.bool true) μ) : FN W.prog W.w W.h₀ fs 12 (P.addr 33) [dMat m] μ Q := by
  obtain ⟨hs, hT⟩ := h
  refine fn_intro P.ok (P.d 33 (by decide)) rfl rfl rfl (by decide +kernel) rfl (by decide +kernel) (by decide +kernel) fun A o L q' cd R => ?_
  have hu : (A.deeper (fenv (scopeF 33) L (P.addr 33) q' cd)).units + 64 < cLine := by have := R.units; omega
  refine xs_cons (x_for (α := Unit) (fun _ => [("form", dMat m)]) (fun _ => μ) PassesOwn.never ?_)
  refine s_enumS P R.handled (by rintro _ rfl; exact ⟨.inr ⟨rfl, rfl, rfl⟩, .inr ⟨rfl, rfl, rfl⟩⟩) ?_
  walk_at "e"
  rw [List.length_map]
  refine ⟨fun _ _ => True, (), .cons rfl .nil, rfl, trivial, ?_, ?_⟩
  · intro i _ o' hi _
    rw [hs.1] at hi
    obtain ⟨e1, _, e2⟩ := hs.row hi
    refine xs_abs fun Q0 hQ0 => ?_
    obtain ⟨t1, t2, t3⟩ := hT i hi
    have g : ∀ j, j < n → ((m.getD i []).map Mine.D.int)[j]? = some (.int (en m i j)) := fun j hj => get_map _ (getD_some (by rw [e2]; exact hj))
    dsimp only
    rw [getD_map dInts e1]
    refine xs_ifC (ct_or (co_cons (ct_le ?_)))
    refine ev_itemL ?_
    walk_at "e"
    refine ⟨_, i, _, .inl rfl, rfl, by omega, g i hi, ?_⟩
    walk_at "e"
    refine ⟨fun h => absurd h (by omega), fun _ => co_cons (ct_cmp ?_)⟩
    refine ev_comp (cl := []) (compOk rfl .nil (by decide +kernel) rfl (by decide +kernel)) (comp_filter ?_)
    refine src_list R.handled (fun e he => kind_of_scope he rfl) ?_
    refine ev_slice ?_
    walk_at "e"
    refine evo_none (evo_some ?_)
    walk_at "e"
    refine ⟨_, none, some (i : Int), .inl rfl, by rw [List.length_map, e2]; simp [sizeLine]; omega, .inl ⟨rfl, rfl⟩, .inr ⟨_, rfl, rfl⟩, .inl rfl, (by simp), (by simp), ?_⟩
    refine ⟨_, rfl, ?_⟩
    show (((m.getD i []).map Mine.D.int).take (i : Int).toNat).length ≤ _ ∧ _
    rw [Int.toNat_natCast]
    have hlen : (((m.getD i []).map Mine.D.int).take i).length = i := by rw [List.length_take, List.length_map, e2]; omega
    refine ⟨by rw [hlen]; simp [sizeLine]; omega, [], fun _ => .none, fun _ => false, .nil, .nil, fun i => .nil, ?_, ?_, ?_⟩
    · intro j ys D a o'' hj hD
      have hj' : j < i := by rw [← hlen]; exact hj
      have hg : (cutL ((m.getD i []).map Mine.D.int) none (some (i : Int))).getD j .none = .int (en m i j) := by
        show (((m.getD i []).map Mine.D.int).take (i : Int).toNat).getD j .none = _
        rw [Int.toNat_natCast, List.getD_eq_getElem?_getD, List.getElem?_take, if_pos hj', g j (by omega)]; rfl
      dsimp only
      rw [hg]
      refine ct_ne ?_
      walk_at "e"
      exact ⟨fun h => absurd ((hT j (by omega)).2.1 i hj' hi) h, fun _ => ⟨rfl, rfl⟩⟩
    · intro j ys D a o'' hj hD hp
      cases hp
    rw [filt_none]
    refine ev_list ?_
    walk_at "e"
    refine ⟨by decide, _, c_neInts (a := []) (b := []) hu, fun h => by simp at h, fun _ => co_nil ?_⟩
    walk_at "e"
    refine xs_ifC (ct_cmp ?_)
    refine ev_comp (cl := [("row", L + 2), ("at", L + 1)]) (compOk rfl (.cons rfl (.inl rfl) (.cons rfl (.inl rfl) .nil)) (by decide +kernel) rfl (by decide +kernel)) (comp_filter ?_)
    refine src_list R.handled (fun e he => kind_of_scope he rfl) ?_
    refine ev_slice ?_
    walk_at "e"
    refine evo_none (evo_some ?_)
    walk_at "e"
    refine ⟨_, none, some (i : Int), .inl rfl, by rw [List.length_map, hs.1]; simp [sizeLine]; omega, .inl ⟨rfl, rfl⟩, .inr ⟨_, rfl, rfl⟩, .inl rfl, (by simp), (by simp), ?_⟩
    refine ⟨_, rfl, ?_⟩
    show ((m.map dInts).take (i : Int).toNat).length ≤ _ ∧ _
    rw [Int.toNat_natCast]
    have hlen : ((m.map dInts).take i).length = i := by rw [List.length_take, List.length_map, hs.1]; omega
    refine ⟨by rw [hlen]; simp [sizeLine]; omega, [("row", dInts (m.getD i [])), ("at", .int i)], fun _ => .none, fun _ => false, .cons rfl (.cons rfl .nil), .cons (k := some .cell) rfl (by decide) (.cons (k := some .cell) rfl (by decide) .nil), fun i => .cons rfl (.cons rfl .nil), ?_, ?_, ?_⟩
    · intro j ys D a o'' hj hD
      have hj' : j < i := by rw [← hlen]; exact hj
      obtain ⟨f1, _, f2⟩ := hs.row (show j < n by omega)
      have hg : (cutL (m.map dInts) none (some (i : Int))).getD j .none = dInts (m.getD j []) := by
        show ((m.map dInts).take (i : Int).toNat).getD j .none = _
        rw [Int.toNat_natCast, List.getD_eq_getElem?_getD, List.getElem?_take, if_pos hj', get_map dInts f1]; rfl
      dsimp only
      rw [hg]
      obtain ⟨b1, b2⟩ := t3 j hj'
      refine ct_not (ts_chain2 ?_)
      walk_at "e"
      refine ev_itemL ?_
      walk_at "e"
      refine ⟨_, i, _, .inl rfl, rfl, by omega, get_map _ (getD_some (d := 0) (by rw [f2]; exact hi)), ?_⟩
      refine ⟨_, c_le, fun h => absurd (of_decide_eq_false h) (by unfold en at b1; omega), fun _ => ?_⟩
      refine ev_itemL ?_
      walk_at "e"
      refine ⟨_, i, _, .inl rfl, rfl, by omega, g i hi, ?_⟩
      exact ⟨_, c_lt, fun _ => ⟨rfl, rfl⟩, fun h => absurd (of_decide_eq_false h) (by unfold en at b2 ⊢; omega)⟩
    · intro j ys D a o'' hj hD hp
      cases hp
    rw [filt_none]
    refine ev_list ?_
    walk_at "e"
    refine ⟨by decide, _, c_neMat (a := []) (b := []) hu, fun h => by simp at h, fun _ => ?_⟩
    walk_at "e"
    exact hQ0 _ _ _ ⟨(), trivial, .cons rfl .nil, rfl⟩
  · intro _ _
    walk_at "e"
    exact q

theorem fn_goes (P : PW W) (fs : List Env) (n : Nat) (h1 : 1 ≤ n) (h3 : n ≤ 3) (m : Mat) (h : HNF n m) (B : Bnd (2 ^ 1527) m) (r : List Int) (hr : r.length = n) (hL : Lat m fun j => r.getD j 0) (hb : ∀ j, (r.getD j 0).natAbs ≤ 2 ^ 1600)
    (μ : Mu) (Q : D → Mu → Prop) (q : Q (.bool true) μ) : FN W.prog W.w W.h₀ fs 12 (P.addr 34) [dInts r, dMat m] μ Q := by
  have hs := h.1
  have hT := h.2
  refine fn_intro P.ok (P.d 34 (by decide)) rfl rfl rfl (by decide +kernel) rfl (by decide +kernel) (by decide +kernel) fun A o L q' cd R => ?_
  have hu : (A.deeper (fenv (scopeF 34) L (P.addr 34) q' cd)).units + 64 < cLine := by have := R.units; omega
  refine xs_cons (x_for (α := List Int) (fun r => [("row", dInts r), ("form", dMat m)]) (fun _ => μ) PassesOwn.never ?_)
  refine s_enum P R.handled (by rintro _ rfl; exact ⟨rfl, rfl⟩) ?_
  walk_at "e"
  rw [List.length_map]
  refine ⟨fun i r => r.length = n ∧ (Lat m fun j => r.getD j 0) ∧ (∀ j, j < i → r.getD j 0 = 0) ∧ ∀ j, (r.getD j 0).natAbs ≤ 2 ^ (1600 * (i + 1)), r, .cons rfl (.cons rfl .nil), rfl, ⟨hr, hL, fun j hj => by omega, hb⟩, ?_, ?_⟩
  · clear hr hL hb r
    intro i r o' hi ⟨hr, hL, h0, hb⟩
    rw [hs.1] at hi
    refine xs_abs fun Q0 hQ0 => ?_
    obtain ⟨e1, e0, e2⟩ := hs.row hi
    obtain ⟨t1, t2, t3⟩ := hT i hi
    obtain ⟨t, ht⟩ := goes_dvd h1 h3 h hL hi h0
    have gr : ∀ j, j < n → (r.map Mine.D.int)[j]? = some (.int (r.getD j 0)) := fun j hj => get_map _ (getD_some (by rw [hr]; exact hj))
    have gm : ∀ j, j < n → ((m.getD i []).map Mine.D.int)[j]? = some (.int (en m i j)) := fun j hj => get_map _ (getD_some (by rw [e2]; exact hj))
    have hne : en m i i ≠ 0 := by omega
    have hbi := Nat.lt_of_le_of_lt (B i i) (Nat.pow_lt_pow_right (by decide) (show 1527 < 9000 by decide))
    have ef : (r.getD i 0).fdiv (en m i i) = t := by rw [ht, Int.mul_fdiv_cancel _ hne]
    have em : (r.getD i 0).fmod (en m i i) = 0 := by
      rw [Int.fmod_eq_emod_of_nonneg _ (by omega), ht, Int.mul_emod_left]
    have hbt : t.natAbs ≤ 2 ^ (1600 * (i + 1)) := by
      rw [← ef]; exact Nat.le_trans (quo_le hne) (hb i)
    dsimp only
    rw [getD_map dInts e1]
    refine xs_ifC (ct_ne ?_)
    refine ev_mod ?_
    refine ev_itemL ?_
    walk_at "e"
    refine ⟨_, i, _, .inl rfl, rfl, by omega, gr i hi, ?_⟩
    refine ev_itemL ?_
    walk_at "e"
    refine ⟨_, i, _, .inl rfl, rfl, by omega, gm i hi, ?_⟩
    refine ⟨_, _, rfl, rfl, hne, ?_⟩
    rw [em]
    walk_at "e"
    refine ⟨fun h => absurd rfl h, fun _ => ?_⟩
    walk_at "e"
    refine ev_div ?_
    refine ev_itemL ?_
    walk_at "e"
    refine ⟨_, i, _, .inl rfl, rfl, by omega, gr i hi, ?_⟩
    refine ev_itemL ?_
    walk_at "e"
    refine ⟨_, i, _, .inl rfl, rfl, by omega, gm i hi, ?_⟩
    refine ⟨_, _, rfl, rfl, hne, hbi, ?_⟩
    rw [ef]
    refine an_cell rfl rfl rfl ?_
    refine xs_cons (x_comp (cl := [("times", L + 1)]) (compOk rfl (.cons rfl (.inl rfl) .nil) (by decide +kernel) rfl (by decide +kernel)) (by rfl) rfl (comp_map ?_))
    refine s_zip P R.handled (fun e he => ⟨kind_of_scope he rfl, kind_of_scope he rfl⟩) ?_
    walk_at "e"
    rw [List.length_map, List.length_map, hr, e2, Nat.min_self]
    refine ⟨by simp [sizeLine]; omega, [("times", .int t)], fun j => .int (r.getD j 0 - t * (m.getD i []).getD j 0), .cons rfl .nil, .cons (k := some .cell) rfl (by decide) .nil, fun i => .cons rfl .nil, ?_, ?_⟩
    · intro j ys D a o'' hj hD
      have b1 := Nat.lt_of_le_of_lt hbt (Nat.pow_lt_pow_right (by decide) (show 1600 * (i + 1) < 9000 by omega))
      have b2 := Nat.lt_of_le_of_lt (B i j) (Nat.pow_lt_pow_right (by decide) (show 1527 < 1528 by decide))
      dsimp only
      rw [getD_map Mine.D.int (getD_some (d := 0) (show j < r.length by rw [hr]; exact hj)), getD_map Mine.D.int (getD_some (d := 0) (show j < (m.getD i []).length by rw [e2]; exact hj))]
      refine ev_sub ?_
      walk_at "e"
      refine ev_mul ?_
      walk_at "e"
      exact ⟨mulOk b1 b2 (by decide), _, _, rfl, rfl, rfl, rfl⟩
    have gs := subm_get (r := r) (h := m.getD i []) (by rw [hr, e2]) t
    have el : (List.range n).map (fun j => Mine.D.int (r.getD j 0 - t * (m.getD i []).getD j 0)) = (subm r (m.getD i []) t).map Mine.D.int := by
      unfold subm; rw [List.map_map, hr]; rfl
    rw [el]
    walk_at "e"
    refine hQ0 _ _ _ ⟨subm r (m.getD i []) t, ⟨by rw [subm_len, hr], ?_, fun j hj => ?_, fun j => ?_⟩, .cons rfl (.cons rfl .nil), rfl⟩
    · exact (hL.plus ((Lat.mem e0).times (-t))).cast fun j => by rw [gs]; grind
    · rw [gs]
      rcases (show j < i ∨ j = i by omega) with hj | rfl
      · have z : (m.getD i []).getD j 0 = 0 := (hT j (by omega)).2.1 i hj hi
        rw [h0 j hj, z]; simp
      · rw [ht]
        show t * en m j j - t * en m j j = 0
        omega
    · rw [gs]
      have b3 : (t * (m.getD i []).getD j 0).natAbs ≤ 2 ^ (1600 * (i + 1)) * 2 ^ 1527 := by
        rw [Int.natAbs_mul]
        exact Nat.mul_le_mul hbt (B i j)
      have b4 := hb j
      have b5 : 2 ^ (1600 * (i + 1)) + 2 ^ (1600 * (i + 1)) * 2 ^ 1527 ≤ 2 ^ (1600 * (i + 1 + 1)) := by
        rw [show 1600 * (i + 1 + 1) = 1600 * (i + 1) + 1600 by omega, Nat.pow_add _ (1600 * (i + 1)) 1600]
        have : 1 + 2 ^ 1527 ≤ 2 ^ 1600 := by decide +kernel
        have := Nat.mul_le_mul_left (2 ^ (1600 * (i + 1))) this
        rw [Nat.mul_add, Nat.mul_one] at this
        exact this
      exact Nat.le_trans (Nat.le_trans (Int.natAbs_sub_le _ _) (Nat.add_le_add b4 b3)) b5
  · rintro r ⟨hr, hL, h0, hb⟩
    rw [hs.1] at h0
    refine xs_ret ?_
    refine ev_cmpC ?_
    refine ev_comp (cl := []) (compOk rfl .nil (by decide +kernel) rfl (by decide +kernel)) (comp_filter ?_)
    refine src_list R.handled (fun e he => kind_of_scope he rfl) ?_
    walk_at "e"
    rw [List.length_map, hr]
    refine ⟨by simp [sizeLine]; omega, [], fun _ => .none, fun _ => false, .nil, .nil, fun i => .nil, ?_, ?_, ?_⟩
    · intro j ys D a o'' hj hD
      dsimp only
      rw [getD_map Mine.D.int (getD_some (d := 0) (by rw [hr]; exact hj)), h0 j hj]
      refine ct_ne ?_
      walk_at "e"
      exact ⟨fun h => absurd rfl h, fun _ => ⟨rfl, rfl⟩⟩
    · intro j ys D a o'' hj hD hp
      cases hp
    rw [filt_none]
    refine ev_list ?_
    walk_at "e"
    refine ⟨by decide, _, c_eqInts (a := []) (b := []) hu, ?_⟩
    exact q

variable {W : Wd}
/-- a matrix that came by whole changes of rows -/
structure Chg (n : Nat) (a : Mat) (N : Nat) (m : Mat) : Prop where
  sq : Sq n m
  eqv : Eqv m a
  det : (det n m).natAbs = (Mine.det n a).natAbs
  bnd : Bnd N m
theorem Chg.mono {n N M : Nat} {a m : Mat} (h : Chg n a N m) (k : N ≤ M) : Chg n a M m := ⟨h.sq, h.eqv, h.det, fun i j => Nat.le_trans (h.bnd i j) k⟩
theorem Chg.swp {n N i k : Nat} {a m : Mat} (h1 : 1 ≤ n) (h3 : n ≤ 3) (h : Chg n a N m) (hi : i < n) (hk : k < n) : Chg n a (N * 5) (swp m i k) :=
  Chg.mono ⟨swp_sq h.sq hi hk, (eqv_swp h.sq hi hk).trans h.eqv, by rw [det_swp h1 h3 h.sq hi hk]; exact h.det, h.bnd.swp h.sq hi hk⟩ (by omega)
theorem Chg.neg {n N i : Nat} {a m : Mat} (h1 : 1 ≤ n) (h3 : n ≤ 3) (h : Chg n a N m) (hi : i < n) : Chg n a (N * 5) (m.set i ((m.getD i []).map fun x => -x)) :=
  Chg.mono ⟨h.sq.set (by rw [List.length_map]; exact (h.sq.row hi).2.2), (eqv_neg h.sq hi).trans h.eqv, by rw [det_neg h1 h3 h.sq hi, Int.natAbs_neg]; exact h.det, fun s j => by
    rw [en_set h.sq hi]
    split
    · rw [neg_get, Int.natAbs_neg]; exact h.bnd i j
    · exact h.bnd s j⟩ (show N ≤ N * 5 by omega)
theorem Chg.sub {n N i k : Nat} {t : Int} {a m : Mat} (h1 : 1 ≤ n) (h3 : n ≤ 3) (h : Chg n a N m) (hi : i < n) (hk : k < n) (hik : i ≠ k) (ht : t.natAbs ≤ 4) : Chg n a (N * 5) (m.set i (subm (m.getD i []) (m.getD k []) (-t))) :=
  ⟨h.sq.set (by rw [subm_len]; exact (h.sq.row hi).2.2), (eqv_sub h.sq hi hk hik _).trans h.eqv, by rw [det_sub h1 h3 h.sq hi hk hik]; exact h.det, fun s j => by
    rw [en_set h.sq hi]
    have b1 := h.bnd i j
    split
    · rw [en_subm h.sq hi hk]
      have b2 : (-t * en m k j).natAbs ≤ 4 * N := by rw [Int.natAbs_mul]; exact Nat.mul_le_mul (by omega) (h.bnd k j)
      omega
    · have := h.bnd s j; omega⟩

theorem fn_changed (P : PW W) (fs : List Env) (bits : List Nat) (p : Nat) (hl : bits.length < 2 ^ 20) (hp : p < 2 ^ 19) (ba : Addr) (μ₁ μ₂ : Mu) (n : Nat) (h1 : 1 ≤ n) (h3 : n ≤ 3) (a : Mat) (hsq : Sq n a) (hb : Bnd 6 a) (Q : D → Mu → Prop)
    (q : ∀ m p', Chg n a (2 ^ 15) m → p' ≤ p + 21 → Q (dMat m) (μ₁ ++ (ba, [dN bits, .int (p' : Nat)]) :: μ₂)) : FN W.prog W.w W.h₀ fs 12 (P.addr 35) [.ref ba, dMat a] (μ₁ ++ (ba, [dN bits, .int p]) :: μ₂) Q := by
  refine fn_intro P.ok (P.d 35 (by decide)) rfl rfl rfl (by decide +kernel) rfl (by decide +kernel) (by decide +kernel) fun A o L q' cd R => ?_
  refine xs_cons (x_compM (cl := []) (compOk rfl .nil (by decide +kernel) rfl (by decide +kernel)) (by rfl) rfl (comp_map ?_))
  refine src_list R.handled (fun e he => kind_of_scope he rfl) ?_
  walk_at "e"
  refine ⟨by simp [sizeLine, hsq.1]; omega, [], fun j => dInts (a.getD j []), .nil, .nil, fun i => .nil, ?_, ?_⟩
  · intro i ys D a' o' hi hD
    rw [List.length_map, hsq.1] at hi
    obtain ⟨e1, _, e2⟩ := hsq.row hi
    dsimp only
    rw [getD_map dInts e1]
    refine ev_slice ?_
    walk_at "e"
    refine evo_none (evo_none ?_)
    exact ⟨_, none, none, .inl rfl, by rw [List.length_map, e2]; simp [sizeLine]; omega, .inl ⟨rfl, rfl⟩, .inl ⟨rfl, rfl⟩, .inl rfl, (by simp), (by simp), rfl, rfl⟩
  rw [List.length_map, range_map (fun j => dInts (a.getD j [])) dInts a fun i x h => by rw [List.getD_eq_getElem?_getD, h]; rfl]
  intro ra hra
  refine xs_cutS (α := Mat × Nat) (fun _ => [("rows", .ref ra)]) (fun x => (ra, x.1.map dInts) :: (μ₁ ++ (ba, [dN bits, .int x.2]) :: μ₂)) (fun x => Chg n a (2 ^ 15) x.1 ∧ x.2 ≤ p + 21) ?_ ?_
  rotate_left
  · rintro ⟨m, p'⟩ ⟨hm, hp'⟩
    refine xs_ret ?_
    refine ev_nameFz rfl rfl (.inl rfl) (μ₁ := []) rfl ?_
    exact q m p' hm hp'
  refine x_for (α := Mat × Nat) (fun _ => [("rows", .ref ra), ("bag", .ref ba)]) (fun x => (ra, x.1.map dInts) :: (μ₁ ++ (ba, [dN bits, .int x.2]) :: μ₂)) PassesOwn.never ?_
  refine s_range1 P R.handled (by rintro _ rfl; rfl) ?_
  refine ev_cal P 26 (n := 3) (R.less (by first | decide | omega)) ?_
  walk_at "e"
  refine fn_chip P _ bits p 6 hl (by omega) (by decide) ba ((ra, a.map dInts) :: μ₁) μ₂ _ fun c hc => ?_
  refine ⟨c, rfl, by omega, fun i x => Chg n a (6 * 5 ^ i) x.1 ∧ x.2 ≤ p + 1 + 4 * i, (a, p + 1), .cons rfl (.cons rfl .nil), rfl, ⟨⟨hsq, Eqv.refl a, rfl, hb⟩, Nat.le_refl _⟩, ?_, ?_⟩
  rotate_left
  · rintro ⟨m, p'⟩ ⟨hm, hp'⟩
    dsimp only at hm hp'
    refine ⟨rfl, (m, p'), ⟨hm.mono ?_, by dsimp only; omega⟩, .cons rfl .nil, rfl⟩
    exact Nat.le_trans (Nat.mul_le_mul_left 6 (Nat.pow_le_pow_right (by decide) (show c ≤ 5 by omega))) (by decide)
  rintro i ⟨m, p'⟩ o' hi ⟨hm, hp'⟩
  dsimp only at hm hp'
  have hs := hm.sq
  have hp2 : p' + 4 < 2 ^ 20 := by omega
  refine xs_abs fun Q0 hQ0 => ?_
  refine xs_cons (x_swap R.handled (ns := [("one" : Str), ("other" : Str), ("way" : Str)]) rfl ?_)
  refine ev_tuple ?_
  refine evs_cons ?_
  refine ev_cal P 26 (n := 3) (R.less (by first | decide | omega)) ?_
  walk_at "e"
  refine ev_len P ?_
  walk_at "e"
  refine ⟨_, .inr ⟨_, rfl, .head _⟩, by rw [List.length_map, hs.1]; omega, ?_⟩
  rw [List.length_map, hs.1]
  walk_at "e"
  refine fn_chip P _ bits p' n hl (by omega) h1 ba ((ra, m.map dInts) :: μ₁) μ₂ _ fun one h_one => ?_
  refine evs_cons ?_
  refine ev_cal P 26 (n := 3) (R.less (by first | decide | omega)) ?_
  walk_at "e"
  refine ev_len P ?_
  walk_at "e"
  refine ⟨_, .inr ⟨_, rfl, .head _⟩, by rw [List.length_map, hs.1]; omega, ?_⟩
  rw [List.length_map, hs.1]
  walk_at "e"
  refine fn_chip P _ bits (p' + 1) n hl (by omega) h1 ba ((ra, m.map dInts) :: μ₁) μ₂ _ fun other h_other => ?_
  refine evs_cons ?_
  refine ev_cal P 26 (n := 3) (R.less (by first | decide | omega)) ?_
  walk_at "e"
  refine fn_chip P _ bits (p' + 1 + 1) 3 hl (by omega) (by decide) ba ((ra, m.map dInts) :: μ₁) μ₂ _ fun way h_way => ?_
  walk_at "e"
  refine ⟨by first | exact Nat.le_of_ble_eq_true rfl | simp [sizeLine], _, rfl, rfl, ?_⟩
  refine anl_cons (an_local rfl (anl_cons (an_local rfl (anl_cons (an_local rfl (anl_nil ?_))))))
  refine xs_ifC (ct_eq ?_)
  walk_at "e"
  refine ⟨fun hw => ?_, fun hw => ?_⟩
  · refine xs_cons (x_unpack ?_)
    refine ev_tuple ?_
    refine evs_cons ?_
    refine ev_itemL ?_
    walk_at "nm"
    walk_at "nm"
    refine ⟨_, other, _, .inr ⟨_, rfl, .head _⟩, rfl, by omega, get_map dInts (hs.row h_other).1, ?_⟩
    refine evs_cons ?_
    refine ev_itemL ?_
    walk_at "nm"
    walk_at "nm"
    refine ⟨_, one, _, .inr ⟨_, rfl, .head _⟩, rfl, by omega, get_map dInts (hs.row h_one).1, ?_⟩
    walk_at "e"
    refine ⟨by first | exact Nat.le_of_ble_eq_true rfl | simp [sizeLine], ?_⟩
    refine as_tuple R.handled (asl_cons (as_item ?_))
    walk_at "nm"
    walk_at "nm"
    refine ⟨_, one, _, [], _, rfl, rfl, rfl, by rw [List.length_map, hs.1]; exact h_one, by omega, ?_⟩
    refine asl_cons (as_item ?_)
    walk_at "nm"
    walk_at "nm"
    refine ⟨_, other, _, [], _, rfl, rfl, rfl, by rw [List.length_set, List.length_map, hs.1]; exact h_other, by omega, ?_⟩
    refine asl_nil ?_
    walk_at "e"
    refine hQ0 _ _ _ ⟨(swp m one other, p' + 1 + 1 + 1), ⟨(hm.swp h1 h3 h_one h_other).mono (by rw [Nat.pow_succ]; omega), by dsimp only; omega⟩, .cons rfl (.cons rfl .nil), ?_⟩
    unfold swp
    (try dsimp only); rw [List.map_set, List.map_set]
    rfl
  · refine xs_ifC (ct_eq ?_)
    walk_at "e"
    refine ⟨fun hw1 => ?_, fun hw1 => ?_⟩
    · refine xs_cons (x_setitem ?_)
      refine ev_comp (cl := []) (compOk rfl .nil (by decide +kernel) rfl (by decide +kernel)) (comp_map ?_)
      refine src_list R.handled (fun e he => kind_of_scope he rfl) ?_
      refine ev_itemL ?_
      walk_at "nm"
      walk_at "nm"
      refine ⟨_, one, _, .inr ⟨_, rfl, .head _⟩, rfl, by omega, get_map dInts (hs.row h_one).1, _, rfl, ?_⟩
      rw [List.length_map]
      refine ⟨by rw [(hs.row h_one).2.2]; simp [sizeLine]; omega, [], fun j => .int (-((m.getD one []).getD j 0)), .nil, .nil, fun i => .nil, ?_, ?_⟩
      · intro j ys D a'' o'' hj hD
        dsimp only
        rw [getD_map Mine.D.int (getD_some (d := 0) hj)]
        refine ev_sub ?_
        walk_at "e"
        exact ⟨by rw [Int.zero_sub], rfl⟩
      rw [range_map (fun j => Mine.D.int (-((m.getD one []).getD j 0))) (fun x => Mine.D.int (-x)) (m.getD one []) fun i x h => by rw [List.getD_eq_getElem?_getD, h]; rfl]
      refine as_item ?_
      walk_at "nm"
      walk_at "nm"
      refine ⟨_, one, _, [], _, rfl, rfl, rfl, by rw [List.length_map, hs.1]; exact h_one, by omega, ?_⟩
      walk_at "e"
      refine hQ0 _ _ _ ⟨(m.set one ((m.getD one []).map fun x => -x), p' + 1 + 1 + 1), ⟨(hm.neg h1 h3 h_one).mono (by rw [Nat.pow_succ]; omega), by dsimp only; omega⟩, .cons rfl (.cons rfl .nil), ?_⟩
      (try dsimp only); rw [List.map_set, dInts, List.map_map]
      rfl
    · refine xs_ifC (ct_ne ?_)
      walk_at "e"
      refine ⟨fun hne => ?_, fun heq => ?_⟩
      · refine xs_cons (x_assign ?_)
        refine ev_sub ?_
        refine ev_cal P 26 (n := 3) (R.less (by first | decide | omega)) ?_
        walk_at "e"
        refine fn_chip P _ bits (p' + 1 + 1 + 1) 9 hl (by omega) (by decide) ba ((ra, m.map dInts) :: μ₁) μ₂ _ fun c9 hc9 => ?_
        walk_at "e"
        have ht : ((c9 : Int) - 4).natAbs ≤ 4 := by omega
        generalize hT : (c9 : Int) - 4 = t at *
        refine an_cell rfl rfl rfl ?_
        refine xs_cons (x_setitem ?_)
        refine ev_comp (cl := [("times", L + 1)]) (compOk rfl (.cons rfl (.inl rfl) .nil) (by decide +kernel) rfl (by decide +kernel)) (comp_map ?_)
        refine s_zip P R.handled (fun e he => ⟨kind_of_scope he rfl, kind_of_scope he rfl⟩) ?_
        refine ev_itemL ?_
        walk_at "nm"
        walk_at "nm"
        refine ⟨_, one, _, .inr ⟨_, rfl, .head _⟩, rfl, by omega, get_map dInts (hs.row h_one).1, ?_⟩
        refine ev_itemL ?_
        walk_at "nm"
        walk_at "nm"
        refine ⟨_, other, _, .inr ⟨_, rfl, .head _⟩, rfl, by omega, get_map dInts (hs.row h_other).1, _, _, rfl, rfl, ?_⟩
        have l1 := (hs.row h_one).2.2
        have l2 := (hs.row h_other).2.2
        rw [List.length_map, List.length_map, l1, l2, Nat.min_self]
        refine ⟨by simp [sizeLine]; omega, [("times", .int t)], fun j => .int ((m.getD one []).getD j 0 - -t * (m.getD other []).getD j 0), .cons rfl .nil, .cons (k := some .cell) rfl (by decide) .nil, fun i => .cons rfl .nil, ?_, ?_⟩
        · intro j ys D a'' o'' hj hD
          have b2 := hm.bnd other j
          dsimp only
          rw [getD_map Mine.D.int (getD_some (d := 0) (show j < (m.getD one []).length by rw [l1]; exact hj)), getD_map Mine.D.int (getD_some (d := 0) (show j < (m.getD other []).length by rw [l2]; exact hj))]
          refine ev_add ?_
          walk_at "e"
          refine ev_mul ?_
          walk_at "e"
          refine ⟨mulOk (m := 3) (n := 16) (by omega) (Nat.lt_of_le_of_lt b2 (Nat.lt_of_le_of_lt (Nat.mul_le_mul_left 6 (Nat.pow_le_pow_right (by decide) (show i ≤ 5 by omega))) (by decide))) (by decide), _, _, rfl, rfl, ?_, rfl⟩
          rw [Int.neg_mul, Int.sub_neg]
        have el : (List.range n).map (fun j => Mine.D.int ((m.getD one []).getD j 0 - -t * (m.getD other []).getD j 0)) = (subm (m.getD one []) (m.getD other []) (-t)).map Mine.D.int := by
          unfold subm; rw [List.map_map, l1]; rfl
        rw [el]
        refine as_item ?_
        walk_at "nm"
        walk_at "nm"
        refine ⟨_, one, _, [], _, rfl, rfl, rfl, by rw [List.length_map, hs.1]; exact h_one, by omega, ?_⟩
        walk_at "e"
        refine hQ0 _ _ _ ⟨(m.set one (subm (m.getD one []) (m.getD other []) (-t)), p' + 1 + 1 + 1 + 1), ⟨(hm.sub h1 h3 h_one h_other (by omega) ht).mono (by rw [Nat.pow_succ]; omega), by dsimp only; omega⟩, .cons rfl (.cons rfl .nil), ?_⟩
        (try dsimp only); rw [List.map_set]
        rfl
      · walk_at "e"
        exact hQ0 _ _ _ ⟨(m, p' + 1 + 1 + 1), ⟨hm.mono (by rw [Nat.pow_succ]; omega), by dsimp only; omega⟩, .cons rfl (.cons rfl .nil), rfl⟩

variable {W : Wd}
theorem St.backF {h₀ : Heap} {fs : List Env} {o : Org} {env : Env} {σ : Sg} {s s' : Shared} {g g' : View} {μ μ' : Mu} (S : St h₀ fs o env σ s g μ) (hfs : frs fs = [env.locals]) (y : Step (frs fs) s g μ s' g' μ') (fu : FrUp fs s.heap s'.heap) (B : Base h₀ fs s' g' μ') : St h₀ fs o env σ s' g' μ' := by
  rw [hfs] at y
  have F := S.f
  refine ⟨B, ⟨F.kind, ?_, fun x c hc => ?_, F.apart, fun p hp => ⟨?_, fun hm => ?_, ?_⟩, F.loc⟩, S.st.trans (y.mono fun b hb => .inl (by rw [List.mem_singleton.mp hb]; exact List.mem_cons_self))⟩
  · obtain ⟨m, ⟨oL, es, ep, ho, hd, hr⟩, hm⟩ := F.ns
    obtain ⟨sl, e⟩ := fu env.locals (by rw [hfs]; exact List.mem_cons_self) oL ho
    refine ⟨m, ⟨_, es, ep, e, hd, hr⟩, fun x d hd hk => ?_⟩
    obtain ⟨v, e, r⟩ := hm x d hd hk
    exact ⟨v, e, r.mono y.grow⟩
  · obtain ⟨ov, ⟨o, ho, hd⟩, h⟩ := F.cell x c hc
    have hin : c ∈ env.cells.map (·.2) := List.mem_map.mpr ⟨(x, c), mem_of_lookup hc, rfl⟩
    refine ⟨ov, ⟨o, y.keep c o (F.off c (List.mem_cons_of_mem _ hin)).2.1 (fun hb => F.loc (List.mem_singleton.mp hb ▸ hin)) ho, hd⟩, fun d hd hk => ?_⟩
    obtain ⟨v, e, r⟩ := h d hd hk
    exact ⟨v, e, r.mono y.grow⟩
  · cases e : g' p with
    | none => rfl
    | some o =>
      obtain ⟨o₁, e₁⟩ := (F.off p hp).2.2
      rcases y.new p o e with h | h | h
      · rw [(F.off p hp).1] at h; cases h
      · exact absurd h (F.off p hp).2.1
      · rw [e₁] at h; cases h
  · obtain ⟨o₁, e₁⟩ := (F.off p hp).2.2
    rcases y.dom p hm with h | h
    · exact (F.off p hp).2.1 h
    · rw [e₁] at h; cases h
  · obtain ⟨o₁, e₁⟩ := (F.off p hp).2.2
    exact y.there p o₁ e₁

/-- a call that catches on its way, from the outermost frame -/
theorem ev_callF {C : Cx} {σ : Sg} {μ : Mu} {Q : D → Mu → Prop} {n : Nat} (P : PW W) (i : Nat) {x : Str} {np pos : Pos} {es : List Expr} (R : Room C.A n C.fs) (hfs : frs C.fs = [C.env.locals])
    (h : EVs C es σ μ fun ds μ₂ => FNF W n (P.addr i) ds μ₂ Q)
    (hp : C.prog = W.prog ∧ C.w = W.w) (hk : C.env.kindOf x = some .globalImplicit := by rfl) (hi : i ∈ idxs := by decide) (hx : x = nameF i := by decide +kernel) (hdb : (x == ("__debug__" : Str)) = false := by decide +kernel) (hC : InW W C := by exact ⟨rfl, rfl, rfl, rfl, rfl⟩)
    (hne : ∃ e r, es = e :: r ∧ starEach (e :: r) C.env = (false, eval e C.env) :: starEach r C.env := by exact ⟨_, _, rfl, rfl⟩) (hw : ∀ f, callWith pos f [] (backTo pos (starEach es C.env)) (backToKw pos (keywordEach [] C.env)) = callWith pos f [] (backTo pos (starEach es C.env)) [] := by intro _; rfl) :
    EV C (.Call (.Name x np) es [] pos) σ μ Q := by
  intro s g S
  obtain ⟨o, fd, ho, hd⟩ := fn_there P i hi
  refine wpAny_Call_ofName (wpAny_mono (ev_fnName P i (Q := fun d μ' => d = .ref (P.addr i) ∧ μ' = μ) ⟨rfl, rfl⟩ hk hi hx hdb hC s g S) ?_ fun _ _ e => e)
  rintro v s1 ⟨d, g1, μ1, k1, S1, R1, rfl, rfl⟩
  rw [R1.ref_inv, hw]
  refine callWith_function (o := o) (fd := fd) ?_
  obtain ⟨e, r, rfl, he⟩ := hne
  have h3 := h s1 g1 pos S1
  rw [he] at h3 ⊢
  refine evalArgs_plain (wpAny_mono h3 ?_ fun _ _ e => e)
  rintro vs s2 ⟨ds, g2, μ2, k2, S2, R2, hf⟩
  refine ⟨⟨S2.b.v _ o (S2.b.w _ o (by rw [hC.h₀]; exact ho)), hd⟩, ?_⟩
  rw [hp.1, hp.2]
  have hoff : OffF C.fs g2 μ2 := fun b hb => by
    rw [hfs] at hb
    rw [List.mem_singleton.mp hb]
    exact ⟨(S2.f.off _ List.mem_cons_self).1, (S2.f.off _ List.mem_cons_self).2.1⟩
  refine wpAny_mono (hf C.fs C.A s2 g2 vs R (by rw [← hC.h₀]; exact S2.b) hoff R2) ?_ fun _ _ e => e.elim
  rintro v s3 ⟨d, g3, μ3, y, fu, B3, R3, q⟩
  exact ⟨d, g3, μ3, fun b x e => y.grow b x (k2 b x (k1 b x e)), S2.backF hfs y fu (by rw [hC.h₀]; exact B3), R3, q⟩

theorem form_ex1 {r : Option Mat} (h : FormOf 2 [[2, 7], [0, 3]] r) : r = some [[2, 1], [0, 3]] := by
  have hs : Sq 2 [[2, 7], [0, 3]] := ⟨rfl, fun r hr => by rcases List.mem_cons.mp hr with rfl | hr; rfl; rw [List.mem_singleton.mp hr]; rfl⟩
  have hs' : Sq 2 [[2, 1], [0, 3]] := ⟨rfl, fun r hr => by rcases List.mem_cons.mp hr with rfl | hr; rfl; rw [List.mem_singleton.mp hr]; rfl⟩
  have k : FormOf 2 [[2, 7], [0, 3]] (some [[2, 1], [0, 3]]) := by
    refine ⟨⟨hs', fun j hj => ?_⟩, eqv_sub hs (show 0 < 2 by decide) (show 1 < 2 by decide) (by decide) 2, rfl, Bnd.of fun r hr x hx => Nat.le_trans (m := 3) ?_ (Nat.le_trans (by decide : 3 ≤ 2 ^ 2) (pow_le (by decide)))⟩
    · rcases (show j = 0 ∨ j = 1 by omega) with rfl | rfl
      · refine ⟨by decide, fun i a b => ?_, fun i a => absurd a (by omega)⟩
        rcases (show i = 1 by omega) with rfl; rfl
      · refine ⟨by decide, fun i a b => by omega, fun i a => ?_⟩
        rcases (show i = 0 by omega) with rfl; decide
    · simp at hr
      rcases hr with rfl | rfl <;> simp at hx <;> rcases hx with rfl | rfl <;> decide
  exact FormOf.same (by decide) (by decide) h k (Eqv.refl _) rfl
theorem form_ex2 {r : Option Mat} (h : FormOf 2 [[1, 2], [2, 4]] r) : r = none := by
  cases r with
  | none => rfl
  | some m => exact absurd (by decide) (h.size (by decide) (by decide)).2

variable {W : Wd}
/-- the rows that the law draws -/
noncomputable def Drawn (k : Nat) (l : List (List Int)) : Prop := ∀ r ∈ l, r.length = k ∧ ∀ x ∈ r, x.natAbs ≤ 6

theorem fn_law {cls : Addr} (P : PW W) (N : NI W cls) {f : Addr} (Df : Def W f (parsF 36) (bodyF 36) (scopeF 36)) (ns : List Int) (hns : ns.length < 2 ^ 19) : FN W.prog W.w W.h₀ [] 570 f [dInts ns] [] (fun d _ => d = .bool true) := by
  refine fn_intro P.ok Df rfl rfl rfl (by decide +kernel) rfl (by decide +kernel) (by decide +kernel) fun A o L q' cd R => ?_
  have hu : (A.deeper (fenv (scopeF 36) L f q' cd)).units + 64 < cLine := by have := R.units; omega
  refine xs_cons (x_assign ?_)
  refine ev_listM ?_
  refine evs_cons ?_
  refine ev_comp (cl := []) (compOk rfl .nil (by decide +kernel) rfl (by decide +kernel)) (comp_map ?_)
  refine src_list R.handled (fun e he => kind_of_scope he rfl) ?_
  refine ev_slice ?_
  walk_at "e"
  refine evo_none (evo_some ?_)
  walk_at "e"
  refine ⟨_, none, some 40, .inl rfl, by rw [List.length_map]; simp [sizeLine]; omega, .inl ⟨rfl, rfl⟩, .inr ⟨_, rfl, rfl⟩, .inl rfl, (by simp), (by simp), ?_⟩
  have hcut : cutL (ns.map Mine.D.int) none (some 40) = (ns.take 40).map Mine.D.int := by
    show (ns.map Mine.D.int).take 40 = _
    rw [← List.map_take]
  rw [hcut]
  refine ⟨_, rfl, ?_⟩
  rw [List.length_map]
  have hl40 : (ns.take 40).length ≤ 40 := by rw [List.length_take]; omega
  refine ⟨by simp [sizeLine]; omega, [], fun j => .int (((ns.take 40).getD j 0).natAbs : Nat), .nil, .nil, fun i => .nil, ?_, ?_⟩
  · intro i ys D a o' hi hD
    dsimp only
    rw [getD_map Mine.D.int (getD_some (d := 0) hi)]
    refine ev_abs P ?_
    walk_at "e"
    exact ⟨rfl, rfl⟩
  rw [range_map (fun j => Mine.D.int (((ns.take 40).getD j 0).natAbs : Nat)) (fun x => Mine.D.int (x.natAbs : Nat)) (ns.take 40) fun i x h => by rw [List.getD_eq_getElem?_getD, h]; rfl]
  have eb : (ns.take 40).map (fun x => Mine.D.int (x.natAbs : Nat)) = ((ns.take 40).map Int.natAbs).map fun n : Nat => Mine.D.int n := by rw [List.map_map]; rfl
  rw [eb]
  have hbl : ((ns.take 40).map Int.natAbs).length < 2 ^ 20 := by rw [List.length_map]; omega
  generalize (ns.take 40).map Int.natAbs = bits at *
  clear eb hl40 hns hcut
  walk_at "e"
  refine ⟨by first | exact Nat.le_of_ble_eq_true rfl | simp [sizeLine], fun ba _ => ?_⟩
  refine an_cell rfl rfl rfl ?_
  refine xs_cons (x_assign ?_)
  refine ev_add ?_
  walk_at "e"
  refine ev_cal P 26 (n := 3) (R.less (by first | decide | omega)) ?_
  walk_at "e"
  refine fn_chip P _ bits 0 6 hbl (by decide) (by decide) ba [] [] _ fun c6 hc6 => ?_
  walk_at "e"
  have hw : 3 ≤ 3 + c6 := Nat.le_add_right _ _
  have hw8 : 3 + c6 ≤ 8 := by omega
  rw [show (3 : Int) + (c6 : Int) = ((3 + c6 : Nat) : Int) by omega]
  generalize 3 + c6 = w at *
  clear hc6 c6
  refine xs_ifC (ct_or (co_cons (ct_cmp ?_)))
  refine ev_callF P 31 (n := 556) (R.less (by first | decide | omega)) rfl ?_ ⟨rfl, rfl⟩
  refine evs_cons ?_
  refine ev_list ?_
  refine evs_cons ?_
  refine ev_list ?_
  walk_at "e"
  refine ⟨by first | exact Nat.le_of_ble_eq_true rfl | simp [sizeLine], ?_⟩
  refine evs_cons ?_
  refine ev_list ?_
  walk_at "e"
  refine ⟨by first | exact Nat.le_of_ble_eq_true rfl | simp [sizeLine], ?_⟩
  walk_at "e"
  refine ⟨by first | exact Nat.le_of_ble_eq_true rfl | simp [sizeLine], ?_⟩
  walk_at "e"
  have bex : ∀ m : Mat, (m.all fun r => r.all fun x => decide (x.natAbs ≤ 7)) = true → Bnd (2 ^ 15) m := fun m h => Bnd.of fun r hr x hx => by
    have := of_decide_eq_true (List.all_eq_true.mp (List.all_eq_true.mp h r hr) x hx)
    exact Nat.le_trans this (by decide)
  refine fnf_form P N w hw hw8 2 (by decide) (by decide) [[2, 7], [0, 3]] ⟨rfl, fun r hr => by rcases List.mem_cons.mp hr with rfl | hr; rfl; rw [List.mem_singleton.mp hr]; rfl⟩ (bex _ (by decide)) _ _ fun r hr => ?_
  rw [form_ex1 hr]
  clear hr r
  refine ev_list ?_
  refine evs_cons ?_
  refine ev_list ?_
  walk_at "e"
  refine ⟨by first | exact Nat.le_of_ble_eq_true rfl | simp [sizeLine], ?_⟩
  refine evs_cons ?_
  refine ev_list ?_
  walk_at "e"
  refine ⟨by first | exact Nat.le_of_ble_eq_true rfl | simp [sizeLine], ?_⟩
  walk_at "e"
  refine ⟨by first | exact Nat.le_of_ble_eq_true rfl | simp [sizeLine], ?_⟩
  refine ⟨_, c_neOpt (a := some [[2, 1], [0, 3]]) (b := some [[2, 1], [0, 3]]) hu, fun h => absurd h (by simp), fun _ => ?_⟩
  refine co_cons (ct_cmp ?_)
  refine ev_callF P 31 (n := 556) (R.less (by first | decide | omega)) rfl ?_ ⟨rfl, rfl⟩
  refine evs_cons ?_
  refine ev_list ?_
  refine evs_cons ?_
  refine ev_list ?_
  walk_at "e"
  refine ⟨by first | exact Nat.le_of_ble_eq_true rfl | simp [sizeLine], ?_⟩
  refine evs_cons ?_
  refine ev_list ?_
  walk_at "e"
  refine ⟨by first | exact Nat.le_of_ble_eq_true rfl | simp [sizeLine], ?_⟩
  walk_at "e"
  refine ⟨by first | exact Nat.le_of_ble_eq_true rfl | simp [sizeLine], ?_⟩
  walk_at "e"
  refine fnf_form P N w hw hw8 2 (by decide) (by decide) [[1, 2], [2, 4]] ⟨rfl, fun r hr => by rcases List.mem_cons.mp hr with rfl | hr; rfl; rw [List.mem_singleton.mp hr]; rfl⟩ (bex _ (by decide)) _ _ fun r hr => ?_
  rw [form_ex2 hr]
  clear hr r bex
  walk_at "e"
  refine ⟨_, c_isNotNone (a := none), fun h => absurd h (by simp), fun _ => co_nil ?_⟩
  walk_at "e"
  refine xs_cons (x_for (α := Nat) (fun _ => [("bag", .ref ba), ("w", .int w)]) (fun p => [(ba, [dN bits, .int p])]) PassesOwn.never ?_)
  refine s_range1 P R.handled (by rintro _ rfl; rfl) ?_
  walk_at "e"
  refine ⟨by decide, fun i p => p ≤ 1 + 40 * i, 1, .cons rfl (.cons rfl .nil), rfl, Nat.le_refl _, ?_, ?_⟩
  rotate_left
  · intro p hp
    walk_at "e"
    exact rfl
  intro i p o' hi hp
  have hi : i < 2 := hi
  refine xs_abs fun Q0 hQ0 => ?_
  have hpb : p ≤ 81 := by omega
  refine xs_cons (x_assign ?_)
  refine ev_add ?_
  walk_at "e"
  refine ev_cal P 26 (n := 3) (R.less (by first | decide | omega)) ?_
  walk_at "e"
  refine fn_chip P _ bits p 3 hbl (by omega) (by decide) ba [] [] _ fun c3 hc3 => ?_
  refine ⟨_, _, rfl, rfl, ?_⟩
  have k1 : 1 ≤ 1 + c3 := Nat.le_add_right _ _
  have k3 : 1 + c3 ≤ 3 := by omega
  rw [show (1 : Int) + (c3 : Int) = ((1 + c3 : Nat) : Int) by omega]
  generalize 1 + c3 = k at *
  clear hc3 c3
  refine an_cell rfl rfl rfl ?_
  refine xs_cons (x_comp (cl := [("many", L + 2), ("bag", L + 1)]) (compOk rfl (.cons rfl (.inl rfl) (.cons rfl (.inl rfl) .nil)) (by decide +kernel) rfl (by decide +kernel)) (by rfl) rfl (comp_mu ?_))
  refine s_range1 P R.handled (fun e he => kind_of_scope he rfl) ?_
  walk_at "e"
  refine ⟨by omega, by simp [sizeLine]; omega, [("bag", .ref ba), ("many", .int k)], fun i ys μ => ∃ (l : List (List Int)) (p' : Nat), ys = l.map dInts ∧ l.length = i ∧ Drawn k l ∧ p' ≤ p + 1 + 3 * i ∧ μ = [(ba, [dN bits, .int p'])],
    .cons rfl (.cons rfl .nil), .cons (k := some .cell) rfl (by decide) (.cons (k := some .cell) rfl (by decide) .nil), fun i => .cons rfl (.cons rfl .nil), ⟨[], p + 1, rfl, rfl, fun r hr => (by cases hr), Nat.le_refl _, rfl⟩, ?_, ?_, ?_⟩
  · rintro i ys μ ⟨l, p', rfl, rfl, _⟩; simp
  · rintro i _ _ D a' o2 hi ⟨l, p', rfl, hl, hdr, hp', rfl⟩ hD
    refine ev_comp (cl := [("bag", L + 1)]) (compOk rfl (.cons rfl (.inl rfl) .nil) (by decide +kernel) rfl (by decide +kernel)) (comp_mu ?_)
    refine s_range1 P R.handled (fun e he => kind_of_scope he rfl) ?_
    walk_at "e"
    refine ⟨by omega, by simp [sizeLine]; omega, [("bag", .ref ba)], fun j zs μ => ∃ (r : List Int) (p2 : Nat), zs = r.map Mine.D.int ∧ r.length = j ∧ (∀ x ∈ r, x.natAbs ≤ 6) ∧ p2 ≤ p' + j ∧ μ = [(D, l.map dInts), (ba, [dN bits, .int p2])],
      .cons rfl .nil, .cons (k := some .cell) rfl (by decide) .nil, fun i => .cons rfl .nil, ⟨[], p', rfl, rfl, fun r hr => (by cases hr), Nat.le_refl _, rfl⟩, ?_, ?_, ?_⟩
    · rintro j zs μ ⟨r, p2, rfl, rfl, _⟩; simp
    · rintro j _ _ D' a2 o3 hj ⟨r, p2, rfl, hr, hrb, hp2, rfl⟩ hD'
      refine ev_sub ?_
      refine ev_cal P 26 (n := 3) (R.less (by first | decide | omega)) ?_
      walk_at "e"
      refine fn_chip P _ bits p2 13 hbl (by omega) (by decide) ba [(D', r.map Mine.D.int), (D, l.map dInts)] [] _ fun c hc => ?_
      walk_at "e"
      refine ⟨r ++ [(c : Int) - 6], p2 + 1, by simp, by simp [hr], fun x hx => ?_, by omega, rfl⟩
      rcases List.mem_append.mp hx with h | h
      · exact hrb x h
      · rw [List.mem_singleton.mp h]; omega
    · rintro _ _ ⟨r, p2, rfl, hr, hrb, hp2, rfl⟩
      refine ⟨_, rfl, l ++ [r], p2, by simp, by simp [hl], fun x hx => ?_, by omega, rfl⟩
      rcases List.mem_append.mp hx with h | h
      · exact hdr x h
      · rw [List.mem_singleton.mp h]; exact ⟨hr, hrb⟩
  rintro _ _ ⟨a, p', rfl, hal, hdr, hp', rfl⟩
  have hsq : Sq k a := ⟨hal, fun r hr => (hdr r hr).1⟩
  have hb6 : Bnd 6 a := Bnd.of fun r hr x hx => (hdr r hr).2 x hx
  have hb15 : Bnd (2 ^ 15) a := fun i j => Nat.le_trans (hb6 i j) (by decide)
  clear hdr hal
  refine xs_cons (x_unpack ?_)
  refine ev_tuple ?_
  refine evs_cons ?_
  refine ev_callF P 31 (n := 556) (R.less (by first | decide | omega)) rfl ?_ ⟨rfl, rfl⟩
  walk_at "e"
  refine fnf_form P N w hw hw8 k k1 k3 a hsq hb15 _ _ fun r hr => ?_
  refine evs_cons ?_
  refine ev_cal P 32 (n := k + 12) (R.less (by first | decide | omega)) ?_
  walk_at "e"
  refine fn_size P k a _ k3 hsq (fun i j => Nat.le_trans (hb15 i j) (pow_le (by decide))) _ _ ?_
  walk_at "e"
  refine ⟨by first | exact Nat.le_of_ble_eq_true rfl | simp [sizeLine], ?_⟩
  refine as_tuple R.handled (asl_cons (as_name (an_cell rfl rfl rfl (asl_cons (as_name (an_local rfl (asl_nil ?_)))))))
  refine xs_cutS (α := Unit) (fun _ => [("form", dOpt r), ("rows", dMat a), ("bag", .ref ba), ("w", .int w)]) (fun _ => [(ba, [dN bits, .int p'])]) (fun _ => True) ?_ ?_
  · refine x_ifC (ct_eq ?_)
    walk_at "e"
    refine ⟨fun h0 => ?_, fun h0 => ?_⟩
    · cases r with
      | some m => exact absurd h0 (hr.size k1 k3).2
      | none =>
        refine xs_ifC (ct_cmp ?_)
        walk_at "e"
        refine ⟨_, c_isNotNone (a := none), fun h => absurd h (by simp), fun _ => ?_⟩
        walk_at "e"
        exact ⟨rfl, (), trivial, .cons rfl (.cons rfl (.cons rfl (.cons rfl .nil))), rfl⟩
    · cases r with
      | none => exact absurd hr h0
      | some m =>
        obtain ⟨z1, _⟩ := hr.size k1 k3
        obtain ⟨f1, f2, f3, f4⟩ := id hr
        refine xs_ifC (ct_or (co_cons (ct_cmp ?_)))
        walk_at "e"
        refine ⟨_, c_isNone (a := some m), fun h => absurd h (by simp), fun _ => ?_⟩
        refine co_cons (ct_not (ct_bool ?_))
        refine ev_cal P 33 (n := 12) (R.less (by first | decide | omega)) ?_
        walk_at "e"
        refine fn_tidy P _ k k3 m f1 _ _ ⟨true, rfl, fun _ => ?_, fun h => (nomatch h)⟩
        refine co_cons (ct_ne ?_)
        refine ev_cal P 32 (n := k + 12) (R.less (by first | decide | omega)) ?_
        walk_at "e"
        refine fn_size P k m _ k3 f1.1 f4 _ _ ?_
        refine ev_abs P ?_
        walk_at "e"
        refine ⟨fun h => absurd z1 h, fun _ => co_nil ?_⟩
        refine xs_ifC (ct_cmp ?_)
        refine ev_comp (cl := [("form", L + 3)]) (compOk rfl (.cons rfl (.inl rfl) .nil) (by decide +kernel) rfl (by decide +kernel)) (comp_filter ?_)
        refine src_list R.handled (fun e he => kind_of_scope he rfl) ?_
        walk_at "e"
        rw [List.length_map, hsq.1]
        refine ⟨by simp [sizeLine]; omega, [("form", dMat m)], fun _ => .none, fun _ => false, .cons rfl .nil, .cons (k := some .cell) rfl (by decide) .nil, fun i => .cons rfl .nil, ?_, ?_, ?_⟩
        · intro j ys D a' o2 hj hD
          obtain ⟨e1, e0, e2⟩ := hsq.row hj
          dsimp only
          rw [getD_map dInts e1]
          refine ct_not (ct_bool ?_)
          refine ev_cal P 34 (n := 12) (R.less (by first | decide | omega)) ?_
          walk_at "e"
          exact fn_goes P _ k k1 k3 m f1 f4 _ e2 ((f2 _).mpr (Lat.mem e0)) (fun c => Nat.le_trans (hb15 j c) (pow_le (by decide))) _ _ ⟨true, rfl, fun _ => ⟨rfl, rfl⟩, fun h => (nomatch h)⟩
        · intro j ys D a' o2 hj hD hp
          cases hp
        rw [filt_none]
        refine ev_list ?_
        walk_at "e"
        refine ⟨by decide, _, c_neMat (a := []) (b := []) hu, fun h => by simp at h, fun _ => ?_⟩
        walk_at "e"
        exact ⟨rfl, (), trivial, .cons rfl (.cons rfl (.cons rfl (.cons rfl .nil))), rfl⟩
  · intro _ _
    refine xs_ifC (ct_cmp ?_)
    refine ev_callF P 31 (n := 556) (R.less (by first | decide | omega)) rfl ?_ ⟨rfl, rfl⟩
    refine evs_cons ?_
    refine ev_cal P 35 (n := 12) (R.less (by first | decide | omega)) ?_
    walk_at "e"
    refine fn_changed P _ bits p' hbl (by omega) ba [] [] k k1 k3 a hsq hb6 _ fun b p2 hC hp2 => ?_
    walk_at "e"
    refine fnf_form P N w hw hw8 k k1 k3 b hC.sq hC.bnd _ _ fun r' hr' => ?_
    rw [hr'.same k1 k3 hr hC.eqv hC.det]
    walk_at "e"
    refine ⟨_, c_neOpt (a := r) (b := r) hu, fun h => absurd h (by simp), fun _ => ?_⟩
    walk_at "e"
    exact hQ0 _ _ _ ⟨p2, by omega, .cons rfl (.cons rfl .nil), rfl⟩

/-! the top of the text, run once -/
noncomputable abbrev pw := PySem.Challenge.pw_pq0538_01
noncomputable abbrev rr := PySem.Challenge.rw_pq0538_01.row
noncomputable def keepL : List Nat := (List.range 37).filter fun i => !([0, 11, 21, 25].contains i)
noncomputable def qv : Program := view pw keepL
noncomputable def XtQ (s : Shared) : Bool := xlAt qv [] s && recOk (RowW.records rr.toRowW) s
noncomputable def parF (i : Nat) : Arguments := match mainBody.drop i with
  | .FunctionDef _ a _ _ _ _ _ _ _ _ :: _ => a
  | _ => { posonlyargs := [], args := [], vararg := none, kwonlyargs := [], kw_defaults := [], kwarg := none, defaults := [] }
noncomputable def posF (i : Nat) : Pos := match mainBody.drop i with
  | .FunctionDef _ _ _ _ _ _ _ _ _ p :: _ => p
  | _ => default
noncomputable def recF (i : Nat) : DefRec := ⟨nameF i, parF i, bodyF i, scopeF i, posF i⟩
noncomputable def idxA : List Nat := idxs ++ [36]
theorem recs_eq : recsOf qv = idxA.map recF := by kernel_rfl
theorem law_def : defOf qv rr.name = some (recF 36, []) := by kernel_rfl
theorem said : OpenLaw.wellSaid PySem.Challenge.rw_pq0538_01 = true := by
  rw [PySem.W.Fast.te9446332074065402090]
  kernel_rfl
theorem ran (w : World) (os : OsState) : (topFrom treeTable pw w 3590 ⟨boot_heap w.params, #[], boot_drawn, boot_toks, os⟩).map (fun s => (openSeen qv [] (importedModules pw.main.body) XtQ true s, Hook.none.obs s)) = some (openGood qv [], Hook.none.val w) := by
  unfold topFrom
  rw [PySem.W.Fast.te14364793385576792824, PySem.W.Fast.te14082659384304107361, PySem.W.Fast.te4187177175401517315]
  kernel_rfl
theorem op1 : opening pw = plainProg pw.main.scope.names := by kernel_rfl
theorem op2 (s : Shared) : fenceModules? pw s = some s := by kernel_rfl
theorem ends_of {p q : Program} {loose : List Str} {Xt : Shared → Bool} {α : Type} {Yf : Shared → α} {Ya : World → α} {N : Nat} {w : World} {h₀ : Heap} {gs : Array GenState} {d : PySem.Drawn} {k : Nat}
    (b : Option.map (fun s => (s.heap, s.gens, s.drawn, s.toks)) (fencedOpening treeTable p w N) = some (h₀, gs, d, k))
    (r : ∀ os, (topFrom treeTable p w N ⟨h₀, gs, d, k, os⟩).map (fun s => (openSeen q loose (importedModules p.main.body) Xt true s, Yf s)) = some (openGood q loose, Ya w)) :
    (openEnds treeTable p w N).map (fun s => (openSeen q loose (importedModules p.main.body) Xt true s, Yf s)) = some (openGood q loose, Ya w) := by
  obtain ⟨⟨h, gs', d', k', os⟩, e, e'⟩ := Option.map_eq_some_iff.mp b
  obtain ⟨rfl, rfl, rfl, rfl⟩ : h = h₀ ∧ gs' = gs ∧ d' = d ∧ k' = k := by simpa using e'
  unfold openEnds
  rw [e]
  exact r os
theorem left : LeftO pw qv [] XtQ Hook.none.obs Hook.none.val 3590 := fun w =>
  ends_of (Yf := Hook.none.obs) (Ya := Hook.none.val) (boot_open (p := pw) (N := 3590) op1 (by decide) op2 w) (ran w)

noncomputable def BindOk (i : Nat) : Prop := ∀ (pm code doc : Value) (vs : List Value), vs.length = (parsF i).length → bindArgs (docDef (nameF i) (parF i) (bodyF i) (scopeF i) pm code doc) ⟨vs, []⟩ = pure ((parsF i).zip vs)
theorem by1 {P : List Value → Prop} (h : ∀ a, P [a]) : ∀ vs, vs.length = 1 → P vs | [a], _ => h a
theorem by2 {P : List Value → Prop} (h : ∀ a b, P [a, b]) : ∀ vs, vs.length = 2 → P vs | [a, b], _ => h a b
theorem by3 {P : List Value → Prop} (h : ∀ a b c, P [a, b, c]) : ∀ vs, vs.length = 3 → P vs | [a, b, c], _ => h a b c
theorem by4 {P : List Value → Prop} (h : ∀ a b c d, P [a, b, c, d]) : ∀ vs, vs.length = 4 → P vs | [a, b, c, d], _ => h a b c d
theorem by6 {P : List Value → Prop} (h : ∀ a b c d e f, P [a, b, c, d, e, f]) : ∀ vs, vs.length = 6 → P vs | [a, b, c, d, e, f], _ => h a b c d e f
theorem bindOk : ∀ i ∈ idxA, BindOk i := by
  refine List.forall_mem_append.mpr ⟨?_, List.forall_mem_singleton.mpr fun pm code doc => by1 fun a => rfl⟩
  repeat' (first | exact List.forall_mem_nil _ | refine List.forall_mem_cons.mpr ⟨?_, ?_⟩)
  all_goals first
    | exact fun pm code doc => by1 fun a => rfl
    | exact fun pm code doc => by2 fun a b => rfl
    | exact fun pm code doc => by3 fun a b c => rfl
    | exact fun pm code doc => by4 fun a b c d => rfl
    | exact fun pm code doc => by6 fun a b c d e f => rfl

section
variable {w : World} {mean : ExcName → Option Value} {mg mb : Str → Option Value} {h : Heap}
theorem defs_of (T : Top qv (looseW qv []) mean mg mb h) : ∃ f : Nat → Addr, ∀ i, i ∈ idxA → mg (nameF i) = some (.ref (f i)) ∧ Def ⟨pw, w, h, mg, mb⟩ (f i) (parsF i) (bodyF i) (scopeF i) := by
  have key : ∀ i, ∃ a, i ∈ idxA → mg (nameF i) = some (.ref a) ∧ Def ⟨pw, w, h, mg, mb⟩ a (parsF i) (bodyF i) (scopeF i) := fun i => by
    by_cases hi : i ∈ idxA
    · obtain ⟨a, o, pm, code, doc, h1, h2, h3, h4⟩ := T.fn (recF i) (by rw [recs_eq]; exact List.mem_map.mpr ⟨i, hi, rfl⟩)
      exact ⟨a, fun _ => ⟨h1, ⟨nameF i, nameF i, parF i, .none, .none, doc, pm, _, code, _, o, h2, h3, h4, bindOk i hi pm code doc⟩⟩⟩
    · exact ⟨0, fun k => absurd k hi⟩
  exact ⟨fun i => Classical.choose (key i), fun i => Classical.choose_spec (key i)⟩
theorem pw_of (T : Top qv (looseW qv []) mean mg mb h) : ∃ (P : PW ⟨pw, w, h, mg, mb⟩) (f cls : Addr), mg (nameF 36) = some (.ref f) ∧ Def ⟨pw, w, h, mg, mb⟩ f (parsF 36) (bodyF 36) (scopeF 36) ∧ NI ⟨pw, w, h, mg, mb⟩ cls := by
  obtain ⟨f, hf⟩ := defs_of (w := w) T
  have sub : ∀ i, i ∈ idxs → i ∈ idxA := fun i hi => List.mem_append_left _ hi
  obtain ⟨cls, hN, _⟩ := T.ownAt (x := "NoInverse") (newId := "Exception.__new__") (bm := bmE) (by kernel_rfl)
  have fr : ∀ n : Str, n ∈ (["len", "abs", "sum", "range", "enumerate", "zip"] : List Str) → mg n = none := fun n hn => by
    have ok : (["len", "abs", "sum", "range", "enumerate", "zip"] : List Str).all (fun x => !startupNames.contains x && !(looseW qv []).contains x && !((recsOf qv).map (·.name)).contains x && !((litsOf qv).map (·.1)).contains x && !((clssOf qv (looseW qv [])).map (·.name)).contains x) = true := by kernel_rfl
    have k := List.all_eq_true.mp ok n hn
    simp only [Bool.and_eq_true, Bool.not_eq_true', List.contains_eq_mem, decide_eq_false_iff_not] at k
    obtain ⟨⟨⟨⟨a, b⟩, c⟩, d⟩, e⟩ := k
    exact T.free n a b c d e
  have bt : ∀ n : Str, n ≠ "__name__" → mb n = bootBuiltins n := T.builtins
  refine ⟨⟨⟨T.nolimit, T.g, T.b⟩, f, fun i hi => (hf i (sub i hi)).2, fun i hi => (hf i (sub i hi)).1, fun n hn => fr n ?_, ?_, ?_, ?_, fun n hn => fr n ?_, ?_, ?_, ?_⟩, f 36, cls, (hf 36 (by decide)).1, (hf 36 (by decide)).2, hN⟩
  · simp only [List.mem_cons, List.not_mem_nil, or_false] at hn ⊢; rcases hn with h | h | h <;> simp [h]
  · exact (bt _ (by decide +kernel)).trans Boot.«len»
  · exact (bt _ (by decide +kernel)).trans Boot.«abs»
  · exact (bt _ (by decide +kernel)).trans Boot.«sum»
  · simp only [List.mem_cons, List.not_mem_nil, or_false] at hn ⊢; rcases hn with h | h | h <;> simp [h]
  · exact (bt _ (by decide +kernel)).trans Boot.«range»
  · exact (bt _ (by decide +kernel)).trans Boot.«enumerate»
  · exact (bt _ (by decide +kernel)).trans Boot.«zip»
end

theorem repInts {g : View} {vs : List Value} {ns : List Int} (h : IntsAre vs ns) : RepL g vs (ns.map .int) := by
  induction h with
  | nil => exact .nil
  | cons n t _ ih => exact .cons (.int n t) ih

theorem walk : WalkO qv [] (XL qv []) Hook.none.says rr.toRowW (recF 36) [] fun f vs => PySem.call f vs := by
  intro w s₀ s₁ mg mb G _ a o pm cd doc dV kV ho hd hcd hD hmg hg args vals as hpre hlay hrd hwl hlo
  wrow_args hpre hlay hrd hwl hlo
  rename_i ns _ _ _ _ _ _ _ la vs _ hL _ _ _ hI _ hlen _
  obtain ⟨P, f, cls, hm, Df, N⟩ := pw_of (w := w) G.T
  obtain rfl : f = a := by
    have e := hm.symm.trans hmg
    cases e; rfl
  obtain ⟨oL, hoL, hcL, nL, hdL⟩ := hL
  have B : Base s₁.heap [] s₁ s₁.heap.get? [] := ⟨fun _ _ e => e, fun _ _ e => e, fun _ _ h => (nomatch h), List.nodup_nil, trivial⟩
  have R : Room callerA 570 [] := ⟨rfl, by decide +kernel, by decide +kernel, rfl⟩
  refine wpAny_mono (fn_law P N Df ns (by omega) callerA s₁ s₁.heap.get? [.ref la] R B (.cons (.mkList hoL hcL hdL (repInts hI)) .nil)) ?_ fun _ _ e => e.elim
  rintro v s' ⟨d, g', μ', y, B', RV, rfl⟩
  rw [RV.bool_inv]
  obtain ⟨h', tk, rfl⟩ := y.same
  refine GoodW.toG ⟨.inl ⟨.bool true, .bool true, [], rfl, fun cls => rfl, ?_, ?_, fun _ => ⟨List.nodup_nil, fun a h => (nomatch h)⟩⟩, fun b o e => y.keep b o (by simp) (by simp) e, rfl, hg⟩
  · exact .bool _
  · wrow_post

theorem holds : PySem.Challenge.rw_pq0538_01.Holds :=
  holds_law said fun _ => holds_open (q := qv) (loose := []) (Xt := XtQ) (XP := XL qv []) (Yf := Hook.none.obs) (Ya := Hook.none.val) (YP := Hook.none.says) (N := 3590) left (Hook.of Hook.none) (Hook.keeps Hook.none)
    (fun s e => xl_of s (Bool.and_eq_true_iff.mp e).1) XL.keeps law_def (by kernel_rfl) (by kernel_rfl) (fun s e => recFacts_of (Bool.and_eq_true_iff.mp e).2) (by kernel_rfl) (row_said said) (by kernel_rfl) ⟨rfl, rfl, rfl, rfl, rfl, by decide +kernel⟩ (by w_witness2) walk

end Mine

theorem PySem.Challenge.cw_pq0538_01_holds : PySem.Challenge.rw_pq0538_01.Holds :=
  Mine.holds
