import PyProof.Rows.All
import Wide.All
import OpenK.AllK
import Wide.FinOn
import HandS.ForMost
import HandS.ForExc
import HandS.Wide
import HandS.TupAny
import HandS.IsInst
import HandS.CallSlots
import HandS.EndBits
import PySem.Challenge.RW_beatsbounded_k58_least_lately_used
set_option Elab.async false
set_option linter.all false
set_option maxRecDepth 100000
set_option maxHeartbeats 4000000
/-! A layer over L2: values as trees, slots with their ownership, and what each construct computes on them. -/
namespace Mir
open PySem PySem.Spec PyProof.Rows L2

/-! ### trees -/
inductive D where
  | non | bl (b : Bool) | int (i : Int) | str (x : Str) | tup (ds : List D) | lst (ds : List D) | ins (C : Addr) (fs : List (Str × D))

section
variable (K : PySem.W.Frag) (S : Hp)
mutual
inductive RepD : V → D → Prop
  | non : RepD .non .non
  | bl (b : Bool) : RepD (.bl b) (.bl b)
  | int (i : Int) : RepD (.int i) (.int i)
  | str (x : Str) : RepD (.str x) (.str x)
  | tup {a : Addr} {vs : List V} {ds : List D} : SqT K S a vs → RepDs vs ds → RepD (.ref a) (.tup ds)
  | lst {a : Addr} {vs : List V} {ds : List D} : SqL K S a vs → RepDs vs ds → RepD (.ref a) (.lst ds)
  | ins {C a dx : Addr} {fs : List (Str × V)} {gs : List (Str × D)} : S a = some (.ins C dx fs) → RepFs fs gs → RepD (.ref a) (.ins C gs)
inductive RepDs : List V → List D → Prop
  | nil : RepDs [] []
  | cons {v : V} {d : D} {vs : List V} {ds : List D} : RepD v d → RepDs vs ds → RepDs (v :: vs) (d :: ds)
inductive RepFs : List (Str × V) → List (Str × D) → Prop
  | nil : RepFs [] []
  | cons {f : Str} {v : V} {d : D} {fs : List (Str × V)} {gs : List (Str × D)} : RepD v d → RepFs fs gs → RepFs ((f, v) :: fs) ((f, d) :: gs)
end
end

section
variable {K : PySem.W.Frag} {S S' : Hp}
theorem same_t {a : Addr} {xs : List V} (e : Same S S') (h : SqT K S a xs) : SqT K S' a xs := by
  rcases h with (h | ⟨o, h⟩) | h
  · exact .inl (.inl (e _ _ h))
  · exact .inl (.inr ⟨o, e _ _ h⟩)
  · exact .inr h
mutual
theorem RepD.mono (e : Same S S') : ∀ {v : V} {d : D}, RepD K S v d → RepD K S' v d
  | _, _, .non => .non
  | _, _, .bl b => .bl b
  | _, _, .int i => .int i
  | _, _, .str x => .str x
  | _, _, .tup h r => .tup (same_t e h) (RepDs.mono e r)
  | _, _, .lst h r => .lst (Same.seq e h) (RepDs.mono e r)
  | _, _, .ins h r => .ins (e _ _ h) (RepFs.mono e r)
theorem RepDs.mono (e : Same S S') : ∀ {vs : List V} {ds : List D}, RepDs K S vs ds → RepDs K S' vs ds
  | _, _, .nil => .nil
  | _, _, .cons h r => .cons (RepD.mono e h) (RepDs.mono e r)
theorem RepFs.mono (e : Same S S') : ∀ {vs : List (Str × V)} {ds : List (Str × D)}, RepFs K S vs ds → RepFs K S' vs ds
  | _, _, .nil => .nil
  | _, _, .cons h r => .cons (RepD.mono e h) (RepFs.mono e r)
end
theorem RepDs.length : ∀ {vs : List V} {ds : List D}, RepDs K S vs ds → vs.length = ds.length
  | _, _, .nil => rfl
  | _, _, .cons _ r => by simp [RepDs.length r]
theorem RepFs.length : ∀ {vs : List (Str × V)} {ds : List (Str × D)}, RepFs K S vs ds → vs.length = ds.length
  | _, _, .nil => rfl
  | _, _, .cons _ r => by simp [RepFs.length r]
theorem RepDs.get : ∀ {vs : List V} {ds : List D} {i : Nat} {d : D}, RepDs K S vs ds → ds[i]? = some d → ∃ v, vs[i]? = some v ∧ RepD K S v d
  | _, _, _, _, .nil, e => by simp at e
  | _, _, 0, _, .cons r _, e => by simp at e; subst e; exact ⟨_, rfl, r⟩
  | _, _, i + 1, d, .cons _ t, e => by
    obtain ⟨u, h1, h2⟩ := RepDs.get (i := i) (d := d) t (by simpa using e)
    exact ⟨u, by simpa using h1, h2⟩
theorem RepDs.get' : ∀ {vs : List V} {ds : List D} {i : Nat} {v : V}, RepDs K S vs ds → vs[i]? = some v → ∃ d, ds[i]? = some d ∧ RepD K S v d
  | _, _, _, _, .nil, e => by simp at e
  | _, _, 0, _, .cons r _, e => by simp at e; subst e; exact ⟨_, rfl, r⟩
  | _, _, i + 1, d, .cons _ t, e => by
    obtain ⟨u, h1, h2⟩ := RepDs.get' (i := i) (v := d) t (by simpa using e)
    exact ⟨u, by simpa using h1, h2⟩
theorem RepDs.append : ∀ {vs ws : List V} {ds es : List D}, RepDs K S vs ds → RepDs K S ws es → RepDs K S (vs ++ ws) (ds ++ es)
  | _, _, _, _, .nil, s => s
  | _, _, _, _, .cons r t, s => .cons r (RepDs.append t s)
theorem RepDs.take : ∀ {vs : List V} {ds : List D} (n : Nat), RepDs K S vs ds → RepDs K S (vs.take n) (ds.take n)
  | _, _, 0, _ => .nil
  | _, _, _ + 1, .nil => .nil
  | _, _, n + 1, .cons r t => .cons r (RepDs.take n t)
theorem RepDs.drop : ∀ {vs : List V} {ds : List D} (n : Nat), RepDs K S vs ds → RepDs K S (vs.drop n) (ds.drop n)
  | _, _, 0, r => r
  | _, _, _ + 1, .nil => .nil
  | _, _, n + 1, .cons _ t => RepDs.drop n t
theorem RepDs.set {v : V} {d : D} (r : RepD K S v d) : ∀ {vs : List V} {ds : List D} (i : Nat), RepDs K S vs ds → RepDs K S (vs.set i v) (ds.set i d)
  | _, _, _, .nil => .nil
  | _, _, 0, .cons _ t => .cons r t
  | _, _, i + 1, .cons q t => .cons q (RepDs.set r i t)
theorem RepDs.dropLast {vs : List V} {ds : List D} (r : RepDs K S vs ds) : RepDs K S vs.dropLast ds.dropLast := by
  rw [List.dropLast_eq_take, List.dropLast_eq_take, r.length]
  exact r.take _
theorem RepDs.eraseIdx : ∀ {vs : List V} {ds : List D} (i : Nat), RepDs K S vs ds → RepDs K S (vs.eraseIdx i) (ds.eraseIdx i)
  | _, _, _, .nil => .nil
  | _, _, 0, .cons _ t => t
  | _, _, i + 1, .cons q t => .cons q (RepDs.eraseIdx i t)
theorem RepDs.reverse : ∀ {vs : List V} {ds : List D}, RepDs K S vs ds → RepDs K S vs.reverse ds.reverse
  | _, _, .nil => .nil
  | _, _, .cons r t => by
    rw [List.reverse_cons, List.reverse_cons]
    exact (RepDs.reverse t).append (.cons r .nil)
theorem RepFs.lookup {f : Str} : ∀ {fs : List (Str × V)} {gs : List (Str × D)} {d : D}, RepFs K S fs gs → gs.lookup f = some d → ∃ v, fs.lookup f = some v ∧ RepD K S v d
  | _, _, _, .nil, e => by simp at e
  | _, _, d, .cons (f := h) r t, e => by
    rw [List.lookup_cons] at e ⊢
    cases q : f == h with
    | true =>
      rw [q] at e
      simp only at e ⊢
      cases e
      exact ⟨_, rfl, r⟩
    | false =>
      rw [q] at e
      simp only at e ⊢
      exact RepFs.lookup t e
theorem RepFs.lookup_none {f : Str} : ∀ {fs : List (Str × V)} {gs : List (Str × D)}, RepFs K S fs gs → gs.lookup f = none → fs.lookup f = none
  | _, _, .nil, _ => rfl
  | _, _, .cons (f := h) r t, e => by
    rw [List.lookup_cons] at e ⊢
    cases q : f == h with
    | true =>
      rw [q] at e
      cases e
    | false =>
      rw [q] at e
      simp only at e ⊢
      exact RepFs.lookup_none t e
def putD (f : Str) (v : D) : List (Str × D) → List (Str × D)
  | [] => [(f, v)]
  | (g, u) :: r => if g = f then (g, v) :: r else (g, u) :: putD f v r
end

/-! ### slots -/
inductive Sl where
  | no | sh (d : D) | ow (d : D) | io (d : D) | bo (d : D) | pn (v : V)
abbrev En := List Sl
structure G where
  F : Hp
  B : Hp
  S0 : Hp
  io : List (Nat × Addr)
/-- the object at a is d's head, in Hx; what it holds stands in S -/
def ObD (K : PySem.W.Frag) (S Hx : Hp) (a : Addr) : D → Prop
  | .lst ds => ∃ vs, Hx a = some (.lst vs) ∧ RepDs K S vs ds
  | .ins C gs => ∃ dx fs, Hx a = some (.ins C dx fs) ∧ RepFs K S fs gs
  | _ => False
def BoD (K : PySem.W.Frag) (S F : Hp) (v : V) (d : D) : Prop := RepD K S v d ∨ ∃ a, v = .ref a ∧ ObD K S F a d
def SlOk (K : PySem.W.Frag) (g : G) (S H : Hp) (i : Nat) (x : Option (Option V)) : Sl → Prop
  | .no => True
  | .sh d => ∃ v, x = some (some v) ∧ RepD K S v d
  | .ow d => ∃ a, x = some (some (.ref a)) ∧ S a = none ∧ g.F a = none ∧ (∀ j, (j, a) ∉ g.io) ∧ ObD K S H a d
  | .io d => ∃ a, x = some (some (.ref a)) ∧ S a = none ∧ (i, a) ∈ g.io ∧ ObD K S H a d
  | .bo d => ∃ v, x = some (some v) ∧ BoD K S g.B v d
  | .pn v => x = some (some v)
theorem ObD.ne {K : PySem.W.Frag} {S Hx : Hp} {a : Addr} {d : D} (h : ObD K S Hx a d) : Hx a ≠ none := by
  cases d <;> simp only [ObD] at h
  · obtain ⟨vs, e, _⟩ := h; rw [e]; simp
  · obtain ⟨dx, fs, e, _⟩ := h; rw [e]; simp
theorem ObD.mono {K : PySem.W.Frag} {S S' Hx Hy : Hp} {a : Addr} {d : D} (e : Same S S') (q : Hy a = Hx a) (h : ObD K S Hx a d) : ObD K S' Hy a d := by
  cases d <;> simp only [ObD] at h ⊢
  · obtain ⟨vs, e1, r⟩ := h; exact ⟨vs, q.trans e1, r.mono e⟩
  · obtain ⟨dx, fs, e1, r⟩ := h; exact ⟨dx, fs, q.trans e1, r.mono e⟩
theorem BoD.mono {K : PySem.W.Frag} {S S' F : Hp} {v : V} {d : D} (e : Same S S') (h : BoD K S F v d) : BoD K S' F v d := by
  rcases h with h | ⟨a, q, h⟩
  · exact .inl (h.mono e)
  · exact .inr ⟨a, q, h.mono e rfl⟩

structure GOk (g : G) (H : Hp) : Prop where
  sf : Same g.S0 g.F
  fh : Same g.F H
  tr : ∀ a, g.F a = none → (∀ i, (i, a) ∉ g.io) → H a = none
  iof : ∀ i a, (i, a) ∈ g.io → g.F a = none ∧ H a ≠ none
  inj : ∀ i j a, (i, a) ∈ g.io → (j, a) ∈ g.io → i = j
  one : ∀ i a b, (i, a) ∈ g.io → (i, b) ∈ g.io → a = b

structure Ok (K : PySem.W.Frag) (g : G) (S : Hp) (σ : L2.St) (H : Hp) (env : En) : Prop where
  fr : Same g.F H
  bf : Same g.B g.F
  st : Same S H
  s0 : Same g.S0 S
  new : ∀ a o, S a = some o → g.S0 a = some o ∨ (g.F a = none ∧ ∀ i, (i, a) ∉ g.io)
  iot : ∀ i a, (i, a) ∈ g.io → g.F a = none ∧ H a ≠ none
  ioe : ∀ (i : Nat) (a : Addr), (i, a) ∈ g.io → ∃ d, env[i]? = some (.io d)
  inj : ∀ i j a, (i, a) ∈ g.io → (j, a) ∈ g.io → i = j
  one : ∀ i a b, (i, a) ∈ g.io → (i, b) ∈ g.io → a = b
  len : σ.length = env.length
  slot : ∀ (i : Nat) (s : Sl), env[i]? = some s → SlOk K g S H i σ[i]? s
  sep : ∀ (i j : Nat) (a : Addr) (d d' : D), env[i]? = some (.ow d) → env[j]? = some (.ow d') → σ[i]? = some (some (.ref a)) → σ[j]? = some (some (.ref a)) → i = j

section
variable {K : PySem.W.Frag} {g : G} {S S' : Hp} {σ : L2.St} {H H' : Hp} {env : En}
/-- the heaps grow -/
theorem Ok.grow (o : Ok K g S σ H env) (e : Same S S') (e2 : Same S' H') (e3 : Same H H') (nw : ∀ a u, S' a = some u → S a = none → H a = none) : Ok K g S' σ H' env := by
  have fresh : ∀ a u, S' a = some u → S a = none → g.F a = none ∧ ∀ i, (i, a) ∉ g.io := fun a u h1 h2 => by
    have hn := nw a u h1 h2
    refine ⟨?_, fun i hi => (o.iot i a hi).2 hn⟩
    cases q : g.F a with
    | none => rfl
    | some x => rw [o.fr a x q] at hn; cases hn
  have own : ∀ a, S a = none → H a ≠ none → S' a = none := fun a h1 h2 => by
    cases q : S' a with
    | none => rfl
    | some x => exact absurd (nw a x q h1) h2
  have obj : ∀ {a d}, S a = none → ObD K S H a d → ObD K S' H' a d := fun {a d} h1 h2 => by
    refine h2.mono e ?_
    cases q : H a with
    | none => exact absurd q h2.ne
    | some x => exact e3 a x q
  refine ⟨o.fr.trans e3, o.bf, e2, o.s0.trans e, fun a u h => ?_, fun i a hi => ⟨(o.iot i a hi).1, ?_⟩, o.ioe, o.inj, o.one, o.len, fun i s hs => ?_, o.sep⟩
  · cases q : S a with
    | none => exact .inr (fresh a u h q)
    | some x =>
      have := e a x q
      rw [h] at this
      cases this
      exact o.new a _ q
  · have := (o.iot i a hi).2
    cases q : H a with
    | none => exact absurd q this
    | some x => rw [e3 a x q]; simp
  · have h := o.slot i s hs
    cases s with
    | no => trivial
    | sh d => obtain ⟨v, h1, h2⟩ := h; exact ⟨v, h1, h2.mono e⟩
    | ow d => obtain ⟨a, h1, h2, h3, h4, h5⟩ := h; exact ⟨a, h1, own a h2 h5.ne, h3, h4, obj h2 h5⟩
    | io d => obtain ⟨a, h1, h2, h3, h5⟩ := h; exact ⟨a, h1, own a h2 h5.ne, h3, obj h2 h5⟩
    | bo d => obtain ⟨v, h1, h2⟩ := h; exact ⟨v, h1, h2.mono e⟩
    | pn v => exact h
theorem same_upd' {H : Hp} {p : Addr} {o : HO} (h : H p = none) : Same H (upd H p o) := fun b x e => by
  rw [upd_ne (ne_of_none e h)]
  exact e
theorem Ok.s_none (o : Ok K g S σ H env) {p : Addr} (h : H p = none) : S p = none := by
  cases q : S p with
  | none => rfl
  | some x => rw [o.st p x q] at h; cases h
theorem same_upd2 {S H : Hp} {p : Addr} {o : HO} (e : Same S H) : Same (upd S p o) (upd H p o) := fun b x h => by
  by_cases hb : b = p
  · subst hb; rw [upd_same] at h ⊢; exact h
  · rw [upd_ne hb] at h ⊢; exact e b x h
/-- a new object, for ever -/
theorem Ok.fresh (o : Ok K g S σ H env) {p : Addr} {u : HO} (h : H p = none) : Ok K g (upd S p u) σ (upd H p u) env :=
  o.grow (same_upd' (o.s_none h)) (same_upd2 o.st) (same_upd' h) fun a x h1 h2 => by
    by_cases ha : a = p
    · subst ha; exact h
    · rw [upd_ne ha] at h1; rw [h1] at h2; cases h2
/-- a new object that is not yet for ever -/
theorem Ok.freshO (o : Ok K g S σ H env) {p : Addr} {u : HO} (h : H p = none) : Ok K g S σ (upd H p u) env :=
  o.grow (Same.refl S) (o.st.trans (same_upd' h)) (same_upd' h) fun a x h1 h2 => by rw [h1] at h2; cases h2
theorem Ok.f_none (o : Ok K g S σ H env) {p : Addr} (h : H p = none) : g.F p = none ∧ ∀ i, (i, p) ∉ g.io := by
  refine ⟨?_, fun i hi => (o.iot i p hi).2 h⟩
  cases q : g.F p with
  | none => rfl
  | some x => rw [o.fr p x q] at h; cases h

/-- which slots a store may take -/
def free (env : En) (i : Nat) : Bool := match env[i]? with
  | some (.io _) => false
  | some _ => true
  | none => false
def setSh (env : En) (i : Nat) (d : D) : Option En := if free env i then some (env.set i (.sh d)) else none
def setOw (env : En) (i : Nat) (d : D) : Option En := if free env i then some (env.set i (.ow d)) else none
theorem lt_of_free {i : Nat} (h : free env i = true) : i < env.length := by
  unfold free at h
  cases q : env[i]? with
  | none => rw [q] at h; cases h
  | some s => exact (List.getElem?_eq_some_iff.mp q).1
theorem Ok.put (o : Ok K g S σ H env) {i : Nat} {v : V} {s : Sl} (hf : free env i = true) (hs : SlOk K g S H i (some (some v)) s) (ho : ∀ d, s ≠ .io d)
    (hd : ∀ (d : D) (a : Addr), s = .ow d → v = .ref a → ∀ (j : Nat) (d' : D), env[j]? = some (.ow d') → σ[j]? = some (some (.ref a)) → i = j) : Ok K g S (σ.set i (some v)) H (env.set i s) := by
  have hi := lt_of_free hf
  have hi2 : i < σ.length := by rw [o.len]; exact hi
  refine ⟨o.fr, o.bf, o.st, o.s0, o.new, o.iot, fun j a hj => ?_, o.inj, o.one, by simp [o.len], fun j t ht => ?_, fun j k a d d' h1 h2 h3 h4 => ?_⟩
  · obtain ⟨d, e⟩ := o.ioe j a hj
    refine ⟨d, ?_⟩
    have : i ≠ j := fun z => by subst z; unfold free at hf; rw [e] at hf; cases hf
    rw [List.getElem?_set_ne this]; exact e
  · by_cases hj : i = j
    · subst hj
      rw [List.getElem?_set_self hi] at ht
      cases ht
      rw [List.getElem?_set_self hi2]
      exact hs
    · rw [List.getElem?_set_ne hj] at ht ⊢
      exact o.slot j t ht
  · by_cases hj : i = j
    · by_cases hk : i = k
      · exact hj.symm.trans hk
      · subst hj
        rw [List.getElem?_set_self hi] at h1
        rw [List.getElem?_set_self hi2] at h3
        rw [List.getElem?_set_ne hk] at h2 h4
        cases h1
        cases h3
        exact hd d a rfl rfl k d' h2 h4
    · by_cases hk : i = k
      · subst hk
        rw [List.getElem?_set_self hi] at h2
        rw [List.getElem?_set_self hi2] at h4
        rw [List.getElem?_set_ne hj] at h1 h3
        cases h2
        cases h4
        exact (hd d' a rfl rfl j d h1 h3).symm
      · rw [List.getElem?_set_ne hj] at h1 h3
        rw [List.getElem?_set_ne hk] at h2 h4
        exact o.sep j k a d d' h1 h2 h3 h4
theorem Ok.setSh (o : Ok K g S σ H env) {i : Nat} {v : V} {d : D} {env' : En} (h : setSh env i d = some env') (r : RepD K S v d) : Ok K g S (σ.set i (some v)) H env' := by
  unfold Mir.setSh at h
  split at h
  · rename_i hf
    cases h
    exact o.put hf ⟨v, rfl, r⟩ (fun _ z => nomatch z) (fun _ _ z => nomatch z)
  · cases h
/-- an object that is new and nobody's -/
structure Own (K : PySem.W.Frag) (g : G) (S : Hp) (σ : L2.St) (H : Hp) (env : En) (a : Addr) (d : D) : Prop where
  s : S a = none
  f : g.F a = none
  io : ∀ j, (j, a) ∉ g.io
  ob : ObD K S H a d
  sep : ∀ (j : Nat) (d' : D), env[j]? = some (.ow d') → σ[j]? ≠ some (some (.ref a))
theorem Ok.setOw (o : Ok K g S σ H env) {i : Nat} {a : Addr} {d : D} {env' : En} (h : setOw env i d = some env') (w : Own K g S σ H env a d) : Ok K g S (σ.set i (some (.ref a))) H env' := by
  unfold Mir.setOw at h
  split at h
  · rename_i hf
    cases h
    refine o.put hf ⟨a, rfl, w.s, w.f, w.io, w.ob⟩ (fun _ z => nomatch z) fun d1 b e1 e2 j d' h1 h2 => ?_
    cases e2
    exact absurd h2 (w.sep j d' h1)
  · cases h
/-- a new object is somebody's own -/
theorem Ok.own_new (o : Ok K g S σ H env) {p : Addr} {u : HO} {d : D} (h : H p = none) (hd : ObD K S (upd H p u) p d) : Own K g S σ (upd H p u) env p d := by
  have f := o.f_none h
  refine ⟨o.s_none h, f.1, f.2, hd, fun j d' e z => ?_⟩
  obtain ⟨a, h1, _, _, _, h5⟩ := o.slot j _ e
  rw [z] at h1
  cases h1
  exact h5.ne h
/-- it is given up: it stays as it is from now on -/
theorem ObD.rep {a : Addr} {d : D} {x : HO} (h : ObD K S H a d) (hx : H a = some x) (hs : S a = none) : RepD K (upd S a x) (.ref a) d := by
  have e : Same S (upd S a x) := same_upd' hs
  cases d <;> simp only [ObD] at h
  · obtain ⟨vs, h1, r⟩ := h
    rw [hx] at h1
    cases h1
    exact .lst (.inl (.inl upd_same)) (r.mono e)
  · obtain ⟨dx, fs, h1, r⟩ := h
    rw [hx] at h1
    cases h1
    exact .ins upd_same (r.mono e)
theorem Ok.keepOwn (o : Ok K g S σ H env) {a : Addr} {d : D} {x : HO} (w : Own K g S σ H env a d) (hx : H a = some x) : Ok K g (upd S a x) σ H env := by
  have e : Same S (upd S a x) := same_upd' w.s
  refine ⟨o.fr, o.bf, fun b y h => ?_, o.s0.trans e, fun b y h => ?_, o.iot, o.ioe, o.inj, o.one, o.len, fun i s hs => ?_, o.sep⟩
  · by_cases hb : b = a
    · subst hb; rw [upd_same] at h; cases h; exact hx
    · rw [upd_ne hb] at h; exact o.st b y h
  · by_cases hb : b = a
    · subst hb; exact .inr ⟨w.f, w.io⟩
    · rw [upd_ne hb] at h; exact o.new b y h
  · have h := o.slot i s hs
    cases s with
    | no => trivial
    | sh d => obtain ⟨v, h1, h2⟩ := h; exact ⟨v, h1, h2.mono e⟩
    | ow d =>
      obtain ⟨b, h1, h2, h3, h4, h5⟩ := h
      have : b ≠ a := fun z => by subst z; exact w.sep i d hs h1
      exact ⟨b, h1, by rw [upd_ne this]; exact h2, h3, h4, h5.mono e rfl⟩
    | io d =>
      obtain ⟨b, h1, h2, h3, h5⟩ := h
      have : b ≠ a := fun z => by subst z; exact w.io i h3
      exact ⟨b, h1, by rw [upd_ne this]; exact h2, h3, h5.mono e rfl⟩
    | bo d => obtain ⟨v, h1, h2⟩ := h; exact ⟨v, h1, h2.mono e⟩
    | pn v => exact h
/-- what an own slot holds -/
def ownAt (env : En) (i : Nat) : Option D := match env[i]? with
  | some (.ow d) => some d
  | some (.io d) => some d
  | _ => none
def putOwn (env : En) (i : Nat) (d : D) : En := match env[i]? with
  | some (.ow _) => env.set i (.ow d)
  | some (.io _) => env.set i (.io d)
  | _ => env
theorem Ok.ownAt (o : Ok K g S σ H env) {i : Nat} {d : D} (h : ownAt env i = some d) : ∃ a, σ[i]? = some (some (.ref a)) ∧ S a = none ∧ g.F a = none ∧ ObD K S H a d := by
  unfold Mir.ownAt at h
  split at h
  · rename_i d' e
    cases h
    obtain ⟨a, h1, h2, h3, h4, h5⟩ := o.slot i _ e
    exact ⟨a, h1, h2, h3, h5⟩
  · rename_i d' e
    cases h
    obtain ⟨a, h1, h2, h3, h5⟩ := o.slot i _ e
    exact ⟨a, h1, h2, (o.iot i a h3).1, h5⟩
  · cases h
/-- two own slots have two objects -/
theorem Ok.apart (o : Ok K g S σ H env) {i j : Nat} {d d' : D} {a : Addr} (h : Mir.ownAt env i = some d) (h' : Mir.ownAt env j = some d') (e : σ[i]? = some (some (.ref a))) (e' : σ[j]? = some (some (.ref a))) : i = j := by
  unfold Mir.ownAt at h h'
  split at h
  · rename_i u q
    split at h'
    · rename_i u' q'
      exact o.sep i j a _ _ q q' e e'
    · rename_i u' q'
      obtain ⟨b, h1, h2, h3, h4, h5⟩ := o.slot i _ q
      obtain ⟨c, k1, k2, k3, k5⟩ := o.slot j _ q'
      rw [e] at h1; cases h1
      rw [e'] at k1; cases k1
      exact absurd k3 (h4 j)
    · cases h'
  · rename_i u q
    split at h'
    · rename_i u' q'
      obtain ⟨b, h1, h2, h3, h5⟩ := o.slot i _ q
      obtain ⟨c, k1, k2, k3, k4, k5⟩ := o.slot j _ q'
      rw [e] at h1; cases h1
      rw [e'] at k1; cases k1
      exact absurd h3 (k4 i)
    · rename_i u' q'
      obtain ⟨b, h1, h2, h3, h5⟩ := o.slot i _ q
      obtain ⟨c, k1, k2, k3, k5⟩ := o.slot j _ q'
      rw [e] at h1; cases h1
      rw [e'] at k1; cases k1
      exact o.inj i j _ h3 k3
    · cases h'
  · cases h
/-- an own slot's object is changed -/
theorem Ok.write (o : Ok K g S σ H env) {i : Nat} {d d' : D} {a : Addr} {u : HO} (h : Mir.ownAt env i = some d) (e : σ[i]? = some (some (.ref a))) (hd : ObD K S (upd H a u) a d') : Ok K g S σ (upd H a u) (putOwn env i d') := by
  obtain ⟨b, h1, h2, h3, h5⟩ := o.ownAt h
  rw [e] at h1
  cases h1
  have mutt : ∀ {F : Hp}, Same F H → F a = none → Same F (upd H a u) := fun {F} s n c x hc => by
    rw [upd_ne (ne_of_none hc n)]
    exact s c x hc
  have hi : i < env.length := by
    unfold Mir.ownAt at h
    split at h <;> first | exact (List.getElem?_eq_some_iff.mp (by assumption)).1 | cases h
  have other : ∀ (j : Nat) (s : Sl), j ≠ i → env[j]? = some s → SlOk K g S (upd H a u) j σ[j]? s := fun j s hj hs => by
    have z := o.slot j s hs
    have keep : ∀ {c x}, Mir.ownAt env j = some x → σ[j]? = some (some (.ref c)) → upd H a u c = H c := fun {c x} hx hc => by
      refine upd_ne fun q => hj ?_
      subst q
      exact o.apart hx h hc e
    cases s with
    | no => trivial
    | sh d => exact z
    | ow d =>
      obtain ⟨c, k1, k2, k3, k4, k5⟩ := z
      exact ⟨c, k1, k2, k3, k4, k5.mono (Same.refl S) (keep (x := d) (by unfold Mir.ownAt; rw [hs]) k1)⟩
    | io d =>
      obtain ⟨c, k1, k2, k3, k5⟩ := z
      exact ⟨c, k1, k2, k3, k5.mono (Same.refl S) (keep (x := d) (by unfold Mir.ownAt; rw [hs]) k1)⟩
    | bo d => exact z
    | pn v => exact z
  have iot : ∀ j c, (j, c) ∈ g.io → g.F c = none ∧ upd H a u c ≠ none := fun j c hj => by
    refine ⟨(o.iot j c hj).1, ?_⟩
    by_cases hc : c = a
    · subst hc; rw [upd_same]; simp
    · rw [upd_ne hc]; exact (o.iot j c hj).2
  unfold Mir.ownAt at h
  unfold putOwn
  split at h
  · rename_i d0 q
    refine ⟨mutt o.fr h3, o.bf, mutt o.st h2, o.s0, o.new, iot, fun j c hj => ?_, o.inj, o.one, by simp [o.len], fun j s hs => ?_, fun j k c x y e1 e2 e3 e4 => ?_⟩
    · obtain ⟨x, k⟩ := o.ioe j c hj
      refine ⟨x, ?_⟩
      rw [List.getElem?_set_ne (fun z => by subst z; rw [q] at k; cases k)]
      exact k
    · by_cases hj : i = j
      · subst hj
        rw [List.getElem?_set_self hi] at hs
        cases hs
        obtain ⟨c, k1, k2, k3, k4, k5⟩ := o.slot i _ q
        rw [e] at k1
        cases k1
        exact ⟨a, e, h2, h3, k4, hd⟩
      · rw [List.getElem?_set_ne hj] at hs
        exact other j s (fun z => hj z.symm) hs
    · have back : ∀ (m : Nat) (z : D), (env.set i (Sl.ow d'))[m]? = some (.ow z) → ∃ z', env[m]? = some (.ow z') := fun m z hm => by
        by_cases hmi : i = m
        · subst hmi; exact ⟨_, q⟩
        · rw [List.getElem?_set_ne hmi] at hm; exact ⟨z, hm⟩
      obtain ⟨x', e1⟩ := back j x e1
      obtain ⟨y', e2⟩ := back k y e2
      exact o.sep j k c x' y' e1 e2 e3 e4
  · rename_i d0 q
    refine ⟨mutt o.fr h3, o.bf, mutt o.st h2, o.s0, o.new, iot, fun j c hj => ?_, o.inj, o.one, by simp [o.len], fun j s hs => ?_, fun j k c x y e1 e2 e3 e4 => ?_⟩
    · obtain ⟨x, k⟩ := o.ioe j c hj
      by_cases hj : i = j
      · subst hj; exact ⟨d', List.getElem?_set_self hi⟩
      · exact ⟨x, by rw [List.getElem?_set_ne hj]; exact k⟩
    · by_cases hj : i = j
      · subst hj
        rw [List.getElem?_set_self hi] at hs
        cases hs
        obtain ⟨c, k1, k2, k3, k5⟩ := o.slot i _ q
        rw [e] at k1
        cases k1
        exact ⟨a, e, h2, k3, hd⟩
      · rw [List.getElem?_set_ne hj] at hs
        exact other j s (fun z => hj z.symm) hs
    · have back : ∀ (m : Nat) (z : D), (env.set i (Sl.io d'))[m]? = some (.ow z) → env[m]? = some (.ow z) := fun m z hm => by
        by_cases hmi : i = m
        · subst hmi; rw [List.getElem?_set_self hi] at hm; cases hm
        · rw [List.getElem?_set_ne hmi] at hm; exact hm
      exact o.sep j k c x y (back j x e1) (back k y e2) e3 e4
  · cases h
/-- an own slot (not a parameter's) is given up -/
def freeze (env : En) (i : Nat) : Option En := match env[i]? with
  | some (.ow d) => some (env.set i (.sh d))
  | _ => none
theorem Ok.freeze (o : Ok K g S σ H env) {i : Nat} {env' : En} (h : freeze env i = some env') : ∃ S', Same S S' ∧ Ok K g S' σ H env' := by
  unfold Mir.freeze at h
  split at h
  · rename_i d q
    cases h
    obtain ⟨a, h1, h2, h3, h4, h5⟩ := o.slot i _ q
    obtain ⟨x, hx⟩ : ∃ x, H a = some x := by
      cases z : H a with
      | none => exact absurd z h5.ne
      | some x => exact ⟨x, rfl⟩
    have hi : i < env.length := (List.getElem?_eq_some_iff.mp q).1
    -- first the slot is emptied, then the object is kept
    have hno : free env i = true := by unfold free; rw [q]
    have o1 : Ok K g S σ H (env.set i .no) := by
      refine ⟨o.fr, o.bf, o.st, o.s0, o.new, o.iot, fun j c hj => ?_, o.inj, o.one, by simp [o.len], fun j s hs => ?_, fun j k c x y e1 e2 e3 e4 => ?_⟩
      · obtain ⟨x, k⟩ := o.ioe j c hj
        refine ⟨x, ?_⟩
        rw [List.getElem?_set_ne (fun z => by subst z; rw [q] at k; cases k)]
        exact k
      · by_cases hj : i = j
        · subst hj
          rw [List.getElem?_set_self hi] at hs
          cases hs
          trivial
        · rw [List.getElem?_set_ne hj] at hs
          exact o.slot j s hs
      · have back : ∀ (m : Nat) (z : D), (env.set i Sl.no)[m]? = some (.ow z) → env[m]? = some (.ow z) := fun m z hm => by
          by_cases hmi : i = m
          · subst hmi; rw [List.getElem?_set_self hi] at hm; cases hm
          · rw [List.getElem?_set_ne hmi] at hm; exact hm
        exact o.sep j k c x y (back j x e1) (back k y e2) e3 e4
    have w : Own K g S σ H (env.set i .no) a d := ⟨h2, h3, h4, h5, fun j d' e z => by
      have hij : i ≠ j := fun y => by subst y; rw [List.getElem?_set_self hi] at e; cases e
      rw [List.getElem?_set_ne hij] at e
      exact hij (o.sep i j a d d' q e h1 z)⟩
    have o2 := o1.keepOwn w hx
    refine ⟨upd S a x, same_upd' h2, ?_⟩
    have o3 := o2.put (i := i) (v := .ref a) (s := .sh d) (by unfold free; rw [List.getElem?_set_self hi]) ⟨_, rfl, h5.rep hx h2⟩ (fun _ z => nomatch z) (fun _ _ z => nomatch z)
    have e1 : σ.set i (some (.ref a)) = σ := by
      apply List.ext_getElem?
      intro m
      by_cases hm : i = m
      · subst hm; rw [List.getElem?_set_self (by rw [o.len]; exact hi)]; exact h1.symm
      · rw [List.getElem?_set_ne hm]
    rw [e1, List.set_set] at o3
    exact o3
  · cases h
end
end Mir
namespace Mir
open PySem PySem.Spec PyProof.Rows L2

structure Exn where
  cls : Value
  fs : Option (List (Str × D))
def XRep (K : PySem.W.Frag) (S : Hp) (x : Exn) (d : Option Addr) : Prop := match x.fs with
  | none => d = none
  | some gs => ∃ dx fs, d = some dx ∧ S dx = some (.xd fs) ∧ RepFs K S fs gs
theorem XRep.mono {K : PySem.W.Frag} {S S' : Hp} {x : Exn} {d : Option Addr} (e : Same S S') (h : XRep K S x d) : XRep K S' x d := by
  unfold XRep at h ⊢
  split at h
  · exact h
  · obtain ⟨dx, fs, h1, h2, h3⟩ := h
    exact ⟨dx, fs, h1, e _ _ h2, h3.mono e⟩

/-! ### what a piece of code computes -/
inductive R (α : Type) where
  | ok (a : α) (env : En) | rs (x : Exn) (env : En) | no
abbrev M (α : Type) := En → R α
def bnd {α β : Type} (m : M α) (f : α → M β) : M β := fun env => match m env with
  | .ok a e => f a e
  | .rs x e => .rs x e
  | .no => .no
def ret {α : Type} (a : α) : M α := fun env => .ok a env
def lft {α : Type} (o : Option α) : M α := fun env => match o with
  | some a => .ok a env
  | none => .no
theorem bnd_ok {α β : Type} {m : M α} {f : α → M β} {env e : En} {a : α} (h : m env = .ok a e) : bnd m f env = f a e := by unfold bnd; rw [h]
theorem lft_some {α : Type} {a : α} {env : En} : lft (some a) env = .ok a env := rfl
theorem ret_ok {α : Type} {a : α} {env : En} : ret a env = .ok a env := rfl

def Post {α β : Type} (K : PySem.W.Frag) (g : G) (S : Hp) (σ : L2.St) (W : WX) (rel : Hp → Hp → En → β → α → Prop) (Q : β → Hp → Prop) : R α → Prop
  | .ok a env' => ∀ S' H' v, Same S S' → Ok K g S' σ H' env' → rel S' H' env' v a → Q v H'
  | .rs x env' => ∀ S' H' d, Same S S' → Ok K g S' σ H' env' → XRep K S' x d → W x.cls d σ H'
  | .no => False
section
variable {α β γ δ : Type} {K : PySem.W.Frag} {g : G} {S S1 : Hp} {σ : L2.St} {W : WX}
theorem Post.at {rel : Hp → Hp → En → β → α → Prop} {Q : β → Hp → Prop} {r : R α} (h : Post K g S σ W rel Q r) (e : Same S S1) : Post K g S1 σ W rel Q r := by
  cases r with
  | ok a e' => exact fun S' H' v s o r => h S' H' v (e.trans s) o r
  | rs x e' => exact fun S' H' d s o r => h S' H' d (e.trans s) o r
  | no => exact h
theorem Post.bind {rel1 : Hp → Hp → En → β → α → Prop} {Q1 : β → Hp → Prop} {rel2 : Hp → Hp → En → δ → γ → Prop} {Q2 : δ → Hp → Prop} {m : M α} {f : α → M γ} {env : En} (h : Post K g S σ W rel2 Q2 (bnd m f env))
    (k : ∀ a e1 S1 H1 v, m env = .ok a e1 → Same S S1 → Ok K g S1 σ H1 e1 → rel1 S1 H1 e1 v a → Post K g S1 σ W rel2 Q2 (f a e1) → Q1 v H1) : Post K g S σ W rel1 Q1 (m env) := by
  unfold bnd at h
  cases q : m env with
  | ok a e1 =>
    rw [q] at h
    exact fun S' H' v s o r => k a e1 S' H' v q s o r (h.at s)
  | rs x e1 =>
    rw [q] at h
    exact h
  | no =>
    rw [q] at h
    exact h
theorem Post.lift {rel : Hp → Hp → En → β → α → Prop} {Q : β → Hp → Prop} {o : Option α} {env : En} (h : Post K g S σ W rel Q (lft o env)) : ∃ a, o = some a ∧ ∀ S' H' v, Same S S' → Ok K g S' σ H' env → rel S' H' env v a → Q v H' := by
  cases o with
  | none => exact h.elim
  | some a => exact ⟨a, rfl, h⟩
end

abbrev relE (K : PySem.W.Frag) : Hp → Hp → En → V → D → Prop := fun S' _ _ v d => RepD K S' v d
abbrev relT : Hp → Hp → En → Bool → Bool → Prop := fun _ _ _ b c => b = c
abbrev relA (K : PySem.W.Frag) : Hp → Hp → En → List V → List D → Prop := fun S' _ _ vs ds => RepDs K S' vs ds
abbrev relO (K : PySem.W.Frag) (g : G) (σ : L2.St) : Hp → Hp → En → V → D → Prop := fun S' H' env' v d => ∃ a, v = .ref a ∧ Own K g S' σ H' env' a d
/-- a list or a tuple to be read -/
inductive Sq where
  | l (ds : List D) | t (ds : List D)
def Sq.ds : Sq → List D
  | .l ds => ds
  | .t ds => ds
def SqRep (K : PySem.W.Frag) (S H : Hp) (v : V) : Sq → Prop
  | .l ds => ∃ a vs, v = .ref a ∧ SqL K H a vs ∧ RepDs K S vs ds
  | .t ds => ∃ a vs, v = .ref a ∧ SqT K H a vs ∧ RepDs K S vs ds
abbrev relQ (K : PySem.W.Frag) : Hp → Hp → En → V → Sq → Prop := fun S' H' _ v q => SqRep K S' H' v q

/-! ### judgements: expressions to a lasting value; to a new object of one's own; tests; lists of arguments (over a family of contexts) -/
section
variable {ι : Type} (K : PySem.W.Frag) (X : ι → Cx) (W : WX)
def SE (e : Expr) (m : M D) : Prop := ∃ t, (∀ i, PE (X i) e t) ∧ ∀ g S σ H env Q, Ok K g S σ H env → Post K g S σ W (relE K) Q (m env) → t σ H Q
def SO (e : Expr) (m : M D) : Prop := ∃ t, (∀ i, PE (X i) e t) ∧ ∀ g S σ H env Q, Ok K g S σ H env → Post K g S σ W (relO K g σ) Q (m env) → t σ H Q
def ST (e : Expr) (m : M Bool) : Prop := ∃ t, (∀ i, PT (X i) e t) ∧ ∀ g S σ H env Q, Ok K g S σ H env → Post K g S σ W relT Q (m env) → t σ H Q
def SWt (e : Expr) (m : M Bool) : Prop := ∃ t, (∀ i, PW (X i) e t) ∧ ∀ g S σ H env Q, Ok K g S σ H env → Post K g S σ W relT Q (m env) → t σ H Q
def SA (es : List Expr) (m : M (List D)) : Prop := ∃ t, (∀ i, PA (X i) es t) ∧ ∀ g S σ H env Q, Ok K g S σ H env → Post K g S σ W (relA K) Q (m env) → t σ H Q
end

section
variable {ι : Type} {X : ι → Cx} {K : PySem.W.Frag} {W : WX} {e a b c : Expr} {pos p : Pos}
/-- what is one's own may be given up -/
theorem se_of_so {m : M D} (h : SO K X W e m) : SE K X W e m := by
  obtain ⟨t, h1, h2⟩ := h
  refine ⟨t, h1, fun g S σ H env Q o q => h2 g S σ H env Q o ?_⟩
  cases r : m env with
  | ok d env' =>
    rw [r] at q
    rintro S' H' v s o' ⟨a, rfl, w⟩
    obtain ⟨x, hx⟩ : ∃ x, H' a = some x := by
      cases z : H' a with
      | none => exact absurd z w.ob.ne
      | some x => exact ⟨x, rfl⟩
    exact q _ _ _ (s.trans (same_upd' w.s)) (o'.keepOwn w hx) (w.ob.rep hx w.s)
  | rs x env' =>
    rw [r] at q
    exact q
  | no =>
    rw [r] at q
    exact q

/-! ### names, constants -/
def mVar (i : Nat) : M D := fun env => match env[i]? with
  | some (.sh d) => .ok d env
  | _ => .no
theorem se_var (i : Nat) {x : Str} (hN : ∀ k, (X k).N[i]? = some x := by intro _; rfl) (hv : ∀ k, Vis (X k).env.scope x := by first | exact fun _ => Or.inl rfl | exact fun _ => Or.inr (Or.inl rfl) | exact fun _ => Or.inr (Or.inr rfl)) (hd : (x == ("__debug__" : Str)) = false := by decide)
    (hcd : (x == ("__classdict__" : Str)) = false := by decide) : SE K X W (.Name x pos) (mVar i) := by
  refine ⟨_, fun k => pe_var (hN k) (hv k) hd hcd, fun g S σ H env Q o q => ?_⟩
  unfold mVar at q
  split at q
  · rename_i d hs
    obtain ⟨v, h1, h2⟩ := o.slot i _ hs
    exact ⟨v, h1, q S H v (Same.refl S) o h2⟩
  · exact q.elim
theorem se_int {i : Int} {j : Nat} : SE K X W (.Constant (.int i) j pos) (ret (.int i)) := ⟨_, fun _ => pe_int, fun g S σ H env Q o q => q S H _ (Same.refl S) o (.int i)⟩
theorem se_bl {i : Bool} {j : Nat} : SE K X W (.Constant (.bool i) j pos) (ret (.bl i)) := ⟨_, fun _ => pe_bl, fun g S σ H env Q o q => q S H _ (Same.refl S) o (.bl i)⟩
theorem se_str {i : Str} {j : Nat} : SE K X W (.Constant (.str i) j pos) (ret (.str i)) := ⟨_, fun _ => pe_str, fun g S σ H env Q o q => q S H _ (Same.refl S) o (.str i)⟩
theorem se_non {j : Nat} : SE K X W (.Constant .none j pos) (ret .non) := ⟨_, fun _ => pe_non, fun g S σ H env Q o q => q S H _ (Same.refl S) o .non⟩

/-! ### operators -/
def OD (K : PySem.W.Frag) (X : ι → Cx) (f : Value → Value → Sem Value) (o : D → D → Option D) : Prop := ∃ r : R2, (∀ i, OpR (X i) f r) ∧ ∀ g S σ H env x y d1 d2 d Q, Ok K g S σ H env → RepD K S x d1 → RepD K S y d2 → o d1 d2 = some d →
  (∀ S' H' v, Same S S' → Ok K g S' σ H' env → RepD K S' v d → Q v H') → r x y H Q
def mOp (o : D → D → Option D) (ma mb : M D) : M D := bnd ma fun x => bnd mb fun y => lft (o x y)
theorem OD.or {f : Value → Value → Sem Value} {o o' : D → D → Option D} (h : OD K X f o) (h' : OD K X f o') : OD K X f (fun x y => (o x y).or (o' x y)) := by
  obtain ⟨r, h1, h2⟩ := h
  obtain ⟨r', h1', h2'⟩ := h'
  refine ⟨_, fun i => (h1 i).or (h1' i), fun g S σ H env x y d1 d2 d Q ok r1 r2 e q => ?_⟩
  cases z : o d1 d2 with
  | some d' =>
    simp only [z, Option.some_or] at e
    cases e
    exact .inl (h2 g S σ H env x y d1 d2 d Q ok r1 r2 z q)
  | none =>
    simp only [z, Option.none_or] at e
    exact .inr (h2' g S σ H env x y d1 d2 d Q ok r1 r2 e q)
theorem se_op {op : Operator} {o : D → D → Option D} {ma mb : M D} (ho : OD K X (binaryOp op) o) (ha : SE K X W a ma) (hb : SE K X W b mb) : SE K X W (.BinOp a op b pos) (mOp o ma mb) := by
  obtain ⟨r, h1, h2⟩ := ho
  obtain ⟨ta, pa, qa⟩ := ha
  obtain ⟨tb, pb, qb⟩ := hb
  refine ⟨_, fun i => pe_op (h1 i) (pa i) (pb i), fun g S σ H env Q ok q => ?_⟩
  refine qa g S σ H env _ ok (q.bind fun x e1 S1 H1 v _ s1 o1 r1 q1 => ?_)
  refine qb g S1 σ H1 e1 _ o1 (q1.bind fun y e2 S2 H2 w _ s2 o2 r2 q2 => ?_)
  obtain ⟨d, e, q3⟩ := q2.lift
  exact h2 g S2 σ H2 e2 v w x y d Q o2 (r1.mono s2) r2 e q3
theorem se_cmp {op : CmpOp} {o : D → D → Option D} {ma mb : M D} (ho : OD K X (compareOp op) o) (ha : SE K X W a ma) (hb : SE K X W b mb) (hm : behindInMarks op b = false) : SE K X W (.Compare a [op] [b] pos) (mOp o ma mb) := by
  obtain ⟨r, h1, h2⟩ := ho
  obtain ⟨ta, pa, qa⟩ := ha
  obtain ⟨tb, pb, qb⟩ := hb
  refine ⟨_, fun i => pe_cmpR (h1 i) (pa i) (pb i) hm, fun g S σ H env Q ok q => ?_⟩
  refine qa g S σ H env _ ok (q.bind fun x e1 S1 H1 v _ s1 o1 r1 q1 => ?_)
  refine qb g S1 σ H1 e1 _ o1 (q1.bind fun y e2 S2 H2 w _ s2 o2 r2 q2 => ?_)
  obtain ⟨d, e, q3⟩ := q2.lift
  exact h2 g S2 σ H2 e2 v w x y d Q o2 (r1.mono s2) r2 e q3
def asB : D → Option Bool
  | .bl b => some b
  | _ => none
def mB (m : M D) : M Bool := bnd m fun d => lft (asB d)
theorem asB_eq {d : D} {b : Bool} (h : asB d = some b) : d = .bl b := by
  cases d <;> simp [asB] at h
  subst h; rfl
theorem rep_bl {K : PySem.W.Frag} {S : Hp} {v : V} {b : Bool} (h : RepD K S v (.bl b)) : v = .bl b := by cases h; rfl
theorem rep_int {K : PySem.W.Frag} {S : Hp} {v : V} {b : Int} (h : RepD K S v (.int b)) : v = .int b := by cases h; rfl
theorem rep_str {K : PySem.W.Frag} {S : Hp} {v : V} {b : Str} (h : RepD K S v (.str b)) : v = .str b := by cases h; rfl
theorem rep_non {K : PySem.W.Frag} {S : Hp} {v : V} (h : RepD K S v .non) : v = .non := by cases h; rfl
theorem st_cmp {op : CmpOp} {o : D → D → Option D} {ma mb : M D} (ho : OD K X (compareOp op) o) (ha : SE K X W a ma) (hb : SE K X W b mb) (hm : behindInMarks op b = false) : ST K X W (.Compare a [op] [b] pos) (mB (mOp o ma mb)) := by
  obtain ⟨r, h1, h2⟩ := ho
  obtain ⟨ta, pa, qa⟩ := ha
  obtain ⟨tb, pb, qb⟩ := hb
  refine ⟨_, fun i => pt_cmpR (h1 i) (pa i) (pb i) hm, fun g S σ H env Q ok q => ?_⟩
  have q' : Post K g S σ W (relE K) (fun v H' => ∃ k, v = V.bl k ∧ Q k H') (mOp o ma mb env) := q.bind fun x e1 S1 H1 v _ s1 o1 r1 q1 => by
    obtain ⟨k, e, q2⟩ := q1.lift
    have := asB_eq e
    subst this
    exact ⟨k, rep_bl r1, q2 S1 H1 k (Same.refl _) o1 rfl⟩
  refine qa g S σ H env _ ok (q'.bind fun x e1 S1 H1 v _ s1 o1 r1 q1 => ?_)
  refine qb g S1 σ H1 e1 _ o1 (q1.bind fun y e2 S2 H2 w _ s2 o2 r2 q2 => ?_)
  obtain ⟨d, e, q3⟩ := q2.lift
  exact h2 g S2 σ H2 e2 v w x y d _ o2 (r1.mono s2) r2 e q3
/-- a value that is True or False, as a test -/
theorem st_val {m : M D} (h : SE K X W e m) (he : ∀ k whole, isTrue e (X k).env whole = (do let v ← whole; standAt e.pos; holding [v] (truthy v)) := by intro _ _; rfl) : ST K X W e (mB m) := by
  obtain ⟨t, h1, h2⟩ := h
  refine ⟨_, fun i => pt_val (h1 i) (he i), fun g S σ H env Q ok q => ?_⟩
  refine h2 g S σ H env _ ok (q.bind fun x e1 S1 H1 v _ s1 o1 r1 q1 => ?_)
  obtain ⟨k, e, q2⟩ := q1.lift
  have := asB_eq e
  subst this
  exact ⟨k, rep_bl r1, q2 S1 H1 k (Same.refl _) o1 rfl⟩
def mAnd (ma mb : M Bool) : M Bool := bnd ma fun x => if x = true then mb else ret false
def mOr (ma mb : M Bool) : M Bool := bnd ma fun x => if x = true then ret true else mb
def mNot (ma : M Bool) : M Bool := bnd ma fun x => ret (!x)
theorem st_of_w {m : M Bool} (h : SWt K X W e m) : ST K X W e m := by
  obtain ⟨t, h1, h2⟩ := h
  exact ⟨t, fun i => (h1 i).pt, h2⟩
theorem sw_and1 {m : M Bool} (h : ST K X W a m) : SWt K X W (.BoolOp .And [a] pos) m := by
  obtain ⟨t, h1, h2⟩ := h
  exact ⟨t, fun i => pw_and1 (h1 i), h2⟩
theorem sw_or1 {m : M Bool} (h : ST K X W a m) : SWt K X W (.BoolOp .Or [a] pos) m := by
  obtain ⟨t, h1, h2⟩ := h
  exact ⟨t, fun i => pw_or1 (h1 i), h2⟩
theorem sw_and {rest : List Expr} {ma mb : M Bool} (ha : ST K X W a ma) (hb : SWt K X W (.BoolOp .And (b :: rest) pos) mb) : SWt K X W (.BoolOp .And (a :: b :: rest) pos) (mAnd ma mb) := by
  obtain ⟨ta, pa, qa⟩ := ha
  obtain ⟨tb, pb, qb⟩ := hb
  refine ⟨_, fun i => pw_and (pa i) (pb i), fun g S σ H env Q ok q => ?_⟩
  refine qa g S σ H env _ ok (q.bind fun x e1 S1 H1 v _ s1 o1 r1 q1 => ?_)
  subst r1
  cases v with
  | true =>
    rw [if_pos rfl] at q1 ⊢
    exact qb g S1 σ H1 e1 Q o1 q1
  | false =>
    rw [if_neg Bool.false_ne_true] at q1 ⊢
    exact q1 S1 H1 false (Same.refl _) o1 rfl
theorem sw_or {rest : List Expr} {ma mb : M Bool} (ha : ST K X W a ma) (hb : SWt K X W (.BoolOp .Or (b :: rest) pos) mb) : SWt K X W (.BoolOp .Or (a :: b :: rest) pos) (mOr ma mb) := by
  obtain ⟨ta, pa, qa⟩ := ha
  obtain ⟨tb, pb, qb⟩ := hb
  refine ⟨_, fun i => pw_or (pa i) (pb i), fun g S σ H env Q ok q => ?_⟩
  refine qa g S σ H env _ ok (q.bind fun x e1 S1 H1 v _ s1 o1 r1 q1 => ?_)
  subst r1
  cases v with
  | true =>
    rw [if_pos rfl] at q1 ⊢
    exact q1 S1 H1 true (Same.refl _) o1 rfl
  | false =>
    rw [if_neg Bool.false_ne_true] at q1 ⊢
    exact qb g S1 σ H1 e1 Q o1 q1
theorem st_not {m : M Bool} (h : ST K X W a m) : ST K X W (.UnaryOp .Not a pos) (mNot m) := by
  obtain ⟨t, h1, h2⟩ := h
  refine ⟨_, fun i => pt_not (h1 i), fun g S σ H env Q ok q => ?_⟩
  refine h2 g S σ H env _ ok (q.bind fun x e1 S1 H1 v _ s1 o1 r1 q1 => ?_)
  subst r1
  exact q1 S1 H1 _ (Same.refl _) o1 rfl
/-- .. as values -/
def mAndV (ma mb : M D) : M D := bnd (mB ma) fun x => if x = true then mb else ret (.bl false)
def mOrV (ma mb : M D) : M D := bnd (mB ma) fun x => if x = true then ret (.bl true) else mb
def mNotV (ma : M D) : M D := bnd (mB ma) fun x => ret (.bl (!x))
theorem bnd_assoc {α β γ : Type} (m : M α) (f : α → M β) (h : β → M γ) : bnd (bnd m f) h = bnd m fun x => bnd (f x) h := by
  funext env
  unfold bnd
  cases m env <;> rfl
theorem se_one {op : PySem.BoolOp} {m : M D} (h : SE K X W a m) : SE K X W (.BoolOp op [a] pos) m := by
  obtain ⟨t, h1, h2⟩ := h
  exact ⟨t, fun i => pe_one (h1 i), h2⟩
theorem se_and {rest : List Expr} {ma mb : M D} (ha : SE K X W a ma) (hb : SE K X W (.BoolOp .And (b :: rest) pos) mb) : SE K X W (.BoolOp .And (a :: b :: rest) pos) (mAndV ma mb) := by
  obtain ⟨ta, pa, qa⟩ := ha
  obtain ⟨tb, pb, qb⟩ := hb
  refine ⟨_, fun i => pe_and (pa i) (pb i), fun g S σ H env Q ok q => ?_⟩
  unfold mAndV mB at q
  rw [bnd_assoc] at q
  refine qa g S σ H env _ ok (q.bind fun x e1 S1 H1 v _ s1 o1 r1 q1 => ?_)
  cases z : asB x with
  | none => rw [z] at q1; exact q1.elim
  | some k =>
    rw [z] at q1
    have := asB_eq z
    subst this
    refine ⟨k, rep_bl r1, ?_⟩
    rw [bnd_ok lft_some] at q1
    cases k with
    | true =>
      rw [if_pos rfl] at q1 ⊢
      exact qb g S1 σ H1 e1 Q o1 q1
    | false =>
      rw [if_neg Bool.false_ne_true] at q1 ⊢
      exact q1 S1 H1 _ (Same.refl _) o1 (.bl false)
theorem se_or {rest : List Expr} {ma mb : M D} (ha : SE K X W a ma) (hb : SE K X W (.BoolOp .Or (b :: rest) pos) mb) : SE K X W (.BoolOp .Or (a :: b :: rest) pos) (mOrV ma mb) := by
  obtain ⟨ta, pa, qa⟩ := ha
  obtain ⟨tb, pb, qb⟩ := hb
  refine ⟨_, fun i => pe_or (pa i) (pb i), fun g S σ H env Q ok q => ?_⟩
  unfold mOrV mB at q
  rw [bnd_assoc] at q
  refine qa g S σ H env _ ok (q.bind fun x e1 S1 H1 v _ s1 o1 r1 q1 => ?_)
  cases z : asB x with
  | none => rw [z] at q1; exact q1.elim
  | some k =>
    rw [z] at q1
    have := asB_eq z
    subst this
    refine ⟨k, rep_bl r1, ?_⟩
    rw [bnd_ok lft_some] at q1
    cases k with
    | true =>
      rw [if_pos rfl] at q1 ⊢
      exact q1 S1 H1 _ (Same.refl _) o1 (.bl true)
    | false =>
      rw [if_neg Bool.false_ne_true] at q1 ⊢
      exact qb g S1 σ H1 e1 Q o1 q1
theorem se_not {ma : M D} (ha : SE K X W a ma) : SE K X W (.UnaryOp .Not a pos) (mNotV ma) := by
  obtain ⟨ta, pa, qa⟩ := ha
  refine ⟨_, fun i => pe_not (pa i), fun g S σ H env Q ok q => ?_⟩
  unfold mNotV mB at q
  rw [bnd_assoc] at q
  refine qa g S σ H env _ ok (q.bind fun x e1 S1 H1 v _ s1 o1 r1 q1 => ?_)
  cases z : asB x with
  | none => rw [z] at q1; exact q1.elim
  | some k =>
    rw [z] at q1
    have := asB_eq z
    subst this
    refine ⟨k, rep_bl r1, ?_⟩
    rw [bnd_ok lft_some] at q1
    exact q1 S1 H1 _ (Same.refl _) o1 (.bl _)
def mIf {α : Type} (mt : M Bool) (ma mb : M α) : M α := bnd mt fun x => if x = true then ma else mb
theorem se_if {mt : M Bool} {ma mb : M D} (hc : ST K X W c mt) (ha : SE K X W a ma) (hb : SE K X W b mb) : SE K X W (.IfExp c a b pos) (mIf mt ma mb) := by
  obtain ⟨tc, pc, qc⟩ := hc
  obtain ⟨ta, pa, qa⟩ := ha
  obtain ⟨tb, pb, qb⟩ := hb
  refine ⟨_, fun i => pe_ifExp (pc i) (pa i) (pb i), fun g S σ H env Q ok q => ?_⟩
  refine qc g S σ H env _ ok (q.bind fun x e1 S1 H1 v _ s1 o1 r1 q1 => ?_)
  subst r1
  cases v with
  | true =>
    rw [if_pos rfl] at q1 ⊢
    exact qa g S1 σ H1 e1 Q o1 q1
  | false =>
    rw [if_neg Bool.false_ne_true] at q1 ⊢
    exact qb g S1 σ H1 e1 Q o1 q1

/-! ### the operators on trees -/
def iOp (f : Int → Int → Option D) : D → D → Option D
  | .int i, .int j => f i j
  | _, _ => none
theorem od_int {f : Value → Value → Sem Value} {C : Int → Int → Prop} {v : Int → Int → V} {o : Int → Int → Option D} (h : ∀ i, OpR (X i) f (rI C v)) (ho : ∀ i j d, o i j = some d → C i j ∧ ∀ K S, RepD K S (v i j) d) : OD K X f (iOp o) := by
  refine ⟨_, h, fun g S σ H env x y d1 d2 d Q ok r1 r2 e q => ?_⟩
  cases d1 with
  | int i =>
    cases d2 with
    | int j =>
      have e1 := rep_int r1
      have e2 := rep_int r2
      subst e1 e2
      obtain ⟨c, r⟩ := ho i j d e
      exact ⟨i, j, rfl, rfl, c, q S H _ (Same.refl S) ok (r _ _)⟩
    | _ => simp [iOp] at e
  | _ => simp [iOp] at e
theorem od_int0 {f : Value → Value → Sem Value} {v : Int → Int → V} {o : Int → Int → Option D} (h : ∀ i, OpR (X i) f (rI0 v)) (ho : ∀ i j d, o i j = some d → ∀ K S, RepD K S (v i j) d) : OD K X f (iOp o) := by
  refine ⟨_, h, fun g S σ H env x y d1 d2 d Q ok r1 r2 e q => ?_⟩
  cases d1 with
  | int i =>
    cases d2 with
    | int j =>
      have e1 := rep_int r1
      have e2 := rep_int r2
      subst e1 e2
      exact ⟨i, j, rfl, rfl, q S H _ (Same.refl S) ok (ho i j d e _ _)⟩
    | _ => simp [iOp] at e
  | _ => simp [iOp] at e
def addI (i j : Int) : Option D := some (.int (i + j))
def subI (i j : Int) : Option D := some (.int (i - j))
instance {i j : Int} : Decidable (CMulW i j) := by unfold CMulW; exact inferInstance
instance {i j : Int} : Decidable (CDivW i j) := by unfold CDivW; exact inferInstance
instance {i j : Int} : Decidable (CPow i j) := by unfold CPow; exact inferInstance
def mulI (i j : Int) : Option D := if CMulW i j then some (.int (i * j)) else none
def divI (i j : Int) : Option D := if CDivW i j then some (.int (i / j)) else none
def modI (i j : Int) : Option D := if 0 < j then some (.int (i % j)) else none
def powI (i j : Int) : Option D := if CPow i j then some (.int (i ^ j.toNat)) else none
theorem od_addI : OD K X (binaryOp .Add) (iOp addI) := od_int0 (fun _ => op_add) fun i j d h K S => by cases h; exact .int _
theorem od_subI : OD K X (binaryOp .Sub) (iOp subI) := od_int0 (fun _ => op_sub) fun i j d h K S => by cases h; exact .int _
theorem od_mulI : OD K X (binaryOp .Mult) (iOp mulI) := od_int (fun _ => op_mulW) fun i j d h => by
  unfold mulI at h; split at h
  · cases h; exact ⟨by assumption, fun _ _ => .int _⟩
  · cases h
theorem od_divI : OD K X (binaryOp .FloorDiv) (iOp divI) := od_int (fun _ => op_fdivW) fun i j d h => by
  unfold divI at h; split at h
  · cases h; exact ⟨by assumption, fun _ _ => .int _⟩
  · cases h
theorem od_modI : OD K X (binaryOp .Mod) (iOp modI) := od_int (fun _ => op_mod) fun i j d h => by
  unfold modI at h; split at h
  · cases h; exact ⟨by assumption, fun _ _ => .int _⟩
  · cases h
theorem od_powI : OD K X (binaryOp .Pow) (iOp powI) := od_int (fun _ => op_pow) fun i j d h => by
  unfold powI at h; split at h
  · cases h; exact ⟨by assumption, fun _ _ => .int _⟩
  · cases h
def ltI (i j : Int) : Option D := some (.bl (decide (i < j)))
def leI (i j : Int) : Option D := some (.bl (decide (i ≤ j)))
def gtI (i j : Int) : Option D := some (.bl (decide (j < i)))
def geI (i j : Int) : Option D := some (.bl (decide (j ≤ i)))
theorem od_ltI : OD K X (compareOp .Lt) (iOp ltI) := od_int0 (fun _ => op_lt) fun i j d h K S => by cases h; exact .bl _
theorem od_leI : OD K X (compareOp .LtE) (iOp leI) := od_int0 (fun _ => op_le) fun i j d h K S => by cases h; exact .bl _
theorem od_gtI : OD K X (compareOp .Gt) (iOp gtI) := od_int0 (fun _ => op_gt) fun i j d h K S => by cases h; exact .bl _
theorem od_geI : OD K X (compareOp .GtE) (iOp geI) := od_int0 (fun _ => op_ge) fun i j d h K S => by cases h; exact .bl _
/-- == -/
def toV : D → Option V
  | .non => some .non
  | .bl b => some (.bl b)
  | .int i => some (.int i)
  | .str x => some (.str x)
  | _ => none
theorem toV_rep {K : PySem.W.Frag} {S : Hp} {v w : V} {d : D} (h : RepD K S v d) (e : toV d = some w) : v = w := by
  cases h <;> simp [toV] at e <;> exact e
mutual
def py : D → Option PyData
  | .non => some .none
  | .bl b => some (.bool b)
  | .int i => some (.int i)
  | .str x => some (.str x)
  | .lst ds => (pys ds).map .list
  | .tup ds => (pys ds).map .tuple
  | .ins _ _ => none
def pys : List D → Option (List PyData)
  | [] => some []
  | d :: ds => match py d, pys ds with
    | some x, some xs => some (x :: xs)
    | _, _ => none
end
mutual
theorem dp_of {K : PySem.W.Frag} {H : Hp} : ∀ {v : V} {d : D} {p : PyData}, RepD K H v d → py d = some p → Dp K H v p
  | _, _, _, .non, e => by simp [py] at e; subst e; exact .non
  | _, _, _, .bl b, e => by simp [py] at e; subst e; exact .bl b
  | _, _, _, .int i, e => by simp [py] at e; subst e; exact .int i
  | _, _, _, .str x, e => by simp [py] at e; subst e; exact .str x
  | _, _, _, .lst (ds := ds) h r, e => by
    cases q : pys ds with
    | none => simp [py, q] at e
    | some xs => simp [py, q] at e; subst e; exact .lst h (dps_of r q)
  | _, _, _, .tup (ds := ds) h r, e => by
    cases q : pys ds with
    | none => simp [py, q] at e
    | some xs => simp [py, q] at e; subst e; exact .tup h (dps_of r q)
  | _, _, _, .ins _ _, e => by simp [py] at e
theorem dps_of {K : PySem.W.Frag} {H : Hp} : ∀ {vs : List V} {ds : List D} {ps : List PyData}, RepDs K H vs ds → pys ds = some ps → DpAll K H vs ps
  | _, _, _, .nil, e => by simp [pys] at e; subst e; exact .nil
  | _, _, _, .cons (d := d) (ds := ds) h r, e => by
    cases q1 : py d with
    | none => simp [pys, q1] at e
    | some x =>
      cases q2 : pys ds with
      | none => simp [pys, q1, q2] at e
      | some xs => simp [pys, q1, q2] at e; subst e; exact .cons (dp_of h q1) (dps_of r q2)
end
def eqP (d1 d2 : D) : Option Bool := match py d1, py d2 with
  | some x, some y => if SeqAt.shaped x = true ∧ SeqAt.shaped y = true then some (PyData.eqv x y) else none
  | _, _ => none
def eqD (d1 d2 : D) : Option Bool := match toV d1, toV d2 with
  | some x, some y => if scal x y = true then some (decide (x = y)) else eqP d1 d2
  | _, _ => eqP d1 d2
def eqO (d1 d2 : D) : Option D := (eqD d1 d2).map .bl
def neO (d1 d2 : D) : Option D := (eqD d1 d2).map fun b => .bl (!b)
theorem eq_cases {d1 d2 : D} {b : Bool} (h : eqD d1 d2 = some b) : (∃ x y, toV d1 = some x ∧ toV d2 = some y ∧ scal x y = true ∧ b = decide (x = y)) ∨ ∃ x y, py d1 = some x ∧ py d2 = some y ∧ SeqAt.shaped x = true ∧ SeqAt.shaped y = true ∧ b = PyData.eqv x y := by
  have gen : eqP d1 d2 = some b → ∃ x y, py d1 = some x ∧ py d2 = some y ∧ SeqAt.shaped x = true ∧ SeqAt.shaped y = true ∧ b = PyData.eqv x y := fun h => by
    unfold eqP at h
    split at h
    · rename_i x y e1 e2
      split at h
      · rename_i c
        cases h
        exact ⟨x, y, e1, e2, c.1, c.2, rfl⟩
      · cases h
    · cases h
  unfold eqD at h
  split at h
  · rename_i x y e1 e2
    split at h
    · rename_i c
      cases h
      exact .inl ⟨x, y, e1, e2, c, rfl⟩
    · exact .inr (gen h)
  · exact .inr (gen h)
theorem od_eq {k : Nat} (hr : ∀ i, Room k (X i).A) (hK : ∀ i, (X i).K = K := by intro _; rfl) : OD K X (compareOp .Eq) eqO := by
  refine ⟨_, fun i => OpR.or op_eq (hK i ▸ op_eqD (hr i).units), fun g S σ H env x y d1 d2 d Q ok r1 r2 e q => ?_⟩
  unfold eqO at e
  cases z : eqD d1 d2 with
  | none => rw [z] at e; cases e
  | some b =>
    rw [z] at e
    cases e
    rcases eq_cases z with ⟨v, w, e1, e2, c, rfl⟩ | ⟨v, w, e1, e2, c1, c2, rfl⟩
    · have h1 := toV_rep r1 e1
      have h2 := toV_rep r2 e2
      subst h1 h2
      exact .inl ⟨c, q S H _ (Same.refl S) ok (.bl _)⟩
    · exact .inr ⟨v, w, dp_of (r1.mono ok.st) e1, dp_of (r2.mono ok.st) e2, c1, c2, q S H _ (Same.refl S) ok (.bl _)⟩
theorem od_ne {k : Nat} (hr : ∀ i, Room k (X i).A) (hK : ∀ i, (X i).K = K := by intro _; rfl) : OD K X (compareOp .NotEq) neO := by
  refine ⟨_, fun i => OpR.or op_ne (hK i ▸ op_neD (hr i).units), fun g S σ H env x y d1 d2 d Q ok r1 r2 e q => ?_⟩
  unfold neO at e
  cases z : eqD d1 d2 with
  | none => rw [z] at e; cases e
  | some b =>
    rw [z] at e
    cases e
    rcases eq_cases z with ⟨v, w, e1, e2, c, rfl⟩ | ⟨v, w, e1, e2, c1, c2, rfl⟩
    · have h1 := toV_rep r1 e1
      have h2 := toV_rep r2 e2
      subst h1 h2
      exact .inl ⟨c, q S H _ (Same.refl S) ok (.bl _)⟩
    · exact .inr ⟨v, w, dp_of (r1.mono ok.st) e1, dp_of (r2.mono ok.st) e2, c1, c2, q S H _ (Same.refl S) ok (.bl _)⟩
/-- is None -/
def isN : D → Bool
  | .non => true
  | _ => false
def isNO : D → D → Option D
  | d, .non => some (.bl (isN d))
  | _, _ => none
def notNO : D → D → Option D
  | d, .non => some (.bl (!isN d))
  | _, _ => none
theorem isN_rep {K : PySem.W.Frag} {S : Hp} {v : V} {d : D} (h : RepD K S v d) : decide (v = .non) = isN d := by
  cases h <;> first | rfl | exact decide_eq_false (fun z => by cases z)
theorem od_isN : OD K X (compareOp .Is) isNO := by
  refine ⟨_, fun _ => op_isN, fun g S σ H env x y d1 d2 d Q ok r1 r2 e q => ?_⟩
  cases d2 <;> simp [isNO] at e
  subst e
  refine ⟨rep_non r2, ?_⟩
  rw [isN_rep r1]
  exact q S H _ (Same.refl S) ok (.bl _)
theorem od_notN : OD K X (compareOp .IsNot) notNO := by
  refine ⟨_, fun _ => op_notN, fun g S σ H env x y d1 d2 d Q ok r1 r2 e q => ?_⟩
  cases d2 <;> simp [notNO] at e
  subst e
  refine ⟨rep_non r2, ?_⟩
  rw [isN_rep r1]
  exact q S H _ (Same.refl S) ok (.bl _)
end
end Mir
namespace Mir
open PySem PySem.Spec PyProof.Rows L2
section
variable {ι : Type} {X : ι → Cx} {K : PySem.W.Frag} {W : WX} {e a b c : Expr} {es : List Expr} {pos p : Pos}

/-! ### arguments, displays -/
def mCons (m : M D) (ms : M (List D)) : M (List D) := bnd m fun d => bnd ms fun ds => ret (d :: ds)
theorem sa_nil : SA K X W [] (ret []) := ⟨_, fun _ => pa_nil, fun g S σ H env Q o q => q S H _ (Same.refl S) o .nil⟩
theorem sa_cons {m : M D} {ms : M (List D)} (ha : SE K X W e m) (hr : SA K X W es ms) (hs : ∀ i, starEach (e :: es) (X i).env = (false, eval e (X i).env) :: starEach es (X i).env := by intro _; rfl) : SA K X W (e :: es) (mCons m ms) := by
  obtain ⟨ta, pa, qa⟩ := ha
  obtain ⟨tb, pb, qb⟩ := hr
  refine ⟨_, fun i => pa_cons (pa i) (pb i) (hs i), fun g S σ H env Q ok q => ?_⟩
  refine qa g S σ H env _ ok (q.bind fun x e1 S1 H1 v _ s1 o1 r1 q1 => ?_)
  refine qb g S1 σ H1 e1 _ o1 (q1.bind fun y e2 S2 H2 w _ s2 o2 r2 q2 => ?_)
  exact q2 S2 H2 _ (Same.refl _) o2 (.cons (r1.mono s2) r2)
def few {α : Type} (n : Nat) (a : α) : Option α := if n ≤ 1000000 then some a else none
theorem few_line {α : Type} {n : Nat} {a b : α} (h : few n a = some b) : n ≤ sizeLine ∧ a = b := by
  unfold few at h
  split at h
  · cases h; exact ⟨Nat.le_trans (by assumption) (by decide), rfl⟩
  · cases h
def mTup (ms : M (List D)) : M D := bnd ms fun ds => lft (few ds.length (.tup ds))
def mLst (ms : M (List D)) : M D := bnd ms fun ds => lft (few ds.length (.lst ds))
theorem se_tup {ms : M (List D)} {n : Nat} (h : SA K X W es ms) : SE K X W (.Tuple es n pos) (mTup ms) := by
  obtain ⟨t, h1, h2⟩ := h
  refine ⟨_, fun i => pe_tup (h1 i), fun g S σ H env Q ok q => ?_⟩
  refine h2 g S σ H env _ ok (q.bind fun x e1 S1 H1 v _ s1 o1 r1 q1 => ?_)
  obtain ⟨d, e, q2⟩ := q1.lift
  obtain ⟨hl, rfl⟩ := few_line e
  refine ⟨by rw [r1.length]; exact hl, fun p hp => ?_⟩
  exact q2 _ _ _ (same_upd' (o1.s_none hp)) (o1.fresh hp) (.tup (.inl (.inl upd_same)) (r1.mono (same_upd' (o1.s_none hp))))
theorem so_lst {ms : M (List D)} (h : SA K X W es ms) : SO K X W (.List es pos) (mLst ms) := by
  obtain ⟨t, h1, h2⟩ := h
  refine ⟨_, fun i => pe_lst (h1 i), fun g S σ H env Q ok q => ?_⟩
  refine h2 g S σ H env _ ok (q.bind fun x e1 S1 H1 v _ s1 o1 r1 q1 => ?_)
  obtain ⟨d, e, q2⟩ := q1.lift
  obtain ⟨hl, rfl⟩ := few_line e
  refine ⟨by rw [r1.length]; exact hl, fun p hp => ?_⟩
  exact q2 S1 _ _ (Same.refl _) (o1.freshO hp) ⟨p, rfl, o1.own_new hp ⟨_, upd_same, r1⟩⟩

/-! ### a sequence that is read later: a value, or a slot's object -/
inductive Rf where
  | d (q : Sq) | sl (i : Nat)
def asSq : D → Option Sq
  | .lst ds => some (.l ds)
  | .tup ds => some (.t ds)
  | _ => none
/-- a slot's sequence, whoever's it is -/
def readAt (env : En) (i : Nat) : Option Sq := match env[i]? with
  | some (.sh d) => asSq d
  | some (.ow d) => asSq d
  | some (.io d) => asSq d
  | some (.bo d) => asSq d
  | _ => none
def rd (r : Rf) : M Sq := match r with
  | .d q => ret q
  | .sl i => fun env => match readAt env i with
    | some q => .ok q env
    | none => .no
def RfRep (K : PySem.W.Frag) (S : Hp) (σ : L2.St) (v : V) : Rf → Prop
  | .d q => SqRep K S S v q
  | .sl i => σ[i]? = some (some v)
theorem sqRep_mono {S S' H H' : Hp} {v : V} {q : Sq} (s : Same S S') (h : Same H H') (r : SqRep K S H v q) : SqRep K S' H' v q := by
  cases q with
  | l ds => obtain ⟨a, vs, e, h1, h2⟩ := r; exact ⟨a, vs, e, Same.seq h h1, h2.mono s⟩
  | t ds => obtain ⟨a, vs, e, h1, h2⟩ := r; exact ⟨a, vs, e, same_t h h1, h2.mono s⟩
theorem sq_rep {S : Hp} {v : V} {d : D} {q : Sq} (e : asSq d = some q) (h : RepD K S v d) : SqRep K S S v q := by
  cases h <;> simp [asSq] at e
  · subst e; rename_i h r; exact ⟨_, _, rfl, h, r⟩
  · subst e; rename_i h r; exact ⟨_, _, rfl, h, r⟩
theorem obd_sq {S Hx H : Hp} {a : Addr} {d : D} {q : Sq} (e : asSq d = some q) (s : Same Hx H) (h : ObD K S Hx a d) : SqRep K S H (.ref a) q := by
  cases d <;> simp [asSq] at e <;> simp only [ObD] at h
  obtain ⟨vs, h1, h2⟩ := h
  subst e
  exact ⟨a, vs, rfl, .inl (.inl (s _ _ h1)), h2⟩
theorem readAt_rep {g : G} {S H : Hp} {σ : L2.St} {env : En} {i : Nat} {q : Sq} (o : Ok K g S σ H env) (z : readAt env i = some q) : ∃ v, σ[i]? = some (some v) ∧ SqRep K S H v q := by
  unfold readAt at z
  split at z
  · rename_i d hs
    obtain ⟨v, h1, h2⟩ := o.slot i _ hs
    exact ⟨v, h1, sqRep_mono (Same.refl S) o.st (sq_rep z h2)⟩
  · rename_i d hs
    obtain ⟨v, h1, _, _, _, h2⟩ := o.slot i _ hs
    exact ⟨_, h1, obd_sq z (Same.refl H) h2⟩
  · rename_i d hs
    obtain ⟨v, h1, _, _, h2⟩ := o.slot i _ hs
    exact ⟨_, h1, obd_sq z (Same.refl H) h2⟩
  · rename_i d hs
    obtain ⟨v, h1, h2⟩ := o.slot i _ hs
    rcases h2 with h2 | ⟨b, rfl, h2⟩
    · exact ⟨v, h1, sqRep_mono (Same.refl S) o.st (sq_rep z h2)⟩
    · exact ⟨_, h1, obd_sq z (o.bf.trans o.fr) h2⟩
  · cases z
theorem rd_later {g : G} {S S1 H : Hp} {σ : L2.St} {env env' : En} {r : Rf} {v : V} {s : Sq} (h : RfRep K S1 σ v r) (e : Same S1 S) (o : Ok K g S σ H env) (z : rd r env = .ok s env') : SqRep K S H v s ∧ env' = env := by
  cases r with
  | d q =>
    simp only [rd, ret] at z
    cases z
    exact ⟨sqRep_mono e (e.trans o.st) h, rfl⟩
  | sl i =>
    simp only [rd] at z
    cases y : readAt env i with
    | none => rw [y] at z; cases z
    | some s' =>
      rw [y] at z
      cases z
      obtain ⟨u, h1, h2⟩ := readAt_rep o y
      have h' : σ[i]? = some (some v) := h
      rw [h'] at h1
      cases h1
      exact ⟨h2, rfl⟩
theorem rd_post {α β : Type} {g : G} {S S1 H : Hp} {σ : L2.St} {env : En} {r : Rf} {v : V} {rel : Hp → Hp → En → β → α → Prop} {Q : β → Hp → Prop} {f : Sq → M α} (q : Post K g S σ W rel Q (bnd (rd r) f env)) (h : RfRep K S1 σ v r) (e : Same S1 S) (o : Ok K g S σ H env) :
    ∃ s, SqRep K S H v s ∧ Post K g S σ W rel Q (f s env) := by
  unfold bnd at q
  cases z : rd r env with
  | ok s env' =>
    rw [z] at q
    obtain ⟨h1, rfl⟩ := rd_later h e o z
    exact ⟨s, h1, q⟩
  | rs x env' =>
    cases r with
    | d s => simp only [rd, ret] at z; cases z
    | sl i =>
      simp only [rd] at z
      cases y : readAt env i <;> rw [y] at z <;> cases z
  | no => rw [z] at q; exact q.elim
abbrev relB (K : PySem.W.Frag) (σ : L2.St) : Hp → Hp → En → V → Rf → Prop := fun S' _ _ v r => RfRep K S' σ v r
def SB (K : PySem.W.Frag) (X : ι → Cx) (W : WX) (e : Expr) (m : M Rf) : Prop := ∃ t, (∀ i, PE (X i) e t) ∧ ∀ g S σ H env Q, Ok K g S σ H env → Post K g S σ W (relB K σ) Q (m env) → t σ H Q
def mSq (m : M D) : M Rf := bnd m fun d => lft ((asSq d).map Rf.d)
theorem sb_of {m : M D} (h : SE K X W e m) : SB K X W e (mSq m) := by
  obtain ⟨t, h1, h2⟩ := h
  refine ⟨t, h1, fun g S σ H env Q ok q => ?_⟩
  refine h2 g S σ H env _ ok (q.bind fun x e1 S1 H1 v _ s1 o1 r1 q1 => ?_)
  obtain ⟨k, e, q2⟩ := q1.lift
  cases z : asSq x with
  | none => rw [z] at e; cases e
  | some s =>
    rw [z] at e
    cases e
    exact q2 S1 H1 v (Same.refl _) o1 (sq_rep z r1)
def mSl (i : Nat) : M Rf := fun env => match readAt env i with
  | some _ => .ok (.sl i) env
  | none => .no
theorem sb_var (i : Nat) {x : Str} (hN : ∀ k, (X k).N[i]? = some x := by intro _; rfl) (hv : ∀ k, Vis (X k).env.scope x := by first | exact fun _ => Or.inl rfl | exact fun _ => Or.inr (Or.inl rfl) | exact fun _ => Or.inr (Or.inr rfl)) (hd : (x == ("__debug__" : Str)) = false := by decide)
    (hcd : (x == ("__classdict__" : Str)) = false := by decide) : SB K X W (.Name x pos) (mSl i) := by
  refine ⟨_, fun k => pe_var (hN k) (hv k) hd hcd, fun g S σ H env Q o q => ?_⟩
  unfold mSl at q
  cases z : readAt env i with
  | none => rw [z] at q; exact q.elim
  | some s =>
    rw [z] at q
    obtain ⟨v, h1, h2⟩ := readAt_rep o z
    exact ⟨v, h1, q S H v (Same.refl S) o h1⟩
/-! an item -/
def ixD (s : Sq) (d : D) : Option D := match d with
  | .int i => atI s.ds i
  | _ => none
def mIx (mb : M Rf) (mi : M D) : M D := bnd mb fun r => bnd mi fun d => bnd (rd r) fun s => lft (ixD s d)
theorem atI_rep {S : Hp} {vs : List V} {ds : List D} {i : Int} {d : D} (r : RepDs K S vs ds) (h : atI ds i = some d) : ∃ v, atI vs i = some v ∧ RepD K S v d := by
  unfold atI at h ⊢
  rw [← r.length] at h
  cases z : ixN vs.length i with
  | none => rw [z] at h; cases h
  | some j =>
    rw [z] at h
    exact r.get h
theorem se_ix {mb : M Rf} {mi : M D} (ha : SB K X W a mb) (hb : SE K X W b mi) (hs : PlainIx b := by intro _ _; rfl) (hK : ∀ i, (X i).K = K := by intro _; rfl) : SE K X W (.Subscript a b pos) (mIx mb mi) := by
  obtain ⟨ta, pa, qa⟩ := ha
  obtain ⟨tb, pb, qb⟩ := hb
  refine ⟨_, fun i => pe_ix (hK i ▸ IxR.or ix_list ix_tup) (pa i) (pb i) hs, fun g S σ H env Q ok q => ?_⟩
  refine qa g S σ H env _ ok (q.bind fun x e1 S1 H1 v _ s1 o1 r1 q1 => ?_)
  refine qb g S1 σ H1 e1 _ o1 (q1.bind fun y e2 S2 H2 w _ s2 o2 r2 q2 => ?_)
  obtain ⟨s, rr, q3⟩ := rd_post q2 r1 s2 o2
  obtain ⟨d, e, q4⟩ := q3.lift
  cases y with
  | int i =>
    have := rep_int r2
    subst this
    cases s with
    | l ds =>
      obtain ⟨p, vs, rfl, h1, h2⟩ := rr
      obtain ⟨u, h3, h4⟩ := atI_rep h2 e
      exact .inl ⟨p, vs, i, u, rfl, rfl, h1, h3, q4 S2 H2 u (Same.refl _) o2 h4⟩
    | t ds =>
      obtain ⟨p, vs, rfl, h1, h2⟩ := rr
      obtain ⟨u, h3, h4⟩ := atI_rep h2 e
      exact .inr ⟨p, vs, i, u, rfl, rfl, h1, h3, q4 S2 H2 u (Same.refl _) o2 h4⟩
  | _ => simp [ixD] at e

/-! ### calls of built-ins -/
/-- one sequence as the argument -/
def mOnSq (f : Sq → Option D) (mb : M Rf) : M D := bnd mb fun r => bnd (rd r) fun s => lft (f s)
theorem one_arg {r : List V → Hp → VK → Prop} {te : TE} {σ : L2.St} {H : Hp} {Q : VK} (h : te σ H fun v H1 => r [v] H1 Q) : tCB r (tCons te tNil) σ H Q := h
theorem se_len {mb : M Rf} (ha : SB K X W a mb) (hm : ∀ i, (X i).mg "len" = none) (hg : ∀ i, Gl (X i) "len" := by intro _; rfl) (hs : ∀ i, starEach [a] (X i).env = [(false, eval a (X i).env)] := by intro _; rfl) (hpl : ∀ i, (backTo pos (starEach [] (X i).env)).any (·.1) = false := by intro _; rfl) (hK : ∀ i, (X i).K = K := by intro _; rfl) :
    SE K X W (.Call (.Name "len" p) [a] [] pos) (mOnSq (fun s => some (.int s.ds.length)) mb) := by
  obtain ⟨ta, pa, qa⟩ := ha
  refine ⟨_, fun i => pe_callB (hK i ▸ call_len_seq) (hg i) (hm i) PySem.boot_len (pa_cons (pa i) pa_nil (hs i)) (by decide) (by decide) (hs i) (hpl i), fun g S σ H env Q ok q => ?_⟩
  refine qa g S σ H env _ ok (q.bind fun x e1 S1 H1 v _ s1 o1 r1 q1 => ?_)
  obtain ⟨s, rr, q3⟩ := rd_post q1 r1 (Same.refl _) o1
  obtain ⟨d, e, q4⟩ := q3.lift
  cases e
  cases s with
  | l ds =>
    obtain ⟨p, vs, rfl, h1, h2⟩ := rr
    refine ⟨p, vs, rfl, .inl h1, q4 S1 H1 _ (Same.refl _) o1 ?_⟩
    rw [h2.length]; exact .int _
  | t ds =>
    obtain ⟨p, vs, rfl, h1, h2⟩ := rr
    refine ⟨p, vs, rfl, .inr h1, q4 S1 H1 _ (Same.refl _) o1 ?_⟩
    rw [h2.length]; exact .int _
/-- list(..), tuple(..) of a sequence -/
theorem so_list {mb : M Rf} (ha : SB K X W a mb) (hm : ∀ i, (X i).mg "list" = none) (hg : ∀ i, Gl (X i) "list" := by intro _; rfl) (hs : ∀ i, starEach [a] (X i).env = [(false, eval a (X i).env)] := by intro _; rfl) (hpl : ∀ i, (backTo pos (starEach [] (X i).env)).any (·.1) = false := by intro _; rfl) (hK : ∀ i, (X i).K = K := by intro _; rfl) :
    SO K X W (.Call (.Name "list" p) [a] [] pos) (mOnSq (fun s => some (.lst s.ds)) mb) := by
  obtain ⟨ta, pa, qa⟩ := ha
  refine ⟨_, fun i => pe_callTy (hK i ▸ call_list_of) (hg i) (hm i) (by decide +kernel) (pa_cons (pa i) pa_nil (hs i)) (by decide) (by decide) (hs i) (hpl i), fun g S σ H env Q ok q => ?_⟩
  refine qa g S σ H env _ ok (q.bind fun x e1 S1 H1 v _ s1 o1 r1 q1 => ?_)
  obtain ⟨s, rr, q3⟩ := rd_post q1 r1 (Same.refl _) o1
  obtain ⟨d, e, q4⟩ := q3.lift
  cases e
  cases s with
  | l ds =>
    obtain ⟨p, vs, rfl, h1, h2⟩ := rr
    exact ⟨p, vs, rfl, .inl h1, fun l hl => q4 S1 _ _ (Same.refl _) (o1.freshO hl) ⟨l, rfl, o1.own_new hl ⟨_, upd_same, h2⟩⟩⟩
  | t ds =>
    obtain ⟨p, vs, rfl, h1, h2⟩ := rr
    exact ⟨p, vs, rfl, .inr h1, fun l hl => q4 S1 _ _ (Same.refl _) (o1.freshO hl) ⟨l, rfl, o1.own_new hl ⟨_, upd_same, h2⟩⟩⟩
theorem se_tuple {m : M D} (ha : SE K X W a m) (hm : ∀ i, (X i).mg "tuple" = none) (hg : ∀ i, Gl (X i) "tuple" := by intro _; rfl) (hs : ∀ i, starEach [a] (X i).env = [(false, eval a (X i).env)] := by intro _; rfl) (hpl : ∀ i, (backTo pos (starEach [] (X i).env)).any (·.1) = false := by intro _; rfl) (hK : ∀ i, (X i).K = K := by intro _; rfl) :
    SE K X W (.Call (.Name "tuple" p) [a] [] pos) (mOnSq (fun s => some (.tup s.ds)) (mSq m)) := by
  obtain ⟨ta, pa, qa⟩ := sb_of ha
  refine ⟨_, fun i => pe_callTy (hK i ▸ call_tuple_of) (hg i) (hm i) (by decide +kernel) (pa_cons (pa i) pa_nil (hs i)) (by decide) (by decide) (hs i) (hpl i), fun g S σ H env Q ok q => ?_⟩
  refine qa g S σ H env _ ok (q.bind fun x e1 S1 H1 v hx s1 o1 r1 q1 => ?_)
  have hd : ∃ s, x = Rf.d s := by
    unfold mSq bnd at hx
    split at hx
    · rename_i d e' hd
      dsimp only at hx
      cases z : asSq d with
      | none => rw [z] at hx; cases hx
      | some s => rw [z] at hx; cases hx; exact ⟨s, rfl⟩
    · cases hx
    · cases hx
  obtain ⟨s, rfl⟩ := hd
  obtain ⟨d, e, q4⟩ := Post.lift (o := some (D.tup s.ds)) (show Post K g S1 σ W (relE K) Q (lft (some (D.tup s.ds)) e1) from q1)
  cases e
  have r1 : SqRep K S1 S1 v s := r1
  cases s with
  | l ds =>
    obtain ⟨p, vs, rfl, h1, h2⟩ := r1
    refine ⟨p, vs, rfl, .inl ⟨Same.seq o1.st h1, fun l hl => ?_⟩⟩
    exact q4 _ _ _ (same_upd' (o1.s_none hl)) (o1.fresh hl) (.tup (.inl (.inl upd_same)) (h2.mono (same_upd' (o1.s_none hl))))
  | t ds =>
    obtain ⟨p, vs, rfl, h1, h2⟩ := r1
    exact ⟨p, vs, rfl, .inr ⟨same_t o1.st h1, q4 S1 H1 _ (Same.refl _) o1 (.tup h1 h2)⟩⟩
/-- a built-in of one lasting value -/
def CD (K : PySem.W.Frag) (X : ι → Cx) (f : Value) (o : List D → Option D) : Prop := ∃ r, (∀ i, CallR (X i) f r) ∧ ∀ g S σ H env vs ds d Q, Ok K g S σ H env → RepDs K S vs ds → o ds = some d → (∀ S' H' v, Same S S' → Ok K g S' σ H' env → RepD K S' v d → Q v H') → r vs H Q
def mCB (o : List D → Option D) (ms : M (List D)) : M D := bnd ms fun ds => lft (o ds)
theorem se_callB {x : Str} {id : String} {o : List D → Option D} {ms : M (List D)} (hc : CD K X (.builtin id) o) (ha : SA K X W (e :: es) ms) (hm : ∀ i, (X i).mg x = none) (hv : bootBuiltins x = some (.builtin id)) (hg : ∀ i, Gl (X i) x := by intro _; rfl) (hn : x ≠ "__name__" := by decide) (hdb : (x == ("__debug__" : Str)) = false := by decide)
    (he : ∀ i, starEach (e :: es) (X i).env = (false, eval e (X i).env) :: starEach es (X i).env := by intro _; rfl) (hpl : ∀ i, (backTo pos (starEach es (X i).env)).any (·.1) = false := by intro _; rfl) : SE K X W (.Call (.Name x p) (e :: es) [] pos) (mCB o ms) := by
  obtain ⟨r, h1, h2⟩ := hc
  obtain ⟨ta, pa, qa⟩ := ha
  refine ⟨_, fun i => pe_callB (h1 i) (hg i) (hm i) hv (pa i) hn hdb (he i) (hpl i), fun g S σ H env Q ok q => ?_⟩
  refine qa g S σ H env _ ok (q.bind fun x e1 S1 H1 v hx s1 o1 r1 q1 => ?_)
  obtain ⟨d, e, q4⟩ := q1.lift
  exact h2 g S1 σ H1 e1 v x d Q o1 r1 e q4
theorem se_callTy {x : Str} {T : String} {o : List D → Option D} {ms : M (List D)} (hc : CD K X (.type T) o) (ha : SA K X W (e :: es) ms) (hm : ∀ i, (X i).mg x = none) (hv : bootBuiltins x = some (.type T)) (hg : ∀ i, Gl (X i) x := by intro _; rfl) (hn : x ≠ "__name__" := by decide) (hdb : (x == ("__debug__" : Str)) = false := by decide)
    (he : ∀ i, starEach (e :: es) (X i).env = (false, eval e (X i).env) :: starEach es (X i).env := by intro _; rfl) (hpl : ∀ i, (backTo pos (starEach es (X i).env)).any (·.1) = false := by intro _; rfl) : SE K X W (.Call (.Name x p) (e :: es) [] pos) (mCB o ms) := by
  obtain ⟨r, h1, h2⟩ := hc
  obtain ⟨ta, pa, qa⟩ := ha
  refine ⟨_, fun i => pe_callTy (h1 i) (hg i) (hm i) hv (pa i) hn hdb (he i) (hpl i), fun g S σ H env Q ok q => ?_⟩
  refine qa g S σ H env _ ok (q.bind fun x e1 S1 H1 v hx s1 o1 r1 q1 => ?_)
  obtain ⟨d, e, q4⟩ := q1.lift
  exact h2 g S1 σ H1 e1 v x d Q o1 r1 e q4
theorem reps1 {S : Hp} {vs : List V} {d : D} (h : RepDs K S vs [d]) : ∃ v, vs = [v] ∧ RepD K S v d := by
  cases h with
  | cons r t => cases t; exact ⟨_, rfl, r⟩
theorem reps2 {S : Hp} {vs : List V} {d d' : D} (h : RepDs K S vs [d, d']) : ∃ v w, vs = [v, w] ∧ RepD K S v d ∧ RepD K S w d' := by
  cases h with
  | cons r t =>
    cases t with
    | cons r' t' => cases t'; exact ⟨_, _, rfl, r, r'⟩
def absO : List D → Option D
  | [.int i] => some (.int (if i < 0 then -i else i))
  | _ => none
theorem cd_abs : CD K X (.builtin "abs") absO := ⟨_, fun _ => call_abs, fun g S σ H env vs ds d Q ok r e q => by
  unfold absO at e
  split at e
  · obtain ⟨v, rfl, r1⟩ := reps1 r
    have := rep_int r1
    subst this
    cases e
    exact ⟨_, rfl, q S H _ (Same.refl _) ok (.int _)⟩
  · cases e⟩
def intO : List D → Option D
  | [.int i] => some (.int i)
  | [.bl k] => some (.int (if k then 1 else 0))
  | _ => none
theorem cd_int : CD K X (.type "int") intO := ⟨_, fun _ => call_int1, fun g S σ H env vs ds d Q ok r e q => by
  unfold intO at e
  split at e
  · obtain ⟨v, rfl, r1⟩ := reps1 r
    have := rep_int r1
    subst this
    cases e
    exact .inl ⟨_, rfl, q S H _ (Same.refl _) ok (.int _)⟩
  · obtain ⟨v, rfl, r1⟩ := reps1 r
    have := rep_bl r1
    subst this
    cases e
    exact .inr ⟨_, rfl, q S H _ (Same.refl _) ok (.int _)⟩
  · cases e⟩
def maxO : List D → Option D
  | [.int i, .int j] => some (.int (if j > i then j else i))
  | _ => none
def minO : List D → Option D
  | [.int i, .int j] => some (.int (if j < i then j else i))
  | _ => none
theorem cd_max (hc : ∀ i, (X i).calm = true := by intro _; rfl) : CD K X (.builtin "max") maxO := ⟨_, fun i => call_max2 (hc i), fun g S σ H env vs ds d Q ok r e q => by
  unfold maxO at e
  split at e
  · obtain ⟨v, w, rfl, r1, r2⟩ := reps2 r
    have := rep_int r1
    have := rep_int r2
    subst_vars
    cases e
    exact ⟨_, _, rfl, q S H _ (Same.refl _) ok (.int _)⟩
  · cases e⟩
theorem cd_min (hc : ∀ i, (X i).calm = true := by intro _; rfl) : CD K X (.builtin "min") minO := ⟨_, fun i => call_min2 (hc i), fun g S σ H env vs ds d Q ok r e q => by
  unfold minO at e
  split at e
  · obtain ⟨v, w, rfl, r1, r2⟩ := reps2 r
    have := rep_int r1
    have := rep_int r2
    subst_vars
    cases e
    exact ⟨_, _, rfl, q S H _ (Same.refl _) ok (.int _)⟩
  · cases e⟩
/-- isinstance(x, T), T a built-in class -/
def tyN : D → Option String
  | .non => some "NoneType"
  | .bl _ => some "bool"
  | .int _ => some "int"
  | .str _ => some "str"
  | .tup _ => some "tuple"
  | .lst _ => some "list"
  | .ins _ _ => none
theorem tyX_of {S H : Hp} {v : V} {d : D} {n : String} (h : RepD K S v d) (s : Same S H) (e : tyN d = some n) : TyX K H v (.type n) := by
  cases h with
  | non => cases e; exact .base .non
  | bl b => cases e; exact .base (.bl b)
  | int i => cases e; exact .base (.int i)
  | str x => cases e; exact .base (.str x)
  | tup q r =>
    cases e
    rcases q with (q | ⟨o, q⟩) | ⟨o, its, n, hk, hc, _⟩
    · exact .base (.tup (s _ _ q))
    · exact .fTuple (s _ _ q)
    · exact .kTuple hk hc
  | lst q r =>
    cases e
    rcases q with (q | ⟨o, q⟩) | ⟨o, its, n, hk, hc, _⟩
    · exact .base (.lst (s _ _ q))
    · exact .base (.frz (s _ _ q))
    · exact .kList hk hc
  | ins _ _ => cases e
def isiO (T : String) (d : D) : Option D := match tyN d with
  | some n => (kitB n T).map .bl
  | none => none
theorem se_isi {T : String} {x : Str} {m : M D} {p2 : Pos} (ha : SE K X W a m) (hm : ∀ i, (X i).mg "isinstance" = none) (hm2 : ∀ i, (X i).mg x = none) (hv : bootBuiltins x = some (.type T)) (hg : ∀ i, Gl (X i) "isinstance" := by intro _; rfl) (hg2 : ∀ i, Gl (X i) x := by intro _; rfl) (hn : x ≠ "__name__" := by decide) (hdb : (x == ("__debug__" : Str)) = false := by decide)
    (hs : ∀ i, starEach [a, .Name x p2] (X i).env = (false, eval a (X i).env) :: starEach [.Name x p2] (X i).env := by intro _; rfl) (hs2 : ∀ i, starEach [.Name x p2] (X i).env = [(false, eval (.Name x p2) (X i).env)] := by intro _; rfl) (hpl : ∀ i, (backTo pos (starEach [.Name x p2] (X i).env)).any (·.1) = false := by intro _; rfl) (hK : ∀ i, (X i).K = K := by intro _; rfl) :
    SE K X W (.Call (.Name "isinstance" p) [a, .Name x p2] [] pos) (bnd m fun d => lft (isiO T d)) := by
  obtain ⟨ta, pa, qa⟩ := ha
  refine ⟨_, fun i => pe_callB (hK i ▸ call_isi) (hg i) (hm i) (by decide +kernel) (pa_cons (pa i) (pa_cons (pe_bltn (v := .ty T) (hg2 i) (hm2 i) hv rfl hn hdb) pa_nil (hs2 i)) (hs i)) (by decide) (by decide) (hs i) (hpl i), fun g S σ H env Q ok q => ?_⟩
  refine qa g S σ H env _ ok (q.bind fun x e1 S1 H1 v hx s1 o1 r1 q1 => ?_)
  obtain ⟨d, e, q4⟩ := q1.lift
  unfold isiO at e
  split at e
  · rename_i n hn
    cases z : kitB n T with
    | none => rw [z] at e; cases e
    | some k =>
      rw [z] at e
      cases e
      exact ⟨v, .ty T, _, _, k, rfl, .ty T, tyX_of r1 o1.st hn, kit_ty z, q4 S1 H1 _ (Same.refl _) o1 (.bl k)⟩
  · cases e

/-! ### +, slices, in -/
def addT : D → D → Option D
  | .tup xs, .tup ys => few (xs.length + ys.length) (.tup (xs ++ ys))
  | _, _ => none
theorem od_addT (hK : ∀ i, (X i).K = K := by intro _; rfl) : OD K X (binaryOp .Add) addT := by
  refine ⟨_, fun i => hK i ▸ op_catA, fun g S σ H env x y d1 d2 d Q ok r1 r2 e q => ?_⟩
  unfold addT at e
  split at e
  · rename_i xs ys
    obtain ⟨hl, rfl⟩ := few_line e
    cases r1 with
    | tup h1 k1 =>
      cases r2 with
      | tup h2 k2 =>
        refine ⟨_, _, _, _, rfl, rfl, same_t ok.st h1, same_t ok.st h2, by rw [k1.length, k2.length]; exact hl, fun z => ?_, fun z1 z2 => ?_, fun z1 z2 p hp => ?_⟩
        · subst z
          cases k1
          exact q S H _ (Same.refl _) ok (.tup h2 k2)
        · subst z2
          cases k2
          rw [List.append_nil] at q
          exact q S H _ (Same.refl _) ok (.tup h1 k1)
        · exact q _ _ _ (same_upd' (ok.s_none hp)) (ok.fresh hp) (.tup (.inl (.inl upd_same)) ((k1.append k2).mono (same_upd' (ok.s_none hp))))
  · cases e
def addS : D → D → Option D
  | .str x, .str y => few (x.length + y.length) (.str (x ++ y))
  | _, _ => none
theorem od_addS : OD K X (binaryOp .Add) addS := by
  refine ⟨_, fun i => op_add_str, fun g S σ H env x y d1 d2 d Q ok r1 r2 e q => ?_⟩
  unfold addS at e
  split at e
  · obtain ⟨hl, rfl⟩ := few_line e
    have := rep_str r1
    have := rep_str r2
    subst_vars
    exact ⟨_, _, rfl, rfl, hl, q S H _ (Same.refl _) ok (.str _)⟩
  · cases e
/-- list + list, whoever's they are -/
def rCatL (K : PySem.W.Frag) : R2 := fun x y H Q => ∃ l b xs zs, x = .ref l ∧ y = .ref b ∧ SqL K H l xs ∧ SqL K H b zs ∧ xs.length + zs.length ≤ sizeLine ∧ ∀ p, H p = none → Q (.ref p) (upd H p (.lst (xs ++ zs)))
theorem op_catL {X : Cx} : OpR X (binaryOp .Add) (rCatL X.K) := by
  intro pins s σ H x y v w Q I rx ry h
  obtain ⟨l, b, xs, zs, rfl, rfl, hL, hB, hz, q⟩ := h
  have e1 : v = .ref l := rx
  have e2 : w = .ref b := ry
  subst e1 e2
  obtain ⟨its, hv, p1, hz1⟩ := I.list hL
  obtain ⟨its', hv', p2, hz2⟩ := I.list hB
  obtain ⟨⟨cls, dd, data, sl⟩, n, ho, hc, _, hd⟩ := p1
  obtain ⟨⟨cls2, dd2, data2, sl2⟩, n2, ho2, hc2, _, hd2⟩ := p2
  simp only at hc hd hc2 hd2
  subst hc hd hc2 hd2
  have hn := hv.length
  have hn' := hv'.length
  have ea : its.toArray ++ its'.toArray = (its ++ its').toArray := by simp
  refine concat_meets ⟨_, ho, rfl⟩ ⟨_, ho2, rfl⟩ noFill_list_add seq_list_add PySem.F.slot_list_add PySem.F.entry_list_add (PySem.F.args_list_add_2 _ _) (list_addW l b its.toArray its'.toArray n n2 dd dd2 sl sl2 (by rw [List.size_toArray, List.size_toArray]; omega)) ⟨ho, ho2, ?_⟩
  rw [ea]
  exact ⟨.ref s.heap.objs.size, _, I.lnew (t' := s.toks) (hv.append hv') (by rw [List.length_append]; omega), rfl, q _ I.fresh⟩
def mCatL (ma mb : M Rf) : M D := bnd ma fun x => bnd mb fun y => bnd (rd x) fun s => bnd (rd y) fun t => lft (match s, t with
  | .l xs, .l ys => few (xs.length + ys.length) (.lst (xs ++ ys))
  | _, _ => none)
theorem so_cat {ma mb : M Rf} (ha : SB K X W a ma) (hb : SB K X W b mb) (hK : ∀ i, (X i).K = K := by intro _; rfl) : SO K X W (.BinOp a .Add b pos) (mCatL ma mb) := by
  obtain ⟨ta, pa, qa⟩ := ha
  obtain ⟨tb, pb, qb⟩ := hb
  refine ⟨_, fun i => pe_op (hK i ▸ op_catL) (pa i) (pb i), fun g S σ H env Q ok q => ?_⟩
  refine qa g S σ H env _ ok (q.bind fun x e1 S1 H1 v _ s1 o1 r1 q1 => ?_)
  refine qb g S1 σ H1 e1 _ o1 (q1.bind fun y e2 S2 H2 w _ s2 o2 r2 q2 => ?_)
  obtain ⟨s, rr, q3⟩ := rd_post q2 r1 s2 o2
  obtain ⟨t, rt, q4⟩ := rd_post q3 r2 (Same.refl _) o2
  obtain ⟨d, e, q5⟩ := q4.lift
  cases s with
  | t _ => cases e
  | l xs =>
    cases t with
    | t _ => cases e
    | l ys =>
      obtain ⟨hl, rfl⟩ := few_line e
      obtain ⟨p1, vs, rfl, h1, k1⟩ := rr
      obtain ⟨p2, ws, rfl, h2, k2⟩ := rt
      exact ⟨p1, p2, vs, ws, rfl, rfl, h1, h2, by rw [k1.length, k2.length]; exact hl, fun p hp =>
        q5 S2 _ _ (Same.refl _) (o2.freshO hp) ⟨p, rfl, o2.own_new hp ⟨_, upd_same, k1.append k2⟩⟩⟩
/-- slices -/
abbrev relP : Hp → Hp → En → Option Int → Option Int → Prop := fun _ _ _ b c => b = c
def SP' (K : PySem.W.Frag) (X : ι → Cx) (W : WX) (e : Option Expr) (m : M (Option Int)) : Prop := ∃ t, (∀ i, PO (X i) e t) ∧ ∀ g S σ H env Q, Ok K g S σ H env → Post K g S σ W relP Q (m env) → t σ H Q
theorem sp_no : SP' K X W none (ret none) := ⟨_, fun _ => po_none, fun g S σ H env Q ok q => q S H none (Same.refl _) ok rfl⟩
def asI : D → Option (Option Int)
  | .int i => some (some i)
  | _ => none
def mPart (m : M D) : M (Option Int) := bnd m fun d => lft (asI d)
theorem sp_at {m : M D} (h : SE K X W e m) : SP' K X W (some e) (mPart m) := by
  obtain ⟨t, h1, h2⟩ := h
  refine ⟨_, fun i => po_some (h1 i), fun g S σ H env Q ok q => ?_⟩
  refine h2 g S σ H env _ ok (q.bind fun x e1 S1 H1 v hx s1 o1 r1 q1 => ?_)
  obtain ⟨d, e, q4⟩ := q1.lift
  cases x with
  | int i =>
    cases e
    have := rep_int r1
    subst this
    exact ⟨i, rfl, q4 S1 H1 _ (Same.refl _) o1 rfl⟩
  | _ => cases e
def cutD (xs : List D) (lo hi : Option Int) : List D := (xs.drop (HT.sIx xs.length 0 lo)).take (HT.sIx xs.length xs.length hi - HT.sIx xs.length 0 lo)
theorem cut_rep {S : Hp} {vs : List V} {ds : List D} {lo hi : Option Int} (r : RepDs K S vs ds) : RepDs K S (cutV vs lo hi) (cutD ds lo hi) := by
  unfold cutV cutD
  rw [r.length]
  exact (r.drop _).take _
theorem cut_whole {ds : List D} {lo hi : Option Int} (h : HT.sIx ds.length 0 lo = 0 ∧ HT.sIx ds.length ds.length hi = ds.length) : cutD ds lo hi = ds := by
  unfold cutD
  rw [h.1, h.2]
  simp
def mSlL (mb : M Rf) (ml mh : M (Option Int)) : M D := bnd mb fun r => bnd ml fun lo => bnd mh fun hi => bnd (rd r) fun s => lft (match s with
  | .l ds => some (.lst (cutD ds lo hi))
  | _ => none)
theorem so_slice {lo hi : Option Expr} {mb : M Rf} {ml mh : M (Option Int)} {p2 : Pos} (ha : SB K X W a mb) (hl : SP' K X W lo ml) (hh : SP' K X W hi mh) (hK : ∀ i, (X i).K = K := by intro _; rfl) : SO K X W (.Subscript a (.Slice lo hi none p2) pos) (mSlL mb ml mh) := by
  obtain ⟨ta, pa, qa⟩ := ha
  obtain ⟨tl, pl, ql⟩ := hl
  obtain ⟨th, ph, qh⟩ := hh
  refine ⟨_, fun i => pe_slice (hK i ▸ sl_list) (pa i) (pl i) (ph i), fun g S σ H env Q ok q => ?_⟩
  refine qa g S σ H env _ ok (q.bind fun x e1 S1 H1 v _ s1 o1 r1 q1 => ?_)
  refine ql g S1 σ H1 e1 _ o1 (q1.bind fun l e2 S2 H2 w _ s2 o2 r2 q2 => ?_)
  refine qh g S2 σ H2 e2 _ o2 (q2.bind fun u e3 S3 H3 w3 _ s3 o3 r3 q3 => ?_)
  obtain ⟨s, rr, q4⟩ := rd_post q3 r1 (s2.trans s3) o3
  obtain ⟨d, e, q5⟩ := q4.lift
  subst r2 r3
  cases s with
  | t _ => cases e
  | l ds =>
    cases e
    obtain ⟨p1, vs, rfl, h1, k1⟩ := rr
    exact ⟨p1, vs, rfl, h1, fun p hp => q5 S3 _ _ (Same.refl _) (o3.freshO hp) ⟨p, rfl, o3.own_new hp ⟨_, upd_same, cut_rep k1⟩⟩⟩
def slT (d : D) (lo hi : Option Int) : Option D := match d with
  | .tup ds => some (.tup (cutD ds lo hi))
  | _ => none
def mSlT (mb : M D) (ml mh : M (Option Int)) : M D := bnd mb fun r => bnd ml fun lo => bnd mh fun hi => lft (slT r lo hi)
theorem se_slice {lo hi : Option Expr} {mb : M D} {ml mh : M (Option Int)} {p2 : Pos} (ha : SE K X W a mb) (hl : SP' K X W lo ml) (hh : SP' K X W hi mh) (hK : ∀ i, (X i).K = K := by intro _; rfl) : SE K X W (.Subscript a (.Slice lo hi none p2) pos) (mSlT mb ml mh) := by
  obtain ⟨ta, pa, qa⟩ := ha
  obtain ⟨tl, pl, ql⟩ := hl
  obtain ⟨th, ph, qh⟩ := hh
  refine ⟨_, fun i => pe_slice (hK i ▸ sl_tupA) (pa i) (pl i) (ph i), fun g S σ H env Q ok q => ?_⟩
  refine qa g S σ H env _ ok (q.bind fun x e1 S1 H1 v _ s1 o1 r1 q1 => ?_)
  refine ql g S1 σ H1 e1 _ o1 (q1.bind fun l e2 S2 H2 w _ s2 o2 r2 q2 => ?_)
  refine qh g S2 σ H2 e2 _ o2 (q2.bind fun u e3 S3 H3 w3 _ s3 o3 r3 q3 => ?_)
  obtain ⟨d, e, q5⟩ := q3.lift
  subst r2 r3
  cases x with
  | tup ds =>
    cases e
    cases r1 with
    | tup h1 k1 =>
      have s13 := s2.trans s3
      refine ⟨_, _, rfl, same_t (s13.trans o3.st) h1, fun z => ?_, fun z p hp => ?_⟩
      · rw [k1.length] at z
        rw [cut_whole z] at q5
        exact q5 S3 H3 _ (Same.refl _) o3 (.tup (same_t s13 h1) (k1.mono s13))
      · exact q5 _ _ _ (same_upd' (o3.s_none hp)) (o3.fresh hp) (.tup (.inl (.inl upd_same)) (cut_rep (k1.mono (s13.trans (same_upd' (o3.s_none hp))))))
  | _ => cases e
/-- x in xs -/
def toVs : List D → Option (List V)
  | [] => some []
  | d :: ds => match toV d, toVs ds with
    | some x, some xs => some (x :: xs)
    | _, _ => none
theorem toVs_rep {S : Hp} : ∀ {ds : List D} {vs ws : List V}, RepDs K S vs ds → toVs ds = some ws → vs = ws ∧ vs.all flatV = true
  | _, _, _, .nil, e => by simp [toVs] at e; subst e; exact ⟨rfl, rfl⟩
  | _, _, ws, .cons (d := d) (ds := ds) r t, e => by
    cases q1 : toV d with
    | none => simp [toVs, q1] at e
    | some x =>
      cases q2 : toVs ds with
      | none => simp [toVs, q1, q2] at e
      | some xs =>
        simp [toVs, q1, q2] at e
        obtain ⟨h1, h2⟩ := toVs_rep t q2
        have h3 := toV_rep r q1
        refine ⟨by rw [← e, h3, h1], ?_⟩
        rw [List.all_cons, h2, Bool.and_true, h3]
        cases d <;> simp [toV] at q1 <;> subst q1 <;> rfl
def inD (x : D) (ds : List D) : Option Bool := match toV x, toVs ds with
  | some v, some vs => some (inV v vs)
  | _, _ => none
def mIn (neg : Bool) (ma : M D) (mb : M Rf) : M D := bnd ma fun x => bnd mb fun r => bnd (rd r) fun s => lft ((inD x s.ds).map fun b => .bl (if neg then !b else b))
theorem flat_toV {d : D} {v : V} (h : toV d = some v) : flatV v = true := by cases d <;> simp [toV] at h <;> subst h <;> rfl
theorem in_core {neg : Bool} {ma : M D} {mb : M Rf} {g : G} {S H : Hp} {σ : L2.St} {env : En} {Q : VK} {ta tb : TE} (qa : ∀ g S σ H env Q, Ok K g S σ H env → Post K g S σ W (relE K) Q (ma env) → ta σ H Q) (qb : ∀ g S σ H env Q, Ok K g S σ H env → Post K g S σ W (relB K σ) Q (mb env) → tb σ H Q)
    (ok : Ok K g S σ H env) (q : Post K g S σ W (relE K) Q (mIn neg ma mb env)) : tOp (rIn K neg) ta tb σ H Q := by
  refine qa g S σ H env _ ok (q.bind fun x e1 S1 H1 v _ s1 o1 r1 q1 => ?_)
  refine qb g S1 σ H1 e1 _ o1 (q1.bind fun y e2 S2 H2 w _ s2 o2 r2 q2 => ?_)
  obtain ⟨s, rr, q3⟩ := rd_post q2 r2 (Same.refl _) o2
  obtain ⟨d, e, q4⟩ := q3.lift
  cases z : inD x s.ds with
  | none => rw [z] at e; cases e
  | some k =>
    rw [z] at e
    cases e
    unfold inD at z
    split at z
    · rename_i v0 vs0 e1' e2'
      have h1 := toV_rep r1 e1'
      subst h1
      cases z
      cases s with
      | l ds =>
        obtain ⟨p1, vs, rfl, h1, k1⟩ := rr
        obtain ⟨rfl, hf⟩ := toVs_rep k1 e2'
        exact ⟨p1, vs, rfl, .inl h1, flat_toV e1', hf, q4 S2 H2 _ (Same.refl _) o2 (.bl _)⟩
      | t ds =>
        obtain ⟨p1, vs, rfl, h1, k1⟩ := rr
        obtain ⟨rfl, hf⟩ := toVs_rep k1 e2'
        exact ⟨p1, vs, rfl, .inr h1, flat_toV e1', hf, q4 S2 H2 _ (Same.refl _) o2 (.bl _)⟩
    · cases z
theorem se_in {ma : M D} {mb : M Rf} (ha : SE K X W a ma) (hb : SB K X W b mb) (hm : behindInMarks .In b = false := by rfl) (hK : ∀ i, (X i).K = K := by intro _; rfl) : SE K X W (.Compare a [.In] [b] pos) (mIn false ma mb) := by
  obtain ⟨ta, pa, qa⟩ := ha
  obtain ⟨tb, pb, qb⟩ := hb
  exact ⟨_, fun i => pe_cmpR (hK i ▸ op_in_seq) (pa i) (pb i) hm, fun g S σ H env Q ok q => in_core qa qb ok q⟩
theorem se_nin {ma : M D} {mb : M Rf} (ha : SE K X W a ma) (hb : SB K X W b mb) (hm : behindInMarks .NotIn b = false := by rfl) (hK : ∀ i, (X i).K = K := by intro _; rfl) : SE K X W (.Compare a [.NotIn] [b] pos) (mIn true ma mb) := by
  obtain ⟨ta, pa, qa⟩ := ha
  obtain ⟨tb, pb, qb⟩ := hb
  exact ⟨_, fun i => pe_cmpR (hK i ▸ op_notIn_seq) (pa i) (pb i) hm, fun g S σ H env Q ok q => in_core qa qb ok q⟩
theorem st_in_core {neg : Bool} {ma : M D} {mb : M Rf} {g : G} {S H : Hp} {σ : L2.St} {env : En} {Q : Bool → Hp → Prop} {ta tb : TE} (qa : ∀ g S σ H env Q, Ok K g S σ H env → Post K g S σ W (relE K) Q (ma env) → ta σ H Q) (qb : ∀ g S σ H env Q, Ok K g S σ H env → Post K g S σ W (relB K σ) Q (mb env) → tb σ H Q)
    (ok : Ok K g S σ H env) (q : Post K g S σ W relT Q (mB (mIn neg ma mb) env)) : tTest (tOp (rIn K neg) ta tb) σ H Q := by
  refine in_core qa qb ok (q.bind fun x e1 S1 H1 v _ s1 o1 r1 q1 => ?_)
  obtain ⟨k, e, q2⟩ := q1.lift
  have := asB_eq e
  subst this
  exact ⟨k, rep_bl r1, q2 S1 H1 k (Same.refl _) o1 rfl⟩
theorem st_in {ma : M D} {mb : M Rf} (ha : SE K X W a ma) (hb : SB K X W b mb) (hm : behindInMarks .In b = false := by rfl) (hK : ∀ i, (X i).K = K := by intro _; rfl) : ST K X W (.Compare a [.In] [b] pos) (mB (mIn false ma mb)) := by
  obtain ⟨ta, pa, qa⟩ := ha
  obtain ⟨tb, pb, qb⟩ := hb
  exact ⟨_, fun i => pt_cmpR (hK i ▸ op_in_seq) (pa i) (pb i) hm, fun g S σ H env Q ok q => st_in_core qa qb ok q⟩
theorem st_nin {ma : M D} {mb : M Rf} (ha : SE K X W a ma) (hb : SB K X W b mb) (hm : behindInMarks .NotIn b = false := by rfl) (hK : ∀ i, (X i).K = K := by intro _; rfl) : ST K X W (.Compare a [.NotIn] [b] pos) (mB (mIn true ma mb)) := by
  obtain ⟨ta, pa, qa⟩ := ha
  obtain ⟨tb, pb, qb⟩ := hb
  exact ⟨_, fun i => pt_cmpR (hK i ▸ op_notIn_seq) (pa i) (pb i) hm, fun g S σ H env Q ok q => st_in_core qa qb ok q⟩
end
end Mir
namespace Mir
open PySem PySem.Spec PyProof.Rows L2
section
variable {ι : Type} {X : ι → Cx} {K : PySem.W.Frag} {W : WX} {e a b c : Expr} {es : List Expr} {pos p : Pos}

/-! ### targets -/
abbrev Bd := D → En → Option En
def SG (K : PySem.W.Frag) (X : ι → Cx) (tg : Expr) (is : List Nat) (b : Bd) : Prop := ∃ t, (∀ i, PG (X i) tg t) ∧ ∀ (g : G) (S : Hp) (σ : L2.St) (H : Hp) (env env' : En) (v : V) (d : D) (Q : L2.St → Hp → Prop), Ok K g S σ H env → RepD K S v d → b d env = some env' →
  (∀ σ' : L2.St, Ok K g S σ' H env' → (∀ j : Nat, j ∉ is → σ'[j]? = σ[j]?) → σ'.length = σ.length → Q σ' H) → t v σ H Q
def SGs (K : PySem.W.Frag) (X : ι → Cx) (ts : List Expr) (is : List Nat) (b : List D → En → Option En) : Prop := ∃ t, (∀ i, PGs (X i) ts t) ∧ ∀ (g : G) (S : Hp) (σ : L2.St) (H : Hp) (env env' : En) (vs : List V) (ds : List D) (Q : L2.St → Hp → Prop), Ok K g S σ H env → RepDs K S vs ds → b ds env = some env' →
  (∀ σ' : L2.St, Ok K g S σ' H env' → (∀ j : Nat, j ∉ is → σ'[j]? = σ[j]?) → σ'.length = σ.length → Q σ' H) → t vs σ H Q
def bName (i : Nat) : Bd := fun d env => setSh env i d
theorem sg_name {i : Nat} {x : Str} (hN : ∀ k, (X k).N.Nodup) (hi : ∀ k, (X k).N[i]? = some x := by intro _; rfl) (hx : ∀ k, Loc (X k).env.scope x := by first | exact fun _ => .inl rfl | exact fun _ => .inr rfl) (hf : ∀ k, (X k).fn x = true ∨ (X k).env.scope.names.lookup x = some .local := by first | exact fun _ => .inl rfl | exact fun _ => .inr rfl) : SG K X (.Name x pos) [i] (bName i) := by
  refine ⟨_, fun k => pg_name (hN k) (hi k) (hx k) (hf k), fun g S σ H env env' v d Q o r h q => ?_⟩
  refine q _ (o.setSh h r) (fun j hj => ?_) (by simp)
  rw [List.getElem?_set_ne (fun z => hj (by simp [z]))]
def bNil : List D → En → Option En := fun ds env => match ds with
  | [] => some env
  | _ => none
def bCons (b : Bd) (bs : List D → En → Option En) : List D → En → Option En := fun ds env => match ds with
  | d :: ds => (b d env).bind (bs ds)
  | [] => none
theorem sgs_nil : SGs K X [] [] bNil := by
  refine ⟨_, fun k => pgs_nil, fun g S σ H env env' vs ds Q o r h q => ?_⟩
  cases r with
  | nil => cases h; exact ⟨rfl, q σ o (fun _ _ => rfl) rfl⟩
  | cons _ _ => cases h
theorem sgs_cons {is js : List Nat} {b : Bd} {bs : List D → En → Option En} (h1 : SG K X e is b) (h2 : SGs K X es js bs) (hs : ∀ i, (assignEach (e :: es) (X i).env).map (·.2) = assign e (X i).env :: (assignEach es (X i).env).map (·.2) := by intro _; rfl) : SGs K X (e :: es) (is ++ js) (bCons b bs) := by
  obtain ⟨t1, p1, q1⟩ := h1
  obtain ⟨t2, p2, q2⟩ := h2
  refine ⟨_, fun k => pgs_cons (p1 k) (p2 k) (hs k), fun g S σ H env env' vs ds Q o r h q => ?_⟩
  cases r with
  | nil => cases h
  | cons r rs =>
    rename_i v d vs ds
    simp only [bCons] at h
    cases z : b d env with
    | none => rw [z] at h; cases h
    | some e1 =>
      rw [z] at h
      refine ⟨v, vs, rfl, q1 g S σ H env e1 v d _ o r z fun σ1 o1 k1 l1 => ?_⟩
      refine q2 g S σ1 H e1 env' vs ds _ o1 rs h fun σ2 o2 k2 l2 => ?_
      refine q σ2 o2 (fun j hj => ?_) (l2.trans l1)
      rw [k2 j (fun z => hj (List.mem_append_right _ z)), k1 j (fun z => hj (List.mem_append_left _ z))]
def bTup (n : Nat) (bs : List D → En → Option En) : Bd := fun d env => match d with
  | .tup ds => if ds.length = n then bs ds env else none
  | _ => none
theorem sg_tup {is : List Nat} {bs : List D → En → Option En} {k n : Nat} (h : SGs K X es is bs) (hc : ∀ i, (X i).calm = true := by intro _; rfl) (hn : ∀ i, (assignEach es (X i).env).length = n := by intro _; rfl) (hst : ∀ i, (assignEach es (X i).env).findIdx? (·.1) = none := by intro _; rfl) (hK : ∀ i, (X i).K = K := by intro _; rfl) :
    SG K X (.Tuple es k pos) is (bTup n bs) := by
  obtain ⟨t, p1, q1⟩ := h
  refine ⟨gTup K n t, fun i => hK i ▸ pg_tup (hc i) (p1 i) (hn i) (hst i), fun g S σ H env env' v d Q o r h q => ?_⟩
  unfold bTup at h
  split at h
  · rename_i ds
    split at h
    · rename_i hl
      cases r with
      | tup h1 k1 =>
        refine ⟨_, _, rfl, same_t o.st h1, by rw [k1.length]; exact hl, ?_⟩
        exact q1 g S σ H env env' _ ds Q o k1 h q
    · cases h
  · cases h
def bLst (n : Nat) (bs : List D → En → Option En) : Bd := fun d env => match d with
  | .lst ds => if ds.length = n then bs ds env else none
  | _ => none
theorem sg_lst {is : List Nat} {bs : List D → En → Option En} {k n : Nat} (h : SGs K X es is bs) (hc : ∀ i, (X i).calm = true := by intro _; rfl) (hn : ∀ i, (assignEach es (X i).env).length = n := by intro _; rfl) (hst : ∀ i, (assignEach es (X i).env).findIdx? (·.1) = none := by intro _; rfl) (hK : ∀ i, (X i).K = K := by intro _; rfl) :
    SG K X (.Tuple es k pos) is (bLst n bs) := by
  obtain ⟨t, p1, q1⟩ := h
  refine ⟨gLst K n t, fun i => hK i ▸ pg_lst (hc i) (p1 i) (hn i) (hst i), fun g S σ H env env' v d Q o r h q => ?_⟩
  unfold bLst at h
  split at h
  · rename_i ds
    split at h
    · rename_i hl
      cases r with
      | lst h1 k1 =>
        refine ⟨_, _, rfl, Same.seq o.st h1, by rw [k1.length]; exact hl, ?_⟩
        exact q1 g S σ H env env' _ ds Q o k1 h q
    · cases h
  · cases h

/-! ### what is walked -/
structure Walks (K : PySem.W.Frag) (F : Hp) (J : It) (S : Hp) (ds : List D) : Prop where
  stop : ∀ i S' H, Same S S' → Same S' H → Same F H → ds.length ≤ i → J.stop i H
  go : ∀ (i : Nat) S' H d, Same S S' → Same S' H → Same F H → ds[i]? = some d → J.go i H ∧ ∀ x H', J.yld i H x H' → ∃ S2, Same S' S2 ∧ Same S2 H' ∧ Same H H' ∧ (∀ a u, S2 a = some u → S' a = none → H a = none) ∧ RepD K S2 x d
abbrev relI (K : PySem.W.Frag) (g : G) : Hp → Hp → En → It → List D → Prop := fun S' _ _ J ds => Walks K g.F J S' ds
def SI (K : PySem.W.Frag) (X : ι → Cx) (W : WX) (tg it : Expr) (m : M (List D)) : Prop := ∃ wi, (∀ i, PI (X i) tg it wi) ∧ ∀ g S σ H env R, Ok K g S σ H env → Post K g S σ W (relI K g) R (m env) → wi σ H R
theorem walks_same {F S : Hp} {J : It} {ds : List D} (stop : ∀ i S' H, Same S S' → Same S' H → Same F H → ds.length ≤ i → J.stop i H)
    (go : ∀ (i : Nat) S' H d, Same S S' → Same S' H → Same F H → ds[i]? = some d → J.go i H ∧ ∀ x H', J.yld i H x H' → H' = H ∧ RepD K S' x d) : Walks K F J S ds :=
  ⟨stop, fun i S' H d s1 s2 s3 e => ⟨(go i S' H d s1 s2 s3 e).1, fun x H' y => by
    obtain ⟨rfl, r⟩ := (go i S' H d s1 s2 s3 e).2 x H' y
    exact ⟨S', Same.refl _, s2, Same.refl _, (fun a u h1 h2 => by rw [h1] at h2; cases h2), r⟩⟩⟩
theorem walks_list {F S : Hp} {a : Addr} {vs : List V} {ds : List D} (h : ∀ S' H, Same S S' → Same S' H → Same F H → SqL K H a vs) (r : RepDs K S vs ds) : Walks K F (Itl K a) S ds :=
  walks_same (fun i S' H s1 s2 s3 hl => ⟨vs, h S' H s1 s2 s3, by rw [r.length]; exact hl⟩) fun i S' H d s1 s2 s3 e => by
    obtain ⟨v, hv, rv⟩ := r.get e
    refine ⟨⟨vs, v, h S' H s1 s2 s3, hv⟩, fun x H' y => ?_⟩
    obtain ⟨rfl, f⟩ := y
    have := f vs (h S' H' s1 s2 s3)
    rw [hv] at this
    cases this
    exact ⟨rfl, rv.mono s1⟩
theorem walks_tup {F S : Hp} {a : Addr} {vs : List V} {ds : List D} (h : ∀ S' H, Same S S' → Same S' H → Same F H → SqT K H a vs) (r : RepDs K S vs ds) : Walks K F (Itt K a) S ds :=
  walks_same (fun i S' H s1 s2 s3 hl => ⟨vs, h S' H s1 s2 s3, by rw [r.length]; exact hl⟩) fun i S' H d s1 s2 s3 e => by
    obtain ⟨v, hv, rv⟩ := r.get e
    refine ⟨⟨vs, v, h S' H s1 s2 s3, hv⟩, fun x H' y => ?_⟩
    obtain ⟨rfl, f⟩ := y
    have := f vs (h S' H' s1 s2 s3)
    rw [hv] at this
    cases this
    exact ⟨rfl, rv.mono s1⟩
def lstD : D → Option (List D)
  | .lst ds => some ds
  | _ => none
def tupD : D → Option (List D)
  | .tup ds => some ds
  | _ => none
theorem si_list {tg : Expr} {m : M D} (h : SE K X W e m) (hK : ∀ i, (X i).K = K := by intro _; rfl) : SI K X W tg e (bnd m fun d => lft (lstD d)) := by
  obtain ⟨t, p1, q1⟩ := h
  refine ⟨_, fun i => hK i ▸ pi_list (p1 i), fun g S σ H env R o q => ?_⟩
  refine q1 g S σ H env _ o (q.bind fun x e1 S1 H1 v hx s1 o1 r1 q1 => ?_)
  obtain ⟨ds, e, q2⟩ := q1.lift
  cases x with
  | lst xs =>
    cases e
    cases r1 with
    | lst h1 k1 => exact ⟨_, rfl, ⟨_, Same.seq o1.st h1⟩, q2 S1 H1 _ (Same.refl _) o1 (walks_list (fun S' H s1 s2 _ => Same.seq (s1.trans s2) h1) k1)⟩
  | _ => cases e
theorem si_tup {tg : Expr} {m : M D} (h : SE K X W e m) (hK : ∀ i, (X i).K = K := by intro _; rfl) : SI K X W tg e (bnd m fun d => lft (tupD d)) := by
  obtain ⟨t, p1, q1⟩ := h
  refine ⟨_, fun i => hK i ▸ pi_tup (p1 i), fun g S σ H env R o q => ?_⟩
  refine q1 g S σ H env _ o (q.bind fun x e1 S1 H1 v hx s1 o1 r1 q1 => ?_)
  obtain ⟨ds, e, q2⟩ := q1.lift
  cases x with
  | tup xs =>
    cases e
    cases r1 with
    | tup h1 k1 => exact ⟨_, rfl, ⟨_, same_t o1.st h1⟩, q2 S1 H1 _ (Same.refl _) o1 (walks_tup (fun S' H s1 s2 _ => same_t (s1.trans s2) h1) k1)⟩
  | _ => cases e
/-- a borrowed list (it stays while the def runs) -/
def mBor (i : Nat) : M (List D) := fun env => match env[i]? with
  | some (.sh d) => lft (lstD d) env
  | some (.bo d) => lft (lstD d) env
  | _ => .no
theorem si_bor (i : Nat) {tg : Expr} {x : Str} (hN : ∀ k, (X k).N[i]? = some x := by intro _; rfl) (hv : ∀ k, Vis (X k).env.scope x := by first | exact fun _ => Or.inl rfl | exact fun _ => Or.inr (Or.inl rfl) | exact fun _ => Or.inr (Or.inr rfl)) (hd : (x == ("__debug__" : Str)) = false := by decide)
    (hcd : (x == ("__classdict__" : Str)) = false := by decide) (hK : ∀ i, (X i).K = K := by intro _; rfl) : SI K X W tg (.Name x pos) (mBor i) := by
  refine ⟨_, fun k => hK k ▸ pi_list (pe_var (hN k) (hv k) hd hcd), fun g S σ H env R o q => ?_⟩
  unfold mBor at q
  split at q
  · rename_i d hs
    obtain ⟨v, h1, h2⟩ := o.slot i _ hs
    obtain ⟨ds, e, q2⟩ := q.lift
    cases d with
    | lst xs =>
      cases e
      cases h2 with
      | lst h3 k1 => exact ⟨_, h1, _, rfl, ⟨_, Same.seq o.st h3⟩, q2 S H _ (Same.refl _) o (walks_list (fun S' H s1 s2 _ => Same.seq (s1.trans s2) h3) k1)⟩
    | _ => cases e
  · rename_i d hs
    obtain ⟨v, h1, h2⟩ := o.slot i _ hs
    obtain ⟨ds, e, q2⟩ := q.lift
    cases d with
    | lst xs =>
      cases e
      rcases h2 with h2 | ⟨a, rfl, h2⟩
      · cases h2 with
        | lst h3 k1 => exact ⟨_, h1, _, rfl, ⟨_, Same.seq o.st h3⟩, q2 S H _ (Same.refl _) o (walks_list (fun S' H s1 s2 _ => Same.seq (s1.trans s2) h3) k1)⟩
      · obtain ⟨vs, h3, k1⟩ := h2
        have h4 : SqL K g.F a vs := .inl (.inl (o.bf _ _ h3))
        exact ⟨_, h1, _, rfl, ⟨_, Same.seq o.fr h4⟩, q2 S H _ (Same.refl _) o (walks_list (fun S' H s1 s2 s3 => Same.seq s3 h4) k1)⟩
    | _ => cases e
  · exact q.elim
@[irreducible] def okR (i : Int) : Prop := -(2 ^ 62) ≤ i ∧ i < 2 ^ 62
theorem okR_at {i : Int} (h : okR i) : -(2 ^ 62) ≤ i ∧ i < 2 ^ 62 := by unfold okR at h; exact h
theorem okR_of {i : Int} (h : -(2 ^ 62) ≤ i ∧ i < 2 ^ 62) : okR i := by unfold okR; exact h
noncomputable instance {i : Int} : Decidable (okR i) := Classical.propDecidable _
def rngD (i j : Int) : List D := (List.range (j - i).toNat).map fun (k : Nat) => D.int (i + (k : Int))
noncomputable def rng1 : List D → Option (List D)
  | [.int j] => if okR j then some (rngD 0 j) else none
  | _ => none
noncomputable def rng2 : List D → Option (List D)
  | [.int i, .int j] => if okR i ∧ okR j then some (rngD i j) else none
  | _ => none
theorem walks_range {F S : Hp} {i j : Int} {n : Nat} (hn : n = (j - i).toNat) : Walks K F (Itr i n) S (rngD i j) := by
  subst hn
  refine walks_same (fun k S' H s1 s2 s3 hl => ?_) fun k S' H d s1 s2 s3 e => ?_
  · show (j - i).toNat ≤ k
    simpa [rngD] using hl
  · unfold rngD at e
    rw [List.getElem?_map] at e
    cases z : (List.range (j - i).toNat)[k]? with
    | none => rw [z] at e; cases e
    | some m =>
      rw [z] at e
      obtain ⟨h1, h2⟩ := List.getElem?_eq_some_iff.mp z
      rw [List.length_range] at h1
      rw [List.getElem_range] at h2
      subst h2
      cases e
      refine ⟨h1, fun x H' y => ?_⟩
      obtain ⟨rfl, rfl⟩ := y
      exact ⟨rfl, .int _⟩
theorem si_range1 {tg : Expr} {ms : M (List D)} (h : SA K X W [a] ms) (hm : ∀ i, (X i).mg "range" = none) (hg : ∀ i, Gl (X i) "range" := by intro _; rfl) (hs : ∀ i, starEach [a] (X i).env = [(false, eval a (X i).env)] := by intro _; rfl) :
    SI K X W tg (.Call (.Name "range" p) [a] [] pos) (bnd ms fun ds => lft (rng1 ds)) := by
  obtain ⟨t, p1, q1⟩ := h
  refine ⟨_, fun i => pi_range1 (hg i) (hm i) (p1 i) (hs i), fun g S σ H env R o q => ?_⟩
  refine q1 g S σ H env _ o (q.bind fun x e1 S1 H1 v hx s1 o1 r1 q1 => ?_)
  obtain ⟨ds, e, q2⟩ := q1.lift
  unfold rng1 at e
  split at e
  · rename_i j
    split at e
    · rename_i hj
      cases e
      obtain ⟨u, rfl, ru⟩ := reps1 r1
      have := rep_int ru
      subst this
      exact ⟨j, rfl, (okR_at hj).1, (okR_at hj).2, q2 S1 H1 _ (Same.refl _) o1 (walks_range (by rw [Int.sub_zero]))⟩
    · cases e
  · cases e
theorem si_range2 {tg : Expr} {ms : M (List D)} (h : SA K X W [a, b] ms) (hm : ∀ i, (X i).mg "range" = none) (hg : ∀ i, Gl (X i) "range" := by intro _; rfl) (hs : ∀ i, starEach [a, b] (X i).env = [(false, eval a (X i).env), (false, eval b (X i).env)] := by intro _; rfl) (hs2 : ∀ i, starEach [b] (X i).env = [(false, eval b (X i).env)] := by intro _; rfl) :
    SI K X W tg (.Call (.Name "range" p) [a, b] [] pos) (bnd ms fun ds => lft (rng2 ds)) := by
  obtain ⟨t, p1, q1⟩ := h
  refine ⟨_, fun i => pi_range2 (hg i) (hm i) (p1 i) (hs i) (hs2 i), fun g S σ H env R o q => ?_⟩
  refine q1 g S σ H env _ o (q.bind fun x e1 S1 H1 v hx s1 o1 r1 q1 => ?_)
  obtain ⟨ds, e, q2⟩ := q1.lift
  unfold rng2 at e
  split at e
  · rename_i i j
    split at e
    · rename_i hj
      cases e
      obtain ⟨u, w, rfl, ru, rw'⟩ := reps2 r1
      have := rep_int ru
      have := rep_int rw'
      subst_vars
      exact ⟨i, j, rfl, ⟨(okR_at hj.1).1, (okR_at hj.1).2, (okR_at hj.2).1, (okR_at hj.2).2⟩, q2 S1 H1 _ (Same.refl _) o1 (walks_range rfl)⟩
    · cases e
  · cases e

/-! ### statements -/
inductive Out where
  | nx | bk | ct | rt (d : D) | ro (d : D)
def PostS (K : PySem.W.Frag) (g : G) (S : Hp) (W : WX) (Dn : Ends) : R Out → Prop
  | .ok .nx env' => ∀ S' σ' H', Same S S' → Ok K g S' σ' H' env' → Dn.nx σ' H'
  | .ok .bk env' => ∀ S' σ' H', Same S S' → Ok K g S' σ' H' env' → Dn.bk σ' H'
  | .ok .ct env' => ∀ S' σ' H', Same S S' → Ok K g S' σ' H' env' → Dn.ct σ' H'
  | .ok (.rt d) env' => ∀ S' σ' H' v, Same S S' → Ok K g S' σ' H' env' → RepD K S' v d → Dn.rt v H'
  | .ok (.ro d) env' => ∀ S' σ' H' a, Same S S' → Ok K g S' σ' H' env' → Own K g S' σ' H' env' a d → Dn.rt (.ref a) H'
  | .rs x env' => ∀ S' σ' H' d, Same S S' → Ok K g S' σ' H' env' → XRep K S' x d → W x.cls d σ' H'
  | .no => False
theorem PostS.at {g : G} {S S1 : Hp} {Dn : Ends} {r : R Out} (h : PostS K g S W Dn r) (e : Same S S1) : PostS K g S1 W Dn r := by
  cases r with
  | ok a e' =>
    cases a with
    | nx => exact fun S' σ' H' s o => h S' σ' H' (e.trans s) o
    | bk => exact fun S' σ' H' s o => h S' σ' H' (e.trans s) o
    | ct => exact fun S' σ' H' s o => h S' σ' H' (e.trans s) o
    | rt d => exact fun S' σ' H' v s o r => h S' σ' H' v (e.trans s) o r
    | ro d => exact fun S' σ' H' v s o r => h S' σ' H' v (e.trans s) o r
  | rs x e' => exact fun S' σ' H' d s o r => h S' σ' H' d (e.trans s) o r
  | no => exact h
/-- the ends of r are those of the first; what is wanted at each may be other -/
theorem PostS.imp {g : G} {S : Hp} {Dn Dm : Ends} {r : R Out} (h : PostS K g S W Dn r) (h1 : ∀ env', r = .ok .nx env' → PostS K g S W Dm r) (h2 : ∀ env', r = .ok .bk env' → PostS K g S W Dm r) (h3 : ∀ env', r = .ok .ct env' → PostS K g S W Dm r) (h4 : Dm.rt = Dn.rt) : PostS K g S W Dm r := by
  cases r with
  | ok a e' =>
    cases a with
    | nx => exact h1 e' rfl
    | bk => exact h2 e' rfl
    | ct => exact h3 e' rfl
    | rt d => intro S' σ' H' v s o r; rw [h4]; exact h S' σ' H' v s o r
    | ro d => intro S' σ' H' v s o r; rw [h4]; exact h S' σ' H' v s o r
  | rs x e' => exact h
  | no => exact h
theorem PostS.bind {α β : Type} {g : G} {S : Hp} {σ : L2.St} {rel1 : Hp → Hp → En → β → α → Prop} {Q1 : β → Hp → Prop} {Dn : Ends} {m : M α} {f : α → M Out} {env : En} (h : PostS K g S W Dn (bnd m f env))
    (k : ∀ a e1 S1 H1 v, m env = .ok a e1 → Same S S1 → Ok K g S1 σ H1 e1 → rel1 S1 H1 e1 v a → PostS K g S1 W Dn (f a e1) → Q1 v H1) : Post K g S σ W rel1 Q1 (m env) := by
  unfold bnd at h
  cases q : m env with
  | ok a e1 =>
    rw [q] at h
    exact fun S' H' v s o r => k a e1 S' H' v q s o r (h.at s)
  | rs x e1 =>
    rw [q] at h
    exact fun S' H' d s o r => h S' σ H' d s o r
  | no =>
    rw [q] at h
    exact h
def SS (K : PySem.W.Frag) (X : ι → Cx) (W : WX) (st : Stmt) (m : M Out) : Prop := ∃ t, (∀ i, PS (X i) st t) ∧ ∀ g S σ H env Dn, Ok K g S σ H env → PostS K g S W Dn (m env) → t Dn σ H
def SSs (K : PySem.W.Frag) (X : ι → Cx) (W : WX) (st : List Stmt) (m : M Out) : Prop := ∃ t, (∀ i, PSs (X i) st t) ∧ ∀ g S σ H env Dn, Ok K g S σ H env → PostS K g S W Dn (m env) → t Dn σ H
variable {st : Stmt} {sts : List Stmt}
def mSeq (m1 m2 : M Out) : M Out := fun env => match m1 env with
  | .ok .nx e => m2 e
  | r => r
theorem ss_nil : SSs K X W [] (ret .nx) := ⟨_, fun _ => pss_nil, fun g S σ H env Dn o q => q S σ H (Same.refl _) o⟩
theorem ss_one {m : M Out} (h : SS K X W st m) : SSs K X W [st] m := by
  obtain ⟨t, p1, q1⟩ := h
  exact ⟨t, fun i => pss_one (p1 i), q1⟩
theorem ss_cons {m1 m2 : M Out} (h1 : SS K X W st m1) (h2 : SSs K X W sts m2) : SSs K X W (st :: sts) (mSeq m1 m2) := by
  obtain ⟨t1, p1, q1⟩ := h1
  obtain ⟨t2, p2, q2⟩ := h2
  refine ⟨_, fun i => pss_cons (p1 i) (p2 i), fun g S σ H env Dn o q => ?_⟩
  refine q1 g S σ H env _ o ?_
  unfold mSeq at q
  cases z : m1 env with
  | ok a e1 =>
    rw [z] at q
    cases a with
    | nx => exact fun S' σ' H' s o' => q2 g S' σ' H' e1 Dn o' (q.at s)
    | bk => exact q
    | ct => exact q
    | rt d => exact q
    | ro d => exact q
  | rs x e1 => rw [z] at q; exact q
  | no => rw [z] at q; exact q
/-- a slot is given up ahead of a statement -/
def mFrz (i : Nat) (m : M Out) : M Out := fun env => match freeze env i with
  | some e => m e
  | none => .no
theorem ss_frz (i : Nat) {m : M Out} (h : SS K X W st m) : SS K X W st (mFrz i m) := by
  obtain ⟨t, p1, q1⟩ := h
  refine ⟨t, p1, fun g S σ H env Dn o q => ?_⟩
  unfold mFrz at q
  cases z : freeze env i with
  | none => rw [z] at q; exact q.elim
  | some e1 =>
    rw [z] at q
    obtain ⟨S', s, o'⟩ := o.freeze z
    exact q1 g S' σ H e1 Dn o' (q.at s)
theorem ss_pass : SS K X W (.Pass pos) (ret .nx) := ⟨_, fun _ => ps_pass, fun g S σ H env Dn o q => q S σ H (Same.refl _) o⟩
theorem ss_brk : SS K X W (.Break pos) (ret .bk) := ⟨_, fun _ => ps_break, fun g S σ H env Dn o q => q S σ H (Same.refl _) o⟩
theorem ss_cont : SS K X W (.Continue pos) (ret .ct) := ⟨_, fun _ => ps_continue, fun g S σ H env Dn o q => q S σ H (Same.refl _) o⟩
def toOut (o : Option En) : R Out := match o with
  | some e => .ok .nx e
  | none => .no
/-- name = a lasting value, = a new object -/
theorem ss_set {i : Nat} {x : Str} {m : M D} {pos' : Pos} (hN : ∀ k, (X k).N.Nodup) (he : SE K X W e m) (hi : ∀ k, (X k).N[i]? = some x := by intro _; rfl) (hx : ∀ k, Loc (X k).env.scope x := by first | exact fun _ => .inl rfl | exact fun _ => .inr rfl)
    (hs : ∀ k, swapsWith e (some (.Name x pos')) pos.line (X k).env = pure false := by intro _; rfl) (hf : ∀ k, (X k).fn x = true ∨ (X k).env.scope.names.lookup x = some .local := by first | exact fun _ => .inl rfl | exact fun _ => .inr rfl) :
    SS K X W (.Assign [.Name x pos'] e pos) (bnd m fun d env => toOut (setSh env i d)) := by
  obtain ⟨t, p1, q1⟩ := he
  refine ⟨_, fun k => ps_set (hN k) (hi k) (hx k) (p1 k) (hs k) (hf k), fun g S σ H env Dn o q => ?_⟩
  refine q1 g S σ H env _ o (q.bind fun x e1 S1 H1 v hx s1 o1 r1 q1 => ?_)
  cases z : setSh e1 i x with
  | none => rw [z] at q1; exact q1.elim
  | some e2 => rw [z] at q1; exact q1 S1 _ H1 (Same.refl _) (o1.setSh z r1)
theorem ss_setO {i : Nat} {x : Str} {m : M D} {pos' : Pos} (hN : ∀ k, (X k).N.Nodup) (he : SO K X W e m) (hi : ∀ k, (X k).N[i]? = some x := by intro _; rfl) (hx : ∀ k, Loc (X k).env.scope x := by first | exact fun _ => .inl rfl | exact fun _ => .inr rfl)
    (hs : ∀ k, swapsWith e (some (.Name x pos')) pos.line (X k).env = pure false := by intro _; rfl) (hf : ∀ k, (X k).fn x = true ∨ (X k).env.scope.names.lookup x = some .local := by first | exact fun _ => .inl rfl | exact fun _ => .inr rfl) :
    SS K X W (.Assign [.Name x pos'] e pos) (bnd m fun d env => toOut (setOw env i d)) := by
  obtain ⟨t, p1, q1⟩ := he
  refine ⟨_, fun k => ps_set (hN k) (hi k) (hx k) (p1 k) (hs k) (hf k), fun g S σ H env Dn o q => ?_⟩
  refine q1 g S σ H env _ o (q.bind fun x e1 S1 H1 v hx s1 o1 r1 q1 => ?_)
  obtain ⟨a, rfl, w⟩ := r1
  cases z : setOw e1 i x with
  | none => rw [z] at q1; exact q1.elim
  | some e2 => rw [z] at q1; exact q1 S1 _ H1 (Same.refl _) (o1.setOw z w)
/-- targets = a lasting value -/
theorem ss_asg {tg : Expr} {m : M D} {is : List Nat} {b : Bd} (he : SE K X W e m) (hg : SG K X tg is b) (hs : ∀ k, swapsWithSole [tg] e pos.line (X k).env = pure false := by intro _; rfl) (hw : ∀ k, swappedStores [tg] e (X k).env = pure none := by intro _; rfl)
    (h1 : ∀ k, (assignEach [tg] (X k).env).map (·.2) = [assign tg (X k).env] := by intro _; rfl) : SS K X W (.Assign [tg] e pos) (bnd m fun d env => toOut (b d env)) := by
  obtain ⟨t, p1, q1⟩ := he
  obtain ⟨u, p2, q2⟩ := hg
  refine ⟨_, fun k => ps_asg (p1 k) (p2 k) (hs k) (hw k) (h1 k), fun g S σ H env Dn o q => ?_⟩
  refine q1 g S σ H env _ o (q.bind fun x e1 S1 H1 v hx s1 o1 r1 q1 => ?_)
  cases z : b x e1 with
  | none => rw [z] at q1; exact q1.elim
  | some e2 =>
    rw [z] at q1
    exact q2 g S1 σ H1 e1 e2 v x _ o1 r1 z fun σ' o' _ _ => q1 S1 σ' H1 (Same.refl _) o'
/-- a, b, .. = a slot's list, whoever's it is -/
def bRd (b : Bd) (s : Sq) (env : En) : Option En := match s with
  | .l ds => b (.lst ds) env
  | .t ds => b (.tup ds) env
theorem ss_unl {m : M Rf} {is : List Nat} {bs : List D → En → Option En} {k n : Nat} {tpos : Pos} (he : SB K X W e m) (h : SGs K X es is bs) (hc : ∀ i, (X i).calm = true := by intro _; rfl) (hn : ∀ i, (assignEach es (X i).env).length = n := by intro _; rfl) (hst : ∀ i, (assignEach es (X i).env).findIdx? (·.1) = none := by intro _; rfl)
    (hs : ∀ i, swapsWithSole [.Tuple es k tpos] e pos.line (X i).env = pure false := by intro _; rfl) (hw : ∀ i, swappedStores [.Tuple es k tpos] e (X i).env = pure none := by intro _; rfl)
    (h1 : ∀ i, (assignEach [.Tuple es k tpos] (X i).env).map (·.2) = [assign (.Tuple es k tpos) (X i).env] := by intro _; rfl) (hK : ∀ i, (X i).K = K := by intro _; rfl) : SS K X W (.Assign [.Tuple es k tpos] e pos) (bnd m fun r => bnd (rd r) fun s env => toOut (bRd (bLst n bs) s env)) := by
  obtain ⟨t, p1, q1⟩ := he
  obtain ⟨u, p2, q2⟩ := h
  refine ⟨_, fun i => ps_asg (p1 i) (hK i ▸ pg_lst (hc i) (p2 i) (hn i) (hst i)) (hs i) (hw i) (h1 i), fun g S σ H env Dn o q => ?_⟩
  refine q1 g S σ H env _ o (q.bind fun x e1 S1 H1 v hx s1 o1 r1 q1 => ?_)
  have q1' : PostS K g S1 W Dn (bnd (rd x) (fun s env => toOut (bRd (bLst n bs) s env)) e1) := q1
  unfold bnd at q1'
  cases z : rd x e1 with
  | rs y e2 =>
    cases x with
    | d s => simp only [rd, ret] at z; cases z
    | sl i =>
      simp only [rd] at z
      cases y : readAt e1 i <;> rw [y] at z <;> cases z
  | no => rw [z] at q1'; exact q1'.elim
  | ok s e2 =>
    rw [z] at q1'
    obtain ⟨rr, rfl⟩ := rd_later r1 (Same.refl _) o1 z
    cases s with
    | t ds => exact q1'.elim
    | l ds =>
      obtain ⟨p1, vs, rfl, h1, k1⟩ := rr
      cases y : bLst n bs (.lst ds) e2 with
      | none => simp only [bRd, y] at q1'; exact q1'.elim
      | some e3 =>
        simp only [bRd, y] at q1'
        simp only [bLst] at y
        split at y
        · rename_i hl
          exact ⟨p1, vs, rfl, h1, by rw [k1.length]; exact hl, q2 g S1 σ H1 e2 e3 vs ds _ o1 k1 y fun σ' o' _ _ => q1' S1 σ' H1 (Same.refl _) o'⟩
        · cases y
/-- return -/
theorem ss_ret {m : M D} (he : SE K X W e m) : SS K X W (.Return (some e) pos) (bnd m fun d => ret (.rt d)) := by
  obtain ⟨t, p1, q1⟩ := he
  refine ⟨_, fun k => ps_ret (p1 k), fun g S σ H env Dn o q => ?_⟩
  exact q1 g S σ H env _ o (q.bind fun x e1 S1 H1 v hx s1 o1 r1 q1 => q1 S1 σ H1 v (Same.refl _) o1 r1)
theorem ss_retO {m : M D} (he : SO K X W e m) : SS K X W (.Return (some e) pos) (bnd m fun d => ret (.ro d)) := by
  obtain ⟨t, p1, q1⟩ := he
  refine ⟨_, fun k => ps_ret (p1 k), fun g S σ H env Dn o q => ?_⟩
  refine q1 g S σ H env _ o (q.bind fun x e1 S1 H1 v hx s1 o1 r1 q1 => ?_)
  obtain ⟨a, rfl, w⟩ := r1
  exact q1 S1 σ H1 a (Same.refl _) o1 w
theorem ss_retN : SS K X W (.Return none pos) (ret (.rt .non)) := ⟨_, fun _ => ps_retN, fun g S σ H env Dn o q => q S σ H _ (Same.refl _) o .non⟩
/-- return of an own slot's object, which is the def's own no more -/
def mRetV (i : Nat) : M Out := fun env => match env[i]? with
  | some (.ow d) => .ok (.ro d) (env.set i .no)
  | _ => .no
theorem Ok.drop {g : G} {S : Hp} {σ : L2.St} {H : Hp} {env : En} (o : Ok K g S σ H env) {i : Nat} {d : D} (q : env[i]? = some (.ow d)) : Ok K g S σ H (env.set i .no) ∧ ∃ a, σ[i]? = some (some (.ref a)) ∧ Own K g S σ H (env.set i .no) a d := by
  obtain ⟨a, h1, h2, h3, h4, h5⟩ := o.slot i _ q
  have hi : i < env.length := (List.getElem?_eq_some_iff.mp q).1
  refine ⟨⟨o.fr, o.bf, o.st, o.s0, o.new, o.iot, fun j c hj => ?_, o.inj, o.one, by simp [o.len], fun j s hs => ?_, fun j k c x y e1 e2 e3 e4 => ?_⟩, a, h1, h2, h3, h4, h5, fun j d' e z => ?_⟩
  · obtain ⟨x, k⟩ := o.ioe j c hj
    refine ⟨x, ?_⟩
    rw [List.getElem?_set_ne (fun z => by subst z; rw [q] at k; cases k)]
    exact k
  · by_cases hj : i = j
    · subst hj
      rw [List.getElem?_set_self hi] at hs
      cases hs
      trivial
    · rw [List.getElem?_set_ne hj] at hs
      exact o.slot j s hs
  · have back : ∀ (m : Nat) (z : D), (env.set i Sl.no)[m]? = some (.ow z) → env[m]? = some (.ow z) := fun m z hm => by
      by_cases hmi : i = m
      · subst hmi; rw [List.getElem?_set_self hi] at hm; cases hm
      · rw [List.getElem?_set_ne hmi] at hm; exact hm
    exact o.sep j k c x y (back j x e1) (back k y e2) e3 e4
  · have hij : i ≠ j := fun y => by subst y; rw [List.getElem?_set_self hi] at e; cases e
    rw [List.getElem?_set_ne hij] at e
    exact hij (o.sep i j a d d' q e h1 z)
theorem ss_retV (i : Nat) {x : Str} {pos' : Pos} (hN : ∀ k, (X k).N[i]? = some x := by intro _; rfl) (hv : ∀ k, Vis (X k).env.scope x := by first | exact fun _ => Or.inl rfl | exact fun _ => Or.inr (Or.inl rfl) | exact fun _ => Or.inr (Or.inr rfl)) (hd : (x == ("__debug__" : Str)) = false := by decide)
    (hcd : (x == ("__classdict__" : Str)) = false := by decide) : SS K X W (.Return (some (.Name x pos')) pos) (mRetV i) := by
  refine ⟨_, fun k => ps_ret (pe_var (hN k) (hv k) hd hcd), fun g S σ H env Dn o q => ?_⟩
  unfold mRetV at q
  split at q
  · rename_i d hs
    obtain ⟨o', a, h1, w⟩ := o.drop hs
    exact ⟨_, h1, q S σ H a (Same.refl _) o' w⟩
  · exact q.elim
/-- if -/
theorem ss_if {mt : M Bool} {m1 m2 : M Out} {s1 s2 : List Stmt} (hc : ST K X W c mt) (h1 : SSs K X W s1 m1) (h2 : SSs K X W s2 m2) : SS K X W (.If c s1 s2 pos) (mIf mt m1 m2) := by
  obtain ⟨t, p1, q1⟩ := hc
  obtain ⟨t1, p2, q2⟩ := h1
  obtain ⟨t2, p3, q3⟩ := h2
  refine ⟨_, fun k => ps_if (p1 k) (p2 k) (p3 k), fun g S σ H env Dn o q => ?_⟩
  refine q1 g S σ H env _ o (q.bind fun x e1 S1 H1 v hx s1 o1 r1 q1 => ?_)
  subst r1
  cases v with
  | true =>
    rw [if_pos rfl] at q1 ⊢
    exact q2 g S1 σ H1 e1 Dn o1 q1
  | false =>
    rw [if_neg Bool.false_ne_true] at q1 ⊢
    exact q3 g S1 σ H1 e1 Dn o1 q1
/-- an expression whose value is dropped -/
theorem ss_expr {m : M D} (he : SE K X W e m) (hs : ∀ k, swapsWith e none pos.line (X k).env = pure false := by intro _; rfl) : SS K X W (.Expr e pos) (bnd m fun _ => ret .nx) := by
  obtain ⟨t, p1, q1⟩ := he
  refine ⟨_, fun k => ps_expr (p1 k) (hs k), fun g S σ H env Dn o q => ?_⟩
  exact q1 g S σ H env _ o (q.bind fun x e1 S1 H1 v hx s1 o1 r1 q1 => q1 S1 σ H1 (Same.refl _) o1)
/-- for -/
def forL (b : Bd) (mb : M Out) : List D → M Out
  | [] => ret .nx
  | d :: ds => fun env => match b d env with
    | none => .no
    | some e1 => match mb e1 with
      | .ok .nx e2 => forL b mb ds e2
      | .ok .ct e2 => forL b mb ds e2
      | .ok .bk e2 => .ok .nx e2
      | .ok (.rt d) e2 => .ok (.rt d) e2
      | .ok (.ro d) e2 => .ok (.ro d) e2
      | .rs x e2 => .rs x e2
      | .no => .no
theorem ss_for {tg it : Expr} {mi : M (List D)} {is : List Nat} {b : Bd} {mb : M Out} {body : List Stmt} (hi : SI K X W tg it mi) (hg : SG K X tg is b) (hb : SSs K X W body mb) (hp : ∀ k, PassesOwn (model (X k).prog (X k).w) (X k).A (X k).env (X k).xe) (hc : ∀ i, (X i).calm = true := by intro _; rfl)
    (hs : ∀ k x, foldedSetIterable it (X k).env x = pure x := by intro _ _; rfl) : SS K X W (.For tg it body [] pos) (bnd mi (forL b mb)) := by
  obtain ⟨t, p1, q1⟩ := hi
  obtain ⟨t1, p2, q2⟩ := hg
  obtain ⟨t2, p3, q3⟩ := hb
  refine ⟨_, fun k => ps_for (hp k) (hc k) (p1 k) (p2 k) (p3 k) (hs k), fun g S σ H env Dn o q => ?_⟩
  refine q1 g S σ H env _ o (q.bind fun ds e1 S1 H1 J hx s1 o1 wk q1 => ?_)
  refine ⟨fun i m σ H => ∃ S' env', Same S1 S' ∧ Ok K g S' σ H env' ∧ m = ds.length - i ∧ i ≤ ds.length ∧ PostS K g S' W Dn (forL b mb (ds.drop i) env'), ⟨ds.length, S1, e1, Same.refl _, o1, by simp, Nat.zero_le _, by simpa using q1⟩, ?_⟩
  rintro i m σ' H' ⟨S', env', s', o', rfl, hi, q⟩
  by_cases hlt : i < ds.length
  · have ed : ds.drop i = ds[i] :: ds.drop (i + 1) := List.drop_eq_getElem_cons hlt
    rw [ed] at q
    obtain ⟨g1, g2⟩ := wk.go i S' H' ds[i] s' o'.st o'.fr (List.getElem?_eq_getElem hlt)
    refine .inr ⟨g1, fun σ2 H2 => ∃ S2 env2, Same S1 S2 ∧ Ok K g S2 σ2 H2 env2 ∧ PostS K g S2 W Dn (forL b mb (ds.drop (i + 1)) env2), fun σ2 H2 ⟨S2, env2, a1, a2, a3⟩ => ⟨ds.length - (i + 1), by omega, S2, env2, a1, a2, rfl, hlt, a3⟩, fun x H2 y => ?_⟩
    obtain ⟨S2, a1, a2, a3, a4, r2⟩ := g2 x H2 y
    have o2 := o'.grow a1 a2 a3 a4
    unfold forL at q
    cases z : b ds[i] env' with
    | none => rw [z] at q; exact q.elim
    | some e2 =>
      rw [z] at q
      dsimp only at q
      refine q2 g S2 σ' H2 env' e2 x ds[i] _ o2 r2 z fun σ3 o3 _ _ => ?_
      refine q3 g S2 σ3 H2 e2 _ o3 ?_
      have q := q.at a1
      cases y : mb e2 with
      | ok a e3 =>
        rw [y] at q
        cases a with
        | nx => exact fun S4 σ4 H4 s4 o4 => ⟨S4, e3, (s'.trans a1).trans s4, o4, q.at s4⟩
        | ct => exact fun S4 σ4 H4 s4 o4 => ⟨S4, e3, (s'.trans a1).trans s4, o4, q.at s4⟩
        | bk => exact q
        | rt d => exact q
        | ro d => exact q
      | rs x e3 => rw [y] at q; exact q
      | no => rw [y] at q; exact q
  · refine .inl ⟨wk.stop i S' H' s' o'.st o'.fr (by omega), ?_⟩
    rw [List.drop_eq_nil_of_le (by omega)] at q
    exact q S' σ' H' (Same.refl _) o'
/-- while -/
def whileN (mt : M Bool) (mb : M Out) : Nat → M Out
  | 0 => fun _ => .no
  | n + 1 => bnd mt fun b => if b = true then (fun env => match mb env with
      | .ok .nx e => whileN mt mb n e
      | .ok .ct e => whileN mt mb n e
      | .ok .bk e => .ok .nx e
      | .ok (.rt d) e => .ok (.rt d) e
      | .ok (.ro d) e => .ok (.ro d) e
      | .rs x e => .rs x e
      | .no => .no) else ret .nx
open Classical in
noncomputable def mWhile (mt : M Bool) (mb : M Out) : M Out := fun env => if h : ∃ n, whileN mt mb n env ≠ .no then whileN mt mb h.choose env else .no
theorem whileN_mono {mt : M Bool} {mb : M Out} : ∀ {n : Nat} {env : En} {r : R Out}, whileN mt mb n env = r → r ≠ .no → whileN mt mb (n + 1) env = r
  | 0, env, r, h, hn => absurd h.symm hn
  | n + 1, env, r, h, hn => by
    unfold whileN at h ⊢
    unfold bnd at h ⊢
    cases z : mt env with
    | ok b e1 =>
      rw [z] at h
      simp only at h ⊢
      cases b with
      | false =>
        rw [if_neg Bool.false_ne_true] at h ⊢
        exact h
      | true =>
        rw [if_pos rfl] at h ⊢
        cases y : mb e1 with
        | ok a e2 =>
          rw [y] at h
          cases a with
          | nx => exact whileN_mono h hn
          | ct => exact whileN_mono h hn
          | bk => exact h
          | rt d => exact h
          | ro d => exact h
        | rs x e2 => rw [y] at h; exact h
        | no => rw [y] at h; exact h
    | rs x e1 => rw [z] at h; exact h
    | no => rw [z] at h; exact h
theorem whileN_le {mt : M Bool} {mb : M Out} {n m : Nat} {env : En} {r : R Out} (h : whileN mt mb n env = r) (hn : r ≠ .no) (hm : n ≤ m) : whileN mt mb m env = r := by
  induction hm with
  | refl => exact h
  | step _ ih => exact whileN_mono ih hn
theorem mWhile_eq {mt : M Bool} {mb : M Out} {n : Nat} {env : En} {r : R Out} (h : whileN mt mb n env = r) (hn : r ≠ .no) : mWhile mt mb env = r := by
  unfold mWhile
  have ex : ∃ n, whileN mt mb n env ≠ .no := ⟨n, by rw [h]; exact hn⟩
  rw [dif_pos ex]
  have h2 := ex.choose_spec
  have a := whileN_le (m := max n ex.choose) h hn (Nat.le_max_left _ _)
  have b := whileN_le (m := max n ex.choose) rfl h2 (Nat.le_max_right _ _)
  exact b.symm.trans a
theorem ss_while {mt : M Bool} {mb : M Out} {body : List Stmt} (hc : ST K X W c mt) (hb : SSs K X W body mb) (hp : ∀ k, PassesOwn (model (X k).prog (X k).w) (X k).A (X k).env (X k).xe) : SS K X W (.While c body [] pos) (mWhile mt mb) := by
  obtain ⟨t, p1, q1⟩ := hc
  obtain ⟨t2, p3, q3⟩ := hb
  refine ⟨_, fun k => ps_while (hp k) (p1 k) (p3 k), fun g S σ H env Dn o q => ?_⟩
  unfold mWhile at q
  split at q
  · rename_i hex
    refine ⟨fun n σ H => ∃ S' env', Same S S' ∧ Ok K g S' σ H env' ∧ PostS K g S' W Dn (whileN mt mb n env'), ⟨_, S, env, Same.refl _, o, q⟩, ?_⟩
    rintro n σ' H' ⟨S', env', s', o', q⟩
    cases n with
    | zero => exact q.elim
    | succ n =>
      unfold whileN at q
      refine q1 g S' σ' H' env' _ o' (q.bind fun b e1 S1 H1 v hx s1 o1 r1 q1 => ?_)
      subst r1
      cases v with
      | false =>
        rw [if_neg Bool.false_ne_true] at q1 ⊢
        exact q1 S1 σ' H1 (Same.refl _) o1
      | true =>
        rw [if_pos rfl] at q1 ⊢
        refine ⟨fun σ2 H2 => ∃ S2 env2, Same S S2 ∧ Ok K g S2 σ2 H2 env2 ∧ PostS K g S2 W Dn (whileN mt mb n env2), fun σ2 H2 h2 => ⟨n, Nat.lt_succ_self n, h2⟩, ?_⟩
        refine q3 g S1 σ' H1 e1 _ o1 ?_
        cases y : mb e1 with
        | ok a e3 =>
          rw [y] at q1
          cases a with
          | nx => exact fun S4 σ4 H4 s4 o4 => ⟨S4, e3, (s'.trans s1).trans s4, o4, q1.at s4⟩
          | ct => exact fun S4 σ4 H4 s4 o4 => ⟨S4, e3, (s'.trans s1).trans s4, o4, q1.at s4⟩
          | bk => exact q1
          | rt d => exact q1
          | ro d => exact q1
        | rs x e3 => rw [y] at q1; exact q1
        | no => rw [y] at q1; exact q1
  · exact q.elim
/-! what changes an own slot's object -/
def lstO (env : En) (i : Nat) : Option (List D) := match ownAt env i with
  | some (.lst ds) => some ds
  | _ => none
theorem lstO_at {env : En} {i : Nat} {ds : List D} (h : lstO env i = some ds) : ownAt env i = some (.lst ds) := by
  unfold lstO at h
  split at h
  · cases h; assumption
  · cases h
/-- a method that changes a list -/
def LM (K : PySem.W.Frag) (X : ι → Cx) (id : String) (f : List D → List D → Option (List D × D)) : Prop := ∃ r, (∀ i, MtR (X i) id r) ∧ ∀ (S H : Hp) (a : Addr) (vs ws : List V) (ds as ds' : List D) (d : D) (Q : VK), Same S H → H a = some (.lst vs) → RepDs K S vs ds → RepDs K S ws as → f ds as = some (ds', d) →
  (∀ vs' v, RepDs K S vs' ds' → RepD K S v d → Q v (upd H a (.lst vs'))) → r (.ref a) ws H Q
def mLM (i : Nat) (f : List D → List D → Option (List D × D)) (ms : M (List D)) : M D := fun env => match lstO env i with
  | none => .no
  | some _ => bnd ms (fun as env => match lstO env i with
    | none => .no
    | some ds => match f ds as with
      | some r => .ok r.2 (putOwn env i (.lst r.1))
      | none => .no) env
theorem se_lm (i : Nat) {x name : Str} {id : String} {f : List D → List D → Option (List D × D)} {ms : M (List D)} {p1 p2 : Pos} (hm : LM K X id f) (slot : Slot "list" name id) (hty : typeOf (.builtin id) = pure (.type "method_descriptor")) (he : SA K X W (e :: es) ms) (hN : ∀ k, (X k).N[i]? = some x := by intro _; rfl) (hv : ∀ k, Vis (X k).env.scope x := by first | exact fun _ => Or.inl rfl | exact fun _ => Or.inr (Or.inl rfl) | exact fun _ => Or.inr (Or.inr rfl)) (hd : (x == ("__debug__" : Str)) = false := by decide)
    (hcd : (x == ("__classdict__" : Str)) = false := by decide) (hsa : ∀ k, starEach (e :: es) (X k).env = (false, eval e (X k).env) :: starEach es (X k).env := by intro _; rfl)
    (hb : ∀ k, attributeBase (.Name x p1) name (X k).env (eval (.Name x p1) (X k).env) = eval (.Name x p1) (X k).env := by intro _; rfl) (hpl : ∀ k, (backTo pos (starEach es (X k).env)).any (·.1) = false := by intro _; rfl)
    (hfew : ∀ k, ((backTo pos (starEach (e :: es) (X k).env)).all (fun x => !x.1) && (backToKw pos (keywordEach [] (X k).env)).all (fun x => x.1.isSome)
      && decide ((e :: es).length + ([] : List Keyword).length + (if ([] : List Keyword).isEmpty then 0 else 1) < 30)) = true := by intro _; rfl) (hline : (p2.endLine == pos.line) = true := by rfl) (hK : ∀ i, (X i).K = K := by intro _; rfl) :
    SE K X W (.Call (.Attribute (.Name x p1) name p2) (e :: es) [] pos) (mLM i f ms) := by
  obtain ⟨r, h1, h2⟩ := hm
  obtain ⟨t, p1, q1⟩ := he
  refine ⟨_, fun k => hK k ▸ pe_bm PySem.F.plainAttrs_list slot hty (h1 k) (pe_var (hN k) (hv k) hd hcd) (p1 k) (hb k) (hfew k) hline (hsa k) (hpl k), fun g S σ H env Q o q => ?_⟩
  unfold mLM at q
  cases z0 : lstO env i with
  | none => rw [z0] at q; exact q.elim
  | some d0 =>
    rw [z0] at q
    dsimp only at q
    obtain ⟨a, ea, _, _, vs0, hv0, _⟩ := o.ownAt (lstO_at z0)
    refine ⟨.ref a, ea, .inl ⟨rfl, vs0, SqL.of hv0⟩, ?_⟩
    refine q1 g S σ H env _ o (q.bind fun as e1 S1 H1 ws hx s1 o1 r1 q1 => ?_)
    cases z1 : lstO e1 i with
    | none => rw [z1] at q1; exact q1.elim
    | some ds =>
      rw [z1] at q1
      dsimp only at q1
      cases z2 : f ds as with
      | none => rw [z2] at q1; exact q1.elim
      | some rr =>
        rw [z2] at q1
        obtain ⟨ds', d⟩ := rr
        obtain ⟨a', ea', hs', hf', vs, hv, rv⟩ := o1.ownAt (lstO_at z1)
        rw [ea] at ea'
        cases ea'
        refine h2 S1 H1 a vs ws ds as ds' d _ o1.st hv rv r1 z2 fun vs' v rv' rd => ?_
        exact q1 S1 _ v (Same.refl _) (o1.write (lstO_at z1) ea ⟨vs', upd_same, rv'⟩) rd
theorem se_lm0 (i : Nat) {x name : Str} {id : String} {f : List D → List D → Option (List D × D)} {p1 p2 : Pos} (hm : LM K X id f) (slot : Slot "list" name id) (hty : typeOf (.builtin id) = pure (.type "method_descriptor")) (hN : ∀ k, (X k).N[i]? = some x := by intro _; rfl) (hv : ∀ k, Vis (X k).env.scope x := by first | exact fun _ => Or.inl rfl | exact fun _ => Or.inr (Or.inl rfl) | exact fun _ => Or.inr (Or.inr rfl)) (hd : (x == ("__debug__" : Str)) = false := by decide)
    (hcd : (x == ("__classdict__" : Str)) = false := by decide) (hb : ∀ k, attributeBase (.Name x p1) name (X k).env (eval (.Name x p1) (X k).env) = eval (.Name x p1) (X k).env := by intro _; rfl) (hline : (p2.endLine == pos.line) = true := by rfl) (hK : ∀ i, (X i).K = K := by intro _; rfl) :
    SE K X W (.Call (.Attribute (.Name x p1) name p2) [] [] pos) (mLM i f (ret [])) := by
  obtain ⟨r, h1, h2⟩ := hm
  refine ⟨_, fun k => hK k ▸ pe_bm0 PySem.F.plainAttrs_list slot hty (h1 k) (pe_var (hN k) (hv k) hd hcd) (hb k) hline, fun g S σ H env Q o q => ?_⟩
  unfold mLM at q
  cases z0 : lstO env i with
  | none => rw [z0] at q; exact q.elim
  | some ds =>
    rw [z0] at q
    dsimp only at q
    rw [bnd_ok ret_ok] at q
    rw [z0] at q
    dsimp only at q
    obtain ⟨a, ea, hs', hf', vs, hv, rv⟩ := o.ownAt (lstO_at z0)
    cases z2 : f ds [] with
    | none => rw [z2] at q; exact q.elim
    | some rr =>
      rw [z2] at q
      obtain ⟨ds', d⟩ := rr
      refine ⟨.ref a, ea, .inl ⟨rfl, vs, SqL.of hv⟩, ?_⟩
      refine h2 S H a vs [] ds [] ds' d _ o.st hv rv .nil z2 fun vs' v rv' rd => ?_
      exact q S _ v (Same.refl _) (o.write (lstO_at z0) ea ⟨vs', upd_same, rv'⟩) rd
def appF : List D → List D → Option (List D × D)
  | ds, [d] => if ds.length < 1000000 then some (ds ++ [d], .non) else none
  | _, _ => none
theorem lm_append : LM K X "list.append" appF := ⟨_, fun _ => mt_append, fun S H a vs ws ds as ds' d Q s hv rv rw_ e q => by
  unfold appF at e
  split at e
  · split at e
    · rename_i hl
      cases e
      obtain ⟨w, rfl, rw1⟩ := reps1 rw_
      exact ⟨a, vs, w, rfl, rfl, hv, by rw [rv.length]; exact Nat.lt_of_lt_of_le hl (by decide), q _ _ (rv.append (.cons rw1 .nil)) .non⟩
    · cases e
  · cases e⟩
def popF : List D → List D → Option (List D × D)
  | ds, [] => (ds[ds.length - 1]?).map fun d => (ds.dropLast, d)
  | _, _ => none
theorem lm_pop : LM K X "list.pop" popF := ⟨_, fun _ => mt_pop, fun S H a vs ws ds as ds' d Q s hv rv rw_ e q => by
  unfold popF at e
  split at e
  · cases z : ds[ds.length - 1]? with
    | none => rw [z] at e; cases e
    | some x =>
      rw [z] at e
      cases e
      cases rw_
      obtain ⟨y, hy, ry⟩ := rv.get z
      rw [← rv.length] at hy
      exact ⟨a, vs, y, rfl, rfl, hv, hy, q _ _ rv.dropLast ry⟩
  · cases e⟩
/-- xs[i] = e -/
def setF (ds : List D) (i d : D) : Option (List D) := match i with
  | .int k => (ixN ds.length k).map fun j => ds.set j d
  | _ => none
def mSetIx (i : Nat) (me mi : M D) : M Out := bnd me fun d env => match lstO env i with
  | none => .no
  | some _ => bnd mi (fun k env => match lstO env i with
    | none => .no
    | some ds => match setF ds k d with
      | some ds' => .ok .nx (putOwn env i (.lst ds'))
      | none => .no) env
theorem ss_setIx (i : Nat) {x : Str} {me mi : M D} {p1 p2 : Pos} (he : SE K X W e me) (hi : SE K X W a mi) (hN : ∀ k, (X k).N[i]? = some x := by intro _; rfl) (hv : ∀ k, Vis (X k).env.scope x := by first | exact fun _ => Or.inl rfl | exact fun _ => Or.inr (Or.inl rfl) | exact fun _ => Or.inr (Or.inr rfl)) (hd : (x == ("__debug__" : Str)) = false := by decide)
    (hcd : (x == ("__classdict__" : Str)) = false := by decide) (ha : ∀ k v, assign (.Subscript (.Name x p1) a p2) (X k).env v = (do
      let ov ← holding [v] (eval (.Name x p1) (X k).env)
      let iv ← holding [v, ov] (eval a (X k).env)
      standAt p2
      holding [v, ov, iv] (setItem ov iv v)
      release [v, ov, iv] []) := by intro _ _; rfl) (hs : ∀ k, swapsWithSole [.Subscript (.Name x p1) a p2] e pos.line (X k).env = pure false := by intro _; rfl) (hw : ∀ k, swappedStores [.Subscript (.Name x p1) a p2] e (X k).env = pure none := by intro _; rfl)
    (h1 : ∀ k, (assignEach [.Subscript (.Name x p1) a p2] (X k).env).map (·.2) = [assign (.Subscript (.Name x p1) a p2) (X k).env] := by intro _; rfl) : SS K X W (.Assign [.Subscript (.Name x p1) a p2] e pos) (mSetIx i me mi) := by
  obtain ⟨t, pe, qe⟩ := he
  obtain ⟨u, pi, qi⟩ := hi
  refine ⟨_, fun k => ps_asg (pe k) (pg_sub (pe_var (hN k) (hv k) hd hcd) (pi k) set_list (ha k)) (hs k) (hw k) (h1 k), fun g S σ H env Dn o q => ?_⟩
  refine qe g S σ H env _ o (q.bind fun d e1 S1 H1 v hx s1 o1 r1 q1 => ?_)
  cases z0 : lstO e1 i with
  | none => rw [z0] at q1; exact q1.elim
  | some d0 =>
    rw [z0] at q1
    dsimp only at q1
    obtain ⟨b, ea, _, _, vs0, hv0, _⟩ := o1.ownAt (lstO_at z0)
    refine ⟨.ref b, ea, ?_⟩
    refine qi g S1 σ H1 e1 _ o1 (q1.bind fun k e2 S2 H2 w hx s2 o2 r2 q2 => ?_)
    cases z1 : lstO e2 i with
    | none => rw [z1] at q2; exact q2.elim
    | some ds =>
      rw [z1] at q2
      dsimp only at q2
      cases z2 : setF ds k d with
      | none => rw [z2] at q2; exact q2.elim
      | some ds' =>
        rw [z2] at q2
        obtain ⟨b', ea', _, _, vs, hv, rv⟩ := o2.ownAt (lstO_at z1)
        rw [ea] at ea'
        cases ea'
        cases k with
        | int k =>
          have := rep_int r2
          subst this
          simp only [setF] at z2
          cases z3 : ixN ds.length k with
          | none => rw [z3] at z2; cases z2
          | some j =>
            rw [z3] at z2
            cases z2
            refine ⟨b, vs, k, j, rfl, rfl, hv, by rw [rv.length]; exact z3, ?_⟩
            exact q2 S2 σ _ (Same.refl _) (o2.write (lstO_at z1) ea ⟨_, upd_same, rv.set (r1.mono s2) j⟩)
        | _ => cases z2
/-- name += e -/
def mAug (i : Nat) (o : D → D → Option D) (m : M D) : M Out := fun env => match env[i]? with
  | some (.sh x) => bnd m (fun y => bnd (lft (o x y)) fun z env => toOut (setSh env i z)) env
  | _ => .no
def IPD (K : PySem.W.Frag) (X : ι → Cx) (op : Operator) (o : D → D → Option D) : Prop := ∃ r : TIp, (∀ i, PIp (X i) op r) ∧ ∀ g S σ H env x y d1 d2 d Q, Ok K g S σ H env → RepD K S x d1 → RepD K S y d2 → o d1 d2 = some d → (∀ S' H' v, Same S S' → Ok K g S' σ H' env → RepD K S' v d → Q v H') → r x y H Q
theorem ip_int {op : Operator} {f : Int → Int → Int} (h : ∀ i, PIp (X i) op (ipI f)) : IPD K X op (iOp fun i j => some (.int (f i j))) := by
  refine ⟨_, h, fun g S σ H env x y d1 d2 d Q ok r1 r2 e q => ?_⟩
  cases d1 with
  | int i =>
    cases d2 with
    | int j =>
      have e1 := rep_int r1
      have e2 := rep_int r2
      subst e1 e2
      cases e
      exact ⟨i, j, rfl, rfl, q S H _ (Same.refl S) ok (.int _)⟩
    | _ => simp [iOp] at e
  | _ => simp [iOp] at e
theorem ipd_add : IPD K X .Add (iOp addI) := ip_int fun _ => ip_add
theorem ipd_sub : IPD K X .Sub (iOp subI) := ip_int fun _ => ip_sub
theorem ss_aug {i : Nat} {x : Str} {m : M D} {op : Operator} {o : D → D → Option D} {pos' : Pos} (hN : ∀ k, (X k).N.Nodup) (he : SE K X W e m) (ho : IPD K X op o) (hi : ∀ k, (X k).N[i]? = some x := by intro _; rfl) (hx : ∀ k, Loc (X k).env.scope x := by first | exact fun _ => .inl rfl | exact fun _ => .inr rfl)
    (hf : ∀ k, (X k).fn x = true ∨ (X k).env.scope.names.lookup x = some .local := by first | exact fun _ => .inl rfl | exact fun _ => .inr rfl) : SS K X W (.AugAssign (.Name x pos') op e pos) (mAug i o m) := by
  obtain ⟨t, p1, q1⟩ := he
  obtain ⟨r, h1, h2⟩ := ho
  refine ⟨_, fun k => ps_aug (hN k) (hi k) (hx k) (p1 k) (h1 k) (hf k), fun g S σ H env Dn ok q => ?_⟩
  unfold mAug at q
  split at q
  · rename_i d hs
    obtain ⟨v, hv, rv⟩ := ok.slot i _ hs
    refine ⟨v, hv, ?_⟩
    refine q1 g S σ H env _ ok (q.bind fun y e1 S1 H1 w hx s1 o1 r1 q1 => ?_)
    cases z : o d y with
    | none => rw [z] at q1; exact q1.elim
    | some r =>
      rw [z, bnd_ok lft_some] at q1
      refine h2 g S1 σ H1 e1 v w d y r _ o1 (rv.mono s1) r1 z fun S2 H2 u s2 o2 r2 => ?_
      cases z1 : setSh e1 i r with
      | none => rw [z1] at q1; exact q1.elim
      | some e2 => rw [z1] at q1; exact q1 S2 _ H2 s2 (o2.setSh z1 r2)
  · exact q.elim
end
end Mir
namespace Mir
open PySem PySem.Spec PyProof.Rows L2
section
variable {K : PySem.W.Frag} {g : G} {S S' : Hp} {σ : L2.St} {H H' : Hp} {env : En}
/-- an object of nobody's slot is changed -/
theorem Ok.other (o : Ok K g S σ H env) {a : Addr} {d d' : D} {u : HO} (w : Own K g S σ H env a d) (hd : ObD K S (upd H a u) a d') : Ok K g S σ (upd H a u) env ∧ Own K g S σ (upd H a u) env a d' := by
  have mutt : ∀ {F : Hp}, Same F H → F a = none → Same F (upd H a u) := fun {F} s n c x hc => by
    rw [upd_ne (ne_of_none hc n)]
    exact s c x hc
  refine ⟨⟨mutt o.fr w.f, o.bf, mutt o.st w.s, o.s0, o.new, fun j c hj => ⟨(o.iot j c hj).1, ?_⟩, o.ioe, o.inj, o.one, o.len, fun j s hs => ?_, o.sep⟩, w.s, w.f, w.io, hd, w.sep⟩
  · by_cases hc : c = a
    · subst hc; rw [upd_same]; simp
    · rw [upd_ne hc]; exact (o.iot j c hj).2
  · have z := o.slot j s hs
    cases s with
    | no => trivial
    | sh d => exact z
    | ow d =>
      obtain ⟨c, k1, k2, k3, k4, k5⟩ := z
      have : c ≠ a := fun e => by subst e; exact w.sep j d hs k1
      exact ⟨c, k1, k2, k3, k4, k5.mono (Same.refl S) (upd_ne this)⟩
    | io d =>
      obtain ⟨c, k1, k2, k3, k5⟩ := z
      have : c ≠ a := fun e => by subst e; exact w.io j k3
      exact ⟨c, k1, k2, k3, k5.mono (Same.refl S) (upd_ne this)⟩
    | bo d => exact z
    | pn v => exact z
/-- the object is kept for a while -/
abbrev G.hold (g : G) (a : Addr) (x : HO) : G := { g with F := upd g.F a x }
theorem Ok.hold (o : Ok K g S σ H env) {a : Addr} {d : D} {x : HO} (w : Own K g S σ H env a d) (hx : H a = some x) : Ok K (g.hold a x) S σ H env := by
  have ff : Same g.F (upd g.F a x) := same_upd' w.f
  refine ⟨fun b y h => ?_, o.bf.trans ff, o.st, o.s0, fun b y h => ?_, fun j c hj => ⟨?_, (o.iot j c hj).2⟩, o.ioe, o.inj, o.one, o.len, fun j s hs => ?_, o.sep⟩
  · by_cases hb : b = a
    · subst hb
      have h : upd g.F b x b = some y := h
      rw [upd_same] at h
      cases h
      exact hx
    · have h : upd g.F a x b = some y := h
      rw [upd_ne hb] at h
      exact o.fr b y h
  · have hb : b ≠ a := fun z => by subst z; rw [w.s] at h; cases h
    rcases o.new b y h with q | ⟨q1, q2⟩
    · exact .inl q
    · exact .inr ⟨by show upd g.F a x b = none; rw [upd_ne hb]; exact q1, q2⟩
  · have hc : c ≠ a := fun z => by subst z; exact w.io j hj
    show upd g.F a x c = none
    rw [upd_ne hc]
    exact (o.iot j c hj).1
  · have z := o.slot j s hs
    cases s with
    | no => trivial
    | sh d => exact z
    | ow d =>
      obtain ⟨c, k1, k2, k3, k4, k5⟩ := z
      have hc : c ≠ a := fun e => by subst e; exact w.sep j d hs k1
      exact ⟨c, k1, k2, by show upd g.F a x c = none; rw [upd_ne hc]; exact k3, k4, k5⟩
    | io d => exact z
    | bo d => exact z
    | pn v => exact z
theorem Ok.unhold {a : Addr} {x : HO} (o : Ok K (g.hold a x) S σ H env) (hf : g.F a = none) (hs0 : g.S0 a = none) (hio : ∀ j, (j, a) ∉ g.io) (hbf : Same g.B g.F) : Ok K g S σ H env ∧ H a = some x ∧ S a = none ∧ ∀ (j : Nat) (d' : D), env[j]? = some (.ow d') → σ[j]? ≠ some (some (.ref a)) := by
  have ff : Same g.F (upd g.F a x) := same_upd' hf
  have nn : ∀ b, upd g.F a x b = none → g.F b = none := fun b h => by
    cases q : g.F b with
    | none => rfl
    | some y => rw [ff b y q] at h; cases h
  refine ⟨⟨ff.trans o.fr, hbf, o.st, o.s0, fun b y h => ?_, fun j c hj => ⟨nn c (o.iot j c hj).1, (o.iot j c hj).2⟩, o.ioe, o.inj, o.one, o.len, fun j s hs => ?_, o.sep⟩, o.fr a x upd_same, ?_, fun j d' e z => ?_⟩
  · rcases o.new b y h with q | ⟨q1, q2⟩
    · exact .inl q
    · exact .inr ⟨nn b q1, q2⟩
  · have z := o.slot j s hs
    cases s with
    | no => trivial
    | sh d => exact z
    | ow d =>
      obtain ⟨c, k1, k2, k3, k4, k5⟩ := z
      exact ⟨c, k1, k2, nn c k3, k4, k5⟩
    | io d => exact z
    | bo d => exact z
    | pn v => exact z
  · cases q : S a with
    | none => rfl
    | some y =>
      rcases o.new a y q with h | ⟨h, _⟩
      · rw [hs0] at h; cases h
      · have h : upd g.F a x a = none := h
        rw [upd_same] at h; cases h
  · obtain ⟨c, k1, k2, k3, k4, k5⟩ := o.slot j _ e
    rw [z] at k1
    cases k1
    have k3 : upd g.F a x a = none := k3
    rw [upd_same] at k3
    cases k3
/-! slots forgotten for a block, and had again behind it -/
def plain : Sl → Bool
  | .ow _ => false
  | .io _ => false
  | _ => true
def clearE (env : En) : List Nat → En
  | [] => env
  | v :: vs => (clearE env vs).set v .no
def plains (env : En) (vs : List Nat) : Bool := vs.all fun v => match env[v]? with
  | some s => plain s
  | none => false
def restE (e1 eN : En) : List Nat → En
  | [] => eN
  | v :: vs => (restE e1 eN vs).set v (e1.getD v .no)
theorem plains_at {vs : List Nat} {v : Nat} (h : plains env vs = true) (hv : v ∈ vs) : ∃ s, env[v]? = some s ∧ plain s = true := by
  unfold plains at h
  have := List.all_eq_true.mp h v hv
  split at this
  · exact ⟨_, by assumption, this⟩
  · cases this
theorem clear_len : ∀ vs : List Nat, (clearE env vs).length = env.length
  | [] => rfl
  | v :: vs => by unfold clearE; rw [List.length_set, clear_len vs]
theorem clear_out {j : Nat} : ∀ {vs : List Nat}, j ∉ vs → (clearE env vs)[j]? = env[j]?
  | [], _ => rfl
  | v :: vs, h => by
    unfold clearE
    rw [List.getElem?_set_ne (fun z => h (by simp [z]))]
    exact clear_out (fun z => h (List.mem_cons_of_mem _ z))
theorem clear_in {j : Nat} : ∀ {vs : List Nat} {s : Sl}, j ∈ vs → (clearE env vs)[j]? = some s → s = .no
  | v :: vs, s, h, e => by
    unfold clearE at e
    by_cases hj : v = j
    · subst hj
      by_cases hl : v < (clearE env vs).length
      · rw [List.getElem?_set_self hl] at e; cases e; rfl
      · rw [List.getElem?_eq_none (by simpa using hl)] at e; cases e
    · rw [List.getElem?_set_ne hj] at e
      exact clear_in ((List.mem_cons.mp h).resolve_left (fun z => hj z.symm)) e
theorem rest_len {e1 eN : En} : ∀ vs : List Nat, (restE e1 eN vs).length = eN.length
  | [] => rfl
  | v :: vs => by unfold restE; rw [List.length_set, rest_len vs]
theorem rest_out {e1 eN : En} {j : Nat} : ∀ {vs : List Nat}, j ∉ vs → (restE e1 eN vs)[j]? = eN[j]?
  | [], _ => rfl
  | v :: vs, h => by
    unfold restE
    rw [List.getElem?_set_ne (fun z => h (by simp [z]))]
    exact rest_out (fun z => h (List.mem_cons_of_mem _ z))
theorem rest_in {e1 eN : En} {j : Nat} : ∀ {vs : List Nat} {s : Sl}, j ∈ vs → (restE e1 eN vs)[j]? = some s → s = e1.getD j .no
  | v :: vs, s, h, e => by
    unfold restE at e
    by_cases hj : v = j
    · subst hj
      by_cases hl : v < (restE e1 eN vs).length
      · rw [List.getElem?_set_self hl] at e; cases e; rfl
      · rw [List.getElem?_eq_none (by simpa using hl)] at e; cases e
    · rw [List.getElem?_set_ne hj] at e
      exact rest_in ((List.mem_cons.mp h).resolve_left (fun z => hj z.symm)) e
theorem wipe_in {j : Nat} : ∀ {vs : List Nat}, j ∈ vs → (wipe σ vs)[j]? = if j < σ.length then some none else none
  | v :: vs, h => by
    unfold wipe
    by_cases hj : v = j
    · subst hj
      by_cases hl : v < σ.length
      · rw [if_pos hl, List.getElem?_set_self (by rw [wipe_length]; exact hl)]
      · rw [if_neg hl, List.getElem?_eq_none (by rw [List.length_set, wipe_length]; omega)]
    · rw [List.getElem?_set_ne hj]
      exact wipe_in ((List.mem_cons.mp h).resolve_left (fun z => hj z.symm))
theorem wipe_same {σ' : L2.St} {is vs : List Nat} (h : ∀ j : Nat, j ∉ is → σ'[j]? = σ[j]?) (hl : σ'.length = σ.length) (hs : ∀ j ∈ is, j ∈ vs) : wipe σ' vs = wipe σ vs := by
  apply List.ext_getElem?
  intro j
  by_cases hj : j ∈ vs
  · rw [wipe_in hj, wipe_in hj, hl]
  · rw [wipe_out hj, wipe_out hj, h j (fun z => hj (hs j z))]
theorem Ok.wipe (o : Ok K g S σ H env) {vs : List Nat} (h : plains env vs = true) : Ok K g S (L2.wipe σ vs) H (clearE env vs) := by
  refine ⟨o.fr, o.bf, o.st, o.s0, o.new, o.iot, fun j c hj => ?_, o.inj, o.one, by rw [wipe_length, clear_len, o.len], fun j s hs => ?_, fun i j a d d' h1 h2 h3 h4 => ?_⟩
  · obtain ⟨d, e⟩ := o.ioe j c hj
    refine ⟨d, ?_⟩
    rw [clear_out (fun z => ?_)]
    · exact e
    · obtain ⟨s, e2, p⟩ := plains_at h z
      rw [e] at e2
      cases e2
      cases p
  · by_cases hj : j ∈ vs
    · have := clear_in hj hs
      subst this
      trivial
    · rw [clear_out hj] at hs
      rw [wipe_out hj]
      exact o.slot j s hs
  · have n : ∀ (k : Nat) (z : D), (clearE env vs)[k]? = some (.ow z) → k ∉ vs := fun k z e hk => by
      have := clear_in hk e
      cases this
    have ni := n i d h1
    have nj := n j d' h2
    rw [clear_out ni] at h1
    rw [clear_out nj] at h2
    rw [wipe_out ni] at h3
    rw [wipe_out nj] at h4
    exact o.sep i j a d d' h1 h2 h3 h4
theorem Ok.rest {S1 H1 : Hp} {e1 eN : En} (o1 : Ok K g S1 σ H1 e1) (s : Same S1 S) {vs : List Nat} (o : Ok K g S (L2.wipe σ vs) H eN) (h : plains e1 vs = true) : Ok K g S σ H (restE e1 eN vs) := by
  have len : e1.length = eN.length := by rw [← o1.len, ← o.len, wipe_length]
  have own : ∀ (k : Nat) (z : D), (restE e1 eN vs)[k]? = some (.ow z) → k ∉ vs ∧ eN[k]? = some (.ow z) := fun k z e => by
    by_cases hk : k ∈ vs
    · have q := rest_in hk e
      obtain ⟨t, e2, p⟩ := plains_at h hk
      rw [List.getD_eq_getElem?_getD, e2] at q
      have q' : Sl.ow z = t := q
      subst q'
      cases p
    · rw [rest_out hk] at e
      exact ⟨hk, e⟩
  refine ⟨o.fr, o.bf, o.st, o.s0, o.new, o.iot, fun j c hj => ?_, o.inj, o.one, by rw [rest_len, ← len, o1.len], fun j t ht => ?_, fun i j a d d' h1 h2 h3 h4 => ?_⟩
  · obtain ⟨d, e⟩ := o1.ioe j c hj
    have hk : j ∉ vs := fun z => by
      obtain ⟨t, e2, p⟩ := plains_at h z
      rw [e] at e2
      cases e2
      cases p
    obtain ⟨d', e'⟩ := o.ioe j c hj
    exact ⟨d', by rw [rest_out hk]; exact e'⟩
  · by_cases hj : j ∈ vs
    · have q := rest_in hj ht
      obtain ⟨t', e2, p⟩ := plains_at h hj
      rw [List.getD_eq_getElem?_getD, e2] at q
      have q' : t = t' := q
      subst q'
      have z := o1.slot j t e2
      cases t with
      | no => trivial
      | sh d => obtain ⟨v, k1, k2⟩ := z; exact ⟨v, k1, k2.mono s⟩
      | ow d => cases p
      | io d => cases p
      | bo d => obtain ⟨v, k1, k2⟩ := z; exact ⟨v, k1, k2.mono s⟩
      | pn v => exact z
    · rw [rest_out hj] at ht
      have z := o.slot j t ht
      rw [wipe_out hj] at z
      exact z
  · obtain ⟨ni, k1⟩ := own i d h1
    obtain ⟨nj, k2⟩ := own j d' h2
    exact o.sep i j a d d' k1 k2 (by rw [wipe_out ni]; exact h3) (by rw [wipe_out nj]; exact h4)
end

/-! ### comprehensions -/
abbrev blkI (ι : Type) := ι × Shared × Hp × Addr × List (Str × Addr) × List Addr
abbrev blkF {ι : Type} (X : ι → Cx) (scope : Scope) : blkI ι → Cx := fun q => (X q.1).blk q.2.1 q.2.2.1 scope (compEnvC scope q.2.2.2.2.1 q.2.2.2.1 (X q.1).env) q.2.2.2.2.2
abbrev W0 : WX := fun _ _ _ _ => False
section
variable {ι : Type} {X : ι → Cx} {K : PySem.W.Frag} {W : WX} {e a b c : Expr} {es : List Expr} {pos p : Pos}
def STs (K : PySem.W.Frag) (X : ι → Cx) (W : WX) (es : List Expr) (m : M Bool) : Prop := ∃ t, (∀ i, PTs (X i) es t) ∧ ∀ g S σ H env Q, Ok K g S σ H env → Post K g S σ W relT Q (m env) → t σ H Q
theorem sts_nil : STs K X W [] (ret true) := ⟨_, fun _ => pts_nil, fun g S σ H env Q o q => q S H true (Same.refl _) o rfl⟩
theorem sts_one {m : M Bool} (h : ST K X W c m) : STs K X W [c] m := by
  obtain ⟨t, p1, q1⟩ := h
  exact ⟨t, fun i => pts_one (p1 i), q1⟩
def compL (b : Bd) (mt : M Bool) (me : M D) (vs : List Nat) : List D → List D → M (List D)
  | [], acc => ret acc
  | d :: ds, acc => fun env => match b d env with
    | none => .no
    | some e1 => match mt e1 with
      | .ok true e2 => match me e2 with
        | .ok y e3 => if plains e3 vs = true ∧ acc.length < 1000000 then compL b mt me vs ds (acc ++ [y]) (clearE e3 vs) else .no
        | _ => .no
      | .ok false e2 => if plains e2 vs = true then compL b mt me vs ds acc (clearE e2 vs) else .no
      | _ => .no
def mComp (mi : M (List D)) (b : Bd) (mt : M Bool) (me : M D) (vs : List Nat) : M D := bnd mi fun ds e1 => if plains e1 vs = true then match compL b mt me vs ds [] (clearE e1 vs) with
    | .ok acc eN => .ok (.lst acc) (restE e1 eN vs)
    | _ => .no
  else .no
theorem so_lc {elt tg it : Expr} {ifs : List Expr} {scope : Scope} {own : List (Str × Nat)} {mi : M (List D)} {is : List Nat} {b : Bd} {mt : M Bool} {me : M D} (hN : ∀ k, (X k).N.Nodup) (hi : SI K X W tg it mi) (hok : ∀ k, BlkOk (X k).N (X k).env.scope scope own)
    (hg : SG K (blkF X scope) tg is b) (ht : STs K (blkF X scope) W0 ifs mt) (he : SE K (blkF X scope) W0 elt me) (hsub : ∀ j ∈ is, j ∈ own.map (·.2)) (hc : ∀ i, (X i).calm = true := by intro _; rfl) (hs : ∀ k x, foldedSetIterable it (X k).env x = pure x := by intro _ _; rfl) :
    SO K X W (.ListComp elt [⟨tg, it, ifs, 0⟩] scope pos) (mComp mi b mt me (own.map (·.2))) := by
  obtain ⟨wi, pi, qi⟩ := hi
  obtain ⟨tg', pg, qg⟩ := hg
  obtain ⟨tt, pt, qt⟩ := ht
  obtain ⟨te, pe, qe⟩ := he
  refine ⟨_, fun k => pe_lc (hc k) (hN k) (pi k) (hok k) (fun s H C cl fp => pg (k, s, H, C, cl, fp)) (fun s H C cl fp => pt (k, s, H, C, cl, fp)) (fun s H C cl fp => pe (k, s, H, C, cl, fp)) (hs k), fun g S σ H env Q o q => ?_⟩
  generalize own.map (·.2) = vs at hsub q
  refine qi g S σ H env _ o (q.bind fun ds e1 S1 H1 J hx s1 o1 wk q1 => ?_)
  split at q1
  · rename_i hpl
    cases zf : compL b mt me vs ds [] (clearE e1 vs) with
    | rs x e2 => rw [zf] at q1; exact q1.elim
    | no => rw [zf] at q1; exact q1.elim
    | ok accF eN =>
      rw [zf] at q1
      intro A hA
      have oA := o1.freshO (u := .lst []) hA
      have wA : Own K g S1 (wipe σ vs) (upd H1 A (.lst [])) (clearE e1 vs) A (.lst []) := (o1.wipe hpl).own_new hA ⟨[], upd_same, .nil⟩
      refine ⟨fun i m H => m = ds.length - i ∧ i ≤ ds.length ∧ ∃ S' env' acc, Same S1 S' ∧ Ok K g S' (wipe σ vs) H env' ∧ Own K g S' (wipe σ vs) H env' A (.lst acc) ∧ compL b mt me vs (ds.drop i) acc env' = .ok accF eN,
        ⟨ds.length, by simp, Nat.zero_le _, S1, clearE e1 vs, [], Same.refl _, oA.wipe hpl, wA, by simpa using zf⟩, ?_⟩
      rintro i m H' ⟨rfl, hi, S', env', acc, s', o', w', z'⟩
      by_cases hlt : i < ds.length
      · have ed : ds.drop i = ds[i] :: ds.drop (i + 1) := List.drop_eq_getElem_cons hlt
        rw [ed] at z'
        obtain ⟨g1, g2⟩ := wk.go i S' H' ds[i] s' o'.st o'.fr (List.getElem?_eq_getElem hlt)
        refine .inr ⟨g1, fun H2 => ∃ S2 env2 acc2, Same S1 S2 ∧ Ok K g S2 (wipe σ vs) H2 env2 ∧ Own K g S2 (wipe σ vs) H2 env2 A (.lst acc2) ∧ compL b mt me vs (ds.drop (i + 1)) acc2 env2 = .ok accF eN,
          fun H2 h2 => ⟨ds.length - (i + 1), by omega, rfl, hlt, h2⟩, fun x H2 y => ?_⟩
        obtain ⟨S2, a1, a2, a3, a4, r2⟩ := g2 x H2 y
        have o2 := o'.grow a1 a2 a3 a4
        obtain ⟨accv, hAv, rAv⟩ := w'.ob
        have hA2 : H2 A = some (.lst accv) := a3 _ _ hAv
        have nA2 : S2 A = none := by
          cases z : S2 A with
          | none => rfl
          | some u => exact absurd (a4 A u z w'.s) (by rw [hAv]; simp)
        have w2 : Own K g S2 (wipe σ vs) H2 env' A (.lst acc) := ⟨nA2, w'.f, w'.io, ⟨accv, hA2, rAv.mono a1⟩, w'.sep⟩
        have nS0 : g.S0 A = none := by
          cases z : g.S0 A with
          | none => rfl
          | some u =>
            have z2 := o'.s0 A u z
            rw [w'.s] at z2
            cases z2
        unfold compL at z'
        cases zb : b ds[i] env' with
        | none => rw [zb] at z'; cases z'
        | some e2 =>
          rw [zb] at z'
          dsimp only at z'
          -- the target
          refine qg (g.hold A (.lst accv)) S2 (wipe σ vs) H2 env' e2 x ds[i] _ (o2.hold w2 hA2) r2 zb fun σ3 o3 k3 l3 => ?_
          have hw : wipe σ3 vs = wipe σ vs := by
            rw [wipe_same k3 l3 hsub]
            apply List.ext_getElem?
            intro j
            by_cases hj : j ∈ vs
            · rw [wipe_in hj, wipe_in hj, wipe_length]
            · rw [wipe_out hj]
          refine ⟨hw, ?_⟩
          -- the tests
          refine qt (g.hold A (.lst accv)) S2 σ3 H2 e2 _ o3 ?_
          cases zt : mt e2 with
          | rs x e3 => rw [zt] at z'; cases z'
          | no => rw [zt] at z'; cases z'
          | ok bb e3 =>
            rw [zt] at z'
            intro S4 H4 bb' s4 o4 hbb
            subst hbb
            cases bb' with
            | false =>
              rw [if_neg Bool.false_ne_true]
              dsimp only at z'
              split at z'
              · rename_i hp3
                obtain ⟨o5, h5, n5, sep5⟩ := o4.unhold w'.f nS0 w'.io o'.bf
                have o6 := o5.wipe hp3
                rw [hw] at o6
                refine ⟨S4, clearE e3 vs, acc, (s'.trans a1).trans s4, o6, ⟨n5, w'.f, w'.io, ⟨accv, h5, (rAv.mono a1).mono s4⟩, fun j d' ej => ?_⟩, z'⟩
                have nj : j ∉ vs := fun hj => by cases clear_in hj ej
                rw [clear_out nj] at ej
                rw [← hw, wipe_out nj]
                exact sep5 j d' ej
              · cases z'
            | true =>
              rw [if_pos rfl]
              dsimp only at z'
              refine qe (g.hold A (.lst accv)) S4 σ3 H4 e3 _ o4 ?_
              cases ze : me e3 with
              | rs x e4 => rw [ze] at z'; cases z'
              | no => rw [ze] at z'; cases z'
              | ok yd e4 =>
                rw [ze] at z'
                dsimp only at z'
                split at z'
                · rename_i hp4
                  intro S5 H5 yv s5 o5 r5
                  obtain ⟨o6, h6, n6, sep6⟩ := o5.unhold w'.f nS0 w'.io o'.bf
                  have rA5 := ((rAv.mono a1).mono s4).mono s5
                  refine ⟨accv, h6, by rw [rA5.length]; exact Nat.lt_of_lt_of_le hp4.2 (by decide), ?_⟩
                  have w6 : Own K g S5 σ3 H5 e4 A (.lst acc) := ⟨n6, w'.f, w'.io, ⟨accv, h6, rA5⟩, sep6⟩
                  obtain ⟨o7, w7⟩ := o6.other (u := .lst (accv ++ [yv])) (d' := .lst (acc ++ [yd])) w6 ⟨_, upd_same, rA5.append (.cons r5 .nil)⟩
                  have o8 := o7.wipe hp4.1
                  rw [hw] at o8
                  refine ⟨S5, clearE e4 vs, acc ++ [yd], ((s'.trans a1).trans s4).trans s5, o8, ⟨w7.s, w7.f, w7.io, w7.ob, fun j d' ej => ?_⟩, z'⟩
                  have nj : j ∉ vs := fun hj => by cases clear_in hj ej
                  rw [clear_out nj] at ej
                  rw [← hw, wipe_out nj]
                  exact w7.sep j d' ej
                · cases z'
      · rw [List.drop_eq_nil_of_le (by omega)] at z'
        cases z'
        refine .inl ⟨wk.stop i S' H' s' o'.st o'.fr (by omega), ?_⟩
        refine q1 S' H' _ s' (o1.rest s' o' hpl) ⟨A, rfl, w'.s, w'.f, w'.io, w'.ob, fun j d' ej => ?_⟩
        have nj : j ∉ vs := fun hj => by
          have q := rest_in hj ej
          obtain ⟨t, e2, p⟩ := plains_at hpl hj
          rw [List.getD_eq_getElem?_getD, e2] at q
          have q' : Sl.ow d' = t := q
          subst q'
          cases p
        rw [rest_out nj] at ej
        have := w'.sep j d' ej
        rw [wipe_out nj] at this
        exact this
  · exact q1.elim
end
end Mir
namespace Mir
open PySem PySem.Spec PyProof.Rows L2
/-! ### what a def promises -/
inductive Md where
  | sh | bo | io
  deriving DecidableEq
inductive FR where
  | ok (r : D) (ds : List D) | rs (x : Exn) (ds : List D) | no
def ArgOk (K : PySem.W.Frag) (g : G) (H : Hp) (i : Nat) : Md → V → D → Prop
  | .sh, v, d => RepD K g.S0 v d
  | .bo, v, d => BoD K g.S0 g.B v d
  | .io, v, d => ∃ a, v = .ref a ∧ (i, a) ∈ g.io ∧ g.S0 a = none ∧ ObD K g.S0 H a d
inductive ArgsOk (K : PySem.W.Frag) (g : G) (H : Hp) : Nat → List Md → List V → List D → Prop
  | nil {n : Nat} : ArgsOk K g H n [] [] []
  | cons {n : Nat} {m : Md} {v : V} {d : D} {ms : List Md} {vs : List V} {ds : List D} : ArgOk K g H n m v d → ArgsOk K g H (n + 1) ms vs ds → ArgsOk K g H n (m :: ms) (v :: vs) (d :: ds)
structure GOk' (g : G) (ms : List Md) (H : Hp) : Prop where
  sf : Same g.S0 g.F
  bf : Same g.B g.F
  fh : Same g.F H
  tr : ∀ a, g.F a = none → (∀ i, (i, a) ∉ g.io) → H a = none
  iof : ∀ i a, (i, a) ∈ g.io → g.F a = none ∧ H a ≠ none
  iom : ∀ (i : Nat) (a : Addr), (i, a) ∈ g.io → ms[i]? = some .io
  inj : ∀ i j a, (i, a) ∈ g.io → (j, a) ∈ g.io → i = j
  one : ∀ i a b, (i, a) ∈ g.io → (i, b) ∈ g.io → a = b
structure After (K : PySem.W.Frag) (g : G) (ds : List D) (S' H' : Hp) : Prop where
  s : Same g.S0 S'
  st : Same S' H'
  fr : Same g.F H'
  new : ∀ a o, S' a = some o → g.S0 a = some o ∨ (g.F a = none ∧ ∀ i, (i, a) ∉ g.io)
  io : ∀ (i : Nat) (a : Addr), (i, a) ∈ g.io → S' a = none ∧ ∃ d, ds[i]? = some d ∧ ObD K S' H' a d
def ResOk (K : PySem.W.Frag) (g : G) (S' H' : Hp) (v : V) (r : D) : Bool → Prop
  | false => RepD K S' v r
  | true => ∃ a, v = .ref a ∧ S' a = none ∧ g.F a = none ∧ (∀ i, (i, a) ∉ g.io) ∧ ObD K S' H' a r
def spOf (K : PySem.W.Frag) (own : Bool) (ms : List Md) (f : List D → FR) : Sp := fun vs H Q E => ∃ g ds, GOk' g ms H ∧ ArgsOk K g H 0 ms vs ds ∧ match f ds with
  | .ok r ds' => ∀ S' H' v, After K g ds' S' H' → ResOk K g S' H' v r own → Q v H'
  | .rs x ds' => ∀ S' H' d, After K g ds' S' H' → XRep K S' x d → E x.cls d H'
  | .no => False
def slOf : Md → D → Sl
  | .sh, d => .sh d
  | .bo, d => .bo d
  | .io, d => .io d
def startE (n : Nat) (ms : List Md) (ds : List D) : En := List.zipWith slOf ms ds ++ List.replicate (n - ms.length) .no
def cont : Sl → D
  | .io d => d
  | _ => .non
def runF (own : Bool) (n : Nat) (ms : List Md) (m : M Out) (ds : List D) : FR := match m (startE n ms ds) with
  | .ok (.rt d) e => if own = true then .no else .ok d (e.map cont)
  | .ok (.ro d) e => .ok d (e.map cont)
  | .ok .nx e => if own = true then .no else .ok .non (e.map cont)
  | .rs x e => .rs x (e.map cont)
  | _ => .no
theorem ArgsOk.len {K : PySem.W.Frag} {g : G} {H : Hp} : ∀ {n : Nat} {ms : List Md} {vs : List V} {ds : List D}, ArgsOk K g H n ms vs ds → vs.length = ms.length ∧ ds.length = ms.length
  | _, _, _, _, .nil => ⟨rfl, rfl⟩
  | _, _, _, _, .cons _ t => by
    obtain ⟨h1, h2⟩ := t.len
    simp [h1, h2]
theorem ArgsOk.at {K : PySem.W.Frag} {g : G} {H : Hp} : ∀ {n : Nat} {ms : List Md} {vs : List V} {ds : List D} {i : Nat} {m : Md}, ArgsOk K g H n ms vs ds → ms[i]? = some m → ∃ v d, vs[i]? = some v ∧ ds[i]? = some d ∧ ArgOk K g H (n + i) m v d
  | _, _, _, _, _, _, .nil, e => by simp at e
  | _, _, _, _, 0, _, .cons h _, e => by simp at e; subst e; exact ⟨_, _, rfl, rfl, h⟩
  | n, _, _, _, i + 1, m, .cons _ t, e => by
    obtain ⟨v, d, h1, h2, h3⟩ := t.at (i := i) (m := m) (by simpa using e)
    refine ⟨v, d, by simpa using h1, by simpa using h2, ?_⟩
    have : n + 1 + i = n + (i + 1) := by omega
    rw [← this]
    exact h3
section
variable {K : PySem.W.Frag} {g : G} {H : Hp} {N : List Str} {ms : List Md} {vs : List V} {ds : List D}
theorem start_ok (go : GOk' g ms H) (ao : ArgsOk K g H 0 ms vs ds) (hn : ms.length ≤ N.length) : Ok K g g.S0 (L2.start N vs) H (startE N.length ms ds) := by
  obtain ⟨l1, l2⟩ := ao.len
  have zl : (List.zipWith slOf ms ds).length = ms.length := by rw [List.length_zipWith, l2, Nat.min_self]
  have get : ∀ (i : Nat) (s : Sl), (startE N.length ms ds)[i]? = some s → s = .no ∨ ∃ m v d, ms[i]? = some m ∧ vs[i]? = some v ∧ ds[i]? = some d ∧ s = slOf m d ∧ ArgOk K g H i m v d := fun i s h => by
    unfold startE at h
    by_cases hi : i < ms.length
    · rw [List.getElem?_append_left (by rw [zl]; exact hi)] at h
      obtain ⟨v, d, h1, h2, h3⟩ := ao.at (List.getElem?_eq_getElem hi)
      rw [List.getElem?_zipWith, List.getElem?_eq_getElem hi, h2] at h
      cases h
      rw [Nat.zero_add] at h3
      exact .inr ⟨_, v, d, List.getElem?_eq_getElem hi, h1, h2, rfl, h3⟩
    · rw [List.getElem?_append_right (by rw [zl]; omega)] at h
      obtain ⟨h1, h2⟩ := List.getElem?_eq_some_iff.mp h
      rw [List.getElem_replicate] at h2
      exact .inl h2.symm
  have sg : ∀ (i : Nat) (v : V), vs[i]? = some v → (L2.start N vs)[i]? = some (some v) := fun i v h => by
    unfold L2.start
    obtain ⟨h1, h2⟩ := List.getElem?_eq_some_iff.mp h
    rw [List.getElem?_append_left (by simpa using h1), List.getElem?_map, h]
    rfl
  refine ⟨go.fh, go.bf, go.sf.trans go.fh, Same.refl _, fun a o h => .inl h, go.iof, fun i a hi => ?_, go.inj, go.one, ?_, fun i s hs => ?_, fun i j a d d' h1 _ _ _ => ?_⟩
  · have hm := go.iom i a hi
    obtain ⟨v, d, h1, h2, h3⟩ := ao.at hm
    refine ⟨d, ?_⟩
    unfold startE
    have hi := (List.getElem?_eq_some_iff.mp hm).1
    rw [List.getElem?_append_left (by rw [zl]; exact hi), List.getElem?_zipWith, hm, h2]
    rfl
  · unfold L2.start startE
    rw [List.length_append, List.length_append, List.length_map, List.length_replicate, List.length_replicate, zl, l1]
  · rcases get i s hs with rfl | ⟨m, v, d, e1, e2, e3, rfl, h⟩
    · trivial
    · have := sg i v e2
      cases m with
      | sh => exact ⟨v, this, h⟩
      | bo => exact ⟨v, this, h⟩
      | io => obtain ⟨a, rfl, k1, k2, k3⟩ := h; exact ⟨a, this, k2, k1, k3⟩
  · rcases get i _ h1 with z | ⟨m, v, d, e1, e2, e3, z, h⟩
    · cases z
    · cases m <;> cases z
theorem Ok.after {S' H' : Hp} {σ : L2.St} {env : En} (o : Ok K g S' σ H' env) : After K g (env.map cont) S' H' := by
  refine ⟨o.s0, o.st, o.fr, o.new, fun i a hi => ?_⟩
  obtain ⟨d, e⟩ := o.ioe i a hi
  obtain ⟨b, h1, h2, h3, h4⟩ := o.slot i _ e
  have := o.one i a b hi h3
  subst this
  exact ⟨h2, d, by rw [List.getElem?_map, e]; rfl, h4⟩
end
section
variable {P : Program} {w : World} {K : PySem.W.Frag} {mg : Str → Option Value} {base : Heap}
abbrev cxF (P : Program) (w : World) (K : PySem.W.Frag) (mg : Str → Option Value) (base : Heap) (N : List Str) (qual : Str) (st : Stmt) (f : Addr) (q : Value × Around × List Env × Shared × Hp × XK) : Cx :=
  cxOf (L2.CX P w) P w K mg base N qual (defScope st) f q.1 q.2.1 q.2.2.1 q.2.2.2.1 q.2.2.2.2.1 q.2.2.2.2.2
/-- THE RULE for a def -/
theorem fn_ok {x qual : Str} {st : Stmt} {f : Addr} {fd : FuncData} {N ps : List Str} {k : Nat} {own : Bool} {ms : List Md} {m : M Out} (F : Fun K x qual st f fd) (Sc : FnScope N ps (defScope st)) (hl : ms.length = ps.length) (hn : ms.length ≤ N.length)
    (hb : ∀ q : Value × Around × List Env × Shared × Hp × XK, Room k (cxF P w K mg base N qual st f q).A → SSs K (fun _ : Unit => cxF P w K mg base N qual st f q) (fun cls d _ H => q.2.2.2.2.2 cls d H) (defBody st) m) :
    FnOk P w K mg base (L2.CX P w) (k + 1) f fd ps (spOf K own ms (runF own N.length ms m)) := by
  refine F.okX Sc (fun vs H Q E h => ?_) fun cdv A outer s H vs Q E hr h => ?_
  · obtain ⟨g, ds, _, ao, _⟩ := h
    rw [ao.len.1, hl]
  · obtain ⟨g, ds, go, ao, h⟩ := h
    obtain ⟨t, p1, q1⟩ := hb (cdv, A, outer, s, H, E) hr
    refine ⟨t, p1 (), ?_⟩
    refine q1 g g.S0 (L2.start N vs) H (startE N.length ms ds) _ (start_ok go ao hn) ?_
    unfold runF at h
    cases z : m (startE N.length ms ds) with
    | no => rw [z] at h; exact h.elim
    | rs x e =>
      rw [z] at h
      exact fun S' σ' H' d s' o' r => h S' H' d o'.after r
    | ok a e =>
      rw [z] at h
      cases a with
      | nx =>
        cases own with
        | true => exact h.elim
        | false => exact fun S' σ' H' s' o' => h S' H' .non o'.after .non
      | bk => exact h.elim
      | ct => exact h.elim
      | rt d =>
        cases own with
        | true => exact h.elim
        | false => exact fun S' σ' H' v s' o' r => h S' H' v o'.after r
      | ro d =>
        intro S' σ' H' a s' o' w'
        cases own with
        | true => exact h S' H' _ o'.after ⟨a, rfl, w'.s, w'.f, w'.io, w'.ob⟩
        | false =>
          obtain ⟨y, hy⟩ : ∃ y, H' a = some y := by
            cases q : H' a with
            | none => exact absurd q w'.ob.ne
            | some y => exact ⟨y, rfl⟩
          exact h _ H' _ (o'.keepOwn w' hy).after (w'.ob.rep hy w'.s)
end

/-! ### calls -/
inductive Ar where
  | sh (m : M D) | bo (i : Nat) | io (i : Nat) | tm (m : M D) | be (m : M D)
def Ar.md : Ar → Md
  | .sh _ => .sh
  | .bo _ => .bo
  | .io _ => .io
  | .tm _ => .io
  | .be _ => .bo
def anyAt (env : En) (i : Nat) : Option D := match env[i]? with
  | some (.sh d) => some d
  | some (.ow d) => some d
  | some (.io d) => some d
  | some (.bo d) => some d
  | _ => none
def evAr : List Ar → M (List D)
  | [] => ret []
  | .sh m :: as => bnd m fun d => bnd (evAr as) fun ds => ret (d :: ds)
  | .tm m :: as => bnd m fun d => bnd (evAr as) fun ds => ret (d :: ds)
  | .be m :: as => bnd m fun d => bnd (evAr as) fun ds => ret (d :: ds)
  | .bo i :: as => fun env => if (anyAt env i).isSome = true then bnd (evAr as) (fun ds => ret (.non :: ds)) env else .no
  | .io i :: as => fun env => if (anyAt env i).isSome = true then bnd (evAr as) (fun ds => ret (.non :: ds)) env else .no
def fill (env : En) : List Ar → List D → Option (List D)
  | [], [] => some []
  | .sh _ :: as, d :: ds => (fill env as ds).map (d :: ·)
  | .tm _ :: as, d :: ds => (fill env as ds).map (d :: ·)
  | .be _ :: as, d :: ds => (fill env as ds).map (d :: ·)
  | .bo i :: as, _ :: ds => match anyAt env i with
    | some d => (fill env as ds).map (d :: ·)
    | none => none
  | .io i :: as, _ :: ds => match ownAt env i with
    | some d => (fill env as ds).map (d :: ·)
    | none => none
  | _, _ => none
def ioIx : List Ar → List Nat
  | [] => []
  | .io i :: as => i :: ioIx as
  | _ :: as => ioIx as
def boIx : List Ar → List Nat
  | [] => []
  | .bo i :: as => i :: boIx as
  | _ :: as => boIx as
def back : List Ar → List D → En → En
  | .io i :: as, d :: ds, env => back as ds (putOwn env i d)
  | .sh _ :: as, _ :: ds, env => back as ds env
  | .tm _ :: as, _ :: ds, env => back as ds env
  | .be _ :: as, _ :: ds, env => back as ds env
  | .bo _ :: as, _ :: ds, env => back as ds env
  | _, _, env => env
def okIx (as : List Ar) : Bool := decide (ioIx as).Nodup && (boIx as).all fun i => !(ioIx as).contains i
def mCall (as : List Ar) (f : List D → FR) : M D := bnd (evAr as) fun ds env => if okIx as = true then match fill env as ds with
    | some ds1 => match f ds1 with
      | .ok r ds2 => .ok r (back as ds2 env)
      | .rs x ds2 => .rs x (back as ds2 env)
      | .no => .no
    | none => .no
  else .no
def ArV (K : PySem.W.Frag) (S : Hp) (σ : L2.St) (H : Hp) (env : En) : G → List Ar → List V → List D → Prop
  | _, [], [], [] => True
  | g, .sh _ :: as, v :: vs, d :: ds => RepD K S v d ∧ ArV K S σ H env g as vs ds
  | g, .be _ :: as, v :: vs, d :: ds => RepD K S v d ∧ ArV K S σ H env g as vs ds
  | g, .bo i :: as, v :: vs, _ :: ds => σ[i]? = some (some v) ∧ ArV K S σ H env g as vs ds
  | g, .io i :: as, v :: vs, _ :: ds => σ[i]? = some (some v) ∧ ArV K S σ H env g as vs ds
  | g, .tm _ :: as, v :: vs, d :: ds => ∃ a x, v = .ref a ∧ H a = some x ∧ Own K g S σ H env a d ∧ ArV K S σ H env (g.hold a x) as vs ds
  | _, _, _, _ => False
abbrev relV (K : PySem.W.Frag) (g : G) (σ : L2.St) (as : List Ar) : Hp → Hp → En → List V → List D → Prop := fun S' H' env' vs ds => ArV K S' σ H' env' g as vs ds
section
variable {ι : Type} {X : ι → Cx} {K : PySem.W.Frag} {W : WX} {e a b c : Expr} {es : List Expr} {pos p : Pos}
def SAr (K : PySem.W.Frag) (X : ι → Cx) (W : WX) (es : List Expr) (as : List Ar) : Prop := ∃ t, (∀ i, PA (X i) es t) ∧ ∀ g S σ H env Q, Ok K g S σ H env → Post K g S σ W (relV K g σ as) Q (evAr as env) → t σ H Q
theorem sar_nil : SAr K X W [] [] := ⟨_, fun _ => pa_nil, fun g S σ H env Q o q => q S H [] (Same.refl _) o trivial⟩
theorem sar_sh {m : M D} {as : List Ar} (ha : SE K X W e m) (hr : SAr K X W es as) (hs : ∀ i, starEach (e :: es) (X i).env = (false, eval e (X i).env) :: starEach es (X i).env := by intro _; rfl) : SAr K X W (e :: es) (.sh m :: as) := by
  obtain ⟨ta, pa, qa⟩ := ha
  obtain ⟨tb, pb, qb⟩ := hr
  refine ⟨_, fun i => pa_cons (pa i) (pb i) (hs i), fun g S σ H env Q ok q => ?_⟩
  refine qa g S σ H env _ ok (q.bind fun x e1 S1 H1 v _ s1 o1 r1 q1 => ?_)
  refine qb g S1 σ H1 e1 _ o1 (q1.bind fun y e2 S2 H2 w _ s2 o2 r2 q2 => ?_)
  exact q2 S2 H2 _ (Same.refl _) o2 ⟨r1.mono s2, r2⟩
theorem sar_be {m : M D} {as : List Ar} (ha : SE K X W e m) (hr : SAr K X W es as) (hs : ∀ i, starEach (e :: es) (X i).env = (false, eval e (X i).env) :: starEach es (X i).env := by intro _; rfl) : SAr K X W (e :: es) (.be m :: as) := by
  obtain ⟨ta, pa, qa⟩ := ha
  obtain ⟨tb, pb, qb⟩ := hr
  refine ⟨_, fun i => pa_cons (pa i) (pb i) (hs i), fun g S σ H env Q ok q => ?_⟩
  refine qa g S σ H env _ ok (q.bind fun x e1 S1 H1 v _ s1 o1 r1 q1 => ?_)
  refine qb g S1 σ H1 e1 _ o1 (q1.bind fun y e2 S2 H2 w _ s2 o2 r2 q2 => ?_)
  exact q2 S2 H2 _ (Same.refl _) o2 ⟨r1.mono s2, r2⟩
theorem sar_tm {m : M D} {as : List Ar} (ha : SO K X W e m) (hr : SAr K X W es as) (hs : ∀ i, starEach (e :: es) (X i).env = (false, eval e (X i).env) :: starEach es (X i).env := by intro _; rfl) : SAr K X W (e :: es) (.tm m :: as) := by
  obtain ⟨ta, pa, qa⟩ := ha
  obtain ⟨tb, pb, qb⟩ := hr
  refine ⟨_, fun i => pa_cons (pa i) (pb i) (hs i), fun g S σ H env Q ok q => ?_⟩
  refine qa g S σ H env _ ok (q.bind fun d e1 S1 H1 v _ s1 o1 r1 q1 => ?_)
  obtain ⟨a, rfl, w⟩ := r1
  obtain ⟨x, hx⟩ : ∃ x, H1 a = some x := by
    cases z : H1 a with
    | none => exact absurd z w.ob.ne
    | some x => exact ⟨x, rfl⟩
  have hs0 : g.S0 a = none := by
    cases z : g.S0 a with
    | none => rfl
    | some u =>
      have z2 := o1.s0 a u z
      rw [w.s] at z2
      cases z2
  refine qb (g.hold a x) S1 σ H1 e1 _ (o1.hold w hx) ?_
  cases z : evAr as e1 with
  | no =>
    unfold bnd at q1
    rw [z] at q1
    exact q1.elim
  | rs y e2 =>
    unfold bnd at q1
    rw [z] at q1
    exact fun S2 H2 dx s2 o2 r2 => q1 S2 H2 dx s2 (o2.unhold w.f hs0 w.io o1.bf).1 r2
  | ok ds e2 =>
    rw [bnd_ok z] at q1
    intro S2 H2 vs s2 o2 r2
    obtain ⟨o3, h3, n3, sep3⟩ := o2.unhold w.f hs0 w.io o1.bf
    exact q1 S2 H2 _ s2 o3 ⟨a, x, rfl, h3, ⟨n3, w.f, w.io, w.ob.mono s2 (h3.trans hx.symm), sep3⟩, r2⟩
theorem slot_val {g : G} {S H : Hp} {σ : L2.St} {env : En} {i : Nat} (o : Ok K g S σ H env) (h : (anyAt env i).isSome = true) : ∃ v, σ[i]? = some (some v) := by
  unfold anyAt at h
  split at h
  · rename_i d e; obtain ⟨v, h1, _⟩ := o.slot i _ e; exact ⟨v, h1⟩
  · rename_i d e; obtain ⟨v, h1, _⟩ := o.slot i _ e; exact ⟨_, h1⟩
  · rename_i d e; obtain ⟨v, h1, _⟩ := o.slot i _ e; exact ⟨_, h1⟩
  · rename_i d e; obtain ⟨v, h1, _⟩ := o.slot i _ e; exact ⟨v, h1⟩
  · cases h
theorem sar_bo (i : Nat) {x : Str} {as : List Ar} (hr : SAr K X W es as) (hN : ∀ k, (X k).N[i]? = some x := by intro _; rfl) (hv : ∀ k, Vis (X k).env.scope x := by first | exact fun _ => Or.inl rfl | exact fun _ => Or.inr (Or.inl rfl) | exact fun _ => Or.inr (Or.inr rfl)) (hd : (x == ("__debug__" : Str)) = false := by decide)
    (hcd : (x == ("__classdict__" : Str)) = false := by decide) (hs : ∀ i, starEach (.Name x p :: es) (X i).env = (false, eval (.Name x p) (X i).env) :: starEach es (X i).env := by intro _; rfl) : SAr K X W (.Name x p :: es) (.bo i :: as) := by
  obtain ⟨tb, pb, qb⟩ := hr
  refine ⟨_, fun k => pa_cons (pe_var (hN k) (hv k) hd hcd) (pb k) (hs k), fun g S σ H env Q ok q => ?_⟩
  simp only [evAr] at q
  split at q
  · rename_i hs1
    obtain ⟨v, hv⟩ := slot_val ok hs1
    refine ⟨v, hv, ?_⟩
    refine qb g S σ H env _ ok (q.bind fun y e2 S2 H2 w _ s2 o2 r2 q2 => ?_)
    exact q2 S2 H2 _ (Same.refl _) o2 ⟨hv, r2⟩
  · exact q.elim
theorem sar_io (i : Nat) {x : Str} {as : List Ar} (hr : SAr K X W es as) (hN : ∀ k, (X k).N[i]? = some x := by intro _; rfl) (hv : ∀ k, Vis (X k).env.scope x := by first | exact fun _ => Or.inl rfl | exact fun _ => Or.inr (Or.inl rfl) | exact fun _ => Or.inr (Or.inr rfl)) (hd : (x == ("__debug__" : Str)) = false := by decide)
    (hcd : (x == ("__classdict__" : Str)) = false := by decide) (hs : ∀ i, starEach (.Name x p :: es) (X i).env = (false, eval (.Name x p) (X i).env) :: starEach es (X i).env := by intro _; rfl) : SAr K X W (.Name x p :: es) (.io i :: as) := by
  obtain ⟨tb, pb, qb⟩ := hr
  refine ⟨_, fun k => pa_cons (pe_var (hN k) (hv k) hd hcd) (pb k) (hs k), fun g S σ H env Q ok q => ?_⟩
  simp only [evAr] at q
  split at q
  · rename_i hs1
    obtain ⟨v, hv⟩ := slot_val ok hs1
    refine ⟨v, hv, ?_⟩
    refine qb g S σ H env _ ok (q.bind fun y e2 S2 H2 w _ s2 o2 r2 q2 => ?_)
    exact q2 S2 H2 _ (Same.refl _) o2 ⟨hv, r2⟩
  · exact q.elim
end
end Mir
namespace Mir
open PySem PySem.Spec PyProof.Rows L2
def Ar.out : Ar → Bool
  | .io _ => true
  | .tm _ => true
  | _ => false
def ioP : Nat → List Ar → List V → List (Nat × Addr)
  | n, a :: as, v :: vs => match a.out, v with
    | true, .ref b => (n, b) :: ioP (n + 1) as vs
    | _, _ => ioP (n + 1) as vs
  | _, _, _ => []
theorem mem_ioP {k : Nat} {b : Addr} : ∀ {n : Nat} {as : List Ar} {vs : List V}, (k, b) ∈ ioP n as vs ↔ ∃ m a, k = n + m ∧ as[m]? = some a ∧ a.out = true ∧ vs[m]? = some (.ref b)
  | n, [], vs => by cases vs <;> simp [ioP]
  | n, a :: as, [] => by simp [ioP]
  | n, a :: as, v :: vs => by
    simp only [ioP]
    have step : (∃ m a', k = (n + 1) + m ∧ as[m]? = some a' ∧ a'.out = true ∧ vs[m]? = some (.ref b)) ↔ ∃ m a', k = n + (m + 1) ∧ (a :: as)[m + 1]? = some a' ∧ a'.out = true ∧ (v :: vs)[m + 1]? = some (.ref b) := by
      constructor
      · rintro ⟨m, a', rfl, h1, h2, h3⟩; exact ⟨m, a', by omega, by simpa using h1, h2, by simpa using h3⟩
      · rintro ⟨m, a', rfl, h1, h2, h3⟩; exact ⟨m, a', by omega, by simpa using h1, h2, by simpa using h3⟩
    split
    · rename_i c ho
      rw [List.mem_cons, mem_ioP, step]
      constructor
      · rintro (h | ⟨m, a', h⟩)
        · cases h; exact ⟨0, a, rfl, rfl, ho, rfl⟩
        · exact ⟨m + 1, a', h⟩
      · rintro ⟨m, a', rfl, h1, h2, h3⟩
        cases m with
        | zero => simp at h1 h3; subst h1 h3; exact .inl rfl
        | succ m => exact .inr ⟨m, a', rfl, h1, h2, h3⟩
    · rename_i hn
      rw [mem_ioP, step]
      constructor
      · rintro ⟨m, a', h⟩; exact ⟨m + 1, a', h⟩
      · rintro ⟨m, a', rfl, h1, h2, h3⟩
        cases m with
        | zero => simp at h1 h3; subst h1 h3; exact absurd rfl (hn b h2)
        | succ m => exact ⟨m, a', rfl, h1, h2, h3⟩
theorem ioIx_mem {i : Nat} : ∀ {as : List Ar}, i ∈ ioIx as ↔ ∃ k : Nat, as[k]? = some (.io i)
  | [] => by simp [ioIx]
  | .sh m :: as => by
    simp only [ioIx]
    rw [ioIx_mem]
    exact ⟨fun ⟨k, h⟩ => ⟨k + 1, by simpa using h⟩, fun ⟨k, h⟩ => by
      cases k with
      | zero => simp at h
      | succ k => exact ⟨k, by simpa using h⟩⟩
  | .be m :: as => by
    simp only [ioIx]
    rw [ioIx_mem]
    exact ⟨fun ⟨k, h⟩ => ⟨k + 1, by simpa using h⟩, fun ⟨k, h⟩ => by
      cases k with
      | zero => simp at h
      | succ k => exact ⟨k, by simpa using h⟩⟩
  | .bo m :: as => by
    simp only [ioIx]
    rw [ioIx_mem]
    exact ⟨fun ⟨k, h⟩ => ⟨k + 1, by simpa using h⟩, fun ⟨k, h⟩ => by
      cases k with
      | zero => simp at h
      | succ k => exact ⟨k, by simpa using h⟩⟩
  | .tm m :: as => by
    simp only [ioIx]
    rw [ioIx_mem]
    exact ⟨fun ⟨k, h⟩ => ⟨k + 1, by simpa using h⟩, fun ⟨k, h⟩ => by
      cases k with
      | zero => simp at h
      | succ k => exact ⟨k, by simpa using h⟩⟩
  | .io m :: as => by
    simp only [ioIx]
    rw [List.mem_cons, ioIx_mem]
    exact ⟨fun h => by
      rcases h with rfl | ⟨k, h⟩
      · exact ⟨0, rfl⟩
      · exact ⟨k + 1, by simpa using h⟩, fun ⟨k, h⟩ => by
      cases k with
      | zero => simp at h; exact .inl h.symm
      | succ k => exact .inr ⟨k, by simpa using h⟩⟩
theorem ioIx_one {i : Nat} : ∀ {as : List Ar} {k k' : Nat}, (ioIx as).Nodup → as[k]? = some (.io i) → as[k']? = some (.io i) → k = k'
  | [], k, _, _, h, _ => by simp at h
  | a :: as, k, k', hn, h, h' => by
    have hn' : (ioIx as).Nodup := by
      cases a with
      | sh m => exact hn
      | bo m => exact hn
      | tm m => exact hn
      | be m => exact hn
      | io m => exact (List.nodup_cons.mp hn).2
    cases k with
    | zero =>
      cases k' with
      | zero => rfl
      | succ k' =>
        simp at h h'
        subst h
        exact absurd (ioIx_mem.mpr ⟨k', h'⟩) (List.nodup_cons.mp hn).1
    | succ k =>
      cases k' with
      | zero =>
        simp at h h'
        subst h'
        exact absurd (ioIx_mem.mpr ⟨k, h⟩) (List.nodup_cons.mp hn).1
      | succ k' => exact congrArg (· + 1) (ioIx_one hn' (by simpa using h) (by simpa using h'))
theorem fill_io {env : En} {i : Nat} : ∀ {as : List Ar} {ds ds1 : List D} {k : Nat}, fill env as ds = some ds1 → as[k]? = some (.io i) → ∃ d, ownAt env i = some d ∧ ds1[k]? = some d
  | [], _, _, k, _, h => by simp at h
  | .sh m :: as, [], _, _, h, _ => by simp [fill] at h
  | .be m :: as, [], _, _, h, _ => by simp [fill] at h
  | .bo m :: as, [], _, _, h, _ => by simp [fill] at h
  | .io m :: as, [], _, _, h, _ => by simp [fill] at h
  | .tm m :: as, [], _, _, h, _ => by simp [fill] at h
  | .tm m :: as, d :: ds, ds1, k, h, h' => by
    simp only [fill] at h
    cases z : fill env as ds with
    | none => rw [z] at h; cases h
    | some es =>
      rw [z] at h
      cases h
      cases k with
      | zero => simp at h'
      | succ k =>
        obtain ⟨d', h1, h2⟩ := fill_io z (k := k) (by simpa using h')
        exact ⟨d', h1, by simpa using h2⟩
  | .sh m :: as, d :: ds, ds1, k, h, h' => by
    simp only [fill] at h
    cases z : fill env as ds with
    | none => rw [z] at h; cases h
    | some es =>
      rw [z] at h
      cases h
      cases k with
      | zero => simp at h'
      | succ k =>
        obtain ⟨d', h1, h2⟩ := fill_io z (k := k) (by simpa using h')
        exact ⟨d', h1, by simpa using h2⟩
  | .be m :: as, d :: ds, ds1, k, h, h' => by
    simp only [fill] at h
    cases z : fill env as ds with
    | none => rw [z] at h; cases h
    | some es =>
      rw [z] at h
      cases h
      cases k with
      | zero => simp at h'
      | succ k =>
        obtain ⟨d', h1, h2⟩ := fill_io z (k := k) (by simpa using h')
        exact ⟨d', h1, by simpa using h2⟩
  | .bo m :: as, d :: ds, ds1, k, h, h' => by
    simp only [fill] at h
    split at h
    · cases z : fill env as ds with
      | none => rw [z] at h; cases h
      | some es =>
        rw [z] at h
        cases h
        cases k with
        | zero => simp at h'
        | succ k =>
          obtain ⟨d', h1, h2⟩ := fill_io z (k := k) (by simpa using h')
          exact ⟨d', h1, by simpa using h2⟩
    · cases h
  | .io m :: as, d :: ds, ds1, k, h, h' => by
    simp only [fill] at h
    split at h
    · rename_i d0 hd0
      cases z : fill env as ds with
      | none => rw [z] at h; cases h
      | some es =>
        rw [z] at h
        cases h
        cases k with
        | zero =>
          simp at h'
          subst h'
          exact ⟨d0, hd0, rfl⟩
        | succ k =>
          obtain ⟨d', h1, h2⟩ := fill_io z (k := k) (by simpa using h')
          exact ⟨d', h1, by simpa using h2⟩
    · cases h
theorem putOwn_len {env : En} {i : Nat} {d : D} : (putOwn env i d).length = env.length := by
  unfold putOwn
  split <;> simp
theorem putOwn_ne {env : En} {i j : Nat} {d : D} (h : i ≠ j) : (putOwn env i d)[j]? = env[j]? := by
  unfold putOwn
  split <;> first | rw [List.getElem?_set_ne h] | rfl
def reOwn (d : D) : Sl → Sl
  | .ow _ => .ow d
  | .io _ => .io d
  | s => s
theorem putOwn_at {env : En} {i : Nat} {d : D} : (putOwn env i d)[i]? = (env[i]?).map (reOwn d) := by
  unfold putOwn
  split
  · rename_i x h
    rw [List.getElem?_set_self (List.getElem?_eq_some_iff.mp h).1, h]; rfl
  · rename_i x h
    rw [List.getElem?_set_self (List.getElem?_eq_some_iff.mp h).1, h]; rfl
  · rename_i h1 h2
    cases z : env[i]? with
    | none => rfl
    | some s =>
      cases s with
      | ow x => exact absurd z (h1 x)
      | io x => exact absurd z (h2 x)
      | no => rfl
      | sh x => rfl
      | bo x => rfl
      | pn x => rfl
theorem back_len : ∀ {as : List Ar} {ds : List D} {env : En}, (back as ds env).length = env.length
  | [], _, _ => rfl
  | .sh m :: as, [], _ => rfl
  | .be m :: as, [], _ => rfl
  | .bo m :: as, [], _ => rfl
  | .io m :: as, [], _ => rfl
  | .tm m :: as, [], _ => rfl
  | .tm m :: as, d :: ds, env => by simp only [back]; exact back_len
  | .sh m :: as, d :: ds, env => by simp only [back]; exact back_len
  | .be m :: as, d :: ds, env => by simp only [back]; exact back_len
  | .bo m :: as, d :: ds, env => by simp only [back]; exact back_len
  | .io m :: as, d :: ds, env => by simp only [back]; rw [back_len, putOwn_len]
theorem back_out {j : Nat} : ∀ {as : List Ar} {ds : List D} {env : En}, j ∉ ioIx as → (back as ds env)[j]? = env[j]?
  | [], _, _, _ => rfl
  | .sh m :: as, [], _, _ => rfl
  | .be m :: as, [], _, _ => rfl
  | .bo m :: as, [], _, _ => rfl
  | .io m :: as, [], _, _ => rfl
  | .tm m :: as, [], _, _ => rfl
  | .tm m :: as, d :: ds, env, h => by simp only [back]; exact back_out h
  | .sh m :: as, d :: ds, env, h => by simp only [back]; exact back_out h
  | .be m :: as, d :: ds, env, h => by simp only [back]; exact back_out h
  | .bo m :: as, d :: ds, env, h => by simp only [back]; exact back_out h
  | .io m :: as, d :: ds, env, h => by
    simp only [back]
    have h1 : m ≠ j := fun z => h (by simp [ioIx, z])
    rw [back_out (fun z => h (by simp [ioIx, z])), putOwn_ne h1]
theorem back_at {j : Nat} : ∀ {as : List Ar} {ds : List D} {env : En} {k : Nat} {d : D}, (ioIx as).Nodup → as[k]? = some (.io j) → ds[k]? = some d → (back as ds env)[j]? = (env[j]?).map (reOwn d)
  | [], _, _, k, _, _, h, _ => by simp at h
  | .sh m :: as, [], _, k, _, _, _, h => by simp at h
  | .be m :: as, [], _, k, _, _, _, h => by simp at h
  | .bo m :: as, [], _, k, _, _, _, h => by simp at h
  | .io m :: as, [], _, k, _, _, _, h => by simp at h
  | .tm m :: as, [], _, k, _, _, _, h => by simp at h
  | .tm m :: as, d :: ds, env, k, d', hn, h, h' => by
    cases k with
    | zero => simp at h
    | succ k => simp only [back]; exact back_at hn (by simpa using h) (by simpa using h')
  | .sh m :: as, d :: ds, env, k, d', hn, h, h' => by
    cases k with
    | zero => simp at h
    | succ k => simp only [back]; exact back_at hn (by simpa using h) (by simpa using h')
  | .be m :: as, d :: ds, env, k, d', hn, h, h' => by
    cases k with
    | zero => simp at h
    | succ k => simp only [back]; exact back_at hn (by simpa using h) (by simpa using h')
  | .bo m :: as, d :: ds, env, k, d', hn, h, h' => by
    cases k with
    | zero => simp at h
    | succ k => simp only [back]; exact back_at hn (by simpa using h) (by simpa using h')
  | .io m :: as, d :: ds, env, k, d', hn, h, h' => by
    simp only [back]
    obtain ⟨hn1, hn2⟩ := List.nodup_cons.mp hn
    cases k with
    | zero =>
      simp at h h'
      subst h h'
      rw [back_out hn1, putOwn_at]
    | succ k =>
      have hm : m ≠ j := fun z => by
        subst z
        exact hn1 (ioIx_mem.mpr ⟨k, by simpa using h⟩)
      rw [back_at hn2 (by simpa using h) (by simpa using h'), putOwn_ne hm]
section
variable {K : PySem.W.Frag} {g : G} {S H : Hp} {σ : L2.St} {env : En}
open Classical in
noncomputable def callF (H : Hp) (io : List (Nat × Addr)) : Hp := fun a => if ∃ k, (k, a) ∈ io then none else H a
theorem callF_in {io : List (Nat × Addr)} {k : Nat} {a : Addr} (h : (k, a) ∈ io) : callF H io a = none := by unfold callF; rw [if_pos ⟨k, h⟩]
theorem callF_out {io : List (Nat × Addr)} {a : Addr} (h : ∀ k, (k, a) ∉ io) : callF H io a = H a := by unfold callF; rw [if_neg (fun ⟨k, z⟩ => h k z)]
theorem callF_same {io : List (Nat × Addr)} : Same (callF H io) H := fun a o h => by
  by_cases z : ∃ k, (k, a) ∈ io
  · obtain ⟨k, z⟩ := z
    rw [callF_in z] at h; cases h
  · rw [callF_out (fun k q => z ⟨k, q⟩)] at h; exact h
theorem Own.unhold {b : Addr} {y : HO} {a : Addr} {d : D} {gg : G} (w : Own K (gg.hold b y) S σ H env a d) (hb : gg.F b = none) : Own K gg S σ H env a d ∧ a ≠ b := by
  have hf : upd gg.F b y a = none := w.f
  have hne : a ≠ b := fun e => by subst e; rw [upd_same] at hf; cases hf
  rw [upd_ne hne] at hf
  exact ⟨⟨w.s, hf, w.io, w.ob, w.sep⟩, hne⟩
theorem arv_len : ∀ {gg : G} {as : List Ar} {vs : List V} {ds : List D}, ArV K S σ H env gg as vs ds → as.length = vs.length
  | _, [], [], [], _ => rfl
  | _, .sh m :: as, v :: vs, d :: ds, h => congrArg (· + 1) (arv_len h.2)
  | _, .be m :: as, v :: vs, d :: ds, h => congrArg (· + 1) (arv_len h.2)
  | _, .bo m :: as, v :: vs, d :: ds, h => congrArg (· + 1) (arv_len h.2)
  | _, .io m :: as, v :: vs, d :: ds, h => congrArg (· + 1) (arv_len h.2)
  | _, .tm m :: as, v :: vs, d :: ds, h => by
    obtain ⟨_, _, _, _, _, h⟩ := h
    exact congrArg (· + 1) (arv_len h)
theorem arv_io {i : Nat} : ∀ {gg : G} {as : List Ar} {vs : List V} {ds : List D} {k : Nat}, ArV K S σ H env gg as vs ds → as[k]? = some (.io i) → ∃ v, vs[k]? = some v ∧ σ[i]? = some (some v)
  | _, [], [], [], _, _, e => by simp at e
  | _, .sh m :: as, v :: vs, d :: ds, k, h, e => by
    cases k with
    | zero => simp at e
    | succ k => simpa using arv_io h.2 (k := k) (by simpa using e)
  | _, .be m :: as, v :: vs, d :: ds, k, h, e => by
    cases k with
    | zero => simp at e
    | succ k => simpa using arv_io h.2 (k := k) (by simpa using e)
  | _, .bo m :: as, v :: vs, d :: ds, k, h, e => by
    cases k with
    | zero => simp at e
    | succ k => simpa using arv_io h.2 (k := k) (by simpa using e)
  | _, .io m :: as, v :: vs, d :: ds, k, h, e => by
    cases k with
    | zero => simp at e; subst e; exact ⟨v, rfl, h.1⟩
    | succ k => simpa using arv_io h.2 (k := k) (by simpa using e)
  | _, .tm m :: as, v :: vs, d :: ds, k, h, e => by
    obtain ⟨_, _, _, _, _, h⟩ := h
    cases k with
    | zero => simp at e
    | succ k => simpa using arv_io h (k := k) (by simpa using e)
theorem arv_tm {m : M D} : ∀ {gg : G} {as : List Ar} {vs : List V} {ds : List D} {k : Nat}, ArV K S σ H env gg as vs ds → as[k]? = some (.tm m) → ∃ a d, vs[k]? = some (.ref a) ∧ ds[k]? = some d ∧ Own K gg S σ H env a d
  | _, [], [], [], _, _, e => by simp at e
  | _, .sh m :: as, v :: vs, d :: ds, k, h, e => by
    cases k with
    | zero => simp at e
    | succ k => simpa using arv_tm h.2 (k := k) (by simpa using e)
  | _, .be m :: as, v :: vs, d :: ds, k, h, e => by
    cases k with
    | zero => simp at e
    | succ k => simpa using arv_tm h.2 (k := k) (by simpa using e)
  | _, .bo m :: as, v :: vs, d :: ds, k, h, e => by
    cases k with
    | zero => simp at e
    | succ k => simpa using arv_tm h.2 (k := k) (by simpa using e)
  | _, .io m :: as, v :: vs, d :: ds, k, h, e => by
    cases k with
    | zero => simp at e
    | succ k => simpa using arv_tm h.2 (k := k) (by simpa using e)
  | _, .tm m' :: as, v :: vs, d :: ds, k, h, e => by
    obtain ⟨b, y, rfl, hy, w, h⟩ := h
    cases k with
    | zero => exact ⟨b, d, rfl, rfl, w⟩
    | succ k =>
      obtain ⟨a, d', h1, h2, h3⟩ := arv_tm h (k := k) (by simpa using e)
      exact ⟨a, d', by simpa using h1, by simpa using h2, (h3.unhold w.f).1⟩
theorem arv_tms {m m' : M D} {a : Addr} : ∀ {gg : G} {as : List Ar} {vs : List V} {ds : List D} {k k' : Nat}, ArV K S σ H env gg as vs ds → as[k]? = some (.tm m) → as[k']? = some (.tm m') → vs[k]? = some (.ref a) → vs[k']? = some (.ref a) → k = k'
  | _, [], [], [], _, _, _, e, _, _, _ => by simp at e
  | _, .sh m :: as, v :: vs, d :: ds, k, k', h, e, e', r, r' => by
    cases k with
    | zero => simp at e
    | succ k =>
      cases k' with
      | zero => simp at e'
      | succ k' => exact congrArg (· + 1) (arv_tms h.2 (by simpa using e) (by simpa using e') (by simpa using r) (by simpa using r'))
  | _, .be m :: as, v :: vs, d :: ds, k, k', h, e, e', r, r' => by
    cases k with
    | zero => simp at e
    | succ k =>
      cases k' with
      | zero => simp at e'
      | succ k' => exact congrArg (· + 1) (arv_tms h.2 (by simpa using e) (by simpa using e') (by simpa using r) (by simpa using r'))
  | _, .bo m :: as, v :: vs, d :: ds, k, k', h, e, e', r, r' => by
    cases k with
    | zero => simp at e
    | succ k =>
      cases k' with
      | zero => simp at e'
      | succ k' => exact congrArg (· + 1) (arv_tms h.2 (by simpa using e) (by simpa using e') (by simpa using r) (by simpa using r'))
  | _, .io m :: as, v :: vs, d :: ds, k, k', h, e, e', r, r' => by
    cases k with
    | zero => simp at e
    | succ k =>
      cases k' with
      | zero => simp at e'
      | succ k' => exact congrArg (· + 1) (arv_tms h.2 (by simpa using e) (by simpa using e') (by simpa using r) (by simpa using r'))
  | _, .tm m0 :: as, v :: vs, d :: ds, k, k', h, e, e', r, r' => by
    obtain ⟨b, y, rfl, hy, w, h⟩ := h
    cases k with
    | zero =>
      cases k' with
      | zero => rfl
      | succ k' =>
        simp at r
        obtain ⟨c, d', h1, h2, h3⟩ := arv_tm h (k := k') (by simpa using e')
        have r' : vs[k']? = some (.ref a) := by simpa using r'
        rw [h1] at r'
        cases r'
        exact absurd r.symm (h3.unhold w.f).2
    | succ k =>
      cases k' with
      | zero =>
        simp at r'
        obtain ⟨c, d', h1, h2, h3⟩ := arv_tm h (k := k) (by simpa using e)
        have r : vs[k]? = some (.ref a) := by simpa using r
        rw [h1] at r
        cases r
        exact absurd r'.symm (h3.unhold w.f).2
      | succ k' => exact congrArg (· + 1) (arv_tms h (by simpa using e) (by simpa using e') (by simpa using r) (by simpa using r'))
theorem fill_tm {m : M D} {env : En} : ∀ {as : List Ar} {ds ds1 : List D} {k : Nat}, fill env as ds = some ds1 → as[k]? = some (.tm m) → ds1[k]? = ds[k]?
  | [], _, _, k, _, h => by simp at h
  | .sh m :: as, [], _, _, h, _ => by simp [fill] at h
  | .be m :: as, [], _, _, h, _ => by simp [fill] at h
  | .bo m :: as, [], _, _, h, _ => by simp [fill] at h
  | .io m :: as, [], _, _, h, _ => by simp [fill] at h
  | .tm m :: as, [], _, _, h, _ => by simp [fill] at h
  | .sh m :: as, d :: ds, ds1, k, h, h' => by
    simp only [fill] at h
    cases z : fill env as ds with
    | none => rw [z] at h; cases h
    | some es =>
      rw [z] at h
      cases h
      cases k with
      | zero => rfl
      | succ k => simpa using fill_tm z (k := k) (by simpa using h')
  | .be m :: as, d :: ds, ds1, k, h, h' => by
    simp only [fill] at h
    cases z : fill env as ds with
    | none => rw [z] at h; cases h
    | some es =>
      rw [z] at h
      cases h
      cases k with
      | zero => rfl
      | succ k => simpa using fill_tm z (k := k) (by simpa using h')
  | .tm m :: as, d :: ds, ds1, k, h, h' => by
    simp only [fill] at h
    cases z : fill env as ds with
    | none => rw [z] at h; cases h
    | some es =>
      rw [z] at h
      cases h
      cases k with
      | zero => rfl
      | succ k => simpa using fill_tm z (k := k) (by simpa using h')
  | .bo m :: as, d :: ds, ds1, k, h, h' => by
    simp only [fill] at h
    split at h
    · cases z : fill env as ds with
      | none => rw [z] at h; cases h
      | some es =>
        rw [z] at h
        cases h
        cases k with
        | zero => simp at h'
        | succ k => simpa using fill_tm z (k := k) (by simpa using h')
    · cases h
  | .io m :: as, d :: ds, ds1, k, h, h' => by
    simp only [fill] at h
    split at h
    · cases z : fill env as ds with
      | none => rw [z] at h; cases h
      | some es =>
        rw [z] at h
        cases h
        cases k with
        | zero => simp at h'
        | succ k => simpa using fill_tm z (k := k) (by simpa using h')
    · cases h
theorem args_ok (o : Ok K g S σ H env) {g' : G} (hS : g'.S0 = S) (hB : g'.B = callF H g'.io) (hF : ∀ k a, (k, a) ∈ g'.io → g.F a = none) : ∀ {gg : G} {as : List Ar} {vs : List V} {ds ds1 : List D} {n : Nat}, ArV K S σ H env gg as vs ds → fill env as ds = some ds1 →
    (∀ (k : Nat) (x : Ar) (a : Addr), as[k]? = some x → x.out = true → vs[k]? = some (.ref a) → (n + k, a) ∈ g'.io) → (∀ i ∈ boIx as, ∀ (k : Nat) (a : Addr), (k, a) ∈ g'.io → ∀ d, Mir.ownAt env i = some d → σ[i]? ≠ some (some (.ref a))) → ArgsOk K g' H n (as.map Ar.md) vs ds1
  | gg, [], [], [], ds1, n, _, h, _, _ => by simp [fill] at h; subst h; exact .nil
  | gg, .sh m :: as, v :: vs, d :: ds, ds1, n, hv, h, hio, hbo => by
    simp only [fill] at h
    cases z : fill env as ds with
    | none => rw [z] at h; cases h
    | some es =>
      rw [z] at h
      cases h
      refine .cons (show RepD K g'.S0 v d by rw [hS]; exact hv.1) (args_ok o hS hB hF hv.2 z (fun k x a h1 h2 h3 => ?_) hbo)
      have := hio (k + 1) x a (by simpa using h1) h2 (by simpa using h3)
      have e : n + (k + 1) = n + 1 + k := by omega
      rw [e] at this
      exact this
  | gg, .be m :: as, v :: vs, d :: ds, ds1, n, hv, h, hio, hbo => by
    simp only [fill] at h
    cases z : fill env as ds with
    | none => rw [z] at h; cases h
    | some es =>
      rw [z] at h
      cases h
      refine .cons (show BoD K g'.S0 g'.B v d from .inl (by rw [hS]; exact hv.1)) (args_ok o hS hB hF hv.2 z (fun k x a h1 h2 h3 => ?_) hbo)
      have := hio (k + 1) x a (by simpa using h1) h2 (by simpa using h3)
      have e : n + (k + 1) = n + 1 + k := by omega
      rw [e] at this
      exact this
  | gg, .tm m :: as, v :: vs, d :: ds, ds1, n, hv, h, hio, hbo => by
    simp only [fill] at h
    cases z : fill env as ds with
    | none => rw [z] at h; cases h
    | some es =>
      rw [z] at h
      cases h
      obtain ⟨b, y, rfl, hy, w, hv⟩ := hv
      refine .cons ⟨b, rfl, ?_, by rw [hS]; exact w.s, by rw [hS]; exact w.ob⟩ (args_ok o hS hB hF hv z (fun k x a h1 h2 h3 => ?_) hbo)
      · have := hio 0 _ b rfl rfl rfl
        simpa using this
      · have := hio (k + 1) x a (by simpa using h1) h2 (by simpa using h3)
        have e : n + (k + 1) = n + 1 + k := by omega
        rw [e] at this
        exact this
  | gg, .bo i :: as, v :: vs, d :: ds, ds1, n, hv, h, hio, hbo => by
    simp only [fill] at h
    split at h
    · rename_i d0 hd0
      cases z : fill env as ds with
      | none => rw [z] at h; cases h
      | some es =>
        rw [z] at h
        cases h
        refine .cons ?_ (args_ok o hS hB hF hv.2 z (fun k x a h1 h2 h3 => ?_) (fun j hj => hbo j (by simp only [boIx]; exact List.mem_cons_of_mem _ hj)))
        · show BoD K g'.S0 g'.B v d0
          rw [hS, hB]
          have hb := hbo i (by simp [boIx])
          have own : ∀ a, Mir.ownAt env i = some d0 → σ[i]? = some (some (.ref a)) → ObD K S H a d0 → BoD K S (callF H g'.io) (.ref a) d0 := fun a h1 h2 h3 =>
            .inr ⟨a, rfl, h3.mono (Same.refl _) (callF_out fun k q => hb k a q d0 h1 h2)⟩
          have ev : σ[i]? = some (some v) := hv.1
          unfold anyAt at hd0
          split at hd0
          · rename_i d1 e1
            cases hd0
            obtain ⟨u, h1, h2⟩ := o.slot i _ e1
            rw [ev] at h1; cases h1
            exact .inl h2
          · rename_i d1 e1
            cases hd0
            obtain ⟨u, h1, _, _, _, h2⟩ := o.slot i _ e1
            rw [ev] at h1; cases h1
            exact own u (by unfold Mir.ownAt; rw [e1]) ev h2
          · rename_i d1 e1
            cases hd0
            obtain ⟨u, h1, _, _, h2⟩ := o.slot i _ e1
            rw [ev] at h1; cases h1
            exact own u (by unfold Mir.ownAt; rw [e1]) ev h2
          · rename_i d1 e1
            cases hd0
            obtain ⟨u, h1, h2⟩ := o.slot i _ e1
            rw [ev] at h1; cases h1
            rcases h2 with h2 | ⟨b, rfl, h2⟩
            · exact .inl h2
            · refine .inr ⟨b, rfl, h2.mono (Same.refl _) ?_⟩
              have hbB : ∃ y, g.B b = some y := by
                cases q : g.B b with
                | none => exact absurd q h2.ne
                | some y => exact ⟨y, rfl⟩
              obtain ⟨y, hy⟩ := hbB
              have hbF := o.bf b y hy
              have hH := o.fr b y hbF
              rw [hy]
              by_cases q : ∃ k, (k, b) ∈ g'.io
              · exfalso
                obtain ⟨k, q⟩ := q
                have := hF k b q
                rw [o.bf b y hy] at this
                cases this
              · rw [callF_out fun k z => q ⟨k, z⟩]; exact hH
          · cases hd0
        · have := hio (k + 1) x a (by simpa using h1) h2 (by simpa using h3)
          have e : n + (k + 1) = n + 1 + k := by omega
          rw [e] at this
          exact this
    · cases h
  | gg, .io i :: as, v :: vs, d :: ds, ds1, n, hv, h, hio, hbo => by
    simp only [fill] at h
    split at h
    · rename_i d0 hd0
      cases z : fill env as ds with
      | none => rw [z] at h; cases h
      | some es =>
        rw [z] at h
        cases h
        obtain ⟨a, h1, h2, h3, h4⟩ := o.ownAt hd0
        have ev : σ[i]? = some (some v) := hv.1
        rw [ev] at h1
        cases h1
        refine .cons ⟨a, rfl, ?_, by rw [hS]; exact h2, by rw [hS]; exact h4⟩ (args_ok o hS hB hF hv.2 z (fun k x a h1 h2 h3 => ?_) hbo)
        · have := hio 0 _ a rfl rfl rfl
          simpa using this
        · have := hio (k + 1) x a (by simpa using h1) h2 (by simpa using h3)
          have e : n + (k + 1) = n + 1 + k := by omega
          rw [e] at this
          exact this
    · cases h
theorem call_core (o : Ok K g S σ H env) {as : List Ar} {vs : List V} {ds ds1 : List D} (hv : ArV K S σ H env g as vs ds) (hx : okIx as = true) (hf : fill env as ds = some ds1) :
    ∃ g' : G, GOk' g' (as.map Ar.md) H ∧ ArgsOk K g' H 0 (as.map Ar.md) vs ds1 ∧ ∀ ds2 S' H', After K g' ds2 S' H' → Same S S' ∧ Ok K g S' σ H' (back as ds2 env) ∧
      ∀ (a : Addr) (d : D), S' a = none → g'.F a = none → (∀ i, (i, a) ∉ g'.io) → ObD K S' H' a d → Own K g S' σ H' (back as ds2 env) a d := by
  unfold okIx at hx
  rw [Bool.and_eq_true, decide_eq_true_eq, List.all_eq_true] at hx
  obtain ⟨hn, hb⟩ := hx
  -- what is known of the objects that are handed out
  have io : ∀ k a, (k, a) ∈ ioP 0 as vs → S a = none ∧ g.F a = none ∧ H a ≠ none ∧ vs[k]? = some (.ref a) ∧ ((∃ i d, as[k]? = some (.io i) ∧ σ[i]? = some (some (.ref a)) ∧ Mir.ownAt env i = some d) ∨ ∃ m d, as[k]? = some (.tm m) ∧ Own K g S σ H env a d) := fun k a h => by
    obtain ⟨m, x, e, h1, h2, h3⟩ := mem_ioP.mp h
    have : k = m := by omega
    subst this
    cases x with
    | sh _ => cases h2
    | bo _ => cases h2
    | be _ => cases h2
    | io i =>
      obtain ⟨d, h4, _⟩ := fill_io hf h1
      obtain ⟨v, h5, h6⟩ := arv_io hv h1
      rw [h3] at h5
      cases h5
      obtain ⟨b, k1, k2, k3, k4⟩ := o.ownAt h4
      rw [h6] at k1
      cases k1
      exact ⟨k2, k3, k4.ne, h3, .inl ⟨i, d, h1, h6, h4⟩⟩
    | tm m =>
      obtain ⟨b, d, h5, _, w⟩ := arv_tm hv h1
      rw [h3] at h5
      cases h5
      exact ⟨w.s, w.f, w.ob.ne, h3, .inr ⟨m, d, h1, w⟩⟩
  -- a slot's own object and a handed one
  have meet : ∀ (j k : Nat) (a : Addr) (d : D), (k, a) ∈ ioP 0 as vs → Mir.ownAt env j = some d → σ[j]? = some (some (.ref a)) → as[k]? = some (.io j) := fun j k a d h h1 h2 => by
    obtain ⟨_, _, _, _, h3⟩ := io k a h
    rcases h3 with ⟨i, d', y1, y2, y3⟩ | ⟨m, d', y1, w⟩
    · have := o.apart h1 y3 h2 y2
      subst this
      exact y1
    · exfalso
      unfold Mir.ownAt at h1
      split at h1
      · rename_i d0 e0
        exact w.sep j d0 e0 h2
      · rename_i d0 e0
        obtain ⟨b, k1, k2, k3, k4⟩ := o.slot j _ e0
        rw [h2] at k1
        cases k1
        exact w.io j k3
      · cases h1
  refine ⟨⟨callF H (ioP 0 as vs), callF H (ioP 0 as vs), S, ioP 0 as vs⟩, ⟨fun a x h => ?_, fun _ _ h => h, callF_same, fun a h1 h2 => ?_, fun k a h => ⟨callF_in h, ?_⟩, fun k a h => ?_, fun k k' a h h' => ?_, fun k a b h h' => ?_⟩,
    args_ok (g' := ⟨callF H (ioP 0 as vs), callF H (ioP 0 as vs), S, ioP 0 as vs⟩) o rfl rfl (fun k a h => ?_) hv hf (fun k x a h1 h2 h3 => mem_ioP.mpr ⟨k, x, rfl, h1, h2, h3⟩) (fun i hi k a h d h1 h2 => ?_), fun ds2 S' H' af => ?_⟩
  · have : callF H (ioP 0 as vs) a = H a := callF_out fun k z => by
      obtain ⟨z1, _⟩ := io k a z
      have h : S a = some x := h
      rw [z1] at h
      cases h
    show callF H (ioP 0 as vs) a = some x
    rw [this]
    exact o.st a x h
  · have h1 : callF H (ioP 0 as vs) a = none := h1
    rw [callF_out h2] at h1
    exact h1
  · obtain ⟨_, _, z, _⟩ := io k a h
    exact z
  · obtain ⟨m, x, e, h1, h2, h3⟩ := mem_ioP.mp h
    have : k = m := by omega
    subst this
    rw [List.getElem?_map, h1]
    cases x with
    | sh _ => cases h2
    | bo _ => cases h2
    | be _ => cases h2
    | io i => rfl
    | tm m => rfl
  · obtain ⟨_, _, _, v1, z⟩ := io k a h
    obtain ⟨_, _, _, v2, y⟩ := io k' a h'
    rcases z with ⟨i, d, z1, z2, z3⟩ | ⟨m, d, z1, w⟩
    · exact ioIx_one hn z1 (meet i k' a d h' z3 z2)
    · rcases y with ⟨i', d', y1, y2, y3⟩ | ⟨m', d', y1, w'⟩
      · exact ioIx_one hn (meet i' k a d' h y3 y2) y1
      · exact arv_tms hv z1 y1 v1 v2
  · obtain ⟨_, _, _, v1, _⟩ := io k a h
    obtain ⟨_, _, _, v2, _⟩ := io k b h'
    rw [v1] at v2
    cases v2
    rfl
  · obtain ⟨_, z, _⟩ := io k a h
    exact z
  · have := hb i hi
    simp only [Bool.not_eq_true', List.contains_eq_mem, decide_eq_false_iff_not] at this
    exact this (ioIx_mem.mpr ⟨k, meet i k a d h h1 h2⟩)
  · -- behind the call
    have s : Same S S' := af.s
    have fr : ∀ a, (∀ k, (k, a) ∉ ioP 0 as vs) → ∀ x, H a = some x → H' a = some x := fun a h x e => af.fr a x (by show callF H (ioP 0 as vs) a = some x; rw [callF_out h]; exact e)
    have nw : ∀ a x, S' a = some x → S a = some x ∨ (H a = none ∧ ∀ k, (k, a) ∉ ioP 0 as vs) := fun a x e => by
      rcases af.new a x e with h | ⟨h1, h2⟩
      · exact .inl h
      · refine .inr ⟨?_, h2⟩
        have h1 : callF H (ioP 0 as vs) a = none := h1
        rw [callF_out h2] at h1
        exact h1
    have own_s : ∀ a, S a = none → H a ≠ none → S' a = none := fun a h1 h2 => by
      cases q : S' a with
      | none => rfl
      | some x =>
        rcases nw a x q with h | ⟨h, _⟩
        · rw [h1] at h; cases h
        · exact absurd h h2
    -- an own slot that is not handed out
    have kept : ∀ (j : Nat) (a : Addr) (d : D), Mir.ownAt env j = some d → σ[j]? = some (some (.ref a)) → j ∉ ioIx as → ∀ k, (k, a) ∉ ioP 0 as vs := fun j a d h1 h2 h3 k h => h3 (ioIx_mem.mpr ⟨k, meet j k a d h h1 h2⟩)
    -- a slot that is handed out
    have pair : ∀ (j k : Nat), as[k]? = some (.io j) → ∃ a, (k, a) ∈ ioP 0 as vs ∧ σ[j]? = some (some (.ref a)) := fun j k hk => by
      obtain ⟨d0, h3, _⟩ := fill_io hf hk
      obtain ⟨a, k1, _⟩ := o.ownAt h3
      obtain ⟨v, h5, h6⟩ := arv_io hv hk
      rw [k1] at h6
      cases h6
      exact ⟨a, mem_ioP.mpr ⟨k, _, by omega, hk, rfl, h5⟩, k1⟩
    have tr : ∀ a, H a ≠ none → H' a ≠ none := fun a h => by
      by_cases z : ∃ k, (k, a) ∈ ioP 0 as vs
      · obtain ⟨k, z⟩ := z
        obtain ⟨_, d, _, q⟩ := af.io k a z
        exact q.ne
      · cases q : H a with
        | none => exact absurd q h
        | some x => rw [fr a (fun k y => z ⟨k, y⟩) x q]; simp
    have bk : ∀ (j : Nat) (s : Sl), (back as ds2 env)[j]? = some s → (j ∉ ioIx as ∧ env[j]? = some s) ∨ ∃ k a d s0, as[k]? = some (.io j) ∧ (k, a) ∈ ioP 0 as vs ∧ ds2[k]? = some d ∧ env[j]? = some s0 ∧ s = reOwn d s0 ∧ S' a = none ∧ ObD K S' H' a d ∧ σ[j]? = some (some (.ref a)) := fun j s h => by
      by_cases hj : j ∈ ioIx as
      · obtain ⟨k, hk⟩ := ioIx_mem.mp hj
        obtain ⟨a, hm, k1⟩ := pair j k hk
        obtain ⟨q1, d, q2, q3⟩ := af.io k a hm
        rw [back_at hn hk q2] at h
        cases z : env[j]? with
        | none => rw [z] at h; cases h
        | some s0 =>
          rw [z] at h
          cases h
          exact .inr ⟨k, a, d, s0, hk, hm, q2, rfl, rfl, q1, q3, k1⟩
      · rw [back_out hj] at h
        exact .inl ⟨hj, h⟩
    have owS : ∀ (j : Nat) (d : D), (back as ds2 env)[j]? = some (.ow d) → ∃ d0, env[j]? = some (.ow d0) := fun j d h => by
      rcases bk j _ h with ⟨_, h2⟩ | ⟨k, a, d1, s0, _, _, _, h4, h5, _⟩
      · exact ⟨d, h2⟩
      · cases s0 with
        | ow x => exact ⟨x, h4⟩
        | io x => cases h5
        | no => cases h5
        | sh x => cases h5
        | bo x => cases h5
        | pn x => cases h5
    refine ⟨s, ⟨fun a x h => ?_, o.bf, af.st, o.s0.trans s, fun a x h => ?_, fun i a hi => ⟨(o.iot i a hi).1, tr a (o.iot i a hi).2⟩, fun i a hi => ?_, o.inj, o.one, by rw [back_len, o.len], fun j t ht => ?_, fun i j a d d' h1 h2 h3 h4 => ?_⟩, fun a d h1 h2 h3 h4 => ⟨h1, ?_, fun i hi => ?_, h4, fun j d' hj hz => ?_⟩⟩
    · refine fr a (fun k z => ?_) x (o.fr a x h)
      obtain ⟨_, z1, _⟩ := io k a z
      rw [z1] at h
      cases h
    · rcases nw a x h with h | ⟨h, _⟩
      · exact o.new a x h
      · exact .inr (o.f_none h)
    · obtain ⟨d, e⟩ := o.ioe i a hi
      by_cases hj : i ∈ ioIx as
      · obtain ⟨k, hk⟩ := ioIx_mem.mp hj
        obtain ⟨b, hm, k1⟩ := pair i k hk
        obtain ⟨q1, d1, q2, q3⟩ := af.io k b hm
        exact ⟨d1, by rw [back_at hn hk q2, e]; rfl⟩
      · exact ⟨d, by rw [back_out hj]; exact e⟩
    · rcases bk j t ht with ⟨hj, h2⟩ | ⟨k, a, d, s0, hk, hm, h3, h4, rfl, h6, h7, h8⟩
      · have z := o.slot j t h2
        cases t with
        | no => trivial
        | sh d => obtain ⟨v, k1, k2⟩ := z; exact ⟨v, k1, k2.mono s⟩
        | ow d =>
          obtain ⟨b, k1, k2, k3, k4, k5⟩ := z
          have nk := kept j b d (by unfold Mir.ownAt; rw [h2]) k1 hj
          refine ⟨b, k1, own_s b k2 k5.ne, k3, k4, k5.mono s ?_⟩
          cases q : H b with
          | none => exact absurd q k5.ne
          | some x => exact fr b nk x q
        | io d =>
          obtain ⟨b, k1, k2, k3, k5⟩ := z
          have nk := kept j b d (by unfold Mir.ownAt; rw [h2]) k1 hj
          refine ⟨b, k1, own_s b k2 k5.ne, k3, k5.mono s ?_⟩
          cases q : H b with
          | none => exact absurd q k5.ne
          | some x => exact fr b nk x q
        | bo d => obtain ⟨v, k1, k2⟩ := z; exact ⟨v, k1, k2.mono s⟩
        | pn v => exact z
      · have z := o.slot j s0 h4
        cases s0 with
        | no => trivial
        | sh d => obtain ⟨v, k1, k2⟩ := z; exact ⟨v, k1, k2.mono s⟩
        | ow d =>
          obtain ⟨b, k1, k2, k3, k4, k5⟩ := z
          rw [h8] at k1
          cases k1
          exact ⟨a, h8, h6, k3, k4, h7⟩
        | io d =>
          obtain ⟨b, k1, k2, k3, k5⟩ := z
          rw [h8] at k1
          cases k1
          exact ⟨a, h8, h6, k3, h7⟩
        | bo d => obtain ⟨v, k1, k2⟩ := z; exact ⟨v, k1, k2.mono s⟩
        | pn v => exact z
    · obtain ⟨x, e1⟩ := owS i d h1
      obtain ⟨y, e2⟩ := owS j d' h2
      exact o.sep i j a x y e1 e2 h3 h4
    · have hH : H a = none := by
        have h2 : callF H (ioP 0 as vs) a = none := h2
        rw [callF_out h3] at h2
        exact h2
      exact (o.f_none hH).1
    · have hH : H a = none := by
        have h2 : callF H (ioP 0 as vs) a = none := h2
        rw [callF_out h3] at h2
        exact h2
      exact (o.f_none hH).2 i hi
    · have hH : H a = none := by
        have h2 : callF H (ioP 0 as vs) a = none := h2
        rw [callF_out h3] at h2
        exact h2
      obtain ⟨x, e1⟩ := owS j d' hj
      obtain ⟨b, k1, _, _, _, k5⟩ := o.slot j _ e1
      rw [hz] at k1
      cases k1
      exact k5.ne hH
end
section
variable {ι : Type} {X : ι → Cx} {K : PySem.W.Frag} {W : WX} {e a b c : Expr} {es : List Expr} {pos p : Pos}
theorem call_post {own : Bool} {as : List Ar} {f : List D → FR} {g : G} {S H : Hp} {σ : L2.St} {env : En} {vs : List V} {ds : List D} {Q : VK} (o : Ok K g S σ H env) (hv : ArV K S σ H env g as vs ds) (rel : Hp → Hp → En → V → D → Prop)
    (hrel : ∀ S' H' env' v d, rel S' H' env' v d ↔ (if own = true then ∃ a, v = .ref a ∧ Own K g S' σ H' env' a d else RepD K S' v d))
    (q : Post K g S σ W rel Q ((fun env => if okIx as = true then match fill env as ds with
      | some ds1 => match f ds1 with
        | .ok r ds2 => R.ok r (back as ds2 env)
        | .rs x ds2 => R.rs x (back as ds2 env)
        | .no => R.no
      | none => R.no
    else R.no) env)) : spOf K own (as.map Ar.md) f (vs ++ []) H Q (WE W σ) := by
  rw [List.append_nil]
  split at q
  · rename_i hx
    dsimp only at q
    cases z : fill env as ds with
    | none => rw [z] at q; exact q.elim
    | some ds1 =>
      rw [z] at q
      dsimp only at q
      obtain ⟨g', go, ao, af⟩ := call_core o hv hx z
      refine ⟨g', ds1, go, ao, ?_⟩
      cases y : f ds1 with
      | no => rw [y] at q; exact q.elim
      | rs x ds2 =>
        rw [y] at q
        intro S' H' d h r
        obtain ⟨h1, h2, _⟩ := af ds2 S' H' h
        exact q S' H' d h1 h2 r
      | ok r ds2 =>
        rw [y] at q
        intro S' H' v h hr
        obtain ⟨h1, h2, h3⟩ := af ds2 S' H' h
        refine q S' H' v h1 h2 ((hrel _ _ _ _ _).mpr ?_)
        cases own with
        | false => rw [if_neg Bool.false_ne_true]; exact hr
        | true =>
          rw [if_pos rfl]
          obtain ⟨b, rfl, k1, k2, k3, k4⟩ := hr
          exact ⟨b, rfl, h3 b r k1 k2 k3 k4⟩
  · exact q.elim
theorem se_call {x : Str} {k : Nat} {f : Addr} {fd : FuncData} {ps : List Str} {fn : List D → FR} {ms : List Md} {as : List Ar} (F : ∀ i, FnOk (X i).prog (X i).w (X i).K (X i).mg (X i).base (L2.CX (X i).prog (X i).w) k f fd ps (spOf K false ms fn)) (hr : ∀ i, Room k (X i).A) (hm : ∀ i, (X i).mg x = some (.ref f)) (hk : ∀ i, PySem.W.keepIn (X i).K (.ref f) = true) (hb : ∀ i, Binds (X i).K fd ps [])
    (tk : ∀ i, Takes (X i) W) (ha : SAr K X W (e :: es) as) (hms : as.map Ar.md = ms := by rfl) (hg : ∀ i, Gl (X i) x := by intro _; rfl) (hdb : (x == ("__debug__" : Str)) = false := by decide) (he : ∀ i, starEach (e :: es) (X i).env = (false, eval e (X i).env) :: starEach es (X i).env := by intro _; rfl)
    (hpl : ∀ i, (backTo pos (starEach es (X i).env)).any (·.1) = false := by intro _; rfl) : SE K X W (.Call (.Name x p) (e :: es) [] pos) (mCall as fn) := by
  obtain ⟨t, p1, q1⟩ := ha
  subst hms
  refine ⟨_, fun i => pe_callSD (F i) (hr i) (hg i) (hm i) (hk i) (hb i) .nil (fun σ => passAt (tk i) σ) (p1 i) hdb (he i) (hpl i), fun g S σ H env Q o q => ?_⟩
  refine q1 g S σ H env _ o (q.bind fun ds e1 S1 H1 vs hx s1 o1 r1 q1 => ?_)
  exact call_post (own := false) o1 r1 (relE K) (fun _ _ _ _ _ => by rw [if_neg Bool.false_ne_true]) q1
theorem so_call {x : Str} {k : Nat} {f : Addr} {fd : FuncData} {ps : List Str} {fn : List D → FR} {ms : List Md} {as : List Ar} (F : ∀ i, FnOk (X i).prog (X i).w (X i).K (X i).mg (X i).base (L2.CX (X i).prog (X i).w) k f fd ps (spOf K true ms fn)) (hr : ∀ i, Room k (X i).A) (hm : ∀ i, (X i).mg x = some (.ref f)) (hk : ∀ i, PySem.W.keepIn (X i).K (.ref f) = true) (hb : ∀ i, Binds (X i).K fd ps [])
    (tk : ∀ i, Takes (X i) W) (ha : SAr K X W (e :: es) as) (hms : as.map Ar.md = ms := by rfl) (hg : ∀ i, Gl (X i) x := by intro _; rfl) (hdb : (x == ("__debug__" : Str)) = false := by decide) (he : ∀ i, starEach (e :: es) (X i).env = (false, eval e (X i).env) :: starEach es (X i).env := by intro _; rfl)
    (hpl : ∀ i, (backTo pos (starEach es (X i).env)).any (·.1) = false := by intro _; rfl) : SO K X W (.Call (.Name x p) (e :: es) [] pos) (mCall as fn) := by
  obtain ⟨t, p1, q1⟩ := ha
  subst hms
  refine ⟨_, fun i => pe_callSD (F i) (hr i) (hg i) (hm i) (hk i) (hb i) .nil (fun σ => passAt (tk i) σ) (p1 i) hdb (he i) (hpl i), fun g S σ H env Q o q => ?_⟩
  refine q1 g S σ H env _ o (q.bind fun ds e1 S1 H1 vs hx s1 o1 r1 q1 => ?_)
  exact call_post (own := true) o1 r1 (relO K g σ) (fun _ _ _ _ _ => by rw [if_pos rfl]) q1
end
end Mir
namespace Mir
open PySem PySem.Spec PyProof.Rows L2
section
variable {ι : Type} {X : ι → Cx} {K : PySem.W.Frag} {W : WX} {e a b c : Expr} {es : List Expr} {pos p : Pos}
/-! ### + of whatever -/
def addL : D → D → Option D
  | .lst xs, .lst ys => few (xs.length + ys.length) (.lst (xs ++ ys))
  | _, _ => none
theorem od_addL (hK : ∀ i, (X i).K = K := by intro _; rfl) : OD K X (binaryOp .Add) addL := by
  refine ⟨_, fun i => hK i ▸ op_catL, fun g S σ H env x y d1 d2 d Q ok r1 r2 e q => ?_⟩
  unfold addL at e
  split at e
  · rename_i xs ys
    obtain ⟨hl, rfl⟩ := few_line e
    cases r1 with
    | lst h1 k1 =>
      cases r2 with
      | lst h2 k2 =>
        refine ⟨_, _, _, _, rfl, rfl, Same.seq ok.st h1, Same.seq ok.st h2, by rw [k1.length, k2.length]; exact hl, fun p hp => ?_⟩
        exact q _ _ _ (same_upd' (ok.s_none hp)) (ok.fresh hp) (.lst (.inl (.inl upd_same)) ((k1.append k2).mono (same_upd' (ok.s_none hp))))
  · cases e
def addA : D → D → Option D
  | .int i, .int j => some (.int (i + j))
  | .str x, .str y => addS (.str x) (.str y)
  | .tup x, .tup y => addT (.tup x) (.tup y)
  | .lst x, .lst y => addL (.lst x) (.lst y)
  | _, _ => none
theorem OD.imp {f : Value → Value → Sem Value} {o o' : D → D → Option D} (h : OD K X f o) (w : ∀ x y d, o' x y = some d → o x y = some d) : OD K X f o' := by
  obtain ⟨r, h1, h2⟩ := h
  exact ⟨r, h1, fun g S σ H env x y d1 d2 d Q ok r1 r2 e q => h2 g S σ H env x y d1 d2 d Q ok r1 r2 (w _ _ _ e) q⟩
theorem od_add (hK : ∀ i, (X i).K = K := by intro _; rfl) : OD K X (binaryOp .Add) addA :=
  (OD.or od_addI (OD.or od_addS (OD.or (od_addT hK) (od_addL hK)))).imp fun x y d h => by
    cases x <;> cases y <;> simp only [addA] at h <;> first | (cases h; done) | (simp [iOp, addI, addS, addT, addL] at h ⊢; exact h)
def rU' (g : Int → V) : V → Hp → VK → Prop := rU g
def negD : D → Option D
  | .int i => some (.int (-i))
  | _ => none
def mNeg (m : M D) : M D := bnd m fun d => lft (negD d)
theorem se_neg {m : M D} (ha : SE K X W a m) : SE K X W (.UnaryOp .USub a pos) (mNeg m) := by
  obtain ⟨t, p1, q1⟩ := ha
  refine ⟨_, fun i => pe_un un_neg (p1 i), fun g S σ H env Q o q => ?_⟩
  refine q1 g S σ H env _ o (q.bind fun x e1 S1 H1 v hx s1 o1 r1 q1 => ?_)
  obtain ⟨d, e, q2⟩ := q1.lift
  cases x with
  | int i =>
    cases e
    have := rep_int r1
    subst this
    exact ⟨i, rfl, q2 S1 H1 _ (Same.refl _) o1 (.int _)⟩
  | _ => cases e
/-! ### chains of two comparisons -/
def mChain (o o' : D → D → Option D) (ma mb mc : M D) : M D := bnd ma fun x => bnd mb fun y => bnd (lft ((o x y).bind asB)) fun k => if k = true then bnd mc fun z => lft (o' y z) else ret (.bl false)
theorem chain_core {o o' : D → D → Option D} {r r' : R2} {ma mb mc : M D} {ta tb tc : TE} {g : G} {S H : Hp} {σ : L2.St} {env : En} {Q : VK} (h2 : ∀ g S σ H env x y d1 d2 d Q, Ok K g S σ H env → RepD K S x d1 → RepD K S y d2 → o d1 d2 = some d → (∀ S' H' v, Same S S' → Ok K g S' σ H' env → RepD K S' v d → Q v H') → r x y H Q)
    (h3 : ∀ g S σ H env x y d1 d2 d Q, Ok K g S σ H env → RepD K S x d1 → RepD K S y d2 → o' d1 d2 = some d → (∀ S' H' v, Same S S' → Ok K g S' σ H' env → RepD K S' v d → Q v H') → r' x y H Q)
    (qa : ∀ g S σ H env Q, Ok K g S σ H env → Post K g S σ W (relE K) Q (ma env) → ta σ H Q) (qb : ∀ g S σ H env Q, Ok K g S σ H env → Post K g S σ W (relE K) Q (mb env) → tb σ H Q) (qc : ∀ g S σ H env Q, Ok K g S σ H env → Post K g S σ W (relE K) Q (mc env) → tc σ H Q)
    (ok : Ok K g S σ H env) (q : Post K g S σ W (relE K) Q (mChain o o' ma mb mc env)) : tChain r r' ta tb tc σ H Q := by
  refine qa g S σ H env _ ok (q.bind fun x e1 S1 H1 v _ s1 o1 r1 q1 => ?_)
  refine qb g S1 σ H1 e1 _ o1 (q1.bind fun y e2 S2 H2 w _ s2 o2 r2 q2 => ?_)
  cases z : o x y with
  | none => rw [z] at q2; exact q2.elim
  | some d =>
    rw [z] at q2
    refine h2 g S2 σ H2 e2 v w x y d _ o2 (r1.mono s2) r2 z fun S3 H3 u s3 o3 r3 => ?_
    cases y1 : asB d with
    | none => simp only [Option.bind_some, y1] at q2; exact q2.elim
    | some k =>
      have := asB_eq y1
      subst this
      simp only [Option.bind_some, y1] at q2
      rw [bnd_ok lft_some] at q2
      refine ⟨k, rep_bl r3, ?_⟩
      have q2 := q2.at s3
      cases k with
      | false =>
        rw [if_neg Bool.false_ne_true] at q2 ⊢
        exact q2 S3 H3 _ (Same.refl _) o3 (.bl _)
      | true =>
        rw [if_pos rfl] at q2 ⊢
        refine qc g S3 σ H3 e2 _ o3 (q2.bind fun z e4 S4 H4 w4 _ s4 o4 r4 q4 => ?_)
        obtain ⟨d5, e5, q5⟩ := q4.lift
        exact h3 g S4 σ H4 e4 w w4 y z d5 _ o4 ((r2.mono s3).mono s4) r4 e5 q5
theorem se_chain {op op' : CmpOp} {o o' : D → D → Option D} {ma mb mc : M D} (ho : OD K X (compareOp op) o) (ho' : OD K X (compareOp op') o') (ha : SE K X W a ma) (hb : SE K X W b mb) (hc : SE K X W c mc) (hm : lastMarks [op, op'] [b, c] = false := by with_unfolding_all rfl) :
    SE K X W (.Compare a [op, op'] [b, c] pos) (mChain o o' ma mb mc) := by
  obtain ⟨r, h1, h2⟩ := ho
  obtain ⟨r', h1', h2'⟩ := ho'
  obtain ⟨ta, pa, qa⟩ := ha
  obtain ⟨tb, pb, qb⟩ := hb
  obtain ⟨tc, pc, qc⟩ := hc
  exact ⟨_, fun i => pe_chain (h1 i) (h1' i) (pa i) (pb i) (pc i) hm, fun g S σ H env Q ok q => chain_core h2 h2' qa qb qc ok q⟩
theorem st_chain {op op' : CmpOp} {o o' : D → D → Option D} {ma mb mc : M D} (ho : OD K X (compareOp op) o) (ho' : OD K X (compareOp op') o') (ha : SE K X W a ma) (hb : SE K X W b mb) (hc : SE K X W c mc) (hm : lastMarks [op, op'] [b, c] = false := by with_unfolding_all rfl) :
    ST K X W (.Compare a [op, op'] [b, c] pos) (mB (mChain o o' ma mb mc)) := by
  obtain ⟨r, h1, h2⟩ := ho
  obtain ⟨r', h1', h2'⟩ := ho'
  obtain ⟨ta, pa, qa⟩ := ha
  obtain ⟨tb, pb, qb⟩ := hb
  obtain ⟨tc, pc, qc⟩ := hc
  refine ⟨_, fun i => pt_chain (h1 i) (h1' i) (pa i) (pb i) (pc i) hm, fun g S σ H env Q ok q => chain_core h2 h2' qa qb qc ok (q.bind fun x e1 S1 H1 v _ s1 o1 r1 q1 => ?_)⟩
  obtain ⟨k, e, q2⟩ := q1.lift
  have := asB_eq e
  subst this
  exact ⟨k, rep_bl r1, q2 S1 H1 k (Same.refl _) o1 rfl⟩
/-! ### a list or a tuple, walked -/
theorem pi_or {X : Cx} {tg it : Expr} {w1 w2 : TI} (h1 : PI X tg it w1) (h2 : PI X tg it w2) : PI X tg it (fun σ H R => w1 σ H R ∨ w2 σ H R) := ⟨fun pins s σ H R I h => by
  rcases h with h | h
  · exact h1.run pins s σ H R I h
  · exact h2.run pins s σ H R I h⟩
def seqD : D → Option (List D)
  | .lst ds => some ds
  | .tup ds => some ds
  | _ => none
theorem si_seq {tg : Expr} {m : M D} (h : SE K X W e m) (hK : ∀ i, (X i).K = K := by intro _; rfl) : SI K X W tg e (bnd m fun d => lft (seqD d)) := by
  obtain ⟨w1, p1, q1⟩ := si_list (tg := tg) h hK
  obtain ⟨w2, p2, q2⟩ := si_tup (tg := tg) h hK
  refine ⟨_, fun i => pi_or (p1 i) (p2 i), fun g S σ H env R o q => ?_⟩
  cases z : m env with
  | ok d e1 =>
    have e0 : (bnd m fun d => lft (seqD d)) env = lft (seqD d) e1 := bnd_ok z
    rw [e0] at q
    cases d with
    | lst ds => exact .inl (q1 g S σ H env R o (by rw [bnd_ok z]; exact q))
    | tup ds => exact .inr (q2 g S σ H env R o (by rw [bnd_ok z]; exact q))
    | _ => exact q.elim
  | rs x e1 =>
    refine .inl (q1 g S σ H env R o ?_)
    unfold bnd at q ⊢
    rw [z] at q ⊢
    exact q
  | no =>
    refine .inl (q1 g S σ H env R o ?_)
    unfold bnd at q ⊢
    rw [z] at q ⊢
    exact q
end
/-! ### the end: the law's own call -/
theorem law_sp {K : PySem.W.Frag} {f : List D → FR} {ns : List Int} {H : Hp} {a : Addr} {ds : List D} (h : f [.lst (ns.map D.int)] = .ok (.bl true) ds) (hS : SqL K H a (ns.map V.int)) :
    spOf K false [.sh] f [.ref a] H (fun v _ => v = .bl true) fun _ _ _ => False := by
  refine ⟨⟨H, H, H, []⟩, [.lst (ns.map D.int)], ⟨fun _ _ h => h, fun _ _ h => h, fun _ _ h => h, fun _ h _ => h, fun i b h => (nomatch h), fun i b h => (nomatch h), fun i j b h => (nomatch h), fun i b c h => (nomatch h)⟩, .cons (.lst hS ?_) .nil, ?_⟩
  · clear h hS
    induction ns with
    | nil => exact .nil
    | cons n r ih => exact .cons (.int n) ih
  · rw [h]
    exact fun S' H' v _ r => rep_bl r
theorem law_cx {P : Program} {w : World} {H : Hp} {s : Shared} {e : Value} {s' : Shared} (h : L2.CX P w [] H s (fun _ _ _ => False) e s') : False := by
  obtain ⟨_, _, _, _, _, _, _, _, _, _, _, _, z⟩ := h
  exact z
end Mir
/-! What the mirror's pieces come to, in plain terms. -/
namespace Mir
open PySem PySem.Spec PyProof.Rows L2
theorem modI_pos {i j : Int} (h : 0 < j) : modI i j = some (.int (i % j)) := if_pos h
theorem divI_pos {i j : Int} (h : 0 < j) (h2 : j.natAbs.log2 < 9000) : divI i j = some (.int (i / j)) := if_pos ⟨h, h2⟩
theorem log2_lt {n k : Nat} (hk : 0 < k) (h : n < 2 ^ k) : n.log2 < k := PySem.Flt.log2_lt_of hk h
theorem mulI_ok {i j : Int} {a b : Nat} (ha : i.natAbs < 2 ^ a) (hb : j.natAbs < 2 ^ b) (h0 : 0 < a) (h1 : 0 < b) (h : a + b ≤ 1000000) : mulI i j = some (.int (i * j)) := if_pos (wide_mul ha hb h0 h1 h)
theorem powI_ok {i j : Int} (h : 0 ≤ j ∧ j ≤ 1000000 ∧ i.natAbs < 2 ^ 64) : powI i j = some (.int (i ^ j.toNat)) := if_pos h
theorem few_ok {α : Type} {n : Nat} {a : α} (h : n ≤ 1000000) : few n a = some a := if_pos h
theorem atI_of {α : Type} {xs : List α} {i : Int} {j : Nat} {v : α} (e : i = (j : Int)) (h : xs[j]? = some v) : atI xs i = some v := by rw [e]; exact atI_nat h
theorem ixN_of {n : Nat} {i : Int} {j : Nat} (e : i = (j : Int)) (h : j < n) : ixN n i = some j := by
  subst e
  unfold ixN
  rw [if_pos (by omega), if_pos (by omega)]
  simp
theorem run_seq {m1 m2 : M Out} {env e : En} {r : R Out} (h1 : m1 env = .ok .nx e) (h2 : m2 e = r) : mSeq m1 m2 env = r := by
  unfold mSeq
  rw [h1]
  exact h2
theorem run_rt {m1 m2 : M Out} {env e : En} {d : D} (h1 : m1 env = .ok (.rt d) e) : mSeq m1 m2 env = .ok (.rt d) e := by
  unfold mSeq
  rw [h1]
theorem run_ro {m1 m2 : M Out} {env e : En} {d : D} (h1 : m1 env = .ok (.ro d) e) : mSeq m1 m2 env = .ok (.ro d) e := by
  unfold mSeq
  rw [h1]
theorem runF_rt {n : Nat} {ms : List Md} {m : M Out} {ds : List D} {d : D} {e : En} (h : m (startE n ms ds) = .ok (.rt d) e) : runF false n ms m ds = .ok d (e.map cont) := by
  unfold runF
  rw [h]
  rfl
theorem runF_ro {own : Bool} {n : Nat} {ms : List Md} {m : M Out} {ds : List D} {d : D} {e : En} (h : m (startE n ms ds) = .ok (.ro d) e) : runF own n ms m ds = .ok d (e.map cont) := by
  unfold runF
  rw [h]
theorem back_none : ∀ {as : List Ar} {ds : List D} {env : En}, ioIx as = [] → back as ds env = env
  | [], _, _, _ => by unfold back; rfl
  | .sh _ :: as, [], _, _ => rfl
  | .tm _ :: as, [], _, _ => rfl
  | .be _ :: as, [], _, _ => rfl
  | .bo _ :: as, [], _, _ => rfl
  | .sh _ :: as, _ :: _, _, h => back_none (as := as) h
  | .tm _ :: as, _ :: _, _, h => back_none (as := as) h
  | .be _ :: as, _ :: _, _, h => back_none (as := as) h
  | .bo _ :: as, _ :: _, _, h => back_none (as := as) h
theorem back_s {ds : List D} {env : En} {x0 : M D} : back [Ar.sh x0] ds env = env := back_none rfl
theorem back_b {ds : List D} {env : En} {x0 : Nat} : back [Ar.bo x0] ds env = env := back_none rfl
theorem back_t {ds : List D} {env : En} {x0 : M D} : back [Ar.tm x0] ds env = env := back_none rfl
theorem back_e {ds : List D} {env : En} {x0 : M D} : back [Ar.be x0] ds env = env := back_none rfl
theorem back_ss {ds : List D} {env : En} {x0 : M D} {x1 : M D} : back [Ar.sh x0, Ar.sh x1] ds env = env := back_none rfl
theorem back_sb {ds : List D} {env : En} {x0 : M D} {x1 : Nat} : back [Ar.sh x0, Ar.bo x1] ds env = env := back_none rfl
theorem back_st {ds : List D} {env : En} {x0 : M D} {x1 : M D} : back [Ar.sh x0, Ar.tm x1] ds env = env := back_none rfl
theorem back_se {ds : List D} {env : En} {x0 : M D} {x1 : M D} : back [Ar.sh x0, Ar.be x1] ds env = env := back_none rfl
theorem back_bs {ds : List D} {env : En} {x0 : Nat} {x1 : M D} : back [Ar.bo x0, Ar.sh x1] ds env = env := back_none rfl
theorem back_bb {ds : List D} {env : En} {x0 : Nat} {x1 : Nat} : back [Ar.bo x0, Ar.bo x1] ds env = env := back_none rfl
theorem back_bt {ds : List D} {env : En} {x0 : Nat} {x1 : M D} : back [Ar.bo x0, Ar.tm x1] ds env = env := back_none rfl
theorem back_be {ds : List D} {env : En} {x0 : Nat} {x1 : M D} : back [Ar.bo x0, Ar.be x1] ds env = env := back_none rfl
theorem back_ts {ds : List D} {env : En} {x0 : M D} {x1 : M D} : back [Ar.tm x0, Ar.sh x1] ds env = env := back_none rfl
theorem back_tb {ds : List D} {env : En} {x0 : M D} {x1 : Nat} : back [Ar.tm x0, Ar.bo x1] ds env = env := back_none rfl
theorem back_tt {ds : List D} {env : En} {x0 : M D} {x1 : M D} : back [Ar.tm x0, Ar.tm x1] ds env = env := back_none rfl
theorem back_te {ds : List D} {env : En} {x0 : M D} {x1 : M D} : back [Ar.tm x0, Ar.be x1] ds env = env := back_none rfl
theorem back_es {ds : List D} {env : En} {x0 : M D} {x1 : M D} : back [Ar.be x0, Ar.sh x1] ds env = env := back_none rfl
theorem back_eb {ds : List D} {env : En} {x0 : M D} {x1 : Nat} : back [Ar.be x0, Ar.bo x1] ds env = env := back_none rfl
theorem back_et {ds : List D} {env : En} {x0 : M D} {x1 : M D} : back [Ar.be x0, Ar.tm x1] ds env = env := back_none rfl
theorem back_ee {ds : List D} {env : En} {x0 : M D} {x1 : M D} : back [Ar.be x0, Ar.be x1] ds env = env := back_none rfl
theorem back_sss {ds : List D} {env : En} {x0 : M D} {x1 : M D} {x2 : M D} : back [Ar.sh x0, Ar.sh x1, Ar.sh x2] ds env = env := back_none rfl
theorem back_ssb {ds : List D} {env : En} {x0 : M D} {x1 : M D} {x2 : Nat} : back [Ar.sh x0, Ar.sh x1, Ar.bo x2] ds env = env := back_none rfl
theorem back_sst {ds : List D} {env : En} {x0 : M D} {x1 : M D} {x2 : M D} : back [Ar.sh x0, Ar.sh x1, Ar.tm x2] ds env = env := back_none rfl
theorem back_sbs {ds : List D} {env : En} {x0 : M D} {x1 : Nat} {x2 : M D} : back [Ar.sh x0, Ar.bo x1, Ar.sh x2] ds env = env := back_none rfl
theorem back_sbb {ds : List D} {env : En} {x0 : M D} {x1 : Nat} {x2 : Nat} : back [Ar.sh x0, Ar.bo x1, Ar.bo x2] ds env = env := back_none rfl
theorem back_sbt {ds : List D} {env : En} {x0 : M D} {x1 : Nat} {x2 : M D} : back [Ar.sh x0, Ar.bo x1, Ar.tm x2] ds env = env := back_none rfl
theorem back_sts {ds : List D} {env : En} {x0 : M D} {x1 : M D} {x2 : M D} : back [Ar.sh x0, Ar.tm x1, Ar.sh x2] ds env = env := back_none rfl
theorem back_stb {ds : List D} {env : En} {x0 : M D} {x1 : M D} {x2 : Nat} : back [Ar.sh x0, Ar.tm x1, Ar.bo x2] ds env = env := back_none rfl
theorem back_stt {ds : List D} {env : En} {x0 : M D} {x1 : M D} {x2 : M D} : back [Ar.sh x0, Ar.tm x1, Ar.tm x2] ds env = env := back_none rfl
theorem back_bss {ds : List D} {env : En} {x0 : Nat} {x1 : M D} {x2 : M D} : back [Ar.bo x0, Ar.sh x1, Ar.sh x2] ds env = env := back_none rfl
theorem back_bsb {ds : List D} {env : En} {x0 : Nat} {x1 : M D} {x2 : Nat} : back [Ar.bo x0, Ar.sh x1, Ar.bo x2] ds env = env := back_none rfl
theorem back_bst {ds : List D} {env : En} {x0 : Nat} {x1 : M D} {x2 : M D} : back [Ar.bo x0, Ar.sh x1, Ar.tm x2] ds env = env := back_none rfl
theorem back_bbs {ds : List D} {env : En} {x0 : Nat} {x1 : Nat} {x2 : M D} : back [Ar.bo x0, Ar.bo x1, Ar.sh x2] ds env = env := back_none rfl
theorem back_bbb {ds : List D} {env : En} {x0 : Nat} {x1 : Nat} {x2 : Nat} : back [Ar.bo x0, Ar.bo x1, Ar.bo x2] ds env = env := back_none rfl
theorem back_bbt {ds : List D} {env : En} {x0 : Nat} {x1 : Nat} {x2 : M D} : back [Ar.bo x0, Ar.bo x1, Ar.tm x2] ds env = env := back_none rfl
theorem back_bts {ds : List D} {env : En} {x0 : Nat} {x1 : M D} {x2 : M D} : back [Ar.bo x0, Ar.tm x1, Ar.sh x2] ds env = env := back_none rfl
theorem back_btb {ds : List D} {env : En} {x0 : Nat} {x1 : M D} {x2 : Nat} : back [Ar.bo x0, Ar.tm x1, Ar.bo x2] ds env = env := back_none rfl
theorem back_btt {ds : List D} {env : En} {x0 : Nat} {x1 : M D} {x2 : M D} : back [Ar.bo x0, Ar.tm x1, Ar.tm x2] ds env = env := back_none rfl
theorem back_tss {ds : List D} {env : En} {x0 : M D} {x1 : M D} {x2 : M D} : back [Ar.tm x0, Ar.sh x1, Ar.sh x2] ds env = env := back_none rfl
theorem back_tsb {ds : List D} {env : En} {x0 : M D} {x1 : M D} {x2 : Nat} : back [Ar.tm x0, Ar.sh x1, Ar.bo x2] ds env = env := back_none rfl
theorem back_tst {ds : List D} {env : En} {x0 : M D} {x1 : M D} {x2 : M D} : back [Ar.tm x0, Ar.sh x1, Ar.tm x2] ds env = env := back_none rfl
theorem back_tbs {ds : List D} {env : En} {x0 : M D} {x1 : Nat} {x2 : M D} : back [Ar.tm x0, Ar.bo x1, Ar.sh x2] ds env = env := back_none rfl
theorem back_tbb {ds : List D} {env : En} {x0 : M D} {x1 : Nat} {x2 : Nat} : back [Ar.tm x0, Ar.bo x1, Ar.bo x2] ds env = env := back_none rfl
theorem back_tbt {ds : List D} {env : En} {x0 : M D} {x1 : Nat} {x2 : M D} : back [Ar.tm x0, Ar.bo x1, Ar.tm x2] ds env = env := back_none rfl
theorem back_tts {ds : List D} {env : En} {x0 : M D} {x1 : M D} {x2 : M D} : back [Ar.tm x0, Ar.tm x1, Ar.sh x2] ds env = env := back_none rfl
theorem back_ttb {ds : List D} {env : En} {x0 : M D} {x1 : M D} {x2 : Nat} : back [Ar.tm x0, Ar.tm x1, Ar.bo x2] ds env = env := back_none rfl
theorem back_ttt {ds : List D} {env : En} {x0 : M D} {x1 : M D} {x2 : M D} : back [Ar.tm x0, Ar.tm x1, Ar.tm x2] ds env = env := back_none rfl
theorem back_ssss {ds : List D} {env : En} {x0 : M D} {x1 : M D} {x2 : M D} {x3 : M D} : back [Ar.sh x0, Ar.sh x1, Ar.sh x2, Ar.sh x3] ds env = env := back_none rfl
theorem back_sssss {ds : List D} {env : En} {x0 : M D} {x1 : M D} {x2 : M D} {x3 : M D} {x4 : M D} : back [Ar.sh x0, Ar.sh x1, Ar.sh x2, Ar.sh x3, Ar.sh x4] ds env = env := back_none rfl
theorem back_bsss {ds : List D} {env : En} {x0 : Nat} {x1 : M D} {x2 : M D} {x3 : M D} : back [Ar.bo x0, Ar.sh x1, Ar.sh x2, Ar.sh x3] ds env = env := back_none rfl
theorem atI_zero {α : Type} {x : α} {xs : List α} : atI (x :: xs) 0 = some x := atI_of (j := 0) rfl rfl
theorem atI_one {α : Type} {x y : α} {xs : List α} : atI (x :: y :: xs) 1 = some y := atI_of (j := 1) rfl rfl
theorem atI_two {α : Type} {x y z : α} {xs : List α} : atI (x :: y :: z :: xs) 2 = some z := atI_of (j := 2) rfl rfl
theorem atI_three {α : Type} {x y z w : α} {xs : List α} : atI (x :: y :: z :: w :: xs) 3 = some w := atI_of (j := 3) rfl rfl
theorem ixN_20 : ixN 2 0 = some 0 := rfl
theorem ixN_21 : ixN 2 1 = some 1 := rfl
theorem ixN_40 : ixN 4 0 = some 0 := rfl
theorem ixN_41 : ixN 4 1 = some 1 := rfl
theorem ixN_42 : ixN 4 2 = some 2 := rfl
theorem ixN_43 : ixN 4 3 = some 3 := rfl
theorem filterMap_at {f : D → Option D} : ∀ {ds ys : List D}, ds.length = ys.length → (∀ (i : Nat) (d : D), ds[i]? = some d → f d = ys[i]?) → ds.filterMap f = ys
  | [], [], _, _ => rfl
  | d :: ds, y :: ys, hl, h => by
    have h0 : f d = some y := h 0 d rfl
    rw [List.filterMap_cons, h0, filterMap_at (ds := ds) (ys := ys) (by simpa using hl) (fun i d' hd => by simpa using h (i + 1) d' (by simpa using hd))]
theorem toVs_ints : ∀ xs : List Int, toVs (xs.map D.int) = some (xs.map V.int)
  | [] => rfl
  | x :: r => by simp [toVs, toVs_ints r, toV]
theorem inV_ints (x : Int) : ∀ xs : List Int, inV (.int x) (xs.map V.int) = decide (x ∈ xs)
  | [] => rfl
  | y :: r => by
    have ih := inV_ints x r
    unfold inV at ih ⊢
    rw [List.map_cons, List.any_cons, ih]
    simp only [eqV]
    by_cases h : x = y
    · subst h; simp
    · have h' : ¬ y = x := fun e => h e.symm
      simp [h, h']
theorem inD_ints (x : Int) (xs : List Int) : inD (.int x) (xs.map D.int) = some (decide (x ∈ xs)) := by
  unfold inD
  rw [toVs_ints]
  simp only [toV]
  rw [inV_ints]
/-- a comprehension that leaves the slots -/
def PureC (b : Bd) (mt : M Bool) (me : M D) (vs : List Nat) (env : En) (d : D) (r : Option D) : Prop :=
  ∃ e1, b d env = some e1 ∧ ((r = none ∧ ∃ e2, mt e1 = .ok false e2 ∧ plains e2 vs = true ∧ clearE e2 vs = env) ∨ (∃ y, r = some y ∧ ∃ e2, mt e1 = .ok true e2 ∧ ∃ e3, me e2 = .ok y e3 ∧ plains e3 vs = true ∧ clearE e3 vs = env))
theorem PureC.keep {b : Bd} {mt : M Bool} {me : M D} {vs : List Nat} {env e1 : En} {d y : D} (h1 : b d env = some e1) (h2 : mt e1 = .ok true e1) (h3 : me e1 = .ok y e1) (h4 : plains e1 vs = true) (h5 : clearE e1 vs = env) : PureC b mt me vs env d (some y) := ⟨e1, h1, .inr ⟨y, rfl, e1, h2, e1, h3, h4, h5⟩⟩
theorem PureC.skip {b : Bd} {mt : M Bool} {me : M D} {vs : List Nat} {env e1 : En} {d : D} (h1 : b d env = some e1) (h2 : mt e1 = .ok false e1) (h4 : plains e1 vs = true) (h5 : clearE e1 vs = env) : PureC b mt me vs env d none := ⟨e1, h1, .inl ⟨rfl, e1, h2, h4, h5⟩⟩
theorem compL_pure {b : Bd} {mt : M Bool} {me : M D} {vs : List Nat} {env : En} {f : D → Option D} : ∀ (ds acc : List D), (∀ d ∈ ds, PureC b mt me vs env d (f d)) → acc.length + ds.length ≤ 1000000 → compL b mt me vs ds acc env = .ok (acc ++ ds.filterMap f) env
  | [], acc, _, _ => by simp [compL, ret]
  | d :: ds, acc, h, hl => by
    obtain ⟨e1, h1, h2⟩ := h d List.mem_cons_self
    have ih := fun acc' hl' => compL_pure ds acc' (fun x hx => h x (List.mem_cons_of_mem _ hx)) hl'
    rw [List.length_cons] at hl
    unfold compL
    rw [h1]
    simp only
    rcases h2 with ⟨hr, e2, h3, h4, h5⟩ | ⟨y, hr, e2, h3, e3, h4, h5, h6⟩
    · rw [h3]
      simp only
      rw [if_pos h4, h5, ih acc (by omega), List.filterMap_cons, hr]
    · rw [h3]
      simp only
      rw [h4]
      simp only
      rw [if_pos ⟨h5, by omega⟩, h6, ih (acc ++ [y]) (by rw [List.length_append, List.length_singleton]; omega), List.filterMap_cons, hr]
      simp
theorem mComp_pure {mi : M (List D)} {b : Bd} {mt : M Bool} {me : M D} {vs : List Nat} {env e1 : En} {ds : List D} {f : D → Option D} (hi : mi env = .ok ds e1) (hp : plains e1 vs = true) (h : ∀ d ∈ ds, PureC b mt me vs (clearE e1 vs) d (f d)) (hl : ds.length ≤ 1000000) :
    mComp mi b mt me vs env = .ok (.lst (ds.filterMap f)) (restE e1 (clearE e1 vs) vs) := by
  unfold mComp bnd
  rw [hi]
  simp only
  rw [if_pos hp, compL_pure ds [] h (by simpa using hl)]
  simp
/-- .. that changes what it keeps in its slots: the state before turn i -/
theorem compL_inv {b : Bd} {mt : M Bool} {me : M D} {vs : List Nat} (I : Nat → List D → En → Prop) : ∀ (ds : List D) (k : Nat) (acc : List D) (env : En), I k acc env →
    (∀ i d acc env, ds[i]? = some d → I (k + i) acc env → acc.length < 1000000 ∧ ∃ e1, b d env = some e1 ∧ ((∃ e2, mt e1 = .ok false e2 ∧ plains e2 vs = true ∧ I (k + i + 1) acc (clearE e2 vs)) ∨ (∃ e2, mt e1 = .ok true e2 ∧ ∃ y e3, me e2 = .ok y e3 ∧ plains e3 vs = true ∧ I (k + i + 1) (acc ++ [y]) (clearE e3 vs)))) →
    ∃ acc' env', compL b mt me vs ds acc env = .ok acc' env' ∧ I (k + ds.length) acc' env'
  | [], k, acc, env, h, _ => ⟨acc, env, rfl, h⟩
  | d :: ds, k, acc, env, h, hs => by
    obtain ⟨hl, e1, h1, h2⟩ := hs 0 d acc env rfl h
    have next : ∀ i d' acc' env', ds[i]? = some d' → I (k + 1 + i) acc' env' → acc'.length < 1000000 ∧ ∃ e1, b d' env' = some e1 ∧ ((∃ e2, mt e1 = .ok false e2 ∧ plains e2 vs = true ∧ I (k + 1 + i + 1) acc' (clearE e2 vs)) ∨ (∃ e2, mt e1 = .ok true e2 ∧ ∃ y e3, me e2 = .ok y e3 ∧ plains e3 vs = true ∧ I (k + 1 + i + 1) (acc' ++ [y]) (clearE e3 vs))) := fun i d' acc' env' hd hI => by
      have e : k + 1 + i = k + (i + 1) := by omega
      rw [e] at hI ⊢
      exact hs (i + 1) d' acc' env' (by simpa using hd) hI
    unfold compL
    rw [h1]
    simp only
    have el : k + 1 + ds.length = k + (d :: ds).length := by rw [List.length_cons]; omega
    rcases h2 with ⟨e2, h3, h4, h5⟩ | ⟨e2, h3, y, e3, h4, h5, h6⟩
    · rw [h3]
      simp only
      rw [if_pos h4]
      obtain ⟨a, e, r1, r2⟩ := compL_inv I ds (k + 1) acc _ h5 next
      exact ⟨a, e, r1, el ▸ r2⟩
    · rw [h3]
      simp only
      rw [h4]
      simp only
      rw [if_pos ⟨h5, hl⟩]
      obtain ⟨a, e, r1, r2⟩ := compL_inv I ds (k + 1) _ _ h6 next
      exact ⟨a, e, r1, el ▸ r2⟩
theorem mComp_inv {mi : M (List D)} {b : Bd} {mt : M Bool} {me : M D} {vs : List Nat} {env e1 : En} {ds : List D} (I : Nat → List D → En → Prop) (hi : mi env = .ok ds e1) (hp : plains e1 vs = true) (h0 : I 0 [] (clearE e1 vs))
    (hs : ∀ (i : Nat) d acc env, ds[i]? = some d → I i acc env → acc.length < 1000000 ∧ ∃ e1, b d env = some e1 ∧ ((∃ e2, mt e1 = .ok false e2 ∧ plains e2 vs = true ∧ I (i + 1) acc (clearE e2 vs)) ∨ (∃ e2, mt e1 = .ok true e2 ∧ ∃ y e3, me e2 = .ok y e3 ∧ plains e3 vs = true ∧ I (i + 1) (acc ++ [y]) (clearE e3 vs)))) :
    ∃ acc eN, mComp mi b mt me vs env = .ok (.lst acc) (restE e1 eN vs) ∧ I ds.length acc eN := by
  obtain ⟨a, e, r1, r2⟩ := compL_inv (b := b) (mt := mt) (me := me) (vs := vs) I ds 0 [] _ h0 (fun i d acc env h1 h2 => by
    rw [Nat.zero_add] at h2 ⊢
    exact hs i d acc env h1 h2)
  rw [Nat.zero_add] at r2
  refine ⟨a, e, ?_, r2⟩
  unfold mComp bnd
  rw [hi]
  simp only
  rw [if_pos hp, r1]
/-- a for loop that is walked to its end -/
theorem forL_inv {b : Bd} {mb : M Out} (I : Nat → En → Prop) : ∀ (ds : List D) (k : Nat) (env : En), I k env →
    (∀ i d env, ds[i]? = some d → I (k + i) env → ∃ e1, b d env = some e1 ∧ ∃ e2, (mb e1 = .ok .nx e2 ∨ mb e1 = .ok .ct e2) ∧ I (k + i + 1) e2) → ∃ env', forL b mb ds env = .ok .nx env' ∧ I (k + ds.length) env'
  | [], k, env, h, _ => ⟨env, rfl, h⟩
  | d :: ds, k, env, h, hs => by
    obtain ⟨e1, h1, e2, h2, h3⟩ := hs 0 d env rfl h
    obtain ⟨e, r1, r2⟩ := forL_inv I ds (k + 1) e2 h3 fun i d' env' hd hI => by
      have e : k + 1 + i = k + (i + 1) := by omega
      rw [e] at hI ⊢
      exact hs (i + 1) d' env' (by simpa using hd) hI
    have el : k + 1 + ds.length = k + (d :: ds).length := by rw [List.length_cons]; omega
    refine ⟨e, ?_, el ▸ r2⟩
    unfold forL
    rw [h1]
    simp only
    rcases h2 with h2 | h2 <;> rw [h2] <;> exact r1
theorem forL_all {b : Bd} {mb : M Out} {ds : List D} {env : En} (I : Nat → En → Prop) (h0 : I 0 env) (hs : ∀ (i : Nat) d env, ds[i]? = some d → I i env → ∃ e1, b d env = some e1 ∧ ∃ e2, (mb e1 = .ok .nx e2 ∨ mb e1 = .ok .ct e2) ∧ I (i + 1) e2) : ∃ env', forL b mb ds env = .ok .nx env' ∧ I ds.length env' := by
  obtain ⟨e, r1, r2⟩ := forL_inv (b := b) (mb := mb) I ds 0 env h0 (fun i d env h1 h2 => by
    rw [Nat.zero_add] at h2 ⊢
    exact hs i d env h1 h2)
  rw [Nat.zero_add] at r2
  exact ⟨e, r1, r2⟩
/-- a for loop that may be left by a return -/
theorem forL_ret {b : Bd} {mb : M Out} (I : Nat → En → Prop) (P : R Out → Prop) : ∀ (ds : List D) (k : Nat) (env : En), I k env →
    (∀ i d env, ds[i]? = some d → I (k + i) env → ∃ e1, b d env = some e1 ∧ ((∃ e2, (mb e1 = .ok .nx e2 ∨ mb e1 = .ok .ct e2) ∧ I (k + i + 1) e2) ∨ (∃ d e2, mb e1 = .ok (.rt d) e2 ∧ P (.ok (.rt d) e2)))) →
    (∀ env, I (k + ds.length) env → P (.ok .nx env)) → P (forL b mb ds env)
  | [], k, env, h, _, he => he env h
  | d :: ds, k, env, h, hs, he => by
    obtain ⟨e1, h1, h2⟩ := hs 0 d env rfl h
    unfold forL
    rw [h1]
    simp only
    rcases h2 with ⟨e2, h2, h3⟩ | ⟨r, e2, h2, h3⟩
    · have go := forL_ret I P ds (k + 1) e2 h3 (fun i d' env' hd hI => by
        have e : k + 1 + i = k + (i + 1) := by omega
        rw [e] at hI ⊢
        exact hs (i + 1) d' env' (by simpa using hd) hI) (fun env' hI => he env' (by
          have e : k + (d :: ds).length = k + 1 + ds.length := by rw [List.length_cons]; omega
          rw [e]; exact hI))
      rcases h2 with h2 | h2 <;> rw [h2] <;> exact go
    · rw [h2]
      exact h3
theorem rngD_get {i j : Int} {k : Nat} {d : D} (h : (rngD i j)[k]? = some d) : d = .int (i + (k : Int)) ∧ (k : Int) < j - i := by
  unfold rngD at h
  rw [List.getElem?_map] at h
  cases z : (List.range (j - i).toNat)[k]? with
  | none => rw [z] at h; cases h
  | some m =>
    rw [z] at h
    obtain ⟨h1, h2⟩ := List.getElem?_eq_some_iff.mp z
    rw [List.length_range] at h1
    rw [List.getElem_range] at h2
    subst h2
    cases h
    exact ⟨rfl, by omega⟩
theorem rngD_length {i j : Int} : (rngD i j).length = (j - i).toNat := by simp [rngD]
theorem okR_small {i : Int} (h0 : -1000000000000 ≤ i) (h : i ≤ 1000000000000) : okR i := okR_of ⟨by omega, by omega⟩
theorem rng1_ok {j : Int} (h : okR j) : rng1 [.int j] = some (rngD 0 j) := if_pos h
theorem okR_nat {n : Nat} (h : n ≤ 1000000) : okR (n : Int) := by
  have h1 : -1000000000000 ≤ (n : Int) := by omega
  have h2 : (n : Int) ≤ 1000000000000 := by omega
  exact okR_small h1 h2
theorem rng1_nat {n : Nat} (h : n ≤ 1000000) : rng1 [.int (n : Int)] = some (rngD 0 (n : Int)) := by
  exact rng1_ok (okR_nat h)
theorem rng2_ok {i j : Int} (h : okR i) (h' : okR j) : rng2 [.int i, .int j] = some (rngD i j) := if_pos ⟨h, h'⟩
end Mir
/-! Objects that are kept aside by their address. -/
namespace Mir
open PySem PySem.Spec PyProof.Rows L2
section
variable {K : PySem.W.Frag} {g : G} {S : Hp} {σ : L2.St} {H : Hp} {env : En}
theorem hold_comm {a b : Addr} {x y : HO} (h : a ≠ b) : (g.hold a x).hold b y = (g.hold b y).hold a x := by
  have e : upd (upd g.F a x) b y = upd (upd g.F b y) a x := by
    funext c
    by_cases h1 : c = a
    · subst h1
      rw [upd_ne h, upd_same, upd_same]
    · by_cases h2 : c = b
      · subst h2
        rw [upd_same, upd_ne h1, upd_same]
      · rw [upd_ne h2, upd_ne h1, upd_ne h1, upd_ne h2]
  unfold G.hold
  simp only [e]
/-- a new object that is kept aside at once -/
theorem Ok.holdNew (o : Ok K g S σ H env) {p : Addr} {u : HO} (h : H p = none) : Ok K (g.hold p u) S σ (upd H p u) env := by
  have sp := o.s_none h
  obtain ⟨fp, ip⟩ := o.f_none h
  have ob : ∀ b d, ObD K S H b d → ObD K S (upd H p u) b d ∧ b ≠ p := fun b d k => by
    have : b ≠ p := fun e => k.ne (e ▸ h)
    exact ⟨k.mono (Same.refl S) (upd_ne this), this⟩
  refine ⟨same_upd2 o.fr, o.bf.trans (same_upd' fp), o.st.trans (same_upd' h), o.s0, fun b y hb => ?_, fun j c hj => ⟨?_, ?_⟩, o.ioe, o.inj, o.one, o.len, fun j s hs => ?_, o.sep⟩
  · have hn : b ≠ p := fun e => by rw [e, sp] at hb; cases hb
    rcases o.new b y hb with z | ⟨z1, z2⟩
    · exact .inl z
    · exact .inr ⟨by show upd g.F p u b = none; rw [upd_ne hn]; exact z1, z2⟩
  · have hn : c ≠ p := fun e => ip j (e ▸ hj)
    show upd g.F p u c = none
    rw [upd_ne hn]
    exact (o.iot j c hj).1
  · have hn : c ≠ p := fun e => ip j (e ▸ hj)
    rw [upd_ne hn]
    exact (o.iot j c hj).2
  · have z := o.slot j s hs
    cases s with
    | no => trivial
    | sh d => exact z
    | ow d =>
      obtain ⟨c, k1, k2, k3, k4, k5⟩ := z
      obtain ⟨k6, k7⟩ := ob c d k5
      exact ⟨c, k1, k2, by show upd g.F p u c = none; rw [upd_ne k7]; exact k3, k4, k6⟩
    | io d =>
      obtain ⟨c, k1, k2, k3, k5⟩ := z
      exact ⟨c, k1, k2, k3, (ob c d k5).1⟩
    | bo d => exact z
    | pn v => exact z
/-- a slot with a value that is known as it is -/
theorem Ok.setPn (o : Ok K g S σ H env) {i : Nat} {v : V} (hf : free env i = true) : Ok K g S (σ.set i (some v)) H (env.set i (.pn v)) :=
  o.put hf rfl (fun _ z => nomatch z) (fun _ _ z => nomatch z)
theorem Ok.setNo (o : Ok K g S σ H env) {i : Nat} {v : V} (hf : free env i = true) : Ok K g S (σ.set i (some v)) H (env.set i .no) :=
  o.put hf trivial (fun _ z => nomatch z) (fun _ _ z => nomatch z)
/-- a kept object is lent to a slot .. -/
theorem Ok.claim {a : Addr} {x : HO} (o : Ok K (g.hold a x) S σ H env) (hf : g.F a = none) (hs0 : g.S0 a = none) (hio : g.io = []) (hbf : Same g.B g.F) {i : Nat} {d : D} (hi : env[i]? = some .no) (hv : σ[i]? = some (some (.ref a))) (ob : ObD K S H a d) :
    Ok K { g with io := [(i, a)] } S σ H (env.set i (.io d)) := by
  obtain ⟨o1, h1, h2, h3⟩ := o.unhold hf hs0 (by rw [hio]; exact fun _ z => nomatch z) hbf
  have hil : i < env.length := (List.getElem?_eq_some_iff.mp hi).1
  have get : ∀ (j : Nat) (s : Sl), (env.set i (.io d))[j]? = some s → (j = i ∧ s = .io d) ∨ (j ≠ i ∧ env[j]? = some s) := fun j s hs => by
    by_cases hj : j = i
    · subst hj
      rw [List.getElem?_set_self hil] at hs
      exact .inl ⟨rfl, (Option.some.inj hs).symm⟩
    · rw [List.getElem?_set_ne (fun e => hj e.symm)] at hs
      exact .inr ⟨hj, hs⟩
  refine ⟨o1.fr, o1.bf, o1.st, o1.s0, fun b y hb => ?_, fun j c hj => ?_, fun j c hj => ?_, fun j k c h4 h5 => ?_, fun j b c h4 h5 => ?_, by rw [List.length_set]; exact o1.len, fun j s hs => ?_, fun j k b d1 d2 h4 h5 h6 h7 => ?_⟩
  · have hn : b ≠ a := fun e => by rw [e, h2] at hb; cases hb
    rcases o1.new b y hb with z | ⟨z1, z2⟩
    · exact .inl z
    · exact .inr ⟨z1, fun j hj => hn (Prod.mk.inj (List.mem_singleton.mp hj)).2⟩
  · obtain ⟨rfl, rfl⟩ := Prod.mk.inj (List.mem_singleton.mp hj)
    exact ⟨hf, by rw [h1]; simp⟩
  · obtain ⟨rfl, rfl⟩ := Prod.mk.inj (List.mem_singleton.mp hj)
    exact ⟨d, List.getElem?_set_self hil⟩
  · obtain ⟨rfl, rfl⟩ := Prod.mk.inj (List.mem_singleton.mp h4)
    exact (Prod.mk.inj (List.mem_singleton.mp h5)).1.symm
  · obtain ⟨rfl, rfl⟩ := Prod.mk.inj (List.mem_singleton.mp h4)
    exact (Prod.mk.inj (List.mem_singleton.mp h5)).2.symm
  · rcases get j s hs with ⟨rfl, rfl⟩ | ⟨hj, hs⟩
    · exact ⟨a, hv, h2, List.mem_singleton.mpr rfl, ob⟩
    · have z := o1.slot j s hs
      cases s with
      | no => trivial
      | sh d => exact z
      | ow d =>
        obtain ⟨c, k1, k2, k3, k4, k5⟩ := z
        refine ⟨c, k1, k2, k3, fun k hk => ?_, k5⟩
        obtain ⟨_, rfl⟩ := Prod.mk.inj (List.mem_singleton.mp hk)
        exact h3 j d hs k1
      | io d =>
        obtain ⟨c, k1, k2, k3, k5⟩ := z
        rw [hio] at k3
        cases k3
      | bo d => exact z
      | pn v => exact z
  · rcases get j _ h4 with ⟨_, e⟩ | ⟨_, h4⟩
    · cases e
    · rcases get k _ h5 with ⟨_, e⟩ | ⟨_, h5⟩
      · cases e
      · exact o1.sep j k b d1 d2 h4 h5 h6 h7
/-- .. and given back -/
theorem Ok.release {a : Addr} {i : Nat} {d : D} (o : Ok K { g with io := [(i, a)] } S σ H env) (hio : g.io = []) (hi : env[i]? = some (.io d)) :
    ∃ x, H a = some x ∧ σ[i]? = some (some (.ref a)) ∧ ObD K S H a d ∧ Ok K (g.hold a x) S σ H (env.set i .no) := by
  obtain ⟨b, h1, h2, h3, h4⟩ := o.slot i _ hi
  obtain ⟨_, rfl⟩ := Prod.mk.inj (List.mem_singleton.mp h3)
  obtain ⟨x, hx⟩ : ∃ x, H b = some x := by
    cases q : H b with
    | none => exact absurd q h4.ne
    | some y => exact ⟨y, rfl⟩
  have hil : i < env.length := (List.getElem?_eq_some_iff.mp hi).1
  have hf : g.F b = none := (o.iot i b h3).1
  have fr : Same g.F H := o.fr
  have get : ∀ (j : Nat) (s : Sl), (env.set i .no)[j]? = some s → (s = .no) ∨ (j ≠ i ∧ env[j]? = some s) := fun j s hs => by
    by_cases hj : j = i
    · subst hj
      rw [List.getElem?_set_self hil] at hs
      exact .inl (Option.some.inj hs).symm
    · rw [List.getElem?_set_ne (fun e => hj e.symm)] at hs
      exact .inr ⟨hj, hs⟩
  have noio : ∀ j c, (j, c) ∉ g.io := fun j c z => by rw [hio] at z; cases z
  refine ⟨x, hx, h1, h4, ⟨fun c y hc => ?_, Same.trans o.bf (same_upd' hf), o.st, o.s0, fun c y hc => ?_, fun j c hj => absurd hj (noio j c), fun j c hj => absurd hj (noio j c), fun j k c hj => absurd hj (noio j c), fun j b c hj => absurd hj (noio j b), by rw [List.length_set]; exact o.len, fun j s hs => ?_, fun j k b d1 d2 h4 h5 h6 h7 => ?_⟩⟩
  · by_cases hb : c = b
    · subst hb
      have hc : upd g.F c x c = some y := hc
      rw [upd_same] at hc
      cases hc
      exact hx
    · have hc : upd g.F b x c = some y := hc
      rw [upd_ne hb] at hc
      exact fr c y hc
  · have hn : c ≠ b := fun e => by rw [e, h2] at hc; cases hc
    rcases o.new c y hc with z | ⟨z1, z2⟩
    · exact .inl z
    · exact .inr ⟨by show upd g.F b x c = none; rw [upd_ne hn]; exact z1, fun j => noio j c⟩
  · rcases get j s hs with rfl | ⟨hj, hs⟩
    · trivial
    · have z := o.slot j s hs
      cases s with
      | no => trivial
      | sh d => exact z
      | ow d =>
        obtain ⟨c, k1, k2, k3, k4, k5⟩ := z
        have hn : c ≠ b := fun e => k4 i (by rw [e]; exact List.mem_singleton.mpr rfl)
        exact ⟨c, k1, k2, by show upd g.F b x c = none; rw [upd_ne hn]; exact k3, fun j => noio j c, k5⟩
      | io d =>
        obtain ⟨c, k1, k2, k3, k5⟩ := z
        obtain ⟨e, _⟩ := Prod.mk.inj (List.mem_singleton.mp k3)
        exact absurd e hj
      | bo d => exact z
      | pn v => exact z
  · rcases get j _ h4 with e | ⟨_, h4⟩
    · cases e
    · rcases get k _ h5 with e | ⟨_, h5⟩
      · cases e
      · exact o.sep j k b d1 d2 h4 h5 h6 h7
end
section
variable {ι : Type} {X : ι → Cx} {K : PySem.W.Frag} {W : WX} {e1 e2 : Expr} {pos p : Pos}
theorem obD_at {S S' H H' : Hp} {a : Addr} {x : HO} {d : D} {F : Hp} (h : ObD K S H a d) (hx : H a = some x) (hf : F a = some x) (fr : Same F H') (s : Same S S') : ObD K S' H' a d := h.mono s (by rw [hx]; exact fr a x hf)
def Pair (K : PySem.W.Frag) (X : ι → Cx) (st : Stmt) (i : Nat) (m1 m2 : M D) : Prop :=
  ∃ t, (∀ k, PS (X k) st t) ∧ ∀ (g : G) (S : Hp) (σ : L2.St) (H : Hp) (env : En) (Dn : Ends) (d1 d2 : D) (n1 n2 : En), Ok K g S σ H env → m1 env = .ok d1 n1 → m2 n1 = .ok d2 n2 → free n2 i = true →
      (∀ S' σ' H' A0 A1 L x0 x1, Same S S' → A0 ≠ A1 → A0 ≠ L → A1 ≠ L → g.F A0 = none → g.F A1 = none → g.F L = none → g.S0 A0 = none → g.S0 A1 = none → g.S0 L = none → H' A0 = some x0 → H' A1 = some x1 → ObD K S' H' A0 d1 → ObD K S' H' A1 d2 → Ok K (((g.hold A0 x0).hold A1 x1).hold L (.lst [.ref A0, .ref A1])) S' σ' H' (n2.set i (.pn (.ref L))) → Dn.nx σ' H') → t Dn σ H
/-- x = [e1, e2], two objects of one's own -/
theorem ss_pair {i : Nat} {x : Str} {m1 m2 : M D} {pos' : Pos} (hN : ∀ k, (X k).N.Nodup) (h1 : SO K X W e1 m1) (h2 : SO K X W e2 m2) (hi : ∀ k, (X k).N[i]? = some x := by intro _; rfl) (hx : ∀ k, Loc (X k).env.scope x := by first | exact fun _ => .inl rfl | exact fun _ => .inr rfl)
    (hs : ∀ k, swapsWith (.List [e1, e2] p) (some (.Name x pos')) pos.line (X k).env = pure false := by intro _; rfl) (hf : ∀ k, (X k).fn x = true ∨ (X k).env.scope.names.lookup x = some .local := by first | exact fun _ => .inl rfl | exact fun _ => .inr rfl)
    (hs1 : ∀ k, starEach [e1, e2] (X k).env = (false, eval e1 (X k).env) :: starEach [e2] (X k).env := by intro _; rfl) (hs2 : ∀ k, starEach [e2] (X k).env = [(false, eval e2 (X k).env)] := by intro _; rfl) :
    Pair K X (.Assign [.Name x pos'] (.List [e1, e2] p) pos) i m1 m2 := by
  obtain ⟨t1, p1, q1⟩ := h1
  obtain ⟨t2, p2, q2⟩ := h2
  refine ⟨_, fun k => ps_set (hN k) (hi k) (hx k) (pe_lst (pa_cons (p1 k) (pa_cons (p2 k) pa_nil (hs2 k)) (hs1 k))) (hs k) (hf k), fun g S σ H env Dn d1 d2 n1 n2 o k1 k2 hfr q => ?_⟩
  refine q1 g S σ H env _ o ?_
  rw [k1]
  rintro S1 H1 v s1 o1 ⟨A0, rfl, w1⟩
  obtain ⟨x0, hx0⟩ : ∃ x, H1 A0 = some x := by
    cases q : H1 A0 with
    | none => exact absurd q w1.ob.ne
    | some y => exact ⟨y, rfl⟩
  have o1' := o1.hold w1 hx0
  have s00 : g.S0 A0 = none := by
    cases q : g.S0 A0 with
    | none => rfl
    | some y => have := o1.s0 A0 y q; rw [w1.s] at this; cases this
  refine q2 (g.hold A0 x0) S1 σ H1 n1 _ o1' ?_
  rw [k2]
  rintro S2 H2 v s2 o2 ⟨A1, rfl, w2⟩
  obtain ⟨x1, hx1⟩ : ∃ x, H2 A1 = some x := by
    cases q : H2 A1 with
    | none => exact absurd q w2.ob.ne
    | some y => exact ⟨y, rfl⟩
  have h0 : H2 A0 = some x0 := o2.fr A0 x0 upd_same
  have hn : A1 ≠ A0 := fun e => by
    have z : upd g.F A0 x0 A1 = none := w2.f
    rw [e, upd_same] at z
    cases z
  have f1 : g.F A1 = none := by
    have z : upd g.F A0 x0 A1 = none := w2.f
    rwa [upd_ne hn] at z
  have s01 : g.S0 A1 = none := by
    cases q : g.S0 A1 with
    | none => rfl
    | some y => have := o2.s0 A1 y q; rw [w2.s] at this; cases this
  have o2' := o2.hold w2 hx1
  refine ⟨show 2 ≤ sizeLine by decide, fun L hL => ?_⟩
  have o3 := o2'.holdNew (u := .lst [.ref A0, .ref A1]) hL
  have l0 : A0 ≠ L := fun e => by rw [e, hL] at h0; cases h0
  have l1 : A1 ≠ L := fun e => by rw [e, hL] at hx1; cases hx1
  have fl : g.F L = none := by
    have z := (o2'.f_none hL).1
    have z : upd (upd g.F A0 x0) A1 x1 L = none := z
    rwa [upd_ne (fun e => l1 e.symm), upd_ne (fun e => l0 e.symm)] at z
  have sl : g.S0 L = none := by
    cases q : g.S0 L with
    | none => rfl
    | some y => have := o2.s0 L y q; rw [o2.s_none hL] at this; cases this
  refine q S2 _ _ A0 A1 L x0 x1 (s1.trans s2) (fun e => hn e.symm) l0 l1 w1.f f1 fl s00 s01 sl (by rw [upd_ne l0]; exact h0) (by rw [upd_ne l1]; exact hx1) (w1.ob.mono s2 ?_) (w2.ob.mono (Same.refl _) ?_) (o3.setPn hfr)
  · rw [upd_ne l0, h0, hx0]
  · rw [upd_ne l1]
def Pick (K : PySem.W.Frag) (X : ι → Cx) (st : Stmt) (i j : Nat) (m : M D) : Prop :=
  ∃ t, (∀ k, PS (X k) st t) ∧ ∀ (g : G) (S : Hp) (σ : L2.St) (H : Hp) (env : En) (Dn : Ends) (n : Int) (n1 : En) (L : Addr) (vs : List V) (v : V), Ok K g S σ H env → env[j]? = some (.pn (.ref L)) → m env = .ok (.int n) n1 → g.F L = some (.lst vs) → atI vs n = some v → free n1 i = true →
      (∀ S' σ' H', Same S S' → σ'[i]? = some (some v) → Ok K g S' σ' H' (n1.set i .no) → Dn.nx σ' H') → t Dn σ H
/-- x = xs[e]: xs a list that is known as it is -/
theorem ss_pick {i j : Nat} {x y : Str} {e : Expr} {m : M D} {pos' p1 p2 : Pos} (hN : ∀ k, (X k).N.Nodup) (he : SE K X W e m) (hx : PlainIx e := by intro _ _; rfl) (hj : ∀ k, (X k).N[j]? = some y := by intro _; rfl) (hv : ∀ k, Vis (X k).env.scope y := by first | exact fun _ => Or.inl rfl | exact fun _ => Or.inr (Or.inl rfl) | exact fun _ => Or.inr (Or.inr rfl)) (hd : (y == ("__debug__" : Str)) = false := by decide)
    (hcd : (y == ("__classdict__" : Str)) = false := by decide) (hi : ∀ k, (X k).N[i]? = some x := by intro _; rfl) (hl : ∀ k, Loc (X k).env.scope x := by first | exact fun _ => .inl rfl | exact fun _ => .inr rfl)
    (hs : ∀ k, swapsWith (.Subscript (.Name y p1) e p2) (some (.Name x pos')) pos.line (X k).env = pure false := by intro _; rfl) (hf : ∀ k, (X k).fn x = true ∨ (X k).env.scope.names.lookup x = some .local := by first | exact fun _ => .inl rfl | exact fun _ => .inr rfl)
    (hK : ∀ i, (X i).K = K := by intro _; rfl) :
    Pick K X (.Assign [.Name x pos'] (.Subscript (.Name y p1) e p2) pos) i j m := by
  obtain ⟨t, p, q1⟩ := he
  refine ⟨_, fun k => ps_set (hN k) (hi k) (hl k) (pe_ix (hK k ▸ ix_list) (pe_var (hj k) (hv k) hd hcd) (p k) hx) (hs k) (hf k), fun g S σ H env Dn n n1 L vs v o hp k1 hL hat hfr q => ?_⟩
  refine ⟨.ref L, o.slot j _ hp, ?_⟩
  refine q1 g S σ H env _ o ?_
  rw [k1]
  intro S1 H1 u s1 o1 r1
  have := rep_int r1
  subst this
  refine ⟨L, vs, n, v, rfl, rfl, .inl (.inl (o1.fr L _ hL)), hat, ?_⟩
  have hil := lt_of_free hfr
  exact q S1 _ H1 s1 (by rw [List.getElem?_set_self (by rw [o1.len]; exact hil)]) (o1.setNo hfr)
def ForR (K : PySem.W.Frag) (X : ι → Cx) (st : Stmt) (i : Nat) (ms : M (List D)) (tb : TS) : Prop :=
  ∃ t, (∀ k, PS (X k) st t) ∧ ∀ (g : G) (S : Hp) (σ : L2.St) (H : Hp) (env : En) (Dn : Ends) (n : Nat) (e1 : En) (Inv : Nat → L2.St → Hp → Prop), Ok K g S σ H env → ms env = .ok [.int (n : Int)] e1 → n ≤ 1000000 →
      (∀ S1 H1, Same S S1 → Ok K g S1 σ H1 e1 → Inv 0 σ H1) →
      (∀ j σ H, j < n → Inv j σ H → ∃ (g' : G) (S' : Hp) (env' env2 : En), Ok K g' S' σ H env' ∧ setSh env' i (.int (j : Int)) = some env2 ∧ ∀ σ2, Ok K g' S' σ2 H env2 → tb { Dn with nx := Inv (j + 1), ct := Inv (j + 1), bk := Dn.nx } σ2 H) →
      (∀ σ H, Inv n σ H → Dn.nx σ H) → t Dn σ H
/-- for x in range(n), by what holds ahead of each turn -/
theorem ss_forRange {a : Expr} {x : Str} {i : Nat} {ms : M (List D)} {body : List Stmt} {tb : TS} {pt : Pos} (h : SA K X W [a] ms) (hN : ∀ k, (X k).N.Nodup) (hb : ∀ k, PSs (X k) body tb) (hm : ∀ i, (X i).mg "range" = none) (hp : ∀ k, PassesOwn (model (X k).prog (X k).w) (X k).A (X k).env (X k).xe)
    (hi : ∀ k, (X k).N[i]? = some x := by intro _; rfl) (hx : ∀ k, Loc (X k).env.scope x := by first | exact fun _ => .inl rfl | exact fun _ => .inr rfl) (hf : ∀ k, (X k).fn x = true ∨ (X k).env.scope.names.lookup x = some .local := by first | exact fun _ => .inl rfl | exact fun _ => .inr rfl)
    (hg : ∀ i, Gl (X i) "range" := by intro _; rfl) (hs : ∀ i, starEach [a] (X i).env = [(false, eval a (X i).env)] := by intro _; rfl) (hc : ∀ i, (X i).calm = true := by intro _; rfl)
    (hs2 : ∀ k x, foldedSetIterable (.Call (.Name "range" p) [a] [] pos) (X k).env x = pure x := by intro _ _; rfl) {p2 : Pos} :
    ForR K X (.For (.Name x pt) (.Call (.Name "range" p) [a] [] pos) body [] p2) i ms tb := by
  obtain ⟨t, p1, q1⟩ := h
  refine ⟨_, fun k => ps_for (hp k) (hc k) (pi_range1 (hg k) (hm k) (p1 k) (hs k)) (pg_name (hN k) (hi k) (hx k) (hf k)) (hb k) (hs2 k), fun g S σ H env Dn n e1 Inv o k1 hn h0 h1 h2 => ?_⟩
  refine q1 g S σ H env _ o ?_
  rw [k1]
  intro S1 H1 v s1 o1 r1
  obtain ⟨u, rfl, ru⟩ := reps1 r1
  have := rep_int ru
  subst this
  have hr : okR (n : Int) := okR_nat hn
  refine ⟨(n : Int), rfl, (okR_at hr).1, (okR_at hr).2, ?_⟩
  refine ⟨fun j m σ H => j ≤ n ∧ m = n - j ∧ Inv j σ H, ⟨n, Nat.zero_le _, rfl, h0 S1 H1 s1 o1⟩, ?_⟩
  rintro j m σ' H' ⟨hj, rfl, hI⟩
  by_cases hlt : j < n
  · refine .inr ⟨by show j < (n : Int).toNat; omega, Inv (j + 1), fun σ2 H2 z => ⟨n - (j + 1), by omega, by omega, rfl, z⟩, ?_⟩
    rintro x H2 ⟨rfl, rfl⟩
    obtain ⟨g', S', env', env2, o', hst, hk⟩ := h1 j σ' H2 hlt hI
    rw [Int.zero_add]
    exact hk _ (o'.setSh hst (.int _))
  · refine .inl ⟨by show (n : Int).toNat ≤ j; omega, ?_⟩
    have : j = n := by omega
    subst this
    exact h2 σ' H' hI
end
end Mir
namespace K58
open PySem PySem.Spec PyProof.Rows L2 Mir
noncomputable section
def forBody (st : Stmt) : List Stmt := match st with
  | .For _ _ b _ _ => b
  | _ => []
def stAt (l : List Stmt) (i : Nat) : Stmt := l.getD i (.Pass ⟨0, 0, 0, 0⟩)
def topS (i : Nat) : Stmt := PySem.Challenge.pw_beatsbounded_k58_least_lately_used.main.body.getD i (.Pass ⟨0, 0, 0, 0⟩)
abbrev s_touch : Stmt := topS 1
abbrev N_touch : List Str := ["cache", "line", "ways", "at", "lines", "hit", "moved", "other"]
theorem sc_touch : FnScope N_touch ["cache", "line", "ways"] (defScope s_touch) := ⟨rfl, rfl, rfl, by decide +kernel, rfl, by decide +kernel, by decide +kernel⟩
abbrev s__law_row : Stmt := topS 3
abbrev N__law_row : List Str := ["script", "k", "cell", "rest"]
theorem sc__law_row : FnScope N__law_row ["script", "k"] (defScope s__law_row) := ⟨rfl, rfl, rfl, by decide +kernel, rfl, by decide +kernel, by decide +kernel⟩
abbrev s__law_draw : Stmt := topS 4
abbrev N__law_draw : List Str := ["row", "n", "value"]
theorem sc__law_draw : FnScope N__law_draw ["row", "n"] (defScope s__law_draw) := ⟨rfl, rfl, rfl, by decide +kernel, rfl, by decide +kernel, by decide +kernel⟩
abbrev s__law_same : Stmt := topS 5
abbrev N__law_same : List Str := ["actual", "due", "k"]
theorem sc__law_same : FnScope N__law_same ["actual", "due"] (defScope s__law_same) := ⟨rfl, rfl, rfl, by decide +kernel, rfl, by decide +kernel, by decide +kernel⟩
abbrev s__law_cache : Stmt := topS 6
abbrev N__law_cache : List Str := ["row", "sets", "ways", "told", "at", "held", "k"]
theorem sc__law_cache : FnScope N__law_cache ["row", "sets", "ways"] (defScope s__law_cache) := ⟨rfl, rfl, rfl, by decide +kernel, rfl, by decide +kernel, by decide +kernel⟩
abbrev s__law_world : Stmt := topS 7
abbrev N__law_world : List Str := ["row", "ways", "sets", "held", "past", "lines", "k"]
theorem sc__law_world : FnScope N__law_world ["row", "ways"] (defScope s__law_world) := ⟨rfl, rfl, rfl, by decide +kernel, rfl, by decide +kernel, by decide +kernel⟩
abbrev s__law_line : Stmt := topS 8
abbrev N__law_line : List Str := ["row", "world", "sets", "ways", "held", "past", "kind", "lines"]
theorem sc__law_line : FnScope N__law_line ["row", "world"] (defScope s__law_line) := ⟨rfl, rfl, rfl, by decide +kernel, rfl, by decide +kernel, by decide +kernel⟩
abbrev s__law_touched : Stmt := topS 9
abbrev N__law_touched : List Str := ["world", "line", "sets", "ways", "held", "past", "at", "moved", "one"]
theorem sc__law_touched : FnScope N__law_touched ["world", "line"] (defScope s__law_touched) := ⟨rfl, rfl, rfl, by decide +kernel, rfl, by decide +kernel, by decide +kernel⟩
abbrev s__law_hits : Stmt := topS 10
abbrev N__law_hits : List Str := ["world", "line", "sets", "ways", "held", "past", "others", "k", "one"]
theorem sc__law_hits : FnScope N__law_hits ["world", "line"] (defScope s__law_hits) := ⟨rfl, rfl, rfl, by decide +kernel, rfl, by decide +kernel, by decide +kernel⟩
abbrev s__law_tuples : Stmt := topS 11
abbrev N__law_tuples : List Str := ["held", "lines"]
theorem sc__law_tuples : FnScope N__law_tuples ["held"] (defScope s__law_tuples) := ⟨rfl, rfl, rfl, by decide +kernel, rfl, by decide +kernel, by decide +kernel⟩
abbrev s_law : Stmt := topS 12
abbrev N_law : List Str := ["script", "row", "count", "worlds", "firsts", "k", "world", "line", "handed", "hit", "held", "due", "told", "ways"]
theorem sc_law : FnScope N_law ["script"] (defScope s_law) := ⟨rfl, rfl, rfl, by decide +kernel, rfl, by decide +kernel, by decide +kernel⟩
structure Txt (K : PySem.W.Frag) (mg : Str → Option Value) where
  a_touch : Addr
  d_touch : FuncData
  F_touch : Fun K "touch" "touch" s_touch a_touch d_touch
  b_touch : Binds K d_touch ["cache", "line", "ways"] []
  g_touch : mg "touch" = some (.ref a_touch)
  a__law_row : Addr
  d__law_row : FuncData
  F__law_row : Fun K "_law_row" "_law_row" s__law_row a__law_row d__law_row
  b__law_row : Binds K d__law_row ["script", "k"] []
  g__law_row : mg "_law_row" = some (.ref a__law_row)
  a__law_draw : Addr
  d__law_draw : FuncData
  F__law_draw : Fun K "_law_draw" "_law_draw" s__law_draw a__law_draw d__law_draw
  b__law_draw : Binds K d__law_draw ["row", "n"] []
  g__law_draw : mg "_law_draw" = some (.ref a__law_draw)
  a__law_same : Addr
  d__law_same : FuncData
  F__law_same : Fun K "_law_same" "_law_same" s__law_same a__law_same d__law_same
  b__law_same : Binds K d__law_same ["actual", "due"] []
  g__law_same : mg "_law_same" = some (.ref a__law_same)
  a__law_cache : Addr
  d__law_cache : FuncData
  F__law_cache : Fun K "_law_cache" "_law_cache" s__law_cache a__law_cache d__law_cache
  b__law_cache : Binds K d__law_cache ["row", "sets", "ways"] []
  g__law_cache : mg "_law_cache" = some (.ref a__law_cache)
  a__law_world : Addr
  d__law_world : FuncData
  F__law_world : Fun K "_law_world" "_law_world" s__law_world a__law_world d__law_world
  b__law_world : Binds K d__law_world ["row", "ways"] []
  g__law_world : mg "_law_world" = some (.ref a__law_world)
  a__law_line : Addr
  d__law_line : FuncData
  F__law_line : Fun K "_law_line" "_law_line" s__law_line a__law_line d__law_line
  b__law_line : Binds K d__law_line ["row", "world"] []
  g__law_line : mg "_law_line" = some (.ref a__law_line)
  a__law_touched : Addr
  d__law_touched : FuncData
  F__law_touched : Fun K "_law_touched" "_law_touched" s__law_touched a__law_touched d__law_touched
  b__law_touched : Binds K d__law_touched ["world", "line"] []
  g__law_touched : mg "_law_touched" = some (.ref a__law_touched)
  a__law_hits : Addr
  d__law_hits : FuncData
  F__law_hits : Fun K "_law_hits" "_law_hits" s__law_hits a__law_hits d__law_hits
  b__law_hits : Binds K d__law_hits ["world", "line"] []
  g__law_hits : mg "_law_hits" = some (.ref a__law_hits)
  a__law_tuples : Addr
  d__law_tuples : FuncData
  F__law_tuples : Fun K "_law_tuples" "_law_tuples" s__law_tuples a__law_tuples d__law_tuples
  b__law_tuples : Binds K d__law_tuples ["held"] []
  g__law_tuples : mg "_law_tuples" = some (.ref a__law_tuples)
  a_law : Addr
  d_law : FuncData
  F_law : Fun K "law" "law" s_law a_law d_law
  b_law : Binds K d_law ["script"] []
  g_law : mg "law" = some (.ref a_law)
  n_abs : mg "abs" = none
  n_bool : mg "bool" = none
  n_int : mg "int" = none
  n_isinstance : mg "isinstance" = none
  n_len : mg "len" = none
  n_list : mg "list" = none
  n_range : mg "range" = none
  n_str : mg "str" = none
  n_tuple : mg "tuple" = none
def t1_touch : M Out :=
  (bnd (mOp (iOp modI) (mVar 1) (mOnSq (fun s => some (.int s.ds.length)) (mSl 0))) fun d env => toOut (setSh env 3 d))
def t2_touch : M Out :=
  (bnd (mIx (mSl 0) (mVar 3)) fun d env => toOut (setSh env 4 d))
def t3_touch : M Out :=
  (bnd (mIn false (mVar 1) (mSl 4)) fun d env => toOut (setSh env 5 d))
def ct1_touch : M Bool :=
  (mB (mOp neO (mVar 7) (mVar 1)))
def ce1_touch : M D :=
  (mVar 7)
def c1_touch : M D :=
  (mComp (bnd (mVar 4) fun d => lft (seqD d)) (bName 7) ct1_touch ce1_touch [7])
def t4_touch : M Out :=
  (bnd (mOp addA (mTup (mCons (mVar 1) (ret []))) (mOnSq (fun s => some (.tup s.ds)) (mSq c1_touch))) fun d env => toOut (setSh env 6 d))
def t5_touch : M Out :=
  (bnd (mTup (mCons (mVar 5) (mCons (mOp addA (mOp addA (mSlT (mVar 0) (ret none) (mPart (mVar 3))) (mTup (mCons (mSlT (mVar 6) (ret none) (mPart (mVar 2))) (ret [])))) (mSlT (mVar 0) (mPart (mOp addA (mVar 3) (ret (.int 1)))) (ret none))) (ret [])))) fun d => ret (.rt d))
def m_touch : M Out :=
  (mSeq t1_touch
  (mSeq t2_touch
  (mSeq t3_touch
  (mSeq t4_touch
  t5_touch))))
def f_touch : List D → FR := runF false 8 [.sh, .sh, .sh] m_touch
def t1__law_row : M Out :=
  (bnd (ret (.int 0)) fun d env => toOut (setSh env 2 d))
def t2__law_row : M Out :=
  (mIf (mB (mOp (iOp ltI) (mVar 1) (mOnSq (fun s => some (.int s.ds.length)) (mSl 0)))) (bnd (mCB absO (mCons (mCB intO (mCons (mIx (mSl 0) (mVar 1)) (ret []))) (ret []))) fun d env => toOut (setSh env 2 d)) (mIf (mB (mOp (iOp gtI) (mOnSq (fun s => some (.int s.ds.length)) (mSl 0)) (ret (.int 0)))) (bnd (mOp addA (mOp (iOp mulI) (mOp (iOp modI) (mCB intO (mCons (mCB absO (mCons (mCB intO (mCons (mIx (mSl 0) (mOp (iOp modI) (mCB intO (mCons (mVar 1) (ret []))) (mOnSq (fun s => some (.int s.ds.length)) (mSl 0)))) (ret []))) (ret []))) (ret []))) (ret (.int 1000003))) (ret (.int 48271))) (mVar 1)) fun d env => toOut (setSh env 2 d)) (ret .nx)))
def t3__law_row : M Out :=
  (bnd (ret (.int 0)) fun d env => toOut (setSh env 3 d))
def t4__law_row : M Out :=
  (mIf (mB (mOp (iOp geI) (mVar 2) (mOp (iOp powI) (ret (.int 10)) (ret (.int 18))))) (bnd (mOp (iOp subI) (mVar 2) (mOp (iOp powI) (ret (.int 10)) (ret (.int 18)))) fun d env => toOut (setSh env 3 d)) (ret .nx))
def t5__law_row : M Out :=
  (bnd (mLst (mCons (mVar 3) (mCons (mOp (iOp modI) (mCB intO (mCons (mOp addA (mOp addA (mOp (iOp mulI) (mOp (iOp modI) (mVar 2) (ret (.int 2147483647))) (ret (.int 48271))) (mOp (iOp mulI) (mVar 1) (ret (.int 40692)))) (ret (.int 7))) (ret []))) (ret (.int 2147483647))) (ret [])))) fun d => ret (.ro d))
def m__law_row : M Out :=
  (mSeq t1__law_row
  (mSeq t2__law_row
  (mSeq t3__law_row
  (mSeq t4__law_row
  t5__law_row))))
def f__law_row : List D → FR := runF true 4 [.sh, .sh] m__law_row
def t1__law_draw : M Out :=
  (mIf (mB (mOp (iOp gtI) (mIx (mSl 0) (ret (.int 0))) (ret (.int 0)))) (mSeq (bnd (mOp (iOp modI) (mCB intO (mCons (mIx (mSl 0) (ret (.int 0))) (ret []))) (mVar 1)) fun d env => toOut (setSh env 2 d))
  (mSeq (mSetIx 0 (mOp (iOp divI) (mCB intO (mCons (mIx (mSl 0) (ret (.int 0))) (ret []))) (mVar 1)) (ret (.int 0)))
  (bnd (mVar 2) fun d => ret (.rt d)))) (ret .nx))
def t2__law_draw : M Out :=
  (mSetIx 0 (mOp (iOp modI) (mCB intO (mCons (mOp addA (mOp (iOp mulI) (mIx (mSl 0) (ret (.int 1))) (ret (.int 16807))) (ret (.int 12345))) (ret []))) (ret (.int 2147483647))) (ret (.int 1)))
def t3__law_draw : M Out :=
  (bnd (mOp (iOp modI) (mOp (iOp divI) (mCB intO (mCons (mIx (mSl 0) (ret (.int 1))) (ret []))) (ret (.int 3))) (mVar 1)) fun d => ret (.rt d))
def m__law_draw : M Out :=
  (mSeq t1__law_draw
  (mSeq t2__law_draw
  t3__law_draw))
def f__law_draw : List D → FR := runF false 3 [.io, .sh] m__law_draw
def t1__law_same (rec : List D → FR) : M Out :=
  (mIf (mB (mOp isNO (mVar 1) (ret .non))) (bnd (mOp isNO (mVar 0) (ret .non)) fun d => ret (.rt d)) (ret .nx))
def t2__law_same (rec : List D → FR) : M Out :=
  (mIf (mB (bnd (mVar 1) fun d => lft (isiO "bool" d))) (bnd (mAndV (bnd (mVar 0) fun d => lft (isiO "bool" d)) (mOp eqO (mVar 0) (mVar 1))) fun d => ret (.rt d)) (ret .nx))
def t3__law_same (rec : List D → FR) : M Out :=
  (mIf (mB (bnd (mVar 1) fun d => lft (isiO "int" d))) (bnd (mAndV (bnd (mVar 0) fun d => lft (isiO "int" d)) (mAndV (mNotV (bnd (mVar 0) fun d => lft (isiO "bool" d))) (mOp eqO (mVar 0) (mVar 1)))) fun d => ret (.rt d)) (ret .nx))
def t4__law_same (rec : List D → FR) : M Out :=
  (mIf (mB (bnd (mVar 1) fun d => lft (isiO "str" d))) (bnd (mAndV (bnd (mVar 0) fun d => lft (isiO "str" d)) (mOp eqO (mVar 0) (mVar 1))) fun d => ret (.rt d)) (ret .nx))
def t5__law_same (rec : List D → FR) : M Out :=
  (mIf (mOr (mAnd (mB (bnd (mVar 1) fun d => lft (isiO "tuple" d))) (mNot (mB (bnd (mVar 0) fun d => lft (isiO "tuple" d))))) (mAnd (mB (bnd (mVar 1) fun d => lft (isiO "list" d))) (mNot (mB (bnd (mVar 0) fun d => lft (isiO "list" d)))))) (bnd (ret (.bl false)) fun d => ret (.rt d)) (ret .nx))
def t6__law_same (rec : List D → FR) : M Out :=
  (mIf (mB (mOp neO (mOnSq (fun s => some (.int s.ds.length)) (mSl 0)) (mOnSq (fun s => some (.int s.ds.length)) (mSl 1)))) (bnd (ret (.bl false)) fun d => ret (.rt d)) (ret .nx))
def t1b1__law_same (rec : List D → FR) : M Out :=
  (mIf (mNot (mB (mCall [.sh (mIx (mSl 0) (mVar 2)), .sh (mIx (mSl 1) (mVar 2))] rec))) (bnd (ret (.bl false)) fun d => ret (.rt d)) (ret .nx))
def b1__law_same (rec : List D → FR) : M Out :=
  (t1b1__law_same rec)
def l1__law_same (rec : List D → FR) : M Out :=
  (bnd (bnd (mCons (mOnSq (fun s => some (.int s.ds.length)) (mSl 1)) (ret [])) fun ds => lft (rng1 ds)) (forL (bName 2) (b1__law_same rec)))
def t7__law_same (rec : List D → FR) : M Out :=
  (l1__law_same rec)
def t8__law_same (rec : List D → FR) : M Out :=
  (bnd (ret (.bl true)) fun d => ret (.rt d))
def m__law_same (rec : List D → FR) : M Out :=
  (mSeq (t1__law_same rec)
  (mSeq (t2__law_same rec)
  (mSeq (t3__law_same rec)
  (mSeq (t4__law_same rec)
  (mSeq (t5__law_same rec)
  (mSeq (t6__law_same rec)
  (mSeq (t7__law_same rec)
  (t8__law_same rec))))))))
def f__law_same : Nat → List D → FR
  | 0 => fun _ => .no
  | n + 1 => runF false 3 [.sh, .sh] (m__law_same (f__law_same n))
def t1__law_cache : M Out :=
  (bnd (mLst (ret [])) fun d env => toOut (setOw env 3 d))
def t1b1__law_cache : M Out :=
  (bnd (mLst (ret [])) fun d env => toOut (setOw env 5 d))
def t1b2__law_cache : M Out :=
  (bnd (mLM 5 appF (mCons (mOp addA (mVar 4) (mOp (iOp mulI) (mVar 1) (mOp addA (mOp (iOp mulI) (ret (.int 2)) (mVar 6)) (mCall [.io 0, .sh (ret (.int 2))] f__law_draw)))) (ret []))) fun _ => ret .nx)
def b1__law_cache : M Out :=
  t1b2__law_cache
def l1__law_cache : M Out :=
  (bnd (bnd (mCons (mCall [.io 0, .sh (mOp addA (mVar 2) (ret (.int 1)))] f__law_draw) (ret [])) fun ds => lft (rng1 ds)) (forL (bName 6) b1__law_cache))
def t2b1__law_cache : M Out :=
  l1__law_cache
def ce1__law_cache : M D :=
  (mIx (mSl 5) (mOp (iOp subI) (mOp (iOp subI) (mOnSq (fun s => some (.int s.ds.length)) (mSl 5)) (ret (.int 1))) (mVar 6)))
def c1__law_cache : M D :=
  (mComp (bnd (mCons (mOnSq (fun s => some (.int s.ds.length)) (mSl 5)) (ret [])) fun ds => lft (rng1 ds)) (bName 6) (ret true) ce1__law_cache [6])
def t3b1__law_cache : M Out :=
  (mIf (mB (mOp eqO (mCall [.io 0, .sh (ret (.int 2))] f__law_draw) (ret (.int 1)))) (bnd c1__law_cache fun d env => toOut (setOw env 5 d)) (ret .nx))
def t4b1__law_cache : M Out :=
  (mFrz 5 (bnd (mLM 3 appF (mCons (mVar 5) (ret []))) fun _ => ret .nx))
def b2__law_cache : M Out :=
  (mSeq t1b1__law_cache
  (mSeq t2b1__law_cache
  (mSeq t3b1__law_cache
  t4b1__law_cache)))
def l2__law_cache : M Out :=
  (bnd (bnd (mCons (mVar 1) (ret [])) fun ds => lft (rng1 ds)) (forL (bName 4) b2__law_cache))
def t2__law_cache : M Out :=
  l2__law_cache
def t3__law_cache : M Out :=
  (mRetV 3)
def m__law_cache : M Out :=
  (mSeq t1__law_cache
  (mSeq t2__law_cache
  t3__law_cache))
def f__law_cache : List D → FR := runF false 7 [.io, .sh, .sh] m__law_cache
def t1__law_world : M Out :=
  (bnd (mOp addA (ret (.int 1)) (mCall [.io 0, .sh (ret (.int 8))] f__law_draw)) fun d env => toOut (setSh env 2 d))
def t2__law_world : M Out :=
  (bnd (mCall [.io 0, .sh (mVar 2), .sh (mVar 1)] f__law_cache) fun d env => toOut (setSh env 3 d))
def t3__law_world : M Out :=
  (bnd (mLst (ret [])) fun d env => toOut (setSh env 4 d))
def ce1__law_world : M D :=
  (mIx (mSl 5) (mOp (iOp subI) (mOp (iOp subI) (mOnSq (fun s => some (.int s.ds.length)) (mSl 5)) (ret (.int 1))) (mVar 6)))
def c1__law_world : M D :=
  (mComp (bnd (mCons (mOnSq (fun s => some (.int s.ds.length)) (mSl 5)) (ret [])) fun ds => lft (rng1 ds)) (bName 6) (ret true) ce1__law_world [6])
def t1b1__law_world : M Out :=
  (bnd (mCatL (mSl 4) (mSq c1__law_world)) fun d env => toOut (setSh env 4 d))
def b1__law_world : M Out :=
  t1b1__law_world
def l1__law_world : M Out :=
  (bnd (bnd (mVar 3) fun d => lft (seqD d)) (forL (bName 5) b1__law_world))
def t4__law_world : M Out :=
  l1__law_world
def t5__law_world : M Out :=
  (bnd (mLst (mCons (mVar 2) (mCons (mVar 1) (mCons (mVar 3) (mCons (mVar 4) (ret [])))))) fun d => ret (.ro d))
def m__law_world : M Out :=
  (mSeq t1__law_world
  (mSeq t2__law_world
  (mSeq t3__law_world
  (mSeq t4__law_world
  t5__law_world))))
def f__law_world : List D → FR := runF true 7 [.io, .sh] m__law_world
def t1__law_line : M Out :=
  (bnd (mSl 1) fun r => bnd (rd r) fun s env => toOut (bRd (bLst 4 (bCons (bName 2) (bCons (bName 3) (bCons (bName 4) (bCons (bName 5) bNil))))) s env))
def t2__law_line : M Out :=
  (bnd (mCall [.io 0, .sh (ret (.int 6))] f__law_draw) fun d env => toOut (setSh env 6 d))
def t3__law_line : M Out :=
  (mIf (mB (mOp (iOp ltI) (mVar 6) (ret (.int 2)))) (mSeq (bnd (mIx (mSl 4) (mCall [.io 0, .sh (mVar 2)] f__law_draw)) fun d env => toOut (setSh env 7 d))
  (mIf (mB (mOp (iOp gtI) (mOnSq (fun s => some (.int s.ds.length)) (mSl 7)) (ret (.int 0)))) (bnd (mIx (mSl 7) (mCall [.io 0, .sh (mOnSq (fun s => some (.int s.ds.length)) (mSl 7))] f__law_draw)) fun d => ret (.rt d)) (ret .nx))) (ret .nx))
def t4__law_line : M Out :=
  (mIf (mAnd (mB (mOp eqO (mVar 6) (ret (.int 2)))) (mB (mOp (iOp gtI) (mOnSq (fun s => some (.int s.ds.length)) (mSl 5)) (ret (.int 0))))) (bnd (mIx (mSl 5) (mCall [.io 0, .sh (mOnSq (fun s => some (.int s.ds.length)) (mSl 5))] f__law_draw)) fun d => ret (.rt d)) (ret .nx))
def t5__law_line : M Out :=
  (mIf (mB (mOp eqO (mVar 6) (ret (.int 3)))) (bnd (mCall [.io 0, .sh (mOp (iOp powI) (ret (.int 10)) (ret (.int 40)))] f__law_draw) fun d => ret (.rt d)) (ret .nx))
def t6__law_line : M Out :=
  (bnd (mCall [.io 0, .sh (mOp (iOp mulI) (mVar 2) (ret (.int 6)))] f__law_draw) fun d => ret (.rt d))
def m__law_line : M Out :=
  (mSeq t1__law_line
  (mSeq t2__law_line
  (mSeq t3__law_line
  (mSeq t4__law_line
  (mSeq t5__law_line
  t6__law_line)))))
def f__law_line : List D → FR := runF false 8 [.io, .bo] m__law_line
def t1__law_touched : M Out :=
  (bnd (mSl 0) fun r => bnd (rd r) fun s env => toOut (bRd (bLst 4 (bCons (bName 2) (bCons (bName 3) (bCons (bName 4) (bCons (bName 5) bNil))))) s env))
def t2__law_touched : M Out :=
  (bnd (mOp (iOp modI) (mCB intO (mCons (mVar 1) (ret []))) (mVar 2)) fun d env => toOut (setSh env 6 d))
def ct1__law_touched : M Bool :=
  (mB (mOp neO (mVar 8) (mVar 1)))
def ce1__law_touched : M D :=
  (mVar 8)
def c1__law_touched : M D :=
  (mComp (bnd (mIx (mSl 4) (mVar 6)) fun d => lft (seqD d)) (bName 8) ct1__law_touched ce1__law_touched [8])
def t3__law_touched : M Out :=
  (bnd (mSlL (mSq (mCatL (mSq (mLst (mCons (mVar 1) (ret [])))) (mSq c1__law_touched))) (ret none) (mPart (mVar 3))) fun d env => toOut (setSh env 7 d))
def t4__law_touched : M Out :=
  (bnd (mLst (mCons (mIn false (mVar 1) (mSq (mIx (mSl 4) (mVar 6)))) (mCons (mCatL (mSq (mCatL (mSq (mSlL (mSl 4) (ret none) (mPart (mVar 6)))) (mSq (mLst (mCons (mVar 7) (ret [])))))) (mSq (mSlL (mSl 4) (mPart (mOp addA (mVar 6) (ret (.int 1)))) (ret none)))) (ret [])))) fun d => ret (.rt d))
def m__law_touched : M Out :=
  (mSeq t1__law_touched
  (mSeq t2__law_touched
  (mSeq t3__law_touched
  t4__law_touched)))
def f__law_touched : List D → FR := runF false 9 [.bo, .sh] m__law_touched
def t1__law_hits : M Out :=
  (bnd (mSl 0) fun r => bnd (rd r) fun s env => toOut (bRd (bLst 4 (bCons (bName 2) (bCons (bName 3) (bCons (bName 4) (bCons (bName 5) bNil))))) s env))
def t2__law_hits : M Out :=
  (bnd (mLst (ret [])) fun d env => toOut (setOw env 6 d))
def t1b1__law_hits : M Out :=
  (bnd (mIx (mSl 5) (mOp (iOp subI) (mOp (iOp subI) (mOnSq (fun s => some (.int s.ds.length)) (mSl 5)) (ret (.int 1))) (mVar 7))) fun d env => toOut (setSh env 8 d))
def t2b1__law_hits : M Out :=
  (mIf (mB (mOp eqO (mVar 8) (mVar 1))) (bnd (mOp (iOp ltI) (mOnSq (fun s => some (.int s.ds.length)) (mSl 6)) (mVar 3)) fun d => ret (.rt d)) (ret .nx))
def t3b1__law_hits : M Out :=
  (mIf (mAnd (mB (mOp eqO (mOp (iOp modI) (mCB intO (mCons (mVar 8) (ret []))) (mVar 2)) (mOp (iOp modI) (mCB intO (mCons (mVar 1) (ret []))) (mVar 2)))) (mB (mIn true (mVar 8) (mSl 6)))) (bnd (mLM 6 appF (mCons (mVar 8) (ret []))) fun _ => ret .nx) (ret .nx))
def b1__law_hits : M Out :=
  (mSeq t1b1__law_hits
  (mSeq t2b1__law_hits
  t3b1__law_hits))
def l1__law_hits : M Out :=
  (bnd (bnd (mCons (mOnSq (fun s => some (.int s.ds.length)) (mSl 5)) (ret [])) fun ds => lft (rng1 ds)) (forL (bName 7) b1__law_hits))
def t3__law_hits : M Out :=
  l1__law_hits
def t4__law_hits : M Out :=
  (bnd (ret (.bl false)) fun d => ret (.rt d))
def m__law_hits : M Out :=
  (mSeq t1__law_hits
  (mSeq t2__law_hits
  (mSeq t3__law_hits
  t4__law_hits)))
def f__law_hits : List D → FR := runF false 9 [.bo, .sh] m__law_hits
def ce1__law_tuples : M D :=
  (mOnSq (fun s => some (.tup s.ds)) (mSq (mVar 1)))
def c1__law_tuples : M D :=
  (mComp (bnd (mVar 0) fun d => lft (seqD d)) (bName 1) (ret true) ce1__law_tuples [1])
def t1__law_tuples : M Out :=
  (bnd (mOnSq (fun s => some (.tup s.ds)) (mSq c1__law_tuples)) fun d => ret (.rt d))
def m__law_tuples : M Out :=
  t1__law_tuples
def f__law_tuples : List D → FR := runF false 2 [.sh] m__law_tuples
def t1_a1 : M Out :=
  (bnd (mCall [.sh (mVar 0), .sh (ret (.int 0))] f__law_row) fun d env => toOut (setOw env 1 d))
def m_a1 : M Out :=
  t1_a1
def t1_a2 : M Out :=
  (bnd (mOp addA (ret (.int 1)) (mCall [.io 1, .sh (ret (.int 60))] f__law_draw)) fun d env => toOut (setSh env 2 d))
def m_a2 : M Out :=
  t1_a2
def t1_c : M Out :=
  (bnd (mLst (ret [])) fun d env => toOut (setOw env 4 d))
def m_c : M Out :=
  t1_c
def t1_b : M Out :=
  (bnd (mCall [.tm (mCall [.sh (mVar 0), .sh (mOp addA (ret (.int 3)) (mVar 5))] f__law_row), .bo 6] f__law_line) fun d env => toOut (setSh env 7 d))
def t2_b : M Out :=
  (bnd (mCall [.sh (mIx (mSl 6) (ret (.int 2)))] f__law_tuples) fun d env => toOut (setSh env 8 d))
def t3_b : M Out :=
  (bnd (mCall [.bo 6, .sh (mVar 7)] f__law_touched) fun d env => toOut ((bLst 2 (bCons (bName 9) (bCons (bName 10) bNil))) d env))
def t4_b : M Out :=
  (bnd (mTup (mCons (mVar 9) (mCons (mCall [.sh (mVar 10)] f__law_tuples) (ret [])))) fun d env => toOut (setSh env 11 d))
def t5_b : M Out :=
  (bnd (mCall [.sh (mVar 8), .sh (mVar 7), .sh (mIx (mSl 6) (ret (.int 1)))] f_touch) fun d env => toOut (setSh env 12 d))
def t6_b : M Out :=
  (mIf (mOr (mNot (mB (mCall [.sh (mVar 12), .sh (mVar 11)] (f__law_same 4)))) (mB (mOp neO (mIx (mSl 12) (ret (.int 0))) (mCall [.bo 6, .sh (mVar 7)] f__law_hits)))) (bnd (ret (.bl false)) fun d => ret (.rt d)) (ret .nx))
def t7_b : M Out :=
  (mIf (mB (mOp (iOp ltI) (mVar 5) (ret (.int 2)))) (bnd (mLM 4 appF (mCons (mLst (mCons (mVar 8) (mCons (mVar 7) (mCons (mIx (mSl 6) (ret (.int 1))) (mCons (mVar 11) (ret [])))))) (ret []))) fun _ => ret .nx) (ret .nx))
def t8_b : M Out :=
  (mSetIx 6 (mVar 10) (ret (.int 2)))
def t9_b : M Out :=
  (mSetIx 6 (mCatL (mSq (mIx (mSl 6) (ret (.int 3)))) (mSq (mLst (mCons (mVar 7) (ret []))))) (ret (.int 3)))
def m_b : M Out :=
  (mSeq t1_b
  (mSeq t2_b
  (mSeq t3_b
  (mSeq t4_b
  (mSeq t5_b
  (mSeq t6_b
  (mSeq t7_b
  (mSeq t8_b
  t9_b))))))))
def t1b1_d : M Out :=
  (mIf (mNot (mB (mCall [.sh (mCall [.sh (mVar 8), .sh (mVar 7), .sh (mVar 13)] f_touch), .sh (mVar 11)] (f__law_same 4)))) (bnd (ret (.bl false)) fun d => ret (.rt d)) (ret .nx))
def b1_d : M Out :=
  t1b1_d
def l1_d : M Out :=
  (bnd (bnd (mVar 4) fun d => lft (seqD d)) (forL (bLst 4 (bCons (bName 8) (bCons (bName 7) (bCons (bName 13) (bCons (bName 11) bNil))))) b1_d))
def t1_d : M Out :=
  (mFrz 4 l1_d)
def t2_d : M Out :=
  (bnd (ret (.bl true)) fun d => ret (.rt d))
def m_d : M Out :=
  (mSeq t1_d
  t2_d)
section
variable {P : Program} {w : World} {K : PySem.W.Frag} {mg : Str → Option Value} {base : Heap}
theorem ok_touch (T : Txt K mg) : FnOk P w K mg base (L2.CX P w) 1 T.a_touch T.d_touch ["cache", "line", "ways"] (spOf K false [.sh, .sh, .sh] f_touch) := by
  have sc := sc_touch
  exact fn_ok T.F_touch sc rfl (by decide) fun q hr =>
  (ss_cons (ss_set (fun _ => sc.nd) (se_op od_modI (se_var 1) (se_len (sb_var 0) (fun _ => T.n_len))))
  (ss_cons (ss_set (fun _ => sc.nd) (se_ix (sb_var 0) (se_var 3)))
  (ss_cons (ss_set (fun _ => sc.nd) (se_in (se_var 1) (sb_var 4)))
  (ss_cons (ss_set (fun _ => sc.nd) (se_op od_add (se_tup (sa_cons (se_var 1) sa_nil)) (se_tuple (se_of_so (so_lc (own := [("other", 7)]) (fun _ => sc.nd) (si_seq (se_var 4)) (fun _ => blkOk_by (N := N_touch) (sc := (defScope s_touch)) (by decide +kernel)) (sg_name (fun _ => sc.nd)) (sts_one (st_cmp (od_ne (fun _ => hr)) (se_var 7) (se_var 1) (nomark _))) (se_var 7) (by decide))) (fun _ => T.n_tuple))))
  (ss_one (ss_ret (se_tup (sa_cons (se_var 5) (sa_cons (se_op od_add (se_op od_add (se_slice (se_var 0) sp_no (sp_at (se_var 3))) (se_tup (sa_cons (se_slice (se_var 6) sp_no (sp_at (se_var 2))) sa_nil))) (se_slice (se_var 0) (sp_at (se_op od_add (se_var 3) se_int)) sp_no)) sa_nil)))))))))
theorem ok__law_row (T : Txt K mg) : FnOk P w K mg base (L2.CX P w) 1 T.a__law_row T.d__law_row ["script", "k"] (spOf K true [.sh, .sh] f__law_row) := by
  have sc := sc__law_row
  exact fn_ok T.F__law_row sc rfl (by decide) fun q hr =>
  (ss_cons (ss_set (fun _ => sc.nd) se_int)
  (ss_cons (ss_if (st_cmp od_ltI (se_var 1) (se_len (sb_var 0) (fun _ => T.n_len)) (nomark _)) (ss_one (ss_set (fun _ => sc.nd) (se_callB cd_abs (sa_cons (se_callTy cd_int (sa_cons (se_ix (sb_var 0) (se_var 1)) sa_nil) (fun _ => T.n_int) boot_int) sa_nil) (fun _ => T.n_abs) (by decide +kernel)))) (ss_one (ss_if (st_cmp od_gtI (se_len (sb_var 0) (fun _ => T.n_len)) se_int (nomark _)) (ss_one (ss_set (fun _ => sc.nd) (se_op od_add (se_op od_mulI (se_op od_modI (se_callTy cd_int (sa_cons (se_callB cd_abs (sa_cons (se_callTy cd_int (sa_cons (se_ix (sb_var 0) (se_op od_modI (se_callTy cd_int (sa_cons (se_var 1) sa_nil) (fun _ => T.n_int) boot_int) (se_len (sb_var 0) (fun _ => T.n_len)))) sa_nil) (fun _ => T.n_int) boot_int) sa_nil) (fun _ => T.n_abs) (by decide +kernel)) sa_nil) (fun _ => T.n_int) boot_int) se_int) se_int) (se_var 1)))) ss_nil)))
  (ss_cons (ss_set (fun _ => sc.nd) se_int)
  (ss_cons (ss_if (st_cmp od_geI (se_var 2) (se_op od_powI se_int se_int) (nomark _)) (ss_one (ss_set (fun _ => sc.nd) (se_op od_subI (se_var 2) (se_op od_powI se_int se_int)))) ss_nil)
  (ss_one (ss_retO (so_lst (sa_cons (se_var 3) (sa_cons (se_op od_modI (se_callTy cd_int (sa_cons (se_op od_add (se_op od_add (se_op od_mulI (se_op od_modI (se_var 2) se_int) se_int) (se_op od_mulI (se_var 1) se_int)) se_int) sa_nil) (fun _ => T.n_int) boot_int) se_int) sa_nil)))))))))
theorem ok__law_draw (T : Txt K mg) : FnOk P w K mg base (L2.CX P w) 1 T.a__law_draw T.d__law_draw ["row", "n"] (spOf K false [.io, .sh] f__law_draw) := by
  have sc := sc__law_draw
  exact fn_ok T.F__law_draw sc rfl (by decide) fun q hr =>
  (ss_cons (ss_if (st_cmp od_gtI (se_ix (sb_var 0) se_int) se_int (nomark _)) (ss_cons (ss_set (fun _ => sc.nd) (se_op od_modI (se_callTy cd_int (sa_cons (se_ix (sb_var 0) se_int) sa_nil) (fun _ => T.n_int) boot_int) (se_var 1)))
  (ss_cons (ss_setIx 0 (se_op od_divI (se_callTy cd_int (sa_cons (se_ix (sb_var 0) se_int) sa_nil) (fun _ => T.n_int) boot_int) (se_var 1)) se_int)
  (ss_one (ss_ret (se_var 2))))) ss_nil)
  (ss_cons (ss_setIx 0 (se_op od_modI (se_callTy cd_int (sa_cons (se_op od_add (se_op od_mulI (se_ix (sb_var 0) se_int) se_int) se_int) sa_nil) (fun _ => T.n_int) boot_int) se_int) se_int)
  (ss_one (ss_ret (se_op od_modI (se_op od_divI (se_callTy cd_int (sa_cons (se_ix (sb_var 0) se_int) sa_nil) (fun _ => T.n_int) boot_int) se_int) (se_var 1))))))
theorem ok__law_same (T : Txt K mg) : ∀ n, FnOk P w K mg base (L2.CX P w) (n + 1) T.a__law_same T.d__law_same ["actual", "due"] (spOf K false [.sh, .sh] (f__law_same n))
  | 0 => ⟨fun vs H Q E ⟨g, ds, _, ao, _⟩ => by rw [ao.len.1]; rfl, fun A outer s H args us vs Q E hr he hb hv h => by obtain ⟨g, ds, _, _, z⟩ := h; exact z.elim⟩
  | n + 1 => by
    have sc := sc__law_same
    have hrec := ok__law_same T n
    exact fn_ok T.F__law_same sc rfl (by decide) fun q hr =>
  (ss_cons (ss_if (st_cmp od_isN (se_var 1) se_non (nomark _)) (ss_one (ss_ret (se_cmp od_isN (se_var 0) se_non (nomark _)))) ss_nil)
  (ss_cons (ss_if (st_val (se_isi (T := "bool") (se_var 1) (fun _ => T.n_isinstance) (fun _ => T.n_bool) (by decide +kernel))) (ss_one (ss_ret (se_and (se_isi (T := "bool") (se_var 0) (fun _ => T.n_isinstance) (fun _ => T.n_bool) (by decide +kernel)) (se_one (se_cmp (od_eq (fun _ => hr)) (se_var 0) (se_var 1) (nomark _)))))) ss_nil)
  (ss_cons (ss_if (st_val (se_isi (T := "int") (se_var 1) (fun _ => T.n_isinstance) (fun _ => T.n_int) (by decide +kernel))) (ss_one (ss_ret (se_and (se_isi (T := "int") (se_var 0) (fun _ => T.n_isinstance) (fun _ => T.n_int) (by decide +kernel)) (se_and (se_not (se_isi (T := "bool") (se_var 0) (fun _ => T.n_isinstance) (fun _ => T.n_bool) (by decide +kernel))) (se_one (se_cmp (od_eq (fun _ => hr)) (se_var 0) (se_var 1) (nomark _))))))) ss_nil)
  (ss_cons (ss_if (st_val (se_isi (T := "str") (se_var 1) (fun _ => T.n_isinstance) (fun _ => T.n_str) (by decide +kernel))) (ss_one (ss_ret (se_and (se_isi (T := "str") (se_var 0) (fun _ => T.n_isinstance) (fun _ => T.n_str) (by decide +kernel)) (se_one (se_cmp (od_eq (fun _ => hr)) (se_var 0) (se_var 1) (nomark _)))))) ss_nil)
  (ss_cons (ss_if (st_of_w (sw_or (st_of_w (sw_and (st_val (se_isi (T := "tuple") (se_var 1) (fun _ => T.n_isinstance) (fun _ => T.n_tuple) (by decide +kernel))) (sw_and1 (st_not (st_val (se_isi (T := "tuple") (se_var 0) (fun _ => T.n_isinstance) (fun _ => T.n_tuple) (by decide +kernel))))))) (sw_or1 (st_of_w (sw_and (st_val (se_isi (T := "list") (se_var 1) (fun _ => T.n_isinstance) (fun _ => T.n_list) (by decide +kernel))) (sw_and1 (st_not (st_val (se_isi (T := "list") (se_var 0) (fun _ => T.n_isinstance) (fun _ => T.n_list) (by decide +kernel)))))))))) (ss_one (ss_ret se_bl)) ss_nil)
  (ss_cons (ss_if (st_cmp (od_ne (fun _ => hr)) (se_len (sb_var 0) (fun _ => T.n_len)) (se_len (sb_var 1) (fun _ => T.n_len)) (nomark _)) (ss_one (ss_ret se_bl)) ss_nil)
  (ss_cons (ss_for (si_range1 (sa_cons (se_len (sb_var 1) (fun _ => T.n_len)) sa_nil) (fun _ => T.n_range)) (sg_name (fun _ => sc.nd)) (ss_one (ss_if (st_not (st_val (se_call (fun _ => hrec) (fun _ => hr.mono (by omega)) (fun _ => T.g__law_same) (fun _ => T.F__law_same.kp) (fun _ => T.b__law_same) (fun _ => takes_of rfl rfl rfl rfl) (sar_sh (se_ix (sb_var 0) (se_var 2)) (sar_sh (se_ix (sb_var 1) (se_var 2)) sar_nil))))) (ss_one (ss_ret se_bl)) ss_nil)) (fun _ => passes_of rfl))
  (ss_one (ss_ret se_bl)))))))))
theorem ok__law_cache (T : Txt K mg) : FnOk P w K mg base (L2.CX P w) 2 T.a__law_cache T.d__law_cache ["row", "sets", "ways"] (spOf K false [.io, .sh, .sh] f__law_cache) := by
  have sc := sc__law_cache
  exact fn_ok T.F__law_cache sc rfl (by decide) fun q hr =>
  (ss_cons (ss_setO (fun _ => sc.nd) (so_lst sa_nil))
  (ss_cons (ss_for (si_range1 (sa_cons (se_var 1) sa_nil) (fun _ => T.n_range)) (sg_name (fun _ => sc.nd)) (ss_cons (ss_setO (fun _ => sc.nd) (so_lst sa_nil))
  (ss_cons (ss_for (si_range1 (sa_cons (se_call (fun _ => ok__law_draw T) (fun _ => hr.mono (by decide)) (fun _ => T.g__law_draw) (fun _ => T.F__law_draw.kp) (fun _ => T.b__law_draw) (fun _ => takes_of rfl rfl rfl rfl) (sar_io 0 (sar_sh (se_op od_add (se_var 2) se_int) sar_nil))) sa_nil) (fun _ => T.n_range)) (sg_name (fun _ => sc.nd)) (ss_one (ss_expr (se_lm 5 lm_append PySem.F.slot_list_append PySem.F.type_list_append (sa_cons (se_op od_add (se_var 4) (se_op od_mulI (se_var 1) (se_op od_add (se_op od_mulI se_int (se_var 6)) (se_call (fun _ => ok__law_draw T) (fun _ => hr.mono (by decide)) (fun _ => T.g__law_draw) (fun _ => T.F__law_draw.kp) (fun _ => T.b__law_draw) (fun _ => takes_of rfl rfl rfl rfl) (sar_io 0 (sar_sh se_int sar_nil)))))) sa_nil)))) (fun _ => passes_of rfl))
  (ss_cons (ss_if (st_cmp (od_eq (fun _ => hr)) (se_call (fun _ => ok__law_draw T) (fun _ => hr.mono (by decide)) (fun _ => T.g__law_draw) (fun _ => T.F__law_draw.kp) (fun _ => T.b__law_draw) (fun _ => takes_of rfl rfl rfl rfl) (sar_io 0 (sar_sh se_int sar_nil))) se_int (nomark _)) (ss_one (ss_setO (fun _ => sc.nd) (so_lc (own := [("k", 6)]) (fun _ => sc.nd) (si_range1 (sa_cons (se_len (sb_var 5) (fun _ => T.n_len)) sa_nil) (fun _ => T.n_range)) (fun _ => blkOk_by (N := N__law_cache) (sc := (defScope s__law_cache)) (by decide +kernel)) (sg_name (fun _ => sc.nd)) sts_nil (se_ix (sb_var 5) (se_op od_subI (se_op od_subI (se_len (sb_var 5) (fun _ => T.n_len)) se_int) (se_var 6))) (by decide)))) ss_nil)
  (ss_one (ss_frz 5 (ss_expr (se_lm 3 lm_append PySem.F.slot_list_append PySem.F.type_list_append (sa_cons (se_var 5) sa_nil)))))))) (fun _ => passes_of rfl))
  (ss_one (ss_retV 3))))
theorem ok__law_world (T : Txt K mg) : FnOk P w K mg base (L2.CX P w) 3 T.a__law_world T.d__law_world ["row", "ways"] (spOf K true [.io, .sh] f__law_world) := by
  have sc := sc__law_world
  exact fn_ok T.F__law_world sc rfl (by decide) fun q hr =>
  (ss_cons (ss_set (fun _ => sc.nd) (se_op od_add se_int (se_call (fun _ => ok__law_draw T) (fun _ => hr.mono (by decide)) (fun _ => T.g__law_draw) (fun _ => T.F__law_draw.kp) (fun _ => T.b__law_draw) (fun _ => takes_of rfl rfl rfl rfl) (sar_io 0 (sar_sh se_int sar_nil)))))
  (ss_cons (ss_set (fun _ => sc.nd) (se_call (fun _ => ok__law_cache T) (fun _ => hr.mono (by decide)) (fun _ => T.g__law_cache) (fun _ => T.F__law_cache.kp) (fun _ => T.b__law_cache) (fun _ => takes_of rfl rfl rfl rfl) (sar_io 0 (sar_sh (se_var 2) (sar_sh (se_var 1) sar_nil)))))
  (ss_cons (ss_set (fun _ => sc.nd) (se_of_so (so_lst sa_nil)))
  (ss_cons (ss_for (si_seq (se_var 3)) (sg_name (fun _ => sc.nd)) (ss_one (ss_set (fun _ => sc.nd) (se_of_so (so_cat (sb_var 4) (sb_of (se_of_so (so_lc (own := [("k", 6)]) (fun _ => sc.nd) (si_range1 (sa_cons (se_len (sb_var 5) (fun _ => T.n_len)) sa_nil) (fun _ => T.n_range)) (fun _ => blkOk_by (N := N__law_world) (sc := (defScope s__law_world)) (by decide +kernel)) (sg_name (fun _ => sc.nd)) sts_nil (se_ix (sb_var 5) (se_op od_subI (se_op od_subI (se_len (sb_var 5) (fun _ => T.n_len)) se_int) (se_var 6))) (by decide)))))))) (fun _ => passes_of rfl))
  (ss_one (ss_retO (so_lst (sa_cons (se_var 2) (sa_cons (se_var 1) (sa_cons (se_var 3) (sa_cons (se_var 4) sa_nil)))))))))))
theorem ok__law_line (T : Txt K mg) : FnOk P w K mg base (L2.CX P w) 2 T.a__law_line T.d__law_line ["row", "world"] (spOf K false [.io, .bo] f__law_line) := by
  have sc := sc__law_line
  exact fn_ok T.F__law_line sc rfl (by decide) fun q hr =>
  (ss_cons (ss_unl (n := 4) (sb_var 1) (sgs_cons (sg_name (fun _ => sc.nd)) (sgs_cons (sg_name (fun _ => sc.nd)) (sgs_cons (sg_name (fun _ => sc.nd)) (sgs_cons (sg_name (fun _ => sc.nd)) sgs_nil)))))
  (ss_cons (ss_set (fun _ => sc.nd) (se_call (fun _ => ok__law_draw T) (fun _ => hr.mono (by decide)) (fun _ => T.g__law_draw) (fun _ => T.F__law_draw.kp) (fun _ => T.b__law_draw) (fun _ => takes_of rfl rfl rfl rfl) (sar_io 0 (sar_sh se_int sar_nil))))
  (ss_cons (ss_if (st_cmp od_ltI (se_var 6) se_int (nomark _)) (ss_cons (ss_set (fun _ => sc.nd) (se_ix (sb_var 4) (se_call (fun _ => ok__law_draw T) (fun _ => hr.mono (by decide)) (fun _ => T.g__law_draw) (fun _ => T.F__law_draw.kp) (fun _ => T.b__law_draw) (fun _ => takes_of rfl rfl rfl rfl) (sar_io 0 (sar_sh (se_var 2) sar_nil)))))
  (ss_one (ss_if (st_cmp od_gtI (se_len (sb_var 7) (fun _ => T.n_len)) se_int (nomark _)) (ss_one (ss_ret (se_ix (sb_var 7) (se_call (fun _ => ok__law_draw T) (fun _ => hr.mono (by decide)) (fun _ => T.g__law_draw) (fun _ => T.F__law_draw.kp) (fun _ => T.b__law_draw) (fun _ => takes_of rfl rfl rfl rfl) (sar_io 0 (sar_sh (se_len (sb_var 7) (fun _ => T.n_len)) sar_nil)))))) ss_nil))) ss_nil)
  (ss_cons (ss_if (st_of_w (sw_and (st_cmp (od_eq (fun _ => hr)) (se_var 6) se_int (nomark _)) (sw_and1 (st_cmp od_gtI (se_len (sb_var 5) (fun _ => T.n_len)) se_int (nomark _))))) (ss_one (ss_ret (se_ix (sb_var 5) (se_call (fun _ => ok__law_draw T) (fun _ => hr.mono (by decide)) (fun _ => T.g__law_draw) (fun _ => T.F__law_draw.kp) (fun _ => T.b__law_draw) (fun _ => takes_of rfl rfl rfl rfl) (sar_io 0 (sar_sh (se_len (sb_var 5) (fun _ => T.n_len)) sar_nil)))))) ss_nil)
  (ss_cons (ss_if (st_cmp (od_eq (fun _ => hr)) (se_var 6) se_int (nomark _)) (ss_one (ss_ret (se_call (fun _ => ok__law_draw T) (fun _ => hr.mono (by decide)) (fun _ => T.g__law_draw) (fun _ => T.F__law_draw.kp) (fun _ => T.b__law_draw) (fun _ => takes_of rfl rfl rfl rfl) (sar_io 0 (sar_sh (se_op od_powI se_int se_int) sar_nil))))) ss_nil)
  (ss_one (ss_ret (se_call (fun _ => ok__law_draw T) (fun _ => hr.mono (by decide)) (fun _ => T.g__law_draw) (fun _ => T.F__law_draw.kp) (fun _ => T.b__law_draw) (fun _ => takes_of rfl rfl rfl rfl) (sar_io 0 (sar_sh (se_op od_mulI (se_var 2) se_int) sar_nil))))))))))
theorem ok__law_touched (T : Txt K mg) : FnOk P w K mg base (L2.CX P w) 1 T.a__law_touched T.d__law_touched ["world", "line"] (spOf K false [.bo, .sh] f__law_touched) := by
  have sc := sc__law_touched
  exact fn_ok T.F__law_touched sc rfl (by decide) fun q hr =>
  (ss_cons (ss_unl (n := 4) (sb_var 0) (sgs_cons (sg_name (fun _ => sc.nd)) (sgs_cons (sg_name (fun _ => sc.nd)) (sgs_cons (sg_name (fun _ => sc.nd)) (sgs_cons (sg_name (fun _ => sc.nd)) sgs_nil)))))
  (ss_cons (ss_set (fun _ => sc.nd) (se_op od_modI (se_callTy cd_int (sa_cons (se_var 1) sa_nil) (fun _ => T.n_int) boot_int) (se_var 2)))
  (ss_cons (ss_set (fun _ => sc.nd) (se_of_so (so_slice (sb_of (se_of_so (so_cat (sb_of (se_of_so (so_lst (sa_cons (se_var 1) sa_nil)))) (sb_of (se_of_so (so_lc (own := [("one", 8)]) (fun _ => sc.nd) (si_seq (se_ix (sb_var 4) (se_var 6))) (fun _ => blkOk_by (N := N__law_touched) (sc := (defScope s__law_touched)) (by decide +kernel)) (sg_name (fun _ => sc.nd)) (sts_one (st_cmp (od_ne (fun _ => hr)) (se_var 8) (se_var 1) (nomark _))) (se_var 8) (by decide))))))) sp_no (sp_at (se_var 3)))))
  (ss_one (ss_ret (se_of_so (so_lst (sa_cons (se_in (se_var 1) (sb_of (se_ix (sb_var 4) (se_var 6)))) (sa_cons (se_of_so (so_cat (sb_of (se_of_so (so_cat (sb_of (se_of_so (so_slice (sb_var 4) sp_no (sp_at (se_var 6))))) (sb_of (se_of_so (so_lst (sa_cons (se_var 7) sa_nil))))))) (sb_of (se_of_so (so_slice (sb_var 4) (sp_at (se_op od_add (se_var 6) se_int)) sp_no))))) sa_nil)))))))))
theorem ok__law_hits (T : Txt K mg) : FnOk P w K mg base (L2.CX P w) 1 T.a__law_hits T.d__law_hits ["world", "line"] (spOf K false [.bo, .sh] f__law_hits) := by
  have sc := sc__law_hits
  exact fn_ok T.F__law_hits sc rfl (by decide) fun q hr =>
  (ss_cons (ss_unl (n := 4) (sb_var 0) (sgs_cons (sg_name (fun _ => sc.nd)) (sgs_cons (sg_name (fun _ => sc.nd)) (sgs_cons (sg_name (fun _ => sc.nd)) (sgs_cons (sg_name (fun _ => sc.nd)) sgs_nil)))))
  (ss_cons (ss_setO (fun _ => sc.nd) (so_lst sa_nil))
  (ss_cons (ss_for (si_range1 (sa_cons (se_len (sb_var 5) (fun _ => T.n_len)) sa_nil) (fun _ => T.n_range)) (sg_name (fun _ => sc.nd)) (ss_cons (ss_set (fun _ => sc.nd) (se_ix (sb_var 5) (se_op od_subI (se_op od_subI (se_len (sb_var 5) (fun _ => T.n_len)) se_int) (se_var 7))))
  (ss_cons (ss_if (st_cmp (od_eq (fun _ => hr)) (se_var 8) (se_var 1) (nomark _)) (ss_one (ss_ret (se_cmp od_ltI (se_len (sb_var 6) (fun _ => T.n_len)) (se_var 3) (nomark _)))) ss_nil)
  (ss_one (ss_if (st_of_w (sw_and (st_cmp (od_eq (fun _ => hr)) (se_op od_modI (se_callTy cd_int (sa_cons (se_var 8) sa_nil) (fun _ => T.n_int) boot_int) (se_var 2)) (se_op od_modI (se_callTy cd_int (sa_cons (se_var 1) sa_nil) (fun _ => T.n_int) boot_int) (se_var 2)) (nomark _)) (sw_and1 (st_nin (se_var 8) (sb_var 6))))) (ss_one (ss_expr (se_lm 6 lm_append PySem.F.slot_list_append PySem.F.type_list_append (sa_cons (se_var 8) sa_nil)))) ss_nil)))) (fun _ => passes_of rfl))
  (ss_one (ss_ret se_bl)))))
theorem ok__law_tuples (T : Txt K mg) : FnOk P w K mg base (L2.CX P w) 1 T.a__law_tuples T.d__law_tuples ["held"] (spOf K false [.sh] f__law_tuples) := by
  have sc := sc__law_tuples
  exact fn_ok T.F__law_tuples sc rfl (by decide) fun q hr =>
  (ss_one (ss_ret (se_tuple (se_of_so (so_lc (own := [("lines", 1)]) (fun _ => sc.nd) (si_seq (se_var 0)) (fun _ => blkOk_by (N := N__law_tuples) (sc := (defScope s__law_tuples)) (by decide +kernel)) (sg_name (fun _ => sc.nd)) sts_nil (se_tuple (se_var 1) (fun _ => T.n_tuple)) (by decide))) (fun _ => T.n_tuple))))
theorem pp_a1 (T : Txt K mg) (q : Value × Around × List Env × Shared × Hp × XK) (hr : Room 5 (cxF P w K mg base N_law "law" s_law T.a_law q).A) : SS K (fun _ : Unit => cxF P w K mg base N_law "law" s_law T.a_law q) (fun cls d _ H => q.2.2.2.2.2 cls d H) (stAt (defBody s_law) 0) m_a1 := by
  have sc := sc_law
  exact (ss_setO (fun _ => sc.nd) (so_call (fun _ => ok__law_row T) (fun _ => hr.mono (by decide)) (fun _ => T.g__law_row) (fun _ => T.F__law_row.kp) (fun _ => T.b__law_row) (fun _ => takes_of rfl rfl rfl rfl) (sar_sh (se_var 0) (sar_sh se_int sar_nil))))
theorem pp_a2 (T : Txt K mg) (q : Value × Around × List Env × Shared × Hp × XK) (hr : Room 5 (cxF P w K mg base N_law "law" s_law T.a_law q).A) : SS K (fun _ : Unit => cxF P w K mg base N_law "law" s_law T.a_law q) (fun cls d _ H => q.2.2.2.2.2 cls d H) (stAt (defBody s_law) 1) m_a2 := by
  have sc := sc_law
  exact (ss_set (fun _ => sc.nd) (se_op od_add se_int (se_call (fun _ => ok__law_draw T) (fun _ => hr.mono (by decide)) (fun _ => T.g__law_draw) (fun _ => T.F__law_draw.kp) (fun _ => T.b__law_draw) (fun _ => takes_of rfl rfl rfl rfl) (sar_io 1 (sar_sh se_int sar_nil)))))
theorem pp_c (T : Txt K mg) (q : Value × Around × List Env × Shared × Hp × XK) (hr : Room 5 (cxF P w K mg base N_law "law" s_law T.a_law q).A) : SS K (fun _ : Unit => cxF P w K mg base N_law "law" s_law T.a_law q) (fun cls d _ H => q.2.2.2.2.2 cls d H) (stAt (defBody s_law) 3) m_c := by
  have sc := sc_law
  exact (ss_setO (fun _ => sc.nd) (so_lst sa_nil))
theorem pp_b (T : Txt K mg) (q : Value × Around × List Env × Shared × Hp × XK) (hr : Room 5 (cxF P w K mg base N_law "law" s_law T.a_law q).A) : SSs K (fun _ : Unit => cxF P w K mg base N_law "law" s_law T.a_law q) (fun cls d _ H => q.2.2.2.2.2 cls d H) ((forBody (stAt (defBody s_law) 4)).drop 1) m_b := by
  have sc := sc_law
  exact (ss_cons (ss_set (fun _ => sc.nd) (se_call (fun _ => ok__law_line T) (fun _ => hr.mono (by decide)) (fun _ => T.g__law_line) (fun _ => T.F__law_line.kp) (fun _ => T.b__law_line) (fun _ => takes_of rfl rfl rfl rfl) (sar_tm (so_call (fun _ => ok__law_row T) (fun _ => hr.mono (by decide)) (fun _ => T.g__law_row) (fun _ => T.F__law_row.kp) (fun _ => T.b__law_row) (fun _ => takes_of rfl rfl rfl rfl) (sar_sh (se_var 0) (sar_sh (se_op od_add se_int (se_var 5)) sar_nil))) (sar_bo 6 sar_nil))))
  (ss_cons (ss_set (fun _ => sc.nd) (se_call (fun _ => ok__law_tuples T) (fun _ => hr.mono (by decide)) (fun _ => T.g__law_tuples) (fun _ => T.F__law_tuples.kp) (fun _ => T.b__law_tuples) (fun _ => takes_of rfl rfl rfl rfl) (sar_sh (se_ix (sb_var 6) se_int) sar_nil)))
  (ss_cons (ss_asg (se_call (fun _ => ok__law_touched T) (fun _ => hr.mono (by decide)) (fun _ => T.g__law_touched) (fun _ => T.F__law_touched.kp) (fun _ => T.b__law_touched) (fun _ => takes_of rfl rfl rfl rfl) (sar_bo 6 (sar_sh (se_var 7) sar_nil))) (sg_lst (n := 2) (sgs_cons (sg_name (fun _ => sc.nd)) (sgs_cons (sg_name (fun _ => sc.nd)) sgs_nil))))
  (ss_cons (ss_set (fun _ => sc.nd) (se_tup (sa_cons (se_var 9) (sa_cons (se_call (fun _ => ok__law_tuples T) (fun _ => hr.mono (by decide)) (fun _ => T.g__law_tuples) (fun _ => T.F__law_tuples.kp) (fun _ => T.b__law_tuples) (fun _ => takes_of rfl rfl rfl rfl) (sar_sh (se_var 10) sar_nil)) sa_nil))))
  (ss_cons (ss_set (fun _ => sc.nd) (se_call (fun _ => ok_touch T) (fun _ => hr.mono (by decide)) (fun _ => T.g_touch) (fun _ => T.F_touch.kp) (fun _ => T.b_touch) (fun _ => takes_of rfl rfl rfl rfl) (sar_sh (se_var 8) (sar_sh (se_var 7) (sar_sh (se_ix (sb_var 6) se_int) sar_nil)))))
  (ss_cons (ss_if (st_of_w (sw_or (st_not (st_val (se_call (fun _ => ok__law_same T 4) (fun _ => hr.mono (by decide)) (fun _ => T.g__law_same) (fun _ => T.F__law_same.kp) (fun _ => T.b__law_same) (fun _ => takes_of rfl rfl rfl rfl) (sar_sh (se_var 12) (sar_sh (se_var 11) sar_nil))))) (sw_or1 (st_cmp (od_ne (fun _ => hr)) (se_ix (sb_var 12) se_int) (se_call (fun _ => ok__law_hits T) (fun _ => hr.mono (by decide)) (fun _ => T.g__law_hits) (fun _ => T.F__law_hits.kp) (fun _ => T.b__law_hits) (fun _ => takes_of rfl rfl rfl rfl) (sar_bo 6 (sar_sh (se_var 7) sar_nil))) (nomark _))))) (ss_one (ss_ret se_bl)) ss_nil)
  (ss_cons (ss_if (st_cmp od_ltI (se_var 5) se_int (nomark _)) (ss_one (ss_expr (se_lm 4 lm_append PySem.F.slot_list_append PySem.F.type_list_append (sa_cons (se_of_so (so_lst (sa_cons (se_var 8) (sa_cons (se_var 7) (sa_cons (se_ix (sb_var 6) se_int) (sa_cons (se_var 11) sa_nil)))))) sa_nil)))) ss_nil)
  (ss_cons (ss_setIx 6 (se_var 10) se_int)
  (ss_one (ss_setIx 6 (se_of_so (so_cat (sb_of (se_ix (sb_var 6) se_int)) (sb_of (se_of_so (so_lst (sa_cons (se_var 7) sa_nil)))))) se_int))))))))))
theorem pp_d (T : Txt K mg) (q : Value × Around × List Env × Shared × Hp × XK) (hr : Room 5 (cxF P w K mg base N_law "law" s_law T.a_law q).A) : SSs K (fun _ : Unit => cxF P w K mg base N_law "law" s_law T.a_law q) (fun cls d _ H => q.2.2.2.2.2 cls d H) ((defBody s_law).drop 5) m_d := by
  have sc := sc_law
  exact (ss_cons (ss_frz 4 (ss_for (si_seq (se_var 4)) (sg_lst (n := 4) (sgs_cons (sg_name (fun _ => sc.nd)) (sgs_cons (sg_name (fun _ => sc.nd)) (sgs_cons (sg_name (fun _ => sc.nd)) (sgs_cons (sg_name (fun _ => sc.nd)) sgs_nil))))) (ss_one (ss_if (st_not (st_val (se_call (fun _ => ok__law_same T 4) (fun _ => hr.mono (by decide)) (fun _ => T.g__law_same) (fun _ => T.F__law_same.kp) (fun _ => T.b__law_same) (fun _ => takes_of rfl rfl rfl rfl) (sar_sh (se_call (fun _ => ok_touch T) (fun _ => hr.mono (by decide)) (fun _ => T.g_touch) (fun _ => T.F_touch.kp) (fun _ => T.b_touch) (fun _ => takes_of rfl rfl rfl rfl) (sar_sh (se_var 8) (sar_sh (se_var 7) (sar_sh (se_var 13) sar_nil)))) (sar_sh (se_var 11) sar_nil))))) (ss_one (ss_ret se_bl)) ss_nil)) (fun _ => passes_of rfl)))
  (ss_one (ss_ret se_bl)))
end
end
end K58
namespace K58
open PySem PySem.Spec PyProof.Rows L2 Mir
def dl (xs : List Int) : D := .lst (xs.map .int)
def dt (xs : List Int) : D := .tup (xs.map .int)
/-- the touched set -/
def mv (ls : List Int) (line : Int) (ways : Nat) : List Int := (line :: ls.filter (fun x => decide (x ≠ line))).take ways
theorem cut_lo (xs : List D) (k : Nat) : Mir.cutD xs none (some (k : Int)) = xs.take k := by
  unfold Mir.cutD
  rw [HT.sIx_none, HT.sIx_nat]
  simp only [List.drop_zero, Nat.sub_zero]
  by_cases h : k ≤ xs.length
  · rw [Nat.min_eq_left h]
  · rw [Nat.min_eq_right (by omega), List.take_of_length_le (Nat.le_refl _), List.take_of_length_le (by omega)]
theorem cut_hi (xs : List D) (k : Nat) : Mir.cutD xs (some (k : Int)) none = xs.drop k := by
  unfold Mir.cutD
  rw [HT.sIx_none, HT.sIx_nat]
  by_cases h : k ≤ xs.length
  · rw [Nat.min_eq_left h, List.take_of_length_le (by rw [List.length_drop]; exact Nat.le_refl _)]
  · rw [Nat.min_eq_right (by omega), List.drop_of_length_le (Nat.le_refl _), List.drop_of_length_le (by omega)]
    simp
theorem filterMap_ints (line : Int) : ∀ ls : List Int, (ls.map D.int).filterMap (fun d => match d with
    | .int x => if x = line then none else some (.int x)
    | _ => none) = (ls.filter (fun x => decide (x ≠ line))).map D.int
  | [] => rfl
  | x :: r => by
    rw [List.map_cons, List.filterMap_cons, filterMap_ints line r, List.filter_cons]
    by_cases h : x = line
    · simp [h]
    · simp [h]
theorem touch_val {c : List (List Int)} {line : Int} {w j : Nat} {ls : List Int} (hj : c[j]? = some ls) (he : line % (c.length : Int) = (j : Int)) (hc : c.length ≤ 1000) (hl : ls.length ≤ 1000) (hw : w ≤ 1000) :
    ∃ ds, f_touch [.tup (c.map dt), .int line, .int (w : Int)] = .ok (.tup [.bl (decide (line ∈ ls)), .tup ((c.set j (mv ls line w)).map dt)]) ds := by
  have hjl : j < c.length := (List.getElem?_eq_some_iff.mp hj).1
  have h1 : modI line (c.length : Int) = some (.int (j : Int)) := by rw [modI_pos (by omega), he]
  have h2 : atI (List.map dt c) (j : Int) = some (.tup (ls.map D.int)) := atI_of rfl (by rw [List.getElem?_map, hj]; rfl)
  have h3 := inD_ints line ls
  have h4 : c1_touch [Sl.sh (.tup (c.map dt)), Sl.sh (.int line), Sl.sh (.int (w : Int)), Sl.sh (.int (j : Int)), Sl.sh (.tup (ls.map D.int)), Sl.sh (.bl (decide (line ∈ ls))), Sl.no, Sl.no] = .ok (.lst ((ls.filter (fun x => decide (x ≠ line))).map D.int)) [Sl.sh (.tup (c.map dt)), Sl.sh (.int line), Sl.sh (.int (w : Int)), Sl.sh (.int (j : Int)), Sl.sh (.tup (ls.map D.int)), Sl.sh (.bl (decide (line ∈ ls))), Sl.no, Sl.no] := by
    have q := mComp_pure (mi := bnd (mVar 4) fun d => lft (seqD d)) (b := bName 7) (mt := ct1_touch) (me := ce1_touch) (vs := [7]) (env := [Sl.sh (.tup (c.map dt)), Sl.sh (.int line), Sl.sh (.int (w : Int)), Sl.sh (.int (j : Int)), Sl.sh (.tup (ls.map D.int)), Sl.sh (.bl (decide (line ∈ ls))), Sl.no, Sl.no]) (ds := ls.map D.int)
      (f := fun d => match d with
        | .int x => if x = line then none else some (.int x)
        | _ => none) rfl rfl (fun d hd => ?_) (by rw [List.length_map]; omega)
    · rw [filterMap_ints] at q
      exact q
    · obtain ⟨x, _, rfl⟩ := List.mem_map.mp hd
      by_cases hx : x = line
      · simp only [hx, if_true]
        refine .skip rfl ?_ rfl rfl
        simp only [ct1_touch, few_ok, atI_zero, atI_one, atI_two, atI_three, ixN_20, ixN_21, ixN_40, ixN_41, ixN_42, ixN_43, Int.reduceLT, Int.reduceLE, Int.natCast_add, Int.cast_ofNat_Int, List.length_map, List.length_append, mSeq, bnd, mOp, mVar, mOnSq, mSl, readAt, asSq, rd, Mir.ret, lft, iOp, mCons, mTup, mLst, mSq, mIx, ixD, mIn, mB, asB, mAnd, mOr, mNot, mAndV, mOrV, mNotV, mIf, mPart, asI, mSlT, slT, mSlL, mCatL, mCB, intO, absO, maxO, minO, seqD, lstD, tupD, bName, bTup, bLst, bNil, bCons, bRd, mFrz, freeze, mRetV, toOut, setSh, setOw, free, putOwn, ownAt, lstO, mLM, appF, popF, mSetIx, setF, mAug, addI, subI, ltI, leI, gtI, geI, addA, addT, addS, addL, isNO, notNO, isN, eqO, neO, eqD, toV, mNeg, negD, mChain, mBor, mCall, evAr, anyAt, Mir.fill, okIx, ioIx, boIx, back_s, back_b, back_t, back_e, back_ss, back_sb, back_st, back_se, back_bs, back_bb, back_bt, back_be, back_ts, back_tb, back_tt, back_te, back_es, back_eb, back_et, back_ee, back_sss, back_ssb, back_sst, back_sbs, back_sbb, back_sbt, back_sts, back_stb, back_stt, back_bss, back_bsb, back_bst, back_bbs, back_bbb, back_bbt, back_bts, back_btb, back_btt, back_tss, back_tsb, back_tst, back_tbs, back_tbb, back_tbt, back_tts, back_ttb, back_ttt, back_ssss, back_sssss, back_bsss, back, Ar.md, cont, startE, slOf, plains, Mir.plain, clearE, restE, Sq.ds, runF, List.zipWith, List.getElem?_cons_zero, List.getElem?_cons_succ, List.getElem?_nil, List.replicate, List.cons_append, List.nil_append, List.set_cons_zero, List.set_cons_succ, List.length_cons, List.length_nil, List.map_cons, List.map_nil, List.all_cons, List.all_nil, List.getD_cons_zero, List.getD_cons_succ, Option.map_some, Option.map_none, Option.bind_some, Option.bind_none, Option.isSome_some, Bool.and_true, Bool.true_and, Bool.and_false, Bool.false_and, Bool.not_true, Bool.not_false, if_true, if_false, ite_true, ite_false, reduceIte, reduceCtorEq, Nat.reduceAdd, Nat.reduceSub, Nat.reduceMul, Nat.reduceLeDiff, Nat.reduceLT, Nat.reduceEqDiff, Int.reduceNeg, Bool.false_eq_true, decide_eq_true_eq, decide_true, decide_false, Nat.zero_add, Option.some.injEq, Sl.ow.injEq, Sl.sh.injEq, and_self, and_true, true_and, List.contains_cons, List.contains_nil, List.nodup_nil, List.nodup_cons, List.not_mem_nil, not_false_eq_true, scal]
      · simp only [hx, if_false]
        refine .keep rfl ?_ rfl rfl rfl
        simp only [ct1_touch, few_ok, atI_zero, atI_one, atI_two, atI_three, ixN_20, ixN_21, ixN_40, ixN_41, ixN_42, ixN_43, Int.reduceLT, Int.reduceLE, Int.natCast_add, Int.cast_ofNat_Int, List.length_map, List.length_append, mSeq, bnd, mOp, mVar, mOnSq, mSl, readAt, asSq, rd, Mir.ret, lft, iOp, mCons, mTup, mLst, mSq, mIx, ixD, mIn, mB, asB, mAnd, mOr, mNot, mAndV, mOrV, mNotV, mIf, mPart, asI, mSlT, slT, mSlL, mCatL, mCB, intO, absO, maxO, minO, seqD, lstD, tupD, bName, bTup, bLst, bNil, bCons, bRd, mFrz, freeze, mRetV, toOut, setSh, setOw, free, putOwn, ownAt, lstO, mLM, appF, popF, mSetIx, setF, mAug, addI, subI, ltI, leI, gtI, geI, addA, addT, addS, addL, isNO, notNO, isN, eqO, neO, eqD, toV, mNeg, negD, mChain, mBor, mCall, evAr, anyAt, Mir.fill, okIx, ioIx, boIx, back_s, back_b, back_t, back_e, back_ss, back_sb, back_st, back_se, back_bs, back_bb, back_bt, back_be, back_ts, back_tb, back_tt, back_te, back_es, back_eb, back_et, back_ee, back_sss, back_ssb, back_sst, back_sbs, back_sbb, back_sbt, back_sts, back_stb, back_stt, back_bss, back_bsb, back_bst, back_bbs, back_bbb, back_bbt, back_bts, back_btb, back_btt, back_tss, back_tsb, back_tst, back_tbs, back_tbb, back_tbt, back_tts, back_ttb, back_ttt, back_ssss, back_sssss, back_bsss, back, Ar.md, cont, startE, slOf, plains, Mir.plain, clearE, restE, Sq.ds, runF, List.zipWith, List.getElem?_cons_zero, List.getElem?_cons_succ, List.getElem?_nil, List.replicate, List.cons_append, List.nil_append, List.set_cons_zero, List.set_cons_succ, List.length_cons, List.length_nil, List.map_cons, List.map_nil, List.all_cons, List.all_nil, List.getD_cons_zero, List.getD_cons_succ, Option.map_some, Option.map_none, Option.bind_some, Option.bind_none, Option.isSome_some, Bool.and_true, Bool.true_and, Bool.and_false, Bool.false_and, Bool.not_true, Bool.not_false, if_true, if_false, ite_true, ite_false, reduceIte, reduceCtorEq, Nat.reduceAdd, Nat.reduceSub, Nat.reduceMul, Nat.reduceLeDiff, Nat.reduceLT, Nat.reduceEqDiff, Int.reduceNeg, Bool.false_eq_true, decide_eq_true_eq, decide_true, decide_false, Nat.zero_add, Option.some.injEq, Sl.ow.injEq, Sl.sh.injEq, and_self, and_true, true_and, List.contains_cons, List.contains_nil, List.nodup_nil, List.nodup_cons, List.not_mem_nil, not_false_eq_true, scal, V.int.injEq, hx]
  refine ⟨[.non, .non, .non, .non, .non, .non, .non, .non], ?_⟩
  have h5 : 1 + (List.filter (fun x => decide (x ≠ line)) ls).length ≤ 1000000 := by
    have := List.length_filter_le (fun x => decide (x ≠ line)) ls
    omega
  have h6 : (List.take j (List.map dt c)).length + 1 ≤ 1000000 := by
    rw [List.length_take, List.length_map]
    omega
  have h7 : ∀ xs : List D, Mir.cutD xs (some ((j : Int) + 1)) none = xs.drop (j + 1) := fun xs => by
    have := cut_hi xs (j + 1)
    rwa [Int.natCast_add] at this
  have h8 : (List.take j (List.map dt c)).length + 1 + (List.drop (j + 1) (List.map dt c)).length ≤ 1000000 := by
    rw [List.length_take, List.length_drop, List.length_map]
    omega
  have h9 : List.take j (List.map dt c) ++ [D.tup (List.take w (D.int line :: List.map D.int (List.filter (fun x => decide (x ≠ line)) ls)))] ++ List.drop (j + 1) (List.map dt c) = (c.set j (mv ls line w)).map dt := by
    rw [List.map_set, List.set_eq_take_append_cons_drop, if_pos (by rw [List.length_map]; exact hjl), List.append_assoc]
    unfold mv
    rw [dt, List.map_take, List.map_cons]
    rfl
  simp only [f_touch, m_touch, N_touch, t1_touch, t2_touch, t3_touch, t4_touch, t5_touch, few_ok, atI_zero, atI_one, atI_two, atI_three, ixN_20, ixN_21, ixN_40, ixN_41, ixN_42, ixN_43, Int.reduceLT, Int.reduceLE, Int.natCast_add, Int.cast_ofNat_Int, List.length_map, List.length_append, mSeq, bnd, mOp, mVar, mOnSq, mSl, readAt, asSq, rd, Mir.ret, lft, iOp, mCons, mTup, mLst, mSq, mIx, ixD, mIn, mB, asB, mAnd, mOr, mNot, mAndV, mOrV, mNotV, mIf, mPart, asI, mSlT, slT, mSlL, mCatL, mCB, intO, absO, maxO, minO, seqD, lstD, tupD, bName, bTup, bLst, bNil, bCons, bRd, mFrz, freeze, mRetV, toOut, setSh, setOw, free, putOwn, ownAt, lstO, mLM, appF, popF, mSetIx, setF, mAug, addI, subI, ltI, leI, gtI, geI, addA, addT, addS, addL, isNO, notNO, isN, eqO, neO, eqD, toV, mNeg, negD, mChain, mBor, mCall, evAr, anyAt, Mir.fill, okIx, ioIx, boIx, back_s, back_b, back_t, back_e, back_ss, back_sb, back_st, back_se, back_bs, back_bb, back_bt, back_be, back_ts, back_tb, back_tt, back_te, back_es, back_eb, back_et, back_ee, back_sss, back_ssb, back_sst, back_sbs, back_sbb, back_sbt, back_sts, back_stb, back_stt, back_bss, back_bsb, back_bst, back_bbs, back_bbb, back_bbt, back_bts, back_btb, back_btt, back_tss, back_tsb, back_tst, back_tbs, back_tbb, back_tbt, back_tts, back_ttb, back_ttt, back_ssss, back_sssss, back_bsss, back, Ar.md, cont, startE, slOf, plains, Mir.plain, clearE, restE, Sq.ds, runF, List.zipWith, List.getElem?_cons_zero, List.getElem?_cons_succ, List.getElem?_nil, List.replicate, List.cons_append, List.nil_append, List.set_cons_zero, List.set_cons_succ, List.length_cons, List.length_nil, List.map_cons, List.map_nil, List.all_cons, List.all_nil, List.getD_cons_zero, List.getD_cons_succ, Option.map_some, Option.map_none, Option.bind_some, Option.bind_none, Option.isSome_some, Bool.and_true, Bool.true_and, Bool.and_false, Bool.false_and, Bool.not_true, Bool.not_false, if_true, if_false, ite_true, ite_false, reduceIte, reduceCtorEq, Nat.reduceAdd, Nat.reduceSub, Nat.reduceMul, Nat.reduceLeDiff, Nat.reduceLT, Nat.reduceEqDiff, Int.reduceNeg, Bool.false_eq_true, decide_eq_true_eq, decide_true, decide_false, Nat.zero_add, Option.some.injEq, Sl.ow.injEq, Sl.sh.injEq, and_self, and_true, true_and, List.contains_cons, List.contains_nil, List.nodup_nil, List.nodup_cons, List.not_mem_nil, not_false_eq_true, h1, h2, h3, h4, h5, cut_lo, h6, h7, h8, h9]

/-! ### draws -/
structure Row (a b : Int) : Prop where
  a0 : 0 ≤ a
  b0 : 0 ≤ b
  b1 : b < 2147483647
theorem bits32 {b : Int} (h0 : 0 ≤ b) (h1 : b < 2147483647) : b.natAbs < 2 ^ 31 := by omega
theorem row_val {ns : List Int} {k : Int} (hk0 : 0 ≤ k) (hk : k ≤ 1000) : ∃ a b ds, f__law_row [.lst (ns.map D.int), .int k] = .ok (.lst [.int a, .int b]) ds ∧ Row a b := by
  have hA : ∃ c : Int, 0 ≤ c ∧ t2__law_row [.sh (.lst (ns.map D.int)), .sh (.int k), .sh (.int 0), .no] = .ok .nx [.sh (.lst (ns.map D.int)), .sh (.int k), .sh (.int c), .no] := by
    by_cases h1 : k < (ns.length : Int)
    · obtain ⟨j, ej⟩ : ∃ j : Nat, k = (j : Int) := ⟨k.toNat, by omega⟩
      have hj : j < ns.length := by omega
      have h2 : atI (ns.map D.int) k = some (.int ns[j]) := atI_of ej (by rw [List.getElem?_map, List.getElem?_eq_getElem hj]; rfl)
      refine ⟨if ns[j] < 0 then -ns[j] else ns[j], by split <;> omega, ?_⟩
      simp only [t2__law_row, few_ok, atI_zero, atI_one, atI_two, atI_three, ixN_20, ixN_21, ixN_40, ixN_41, ixN_42, ixN_43, Int.reduceLT, Int.reduceLE, Int.natCast_add, Int.cast_ofNat_Int, List.length_map, List.length_append, mSeq, bnd, mOp, mVar, mOnSq, mSl, readAt, asSq, rd, Mir.ret, lft, iOp, mCons, mTup, mLst, mSq, mIx, ixD, mIn, mB, asB, mAnd, mOr, mNot, mAndV, mOrV, mNotV, mIf, mPart, asI, mSlT, slT, mSlL, mCatL, mCB, intO, absO, maxO, minO, seqD, lstD, tupD, bName, bTup, bLst, bNil, bCons, bRd, mFrz, freeze, mRetV, toOut, setSh, setOw, free, putOwn, ownAt, lstO, mLM, appF, popF, mSetIx, setF, mAug, addI, subI, ltI, leI, gtI, geI, addA, addT, addS, addL, isNO, notNO, isN, eqO, neO, eqD, toV, mNeg, negD, mChain, mBor, mCall, evAr, anyAt, Mir.fill, okIx, ioIx, boIx, back_s, back_b, back_t, back_e, back_ss, back_sb, back_st, back_se, back_bs, back_bb, back_bt, back_be, back_ts, back_tb, back_tt, back_te, back_es, back_eb, back_et, back_ee, back_sss, back_ssb, back_sst, back_sbs, back_sbb, back_sbt, back_sts, back_stb, back_stt, back_bss, back_bsb, back_bst, back_bbs, back_bbb, back_bbt, back_bts, back_btb, back_btt, back_tss, back_tsb, back_tst, back_tbs, back_tbb, back_tbt, back_tts, back_ttb, back_ttt, back_ssss, back_sssss, back_bsss, back, Ar.md, cont, startE, slOf, plains, Mir.plain, clearE, restE, Sq.ds, runF, List.zipWith, List.getElem?_cons_zero, List.getElem?_cons_succ, List.getElem?_nil, List.replicate, List.cons_append, List.nil_append, List.set_cons_zero, List.set_cons_succ, List.length_cons, List.length_nil, List.map_cons, List.map_nil, List.all_cons, List.all_nil, List.getD_cons_zero, List.getD_cons_succ, Option.map_some, Option.map_none, Option.bind_some, Option.bind_none, Option.isSome_some, Bool.and_true, Bool.true_and, Bool.and_false, Bool.false_and, Bool.not_true, Bool.not_false, if_true, if_false, ite_true, ite_false, reduceIte, reduceCtorEq, Nat.reduceAdd, Nat.reduceSub, Nat.reduceMul, Nat.reduceLeDiff, Nat.reduceLT, Nat.reduceEqDiff, Int.reduceNeg, Bool.false_eq_true, decide_eq_true_eq, decide_true, decide_false, Nat.zero_add, Option.some.injEq, Sl.ow.injEq, Sl.sh.injEq, and_self, and_true, true_and, List.contains_cons, List.contains_nil, List.nodup_nil, List.nodup_cons, List.not_mem_nil, not_false_eq_true, h1, h2]
    · by_cases h2 : 0 < (ns.length : Int)
      · have h3 : modI k (ns.length : Int) = some (.int (k % (ns.length : Int))) := modI_pos h2
        have m0 : 0 ≤ k % (ns.length : Int) := Int.emod_nonneg _ (by omega)
        have m1 : k % (ns.length : Int) < (ns.length : Int) := Int.emod_lt_of_pos _ h2
        obtain ⟨j, ej⟩ : ∃ j : Nat, k % (ns.length : Int) = (j : Int) := ⟨(k % (ns.length : Int)).toNat, by omega⟩
        have hj : j < ns.length := by omega
        have h4 : atI (ns.map D.int) (k % (ns.length : Int)) = some (.int ns[j]) := atI_of ej (by rw [List.getElem?_map, List.getElem?_eq_getElem hj]; rfl)
        have h5 : ∀ x : Int, modI x 1000003 = some (.int (x % 1000003)) := fun x => modI_pos (by omega)
        have h6 : ∀ x : Int, mulI (x % 1000003) 48271 = some (.int (x % 1000003 * 48271)) := fun x => mulI_ok (a := 20) (b := 20) (by omega) (by decide) (by decide) (by decide) (by decide)
        refine ⟨(if ns[j] < 0 then -ns[j] else ns[j]) % 1000003 * 48271 + k, by omega, ?_⟩
        simp only [t2__law_row, few_ok, atI_zero, atI_one, atI_two, atI_three, ixN_20, ixN_21, ixN_40, ixN_41, ixN_42, ixN_43, Int.reduceLT, Int.reduceLE, Int.natCast_add, Int.cast_ofNat_Int, List.length_map, List.length_append, mSeq, bnd, mOp, mVar, mOnSq, mSl, readAt, asSq, rd, Mir.ret, lft, iOp, mCons, mTup, mLst, mSq, mIx, ixD, mIn, mB, asB, mAnd, mOr, mNot, mAndV, mOrV, mNotV, mIf, mPart, asI, mSlT, slT, mSlL, mCatL, mCB, intO, absO, maxO, minO, seqD, lstD, tupD, bName, bTup, bLst, bNil, bCons, bRd, mFrz, freeze, mRetV, toOut, setSh, setOw, free, putOwn, ownAt, lstO, mLM, appF, popF, mSetIx, setF, mAug, addI, subI, ltI, leI, gtI, geI, addA, addT, addS, addL, isNO, notNO, isN, eqO, neO, eqD, toV, mNeg, negD, mChain, mBor, mCall, evAr, anyAt, Mir.fill, okIx, ioIx, boIx, back_s, back_b, back_t, back_e, back_ss, back_sb, back_st, back_se, back_bs, back_bb, back_bt, back_be, back_ts, back_tb, back_tt, back_te, back_es, back_eb, back_et, back_ee, back_sss, back_ssb, back_sst, back_sbs, back_sbb, back_sbt, back_sts, back_stb, back_stt, back_bss, back_bsb, back_bst, back_bbs, back_bbb, back_bbt, back_bts, back_btb, back_btt, back_tss, back_tsb, back_tst, back_tbs, back_tbb, back_tbt, back_tts, back_ttb, back_ttt, back_ssss, back_sssss, back_bsss, back, Ar.md, cont, startE, slOf, plains, Mir.plain, clearE, restE, Sq.ds, runF, List.zipWith, List.getElem?_cons_zero, List.getElem?_cons_succ, List.getElem?_nil, List.replicate, List.cons_append, List.nil_append, List.set_cons_zero, List.set_cons_succ, List.length_cons, List.length_nil, List.map_cons, List.map_nil, List.all_cons, List.all_nil, List.getD_cons_zero, List.getD_cons_succ, Option.map_some, Option.map_none, Option.bind_some, Option.bind_none, Option.isSome_some, Bool.and_true, Bool.true_and, Bool.and_false, Bool.false_and, Bool.not_true, Bool.not_false, if_true, if_false, ite_true, ite_false, reduceIte, reduceCtorEq, Nat.reduceAdd, Nat.reduceSub, Nat.reduceMul, Nat.reduceLeDiff, Nat.reduceLT, Nat.reduceEqDiff, Int.reduceNeg, Bool.false_eq_true, decide_eq_true_eq, decide_true, decide_false, Nat.zero_add, Option.some.injEq, Sl.ow.injEq, Sl.sh.injEq, and_self, and_true, true_and, List.contains_cons, List.contains_nil, List.nodup_nil, List.nodup_cons, List.not_mem_nil, not_false_eq_true, h1, h2, h3, h4, h5, h6]
      · refine ⟨0, by omega, ?_⟩
        simp only [t2__law_row, few_ok, atI_zero, atI_one, atI_two, atI_three, ixN_20, ixN_21, ixN_40, ixN_41, ixN_42, ixN_43, Int.reduceLT, Int.reduceLE, Int.natCast_add, Int.cast_ofNat_Int, List.length_map, List.length_append, mSeq, bnd, mOp, mVar, mOnSq, mSl, readAt, asSq, rd, Mir.ret, lft, iOp, mCons, mTup, mLst, mSq, mIx, ixD, mIn, mB, asB, mAnd, mOr, mNot, mAndV, mOrV, mNotV, mIf, mPart, asI, mSlT, slT, mSlL, mCatL, mCB, intO, absO, maxO, minO, seqD, lstD, tupD, bName, bTup, bLst, bNil, bCons, bRd, mFrz, freeze, mRetV, toOut, setSh, setOw, free, putOwn, ownAt, lstO, mLM, appF, popF, mSetIx, setF, mAug, addI, subI, ltI, leI, gtI, geI, addA, addT, addS, addL, isNO, notNO, isN, eqO, neO, eqD, toV, mNeg, negD, mChain, mBor, mCall, evAr, anyAt, Mir.fill, okIx, ioIx, boIx, back_s, back_b, back_t, back_e, back_ss, back_sb, back_st, back_se, back_bs, back_bb, back_bt, back_be, back_ts, back_tb, back_tt, back_te, back_es, back_eb, back_et, back_ee, back_sss, back_ssb, back_sst, back_sbs, back_sbb, back_sbt, back_sts, back_stb, back_stt, back_bss, back_bsb, back_bst, back_bbs, back_bbb, back_bbt, back_bts, back_btb, back_btt, back_tss, back_tsb, back_tst, back_tbs, back_tbb, back_tbt, back_tts, back_ttb, back_ttt, back_ssss, back_sssss, back_bsss, back, Ar.md, cont, startE, slOf, plains, Mir.plain, clearE, restE, Sq.ds, runF, List.zipWith, List.getElem?_cons_zero, List.getElem?_cons_succ, List.getElem?_nil, List.replicate, List.cons_append, List.nil_append, List.set_cons_zero, List.set_cons_succ, List.length_cons, List.length_nil, List.map_cons, List.map_nil, List.all_cons, List.all_nil, List.getD_cons_zero, List.getD_cons_succ, Option.map_some, Option.map_none, Option.bind_some, Option.bind_none, Option.isSome_some, Bool.and_true, Bool.true_and, Bool.and_false, Bool.false_and, Bool.not_true, Bool.not_false, if_true, if_false, ite_true, ite_false, reduceIte, reduceCtorEq, Nat.reduceAdd, Nat.reduceSub, Nat.reduceMul, Nat.reduceLeDiff, Nat.reduceLT, Nat.reduceEqDiff, Int.reduceNeg, Bool.false_eq_true, decide_eq_true_eq, decide_true, decide_false, Nat.zero_add, Option.some.injEq, Sl.ow.injEq, Sl.sh.injEq, and_self, and_true, true_and, List.contains_cons, List.contains_nil, List.nodup_nil, List.nodup_cons, List.not_mem_nil, not_false_eq_true, h1, h2]
  obtain ⟨c, hc, hA⟩ := hA
  have p18 : powI 10 18 = some (.int 1000000000000000000) := powI_ok (by decide)
  have hB : ∃ a : Int, 0 ≤ a ∧ t4__law_row [.sh (.lst (ns.map D.int)), .sh (.int k), .sh (.int c), .sh (.int 0)] = .ok .nx [.sh (.lst (ns.map D.int)), .sh (.int k), .sh (.int c), .sh (.int a)] := by
    by_cases h1 : 1000000000000000000 ≤ c
    · refine ⟨c - 1000000000000000000, by omega, ?_⟩
      simp only [t4__law_row, few_ok, atI_zero, atI_one, atI_two, atI_three, ixN_20, ixN_21, ixN_40, ixN_41, ixN_42, ixN_43, Int.reduceLT, Int.reduceLE, Int.natCast_add, Int.cast_ofNat_Int, List.length_map, List.length_append, mSeq, bnd, mOp, mVar, mOnSq, mSl, readAt, asSq, rd, Mir.ret, lft, iOp, mCons, mTup, mLst, mSq, mIx, ixD, mIn, mB, asB, mAnd, mOr, mNot, mAndV, mOrV, mNotV, mIf, mPart, asI, mSlT, slT, mSlL, mCatL, mCB, intO, absO, maxO, minO, seqD, lstD, tupD, bName, bTup, bLst, bNil, bCons, bRd, mFrz, freeze, mRetV, toOut, setSh, setOw, free, putOwn, ownAt, lstO, mLM, appF, popF, mSetIx, setF, mAug, addI, subI, ltI, leI, gtI, geI, addA, addT, addS, addL, isNO, notNO, isN, eqO, neO, eqD, toV, mNeg, negD, mChain, mBor, mCall, evAr, anyAt, Mir.fill, okIx, ioIx, boIx, back_s, back_b, back_t, back_e, back_ss, back_sb, back_st, back_se, back_bs, back_bb, back_bt, back_be, back_ts, back_tb, back_tt, back_te, back_es, back_eb, back_et, back_ee, back_sss, back_ssb, back_sst, back_sbs, back_sbb, back_sbt, back_sts, back_stb, back_stt, back_bss, back_bsb, back_bst, back_bbs, back_bbb, back_bbt, back_bts, back_btb, back_btt, back_tss, back_tsb, back_tst, back_tbs, back_tbb, back_tbt, back_tts, back_ttb, back_ttt, back_ssss, back_sssss, back_bsss, back, Ar.md, cont, startE, slOf, plains, Mir.plain, clearE, restE, Sq.ds, runF, List.zipWith, List.getElem?_cons_zero, List.getElem?_cons_succ, List.getElem?_nil, List.replicate, List.cons_append, List.nil_append, List.set_cons_zero, List.set_cons_succ, List.length_cons, List.length_nil, List.map_cons, List.map_nil, List.all_cons, List.all_nil, List.getD_cons_zero, List.getD_cons_succ, Option.map_some, Option.map_none, Option.bind_some, Option.bind_none, Option.isSome_some, Bool.and_true, Bool.true_and, Bool.and_false, Bool.false_and, Bool.not_true, Bool.not_false, if_true, if_false, ite_true, ite_false, reduceIte, reduceCtorEq, Nat.reduceAdd, Nat.reduceSub, Nat.reduceMul, Nat.reduceLeDiff, Nat.reduceLT, Nat.reduceEqDiff, Int.reduceNeg, Bool.false_eq_true, decide_eq_true_eq, decide_true, decide_false, Nat.zero_add, Option.some.injEq, Sl.ow.injEq, Sl.sh.injEq, and_self, and_true, true_and, List.contains_cons, List.contains_nil, List.nodup_nil, List.nodup_cons, List.not_mem_nil, not_false_eq_true, p18, h1]
    · refine ⟨0, by omega, ?_⟩
      simp only [t4__law_row, few_ok, atI_zero, atI_one, atI_two, atI_three, ixN_20, ixN_21, ixN_40, ixN_41, ixN_42, ixN_43, Int.reduceLT, Int.reduceLE, Int.natCast_add, Int.cast_ofNat_Int, List.length_map, List.length_append, mSeq, bnd, mOp, mVar, mOnSq, mSl, readAt, asSq, rd, Mir.ret, lft, iOp, mCons, mTup, mLst, mSq, mIx, ixD, mIn, mB, asB, mAnd, mOr, mNot, mAndV, mOrV, mNotV, mIf, mPart, asI, mSlT, slT, mSlL, mCatL, mCB, intO, absO, maxO, minO, seqD, lstD, tupD, bName, bTup, bLst, bNil, bCons, bRd, mFrz, freeze, mRetV, toOut, setSh, setOw, free, putOwn, ownAt, lstO, mLM, appF, popF, mSetIx, setF, mAug, addI, subI, ltI, leI, gtI, geI, addA, addT, addS, addL, isNO, notNO, isN, eqO, neO, eqD, toV, mNeg, negD, mChain, mBor, mCall, evAr, anyAt, Mir.fill, okIx, ioIx, boIx, back_s, back_b, back_t, back_e, back_ss, back_sb, back_st, back_se, back_bs, back_bb, back_bt, back_be, back_ts, back_tb, back_tt, back_te, back_es, back_eb, back_et, back_ee, back_sss, back_ssb, back_sst, back_sbs, back_sbb, back_sbt, back_sts, back_stb, back_stt, back_bss, back_bsb, back_bst, back_bbs, back_bbb, back_bbt, back_bts, back_btb, back_btt, back_tss, back_tsb, back_tst, back_tbs, back_tbb, back_tbt, back_tts, back_ttb, back_ttt, back_ssss, back_sssss, back_bsss, back, Ar.md, cont, startE, slOf, plains, Mir.plain, clearE, restE, Sq.ds, runF, List.zipWith, List.getElem?_cons_zero, List.getElem?_cons_succ, List.getElem?_nil, List.replicate, List.cons_append, List.nil_append, List.set_cons_zero, List.set_cons_succ, List.length_cons, List.length_nil, List.map_cons, List.map_nil, List.all_cons, List.all_nil, List.getD_cons_zero, List.getD_cons_succ, Option.map_some, Option.map_none, Option.bind_some, Option.bind_none, Option.isSome_some, Bool.and_true, Bool.true_and, Bool.and_false, Bool.false_and, Bool.not_true, Bool.not_false, if_true, if_false, ite_true, ite_false, reduceIte, reduceCtorEq, Nat.reduceAdd, Nat.reduceSub, Nat.reduceMul, Nat.reduceLeDiff, Nat.reduceLT, Nat.reduceEqDiff, Int.reduceNeg, Bool.false_eq_true, decide_eq_true_eq, decide_true, decide_false, Nat.zero_add, Option.some.injEq, Sl.ow.injEq, Sl.sh.injEq, and_self, and_true, true_and, List.contains_cons, List.contains_nil, List.nodup_nil, List.nodup_cons, List.not_mem_nil, not_false_eq_true, p18, h1]
  obtain ⟨a, ha, hB⟩ := hB
  have h1 : ∀ x : Int, modI x 2147483647 = some (.int (x % 2147483647)) := fun x => modI_pos (by omega)
  have h2 : mulI (c % 2147483647) 48271 = some (.int (c % 2147483647 * 48271)) := mulI_ok (a := 31) (b := 20) (by omega) (by decide) (by decide) (by decide) (by decide)
  have h3 : mulI k 40692 = some (.int (k * 40692)) := mulI_ok (a := 31) (b := 20) (by omega) (by decide) (by decide) (by decide) (by decide)
  refine ⟨a, (c % 2147483647 * 48271 + k * 40692 + 7) % 2147483647, _, runF_ro (e := [.sh (.lst (ns.map D.int)), .sh (.int k), .sh (.int c), .sh (.int a)]) (run_seq (e := [.sh (.lst (ns.map D.int)), .sh (.int k), .sh (.int 0), .no]) rfl (run_seq hA (run_seq (e := [.sh (.lst (ns.map D.int)), .sh (.int k), .sh (.int c), .sh (.int 0)]) rfl (run_seq hB ?_)))), ha, by omega, by omega⟩
  simp only [t5__law_row, few_ok, atI_zero, atI_one, atI_two, atI_three, ixN_20, ixN_21, ixN_40, ixN_41, ixN_42, ixN_43, Int.reduceLT, Int.reduceLE, Int.natCast_add, Int.cast_ofNat_Int, List.length_map, List.length_append, mSeq, bnd, mOp, mVar, mOnSq, mSl, readAt, asSq, rd, Mir.ret, lft, iOp, mCons, mTup, mLst, mSq, mIx, ixD, mIn, mB, asB, mAnd, mOr, mNot, mAndV, mOrV, mNotV, mIf, mPart, asI, mSlT, slT, mSlL, mCatL, mCB, intO, absO, maxO, minO, seqD, lstD, tupD, bName, bTup, bLst, bNil, bCons, bRd, mFrz, freeze, mRetV, toOut, setSh, setOw, free, putOwn, ownAt, lstO, mLM, appF, popF, mSetIx, setF, mAug, addI, subI, ltI, leI, gtI, geI, addA, addT, addS, addL, isNO, notNO, isN, eqO, neO, eqD, toV, mNeg, negD, mChain, mBor, mCall, evAr, anyAt, Mir.fill, okIx, ioIx, boIx, back_s, back_b, back_t, back_e, back_ss, back_sb, back_st, back_se, back_bs, back_bb, back_bt, back_be, back_ts, back_tb, back_tt, back_te, back_es, back_eb, back_et, back_ee, back_sss, back_ssb, back_sst, back_sbs, back_sbb, back_sbt, back_sts, back_stb, back_stt, back_bss, back_bsb, back_bst, back_bbs, back_bbb, back_bbt, back_bts, back_btb, back_btt, back_tss, back_tsb, back_tst, back_tbs, back_tbb, back_tbt, back_tts, back_ttb, back_ttt, back_ssss, back_sssss, back_bsss, back, Ar.md, cont, startE, slOf, plains, Mir.plain, clearE, restE, Sq.ds, runF, List.zipWith, List.getElem?_cons_zero, List.getElem?_cons_succ, List.getElem?_nil, List.replicate, List.cons_append, List.nil_append, List.set_cons_zero, List.set_cons_succ, List.length_cons, List.length_nil, List.map_cons, List.map_nil, List.all_cons, List.all_nil, List.getD_cons_zero, List.getD_cons_succ, Option.map_some, Option.map_none, Option.bind_some, Option.bind_none, Option.isSome_some, Bool.and_true, Bool.true_and, Bool.and_false, Bool.false_and, Bool.not_true, Bool.not_false, if_true, if_false, ite_true, ite_false, reduceIte, reduceCtorEq, Nat.reduceAdd, Nat.reduceSub, Nat.reduceMul, Nat.reduceLeDiff, Nat.reduceLT, Nat.reduceEqDiff, Int.reduceNeg, Bool.false_eq_true, decide_eq_true_eq, decide_true, decide_false, Nat.zero_add, Option.some.injEq, Sl.ow.injEq, Sl.sh.injEq, and_self, and_true, true_and, List.contains_cons, List.contains_nil, List.nodup_nil, List.nodup_cons, List.not_mem_nil, not_false_eq_true, h1, h2, h3]

theorem draw_val {a b n : Int} (r : Row a b) (hn : 0 < n) (hl : n.natAbs.log2 < 9000) : ∃ v a' b', f__law_draw [.lst [.int a, .int b], .int n] = .ok (.int v) [.lst [.int a', .int b'], .non, .non] ∧ Row a' b' ∧ 0 ≤ v ∧ v < n := by
  by_cases h0 : 0 < a
  · have h1 : modI a n = some (.int (a % n)) := modI_pos hn
    have h2 : divI a n = some (.int (a / n)) := divI_pos hn hl
    refine ⟨a % n, a / n, b, runF_rt (e := [.io (.lst [.int (a / n), .int b]), .sh (.int n), .sh (.int (a % n))]) (run_rt ?_), ⟨Int.ediv_nonneg r.a0 (by omega), r.b0, r.b1⟩, Int.emod_nonneg _ (by omega), Int.emod_lt_of_pos _ hn⟩
    simp only [t1__law_draw, few_ok, atI_zero, atI_one, atI_two, atI_three, ixN_20, ixN_21, ixN_40, ixN_41, ixN_42, ixN_43, Int.reduceLT, Int.reduceLE, Int.natCast_add, Int.cast_ofNat_Int, List.length_map, List.length_append, mSeq, bnd, mOp, mVar, mOnSq, mSl, readAt, asSq, rd, Mir.ret, lft, iOp, mCons, mTup, mLst, mSq, mIx, ixD, mIn, mB, asB, mAnd, mOr, mNot, mAndV, mOrV, mNotV, mIf, mPart, asI, mSlT, slT, mSlL, mCatL, mCB, intO, absO, maxO, minO, seqD, lstD, tupD, bName, bTup, bLst, bNil, bCons, bRd, mFrz, freeze, mRetV, toOut, setSh, setOw, free, putOwn, ownAt, lstO, mLM, appF, popF, mSetIx, setF, mAug, addI, subI, ltI, leI, gtI, geI, addA, addT, addS, addL, isNO, notNO, isN, eqO, neO, eqD, toV, mNeg, negD, mChain, mBor, mCall, evAr, anyAt, Mir.fill, okIx, ioIx, boIx, back_s, back_b, back_t, back_e, back_ss, back_sb, back_st, back_se, back_bs, back_bb, back_bt, back_be, back_ts, back_tb, back_tt, back_te, back_es, back_eb, back_et, back_ee, back_sss, back_ssb, back_sst, back_sbs, back_sbb, back_sbt, back_sts, back_stb, back_stt, back_bss, back_bsb, back_bst, back_bbs, back_bbb, back_bbt, back_bts, back_btb, back_btt, back_tss, back_tsb, back_tst, back_tbs, back_tbb, back_tbt, back_tts, back_ttb, back_ttt, back_ssss, back_sssss, back_bsss, back, Ar.md, cont, startE, slOf, plains, Mir.plain, clearE, restE, Sq.ds, runF, List.zipWith, List.getElem?_cons_zero, List.getElem?_cons_succ, List.getElem?_nil, List.replicate, List.cons_append, List.nil_append, List.set_cons_zero, List.set_cons_succ, List.length_cons, List.length_nil, List.map_cons, List.map_nil, List.all_cons, List.all_nil, List.getD_cons_zero, List.getD_cons_succ, Option.map_some, Option.map_none, Option.bind_some, Option.bind_none, Option.isSome_some, Bool.and_true, Bool.true_and, Bool.and_false, Bool.false_and, Bool.not_true, Bool.not_false, if_true, if_false, ite_true, ite_false, reduceIte, reduceCtorEq, Nat.reduceAdd, Nat.reduceSub, Nat.reduceMul, Nat.reduceLeDiff, Nat.reduceLT, Nat.reduceEqDiff, Int.reduceNeg, Bool.false_eq_true, decide_eq_true_eq, decide_true, decide_false, Nat.zero_add, Option.some.injEq, Sl.ow.injEq, Sl.sh.injEq, and_self, and_true, true_and, List.contains_cons, List.contains_nil, List.nodup_nil, List.nodup_cons, List.not_mem_nil, not_false_eq_true, h0, h1, h2]
  · have h1 : mulI b 16807 = some (.int (b * 16807)) := mulI_ok (a := 31) (b := 20) (bits32 r.b0 r.b1) (by decide) (by decide) (by decide) (by decide)
    have h2 : ∀ x : Int, modI x 2147483647 = some (.int (x % 2147483647)) := fun x => modI_pos (by omega)
    have h3 : ∀ x : Int, divI x 3 = some (.int (x / 3)) := fun x => divI_pos (by omega) (by decide)
    have h4 : ∀ x : Int, modI x n = some (.int (x % n)) := fun x => modI_pos hn
    refine ⟨(b * 16807 + 12345) % 2147483647 / 3 % n, a, (b * 16807 + 12345) % 2147483647, runF_rt (e := [.io (.lst [.int a, .int ((b * 16807 + 12345) % 2147483647)]), .sh (.int n), .no]) (run_seq (e := [.io (.lst [.int a, .int b]), .sh (.int n), .no]) ?_ (run_seq (e := [.io (.lst [.int a, .int ((b * 16807 + 12345) % 2147483647)]), .sh (.int n), .no]) ?_ ?_)),
      ⟨r.a0, by omega, by omega⟩, Int.emod_nonneg _ (by omega), Int.emod_lt_of_pos _ hn⟩
    · simp only [t1__law_draw, few_ok, atI_zero, atI_one, atI_two, atI_three, ixN_20, ixN_21, ixN_40, ixN_41, ixN_42, ixN_43, Int.reduceLT, Int.reduceLE, Int.natCast_add, Int.cast_ofNat_Int, List.length_map, List.length_append, mSeq, bnd, mOp, mVar, mOnSq, mSl, readAt, asSq, rd, Mir.ret, lft, iOp, mCons, mTup, mLst, mSq, mIx, ixD, mIn, mB, asB, mAnd, mOr, mNot, mAndV, mOrV, mNotV, mIf, mPart, asI, mSlT, slT, mSlL, mCatL, mCB, intO, absO, maxO, minO, seqD, lstD, tupD, bName, bTup, bLst, bNil, bCons, bRd, mFrz, freeze, mRetV, toOut, setSh, setOw, free, putOwn, ownAt, lstO, mLM, appF, popF, mSetIx, setF, mAug, addI, subI, ltI, leI, gtI, geI, addA, addT, addS, addL, isNO, notNO, isN, eqO, neO, eqD, toV, mNeg, negD, mChain, mBor, mCall, evAr, anyAt, Mir.fill, okIx, ioIx, boIx, back_s, back_b, back_t, back_e, back_ss, back_sb, back_st, back_se, back_bs, back_bb, back_bt, back_be, back_ts, back_tb, back_tt, back_te, back_es, back_eb, back_et, back_ee, back_sss, back_ssb, back_sst, back_sbs, back_sbb, back_sbt, back_sts, back_stb, back_stt, back_bss, back_bsb, back_bst, back_bbs, back_bbb, back_bbt, back_bts, back_btb, back_btt, back_tss, back_tsb, back_tst, back_tbs, back_tbb, back_tbt, back_tts, back_ttb, back_ttt, back_ssss, back_sssss, back_bsss, back, Ar.md, cont, startE, slOf, plains, Mir.plain, clearE, restE, Sq.ds, runF, List.zipWith, List.getElem?_cons_zero, List.getElem?_cons_succ, List.getElem?_nil, List.replicate, List.cons_append, List.nil_append, List.set_cons_zero, List.set_cons_succ, List.length_cons, List.length_nil, List.map_cons, List.map_nil, List.all_cons, List.all_nil, List.getD_cons_zero, List.getD_cons_succ, Option.map_some, Option.map_none, Option.bind_some, Option.bind_none, Option.isSome_some, Bool.and_true, Bool.true_and, Bool.and_false, Bool.false_and, Bool.not_true, Bool.not_false, if_true, if_false, ite_true, ite_false, reduceIte, reduceCtorEq, Nat.reduceAdd, Nat.reduceSub, Nat.reduceMul, Nat.reduceLeDiff, Nat.reduceLT, Nat.reduceEqDiff, Int.reduceNeg, Bool.false_eq_true, decide_eq_true_eq, decide_true, decide_false, Nat.zero_add, Option.some.injEq, Sl.ow.injEq, Sl.sh.injEq, and_self, and_true, true_and, List.contains_cons, List.contains_nil, List.nodup_nil, List.nodup_cons, List.not_mem_nil, not_false_eq_true, h0]
    · simp only [t2__law_draw, few_ok, atI_zero, atI_one, atI_two, atI_three, ixN_20, ixN_21, ixN_40, ixN_41, ixN_42, ixN_43, Int.reduceLT, Int.reduceLE, Int.natCast_add, Int.cast_ofNat_Int, List.length_map, List.length_append, mSeq, bnd, mOp, mVar, mOnSq, mSl, readAt, asSq, rd, Mir.ret, lft, iOp, mCons, mTup, mLst, mSq, mIx, ixD, mIn, mB, asB, mAnd, mOr, mNot, mAndV, mOrV, mNotV, mIf, mPart, asI, mSlT, slT, mSlL, mCatL, mCB, intO, absO, maxO, minO, seqD, lstD, tupD, bName, bTup, bLst, bNil, bCons, bRd, mFrz, freeze, mRetV, toOut, setSh, setOw, free, putOwn, ownAt, lstO, mLM, appF, popF, mSetIx, setF, mAug, addI, subI, ltI, leI, gtI, geI, addA, addT, addS, addL, isNO, notNO, isN, eqO, neO, eqD, toV, mNeg, negD, mChain, mBor, mCall, evAr, anyAt, Mir.fill, okIx, ioIx, boIx, back_s, back_b, back_t, back_e, back_ss, back_sb, back_st, back_se, back_bs, back_bb, back_bt, back_be, back_ts, back_tb, back_tt, back_te, back_es, back_eb, back_et, back_ee, back_sss, back_ssb, back_sst, back_sbs, back_sbb, back_sbt, back_sts, back_stb, back_stt, back_bss, back_bsb, back_bst, back_bbs, back_bbb, back_bbt, back_bts, back_btb, back_btt, back_tss, back_tsb, back_tst, back_tbs, back_tbb, back_tbt, back_tts, back_ttb, back_ttt, back_ssss, back_sssss, back_bsss, back, Ar.md, cont, startE, slOf, plains, Mir.plain, clearE, restE, Sq.ds, runF, List.zipWith, List.getElem?_cons_zero, List.getElem?_cons_succ, List.getElem?_nil, List.replicate, List.cons_append, List.nil_append, List.set_cons_zero, List.set_cons_succ, List.length_cons, List.length_nil, List.map_cons, List.map_nil, List.all_cons, List.all_nil, List.getD_cons_zero, List.getD_cons_succ, Option.map_some, Option.map_none, Option.bind_some, Option.bind_none, Option.isSome_some, Bool.and_true, Bool.true_and, Bool.and_false, Bool.false_and, Bool.not_true, Bool.not_false, if_true, if_false, ite_true, ite_false, reduceIte, reduceCtorEq, Nat.reduceAdd, Nat.reduceSub, Nat.reduceMul, Nat.reduceLeDiff, Nat.reduceLT, Nat.reduceEqDiff, Int.reduceNeg, Bool.false_eq_true, decide_eq_true_eq, decide_true, decide_false, Nat.zero_add, Option.some.injEq, Sl.ow.injEq, Sl.sh.injEq, and_self, and_true, true_and, List.contains_cons, List.contains_nil, List.nodup_nil, List.nodup_cons, List.not_mem_nil, not_false_eq_true, h1, h2]
    · simp only [t3__law_draw, few_ok, atI_zero, atI_one, atI_two, atI_three, ixN_20, ixN_21, ixN_40, ixN_41, ixN_42, ixN_43, Int.reduceLT, Int.reduceLE, Int.natCast_add, Int.cast_ofNat_Int, List.length_map, List.length_append, mSeq, bnd, mOp, mVar, mOnSq, mSl, readAt, asSq, rd, Mir.ret, lft, iOp, mCons, mTup, mLst, mSq, mIx, ixD, mIn, mB, asB, mAnd, mOr, mNot, mAndV, mOrV, mNotV, mIf, mPart, asI, mSlT, slT, mSlL, mCatL, mCB, intO, absO, maxO, minO, seqD, lstD, tupD, bName, bTup, bLst, bNil, bCons, bRd, mFrz, freeze, mRetV, toOut, setSh, setOw, free, putOwn, ownAt, lstO, mLM, appF, popF, mSetIx, setF, mAug, addI, subI, ltI, leI, gtI, geI, addA, addT, addS, addL, isNO, notNO, isN, eqO, neO, eqD, toV, mNeg, negD, mChain, mBor, mCall, evAr, anyAt, Mir.fill, okIx, ioIx, boIx, back_s, back_b, back_t, back_e, back_ss, back_sb, back_st, back_se, back_bs, back_bb, back_bt, back_be, back_ts, back_tb, back_tt, back_te, back_es, back_eb, back_et, back_ee, back_sss, back_ssb, back_sst, back_sbs, back_sbb, back_sbt, back_sts, back_stb, back_stt, back_bss, back_bsb, back_bst, back_bbs, back_bbb, back_bbt, back_bts, back_btb, back_btt, back_tss, back_tsb, back_tst, back_tbs, back_tbb, back_tbt, back_tts, back_ttb, back_ttt, back_ssss, back_sssss, back_bsss, back, Ar.md, cont, startE, slOf, plains, Mir.plain, clearE, restE, Sq.ds, runF, List.zipWith, List.getElem?_cons_zero, List.getElem?_cons_succ, List.getElem?_nil, List.replicate, List.cons_append, List.nil_append, List.set_cons_zero, List.set_cons_succ, List.length_cons, List.length_nil, List.map_cons, List.map_nil, List.all_cons, List.all_nil, List.getD_cons_zero, List.getD_cons_succ, Option.map_some, Option.map_none, Option.bind_some, Option.bind_none, Option.isSome_some, Bool.and_true, Bool.true_and, Bool.and_false, Bool.false_and, Bool.not_true, Bool.not_false, if_true, if_false, ite_true, ite_false, reduceIte, reduceCtorEq, Nat.reduceAdd, Nat.reduceSub, Nat.reduceMul, Nat.reduceLeDiff, Nat.reduceLT, Nat.reduceEqDiff, Int.reduceNeg, Bool.false_eq_true, decide_eq_true_eq, decide_true, decide_false, Nat.zero_add, Option.some.injEq, Sl.ow.injEq, Sl.sh.injEq, and_self, and_true, true_and, List.contains_cons, List.contains_nil, List.nodup_nil, List.nodup_cons, List.not_mem_nil, not_false_eq_true, h3, h4]
theorem small_log {n : Int} (h : n.natAbs < 2 ^ 200) : n.natAbs.log2 < 9000 := Nat.lt_of_lt_of_le (log2_lt (k := 200) (by decide) h) (by decide)
/-- one set of a drawn cache -/
structure SetOk (sets ways at_ : Int) (xs : List Int) : Prop where
  len : (xs.length : Int) ≤ ways
  nd : xs.Nodup
  mem : ∀ x ∈ xs, 0 ≤ x ∧ x % sets = at_
def revF (xs : List Int) (d : D) : Option D := match d with
      | .int i => (atI (xs.map D.int) ((xs.length : Int) - 1 - i))
      | _ => none
theorem rev_at {xs : List Int} {i : Nat} (h : i < xs.length) : revF xs (.int (0 + (i : Int))) = (xs.reverse.map D.int)[i]? := by
  have hx : xs.length - 1 - i < xs.length := by omega
  have e : (xs.length : Int) - 1 - (0 + (i : Int)) = ((xs.length - 1 - i : Nat) : Int) := by omega
  have h2 : revF xs (.int (0 + (i : Int))) = some (.int (xs[xs.length - 1 - i]'hx)) := by
    unfold revF
    exact atI_of e (by rw [List.getElem?_map, List.getElem?_eq_getElem hx]; rfl)
  rw [h2, List.getElem?_map, List.getElem?_reverse h, List.getElem?_eq_getElem hx]
  rfl
theorem rev_some {xs : List Int} {i : Nat} (h : i < xs.length) : ∃ y : Int, revF xs (.int (0 + (i : Int))) = some (.int y) ∧ atI (xs.map D.int) ((xs.length : Int) - 1 - (0 + (i : Int))) = some (.int y) := by
  have h1 := rev_at h
  rw [List.getElem?_map, List.getElem?_eq_getElem (by rw [List.length_reverse]; exact h)] at h1
  exact ⟨_, h1, h1⟩
theorem rev_fm {xs : List Int} : (rngD 0 (xs.length : Int)).filterMap (revF xs) = xs.reverse.map D.int := by
  refine filterMap_at (by rw [rngD_length, List.length_map, List.length_reverse]; omega) fun i d hd => ?_
  obtain ⟨rfl, h1⟩ := rngD_get hd
  exact rev_at (by omega)
theorem rev_src {xs : List Int} {r s w t k at_ : Sl} (h0 : rng1 [.int (xs.length : Int)] = some (rngD 0 (xs.length : Int))) : ((bnd (mCons (mOnSq (fun s => some (.int s.ds.length)) (mSl 5)) (ret [])) fun ds => lft (rng1 ds))) [r, s, w, t, at_, .ow (dl xs), k] = .ok (rngD 0 (xs.length : Int)) [r, s, w, t, at_, .ow (dl xs), k] := by
  simp only [dl, few_ok, atI_zero, atI_one, atI_two, atI_three, ixN_20, ixN_21, ixN_40, ixN_41, ixN_42, ixN_43, Int.reduceLT, Int.reduceLE, Int.natCast_add, Int.cast_ofNat_Int, List.length_map, List.length_append, mSeq, bnd, mOp, mVar, mOnSq, mSl, readAt, asSq, rd, Mir.ret, lft, iOp, mCons, mTup, mLst, mSq, mIx, ixD, mIn, mB, asB, mAnd, mOr, mNot, mAndV, mOrV, mNotV, mIf, mPart, asI, mSlT, slT, mSlL, mCatL, mCB, intO, absO, maxO, minO, seqD, lstD, tupD, bName, bTup, bLst, bNil, bCons, bRd, mFrz, freeze, mRetV, toOut, setSh, setOw, free, putOwn, ownAt, lstO, mLM, appF, popF, mSetIx, setF, mAug, addI, subI, ltI, leI, gtI, geI, addA, addT, addS, addL, isNO, notNO, isN, eqO, neO, eqD, toV, mNeg, negD, mChain, mBor, mCall, evAr, anyAt, Mir.fill, okIx, ioIx, boIx, back_s, back_b, back_t, back_e, back_ss, back_sb, back_st, back_se, back_bs, back_bb, back_bt, back_be, back_ts, back_tb, back_tt, back_te, back_es, back_eb, back_et, back_ee, back_sss, back_ssb, back_sst, back_sbs, back_sbb, back_sbt, back_sts, back_stb, back_stt, back_bss, back_bsb, back_bst, back_bbs, back_bbb, back_bbt, back_bts, back_btb, back_btt, back_tss, back_tsb, back_tst, back_tbs, back_tbb, back_tbt, back_tts, back_ttb, back_ttt, back_ssss, back_sssss, back_bsss, back, Ar.md, cont, startE, slOf, plains, Mir.plain, clearE, restE, Sq.ds, runF, List.zipWith, List.getElem?_cons_zero, List.getElem?_cons_succ, List.getElem?_nil, List.replicate, List.cons_append, List.nil_append, List.set_cons_zero, List.set_cons_succ, List.length_cons, List.length_nil, List.map_cons, List.map_nil, List.all_cons, List.all_nil, List.getD_cons_zero, List.getD_cons_succ, Option.map_some, Option.map_none, Option.bind_some, Option.bind_none, Option.isSome_some, Bool.and_true, Bool.true_and, Bool.and_false, Bool.false_and, Bool.not_true, Bool.not_false, if_true, if_false, ite_true, ite_false, reduceIte, reduceCtorEq, Nat.reduceAdd, Nat.reduceSub, Nat.reduceMul, Nat.reduceLeDiff, Nat.reduceLT, Nat.reduceEqDiff, Int.reduceNeg, Bool.false_eq_true, decide_eq_true_eq, decide_true, decide_false, Nat.zero_add, Option.some.injEq, Sl.ow.injEq, Sl.sh.injEq, and_self, and_true, true_and, List.contains_cons, List.contains_nil, List.nodup_nil, List.nodup_cons, List.not_mem_nil, not_false_eq_true, h0]
theorem rev_pl {xs : List Int} {r s w t k at_ : Sl} (hk : Mir.plain k = true) : plains [r, s, w, t, at_, .ow (dl xs), k] [6] = true := by
  simp only [few_ok, atI_zero, atI_one, atI_two, atI_three, ixN_20, ixN_21, ixN_40, ixN_41, ixN_42, ixN_43, Int.reduceLT, Int.reduceLE, Int.natCast_add, Int.cast_ofNat_Int, List.length_map, List.length_append, mSeq, bnd, mOp, mVar, mOnSq, mSl, readAt, asSq, rd, Mir.ret, lft, iOp, mCons, mTup, mLst, mSq, mIx, ixD, mIn, mB, asB, mAnd, mOr, mNot, mAndV, mOrV, mNotV, mIf, mPart, asI, mSlT, slT, mSlL, mCatL, mCB, intO, absO, maxO, minO, seqD, lstD, tupD, bName, bTup, bLst, bNil, bCons, bRd, mFrz, freeze, mRetV, toOut, setSh, setOw, free, putOwn, ownAt, lstO, mLM, appF, popF, mSetIx, setF, mAug, addI, subI, ltI, leI, gtI, geI, addA, addT, addS, addL, isNO, notNO, isN, eqO, neO, eqD, toV, mNeg, negD, mChain, mBor, mCall, evAr, anyAt, Mir.fill, okIx, ioIx, boIx, back_s, back_b, back_t, back_e, back_ss, back_sb, back_st, back_se, back_bs, back_bb, back_bt, back_be, back_ts, back_tb, back_tt, back_te, back_es, back_eb, back_et, back_ee, back_sss, back_ssb, back_sst, back_sbs, back_sbb, back_sbt, back_sts, back_stb, back_stt, back_bss, back_bsb, back_bst, back_bbs, back_bbb, back_bbt, back_bts, back_btb, back_btt, back_tss, back_tsb, back_tst, back_tbs, back_tbb, back_tbt, back_tts, back_ttb, back_ttt, back_ssss, back_sssss, back_bsss, back, Ar.md, cont, startE, slOf, plains, Mir.plain, clearE, restE, Sq.ds, runF, List.zipWith, List.getElem?_cons_zero, List.getElem?_cons_succ, List.getElem?_nil, List.replicate, List.cons_append, List.nil_append, List.set_cons_zero, List.set_cons_succ, List.length_cons, List.length_nil, List.map_cons, List.map_nil, List.all_cons, List.all_nil, List.getD_cons_zero, List.getD_cons_succ, Option.map_some, Option.map_none, Option.bind_some, Option.bind_none, Option.isSome_some, Bool.and_true, Bool.true_and, Bool.and_false, Bool.false_and, Bool.not_true, Bool.not_false, if_true, if_false, ite_true, ite_false, reduceIte, reduceCtorEq, Nat.reduceAdd, Nat.reduceSub, Nat.reduceMul, Nat.reduceLeDiff, Nat.reduceLT, Nat.reduceEqDiff, Int.reduceNeg, Bool.false_eq_true, decide_eq_true_eq, decide_true, decide_false, Nat.zero_add, Option.some.injEq, Sl.ow.injEq, Sl.sh.injEq, and_self, and_true, true_and, List.contains_cons, List.contains_nil, List.nodup_nil, List.nodup_cons, List.not_mem_nil, not_false_eq_true]
  cases k <;> first | rfl | cases hk
theorem rev_step {xs : List Int} {r s w t at_ : Sl} {i y : Int} (h : atI (xs.map D.int) ((xs.length : Int) - 1 - i) = some (.int y)) : PureC (bName 6) (ret true) ce1__law_cache [6] [r, s, w, t, at_, .ow (dl xs), .no] (.int i) (some (.int y)) := by
  refine .keep (e1 := [r, s, w, t, at_, .ow (dl xs), .sh (.int i)]) rfl rfl ?_ rfl rfl
  simp only [ce1__law_cache, dl, few_ok, atI_zero, atI_one, atI_two, atI_three, ixN_20, ixN_21, ixN_40, ixN_41, ixN_42, ixN_43, Int.reduceLT, Int.reduceLE, Int.natCast_add, Int.cast_ofNat_Int, List.length_map, List.length_append, mSeq, bnd, mOp, mVar, mOnSq, mSl, readAt, asSq, rd, Mir.ret, lft, iOp, mCons, mTup, mLst, mSq, mIx, ixD, mIn, mB, asB, mAnd, mOr, mNot, mAndV, mOrV, mNotV, mIf, mPart, asI, mSlT, slT, mSlL, mCatL, mCB, intO, absO, maxO, minO, seqD, lstD, tupD, bName, bTup, bLst, bNil, bCons, bRd, mFrz, freeze, mRetV, toOut, setSh, setOw, free, putOwn, ownAt, lstO, mLM, appF, popF, mSetIx, setF, mAug, addI, subI, ltI, leI, gtI, geI, addA, addT, addS, addL, isNO, notNO, isN, eqO, neO, eqD, toV, mNeg, negD, mChain, mBor, mCall, evAr, anyAt, Mir.fill, okIx, ioIx, boIx, back_s, back_b, back_t, back_e, back_ss, back_sb, back_st, back_se, back_bs, back_bb, back_bt, back_be, back_ts, back_tb, back_tt, back_te, back_es, back_eb, back_et, back_ee, back_sss, back_ssb, back_sst, back_sbs, back_sbb, back_sbt, back_sts, back_stb, back_stt, back_bss, back_bsb, back_bst, back_bbs, back_bbb, back_bbt, back_bts, back_btb, back_btt, back_tss, back_tsb, back_tst, back_tbs, back_tbb, back_tbt, back_tts, back_ttb, back_ttt, back_ssss, back_sssss, back_bsss, back, Ar.md, cont, startE, slOf, plains, Mir.plain, clearE, restE, Sq.ds, runF, List.zipWith, List.getElem?_cons_zero, List.getElem?_cons_succ, List.getElem?_nil, List.replicate, List.cons_append, List.nil_append, List.set_cons_zero, List.set_cons_succ, List.length_cons, List.length_nil, List.map_cons, List.map_nil, List.all_cons, List.all_nil, List.getD_cons_zero, List.getD_cons_succ, Option.map_some, Option.map_none, Option.bind_some, Option.bind_none, Option.isSome_some, Bool.and_true, Bool.true_and, Bool.and_false, Bool.false_and, Bool.not_true, Bool.not_false, if_true, if_false, ite_true, ite_false, reduceIte, reduceCtorEq, Nat.reduceAdd, Nat.reduceSub, Nat.reduceMul, Nat.reduceLeDiff, Nat.reduceLT, Nat.reduceEqDiff, Int.reduceNeg, Bool.false_eq_true, decide_eq_true_eq, decide_true, decide_false, Nat.zero_add, Option.some.injEq, Sl.ow.injEq, Sl.sh.injEq, and_self, and_true, true_and, List.contains_cons, List.contains_nil, List.nodup_nil, List.nodup_cons, List.not_mem_nil, not_false_eq_true, h]
theorem rev_val {xs : List Int} {r s w t k at_ : Sl} (hl : xs.length ≤ 1000) (hk : Mir.plain k = true) : c1__law_cache [r, s, w, t, at_, .ow (dl xs), k] = .ok (dl xs.reverse) [r, s, w, t, at_, .ow (dl xs), k] := by
  have q := mComp_pure (f := revF xs) (rev_src (xs := xs) (r := r) (s := s) (w := w) (t := t) (at_ := at_) (k := k) (rng1_nat (by omega))) (rev_pl hk) (b := bName 6) (mt := ret true) (me := ce1__law_cache) (fun d hd => ?_) (by rw [rngD_length]; omega)
  · rw [rev_fm] at q
    exact q
  · obtain ⟨i, hi⟩ := List.mem_iff_getElem?.mp hd
    obtain ⟨rfl, h1⟩ := rngD_get hi
    obtain ⟨y, h2, h3⟩ := rev_some (xs := xs) (i := i) (by omega)
    rw [h2]
    exact rev_step h3
structure HeldOk (s at_ : Int) (j : Nat) (xs : List Int) : Prop where
  len : xs.length = j
  nd : xs.Nodup
  mem : ∀ x ∈ xs, 0 ≤ x ∧ x % s = at_ ∧ x < at_ + s * (2 * (j : Int))
theorem HeldOk.next {s at_ v : Int} {j : Nat} {xs : List Int} (h : HeldOk s at_ j xs) (h0 : 0 ≤ at_) (h1 : at_ < s) (v0 : 0 ≤ v) (v1 : v < 2) : HeldOk s at_ (j + 1) (xs ++ [at_ + s * (2 * (j : Int) + v)]) := by
  have m0 : 0 ≤ s * (2 * (j : Int) + v) := Int.mul_nonneg (by omega) (by omega)
  have m1 : s * (2 * (j : Int)) ≤ s * (2 * (j : Int) + v) := Int.mul_le_mul_of_nonneg_left (by omega) (by omega)
  have m2 : s * (2 * (j : Int) + v) < s * (2 * ((j + 1 : Nat) : Int)) := Int.mul_lt_mul_of_pos_left (by omega) (by omega)
  refine ⟨by rw [List.length_append, h.len]; rfl, ?_, fun x hx => ?_⟩
  · rw [List.nodup_append]
    refine ⟨h.nd, by simp, fun a ha b hb e => ?_⟩
    have := (h.mem a ha).2.2
    rw [List.mem_singleton] at hb
    omega
  · rcases List.mem_append.mp hx with hx | hx
    · obtain ⟨x0, x1, x2⟩ := h.mem x hx
      exact ⟨x0, x1, by omega⟩
    · rw [List.mem_singleton] at hx
      subst hx
      refine ⟨by omega, ?_, by omega⟩
      rw [Int.add_mul_emod_self_left, Int.emod_eq_of_lt h0 h1]
theorem held_val {a b : Int} {s at_ : Int} {w : Nat} {t k : Sl} (hk : Mir.plain k = true) (r : Row a b) (h0 : 0 ≤ at_) (h1 : at_ < s) (hs : s ≤ 8) (hw : w ≤ 8) : ∃ a' b' k' xs, t2b1__law_cache [.io (.lst [.int a, .int b]), .sh (.int s), .sh (.int (w : Int)), t, .sh (.int at_), .ow (.lst []), k] = .ok .nx [.io (.lst [.int a', .int b']), .sh (.int s), .sh (.int (w : Int)), t, .sh (.int at_), .ow (dl xs), k'] ∧ Mir.plain k' = true ∧ Row a' b' ∧ xs.length ≤ w ∧ HeldOk s at_ xs.length xs := by
  obtain ⟨n, a1, b1, e1, r1, n0, n1⟩ := draw_val r (n := (w : Int) + 1) (by omega) (small_log (by omega))
  obtain ⟨m, rfl⟩ : ∃ m : Nat, n = (m : Int) := ⟨n.toNat, by omega⟩
  have h2 : rng1 [.int (m : Int)] = some (rngD 0 (m : Int)) := rng1_nat (by omega)
  obtain ⟨e, q1, a', b', k', xs, rfl, q2, q3, q4⟩ := forL_all (b := bName 6) (mb := b1__law_cache) (ds := rngD 0 (m : Int)) (env := [.io (.lst [.int a1, .int b1]), .sh (.int s), .sh (.int (w : Int)), t, .sh (.int at_), .ow (.lst []), k])
    (fun j env => ∃ a b k' xs, env = [.io (.lst [.int a, .int b]), .sh (.int s), .sh (.int (w : Int)), t, .sh (.int at_), .ow (dl xs), k'] ∧ Mir.plain k' = true ∧ Row a b ∧ HeldOk s at_ j xs) ⟨a1, b1, k, [], rfl, hk, r1, rfl, List.nodup_nil, fun x hx => by cases hx⟩ (fun j d env hd hI => by
    obtain ⟨rfl, hj⟩ := rngD_get hd
    obtain ⟨a2, b2, k2, xs, rfl, p1, p2, p3⟩ := hI
    obtain ⟨v, a3, b3, e3, r3, v0, v1⟩ := draw_val p2 (n := 2) (by omega) (by decide)
    have g1 : mulI 2 (0 + (j : Int)) = some (.int (2 * (j : Int))) := by rw [mulI_ok (a := 4) (b := 20) (by decide) (by omega) (by decide) (by decide) (by decide), Int.zero_add]
    have g2 : mulI s (2 * (j : Int) + v) = some (.int (s * (2 * (j : Int) + v))) := mulI_ok (a := 20) (b := 20) (by omega) (by omega) (by decide) (by decide) (by decide)
    have g3 : (List.map D.int xs).length < 1000000 := by rw [List.length_map, p3.len]; omega
    have g4 : List.map D.int xs ++ [D.int (at_ + s * (2 * (j : Int) + v))] = (xs ++ [at_ + s * (2 * (j : Int) + v)]).map D.int := by rw [List.map_append]; rfl
    rw [List.length_map] at g3
    refine ⟨[.io (.lst [.int a2, .int b2]), .sh (.int s), .sh (.int (w : Int)), t, .sh (.int at_), .ow (dl xs), .sh (.int (0 + (j : Int)))], ?_, [.io (.lst [.int a3, .int b3]), .sh (.int s), .sh (.int (w : Int)), t, .sh (.int at_), .ow (dl (xs ++ [at_ + s * (2 * (j : Int) + v)])), .sh (.int (0 + (j : Int)))], .inl ?_, a3, b3, _, _, rfl, rfl, r3, p3.next h0 h1 v0 v1⟩
    · cases k2 <;> first | rfl | cases p1
    simp only [b1__law_cache, t1b2__law_cache, dl, few_ok, atI_zero, atI_one, atI_two, atI_three, ixN_20, ixN_21, ixN_40, ixN_41, ixN_42, ixN_43, Int.reduceLT, Int.reduceLE, Int.natCast_add, Int.cast_ofNat_Int, List.length_map, List.length_append, mSeq, bnd, mOp, mVar, mOnSq, mSl, readAt, asSq, rd, Mir.ret, lft, iOp, mCons, mTup, mLst, mSq, mIx, ixD, mIn, mB, asB, mAnd, mOr, mNot, mAndV, mOrV, mNotV, mIf, mPart, asI, mSlT, slT, mSlL, mCatL, mCB, intO, absO, maxO, minO, seqD, lstD, tupD, bName, bTup, bLst, bNil, bCons, bRd, mFrz, freeze, mRetV, toOut, setSh, setOw, free, putOwn, ownAt, lstO, mLM, appF, popF, mSetIx, setF, mAug, addI, subI, ltI, leI, gtI, geI, addA, addT, addS, addL, isNO, notNO, isN, eqO, neO, eqD, toV, mNeg, negD, mChain, mBor, mCall, evAr, anyAt, Mir.fill, okIx, ioIx, boIx, back_s, back_b, back_t, back_e, back_ss, back_sb, back_st, back_se, back_bs, back_bb, back_bt, back_be, back_ts, back_tb, back_tt, back_te, back_es, back_eb, back_et, back_ee, back_sss, back_ssb, back_sst, back_sbs, back_sbb, back_sbt, back_sts, back_stb, back_stt, back_bss, back_bsb, back_bst, back_bbs, back_bbb, back_bbt, back_bts, back_btb, back_btt, back_tss, back_tsb, back_tst, back_tbs, back_tbb, back_tbt, back_tts, back_ttb, back_ttt, back_ssss, back_sssss, back_bsss, back, Ar.md, cont, startE, slOf, plains, Mir.plain, clearE, restE, Sq.ds, runF, List.zipWith, List.getElem?_cons_zero, List.getElem?_cons_succ, List.getElem?_nil, List.replicate, List.cons_append, List.nil_append, List.set_cons_zero, List.set_cons_succ, List.length_cons, List.length_nil, List.map_cons, List.map_nil, List.all_cons, List.all_nil, List.getD_cons_zero, List.getD_cons_succ, Option.map_some, Option.map_none, Option.bind_some, Option.bind_none, Option.isSome_some, Bool.and_true, Bool.true_and, Bool.and_false, Bool.false_and, Bool.not_true, Bool.not_false, if_true, if_false, ite_true, ite_false, reduceIte, reduceCtorEq, Nat.reduceAdd, Nat.reduceSub, Nat.reduceMul, Nat.reduceLeDiff, Nat.reduceLT, Nat.reduceEqDiff, Int.reduceNeg, Bool.false_eq_true, decide_eq_true_eq, decide_true, decide_false, Nat.zero_add, Option.some.injEq, Sl.ow.injEq, Sl.sh.injEq, and_self, and_true, true_and, List.contains_cons, List.contains_nil, List.nodup_nil, List.nodup_cons, List.not_mem_nil, not_false_eq_true, e3, g1, g2, g3, g4])
  rw [rngD_length] at q4
  have e0 := q4.len
  refine ⟨a', b', k', xs, ?_, q2, q3, by omega, by rw [e0]; exact q4⟩
  unfold t2b1__law_cache l1__law_cache
  simp only [few_ok, atI_zero, atI_one, atI_two, atI_three, ixN_20, ixN_21, ixN_40, ixN_41, ixN_42, ixN_43, Int.reduceLT, Int.reduceLE, Int.natCast_add, Int.cast_ofNat_Int, List.length_map, List.length_append, mSeq, bnd, mOp, mVar, mOnSq, mSl, readAt, asSq, rd, Mir.ret, lft, iOp, mCons, mTup, mLst, mSq, mIx, ixD, mIn, mB, asB, mAnd, mOr, mNot, mAndV, mOrV, mNotV, mIf, mPart, asI, mSlT, slT, mSlL, mCatL, mCB, intO, absO, maxO, minO, seqD, lstD, tupD, bName, bTup, bLst, bNil, bCons, bRd, mFrz, freeze, mRetV, toOut, setSh, setOw, free, putOwn, ownAt, lstO, mLM, appF, popF, mSetIx, setF, mAug, addI, subI, ltI, leI, gtI, geI, addA, addT, addS, addL, isNO, notNO, isN, eqO, neO, eqD, toV, mNeg, negD, mChain, mBor, mCall, evAr, anyAt, Mir.fill, okIx, ioIx, boIx, back_s, back_b, back_t, back_e, back_ss, back_sb, back_st, back_se, back_bs, back_bb, back_bt, back_be, back_ts, back_tb, back_tt, back_te, back_es, back_eb, back_et, back_ee, back_sss, back_ssb, back_sst, back_sbs, back_sbb, back_sbt, back_sts, back_stb, back_stt, back_bss, back_bsb, back_bst, back_bbs, back_bbb, back_bbt, back_bts, back_btb, back_btt, back_tss, back_tsb, back_tst, back_tbs, back_tbb, back_tbt, back_tts, back_ttb, back_ttt, back_ssss, back_sssss, back_bsss, back, Ar.md, cont, startE, slOf, plains, Mir.plain, clearE, restE, Sq.ds, runF, List.zipWith, List.getElem?_cons_zero, List.getElem?_cons_succ, List.getElem?_nil, List.replicate, List.cons_append, List.nil_append, List.set_cons_zero, List.set_cons_succ, List.length_cons, List.length_nil, List.map_cons, List.map_nil, List.all_cons, List.all_nil, List.getD_cons_zero, List.getD_cons_succ, Option.map_some, Option.map_none, Option.bind_some, Option.bind_none, Option.isSome_some, Bool.and_true, Bool.true_and, Bool.and_false, Bool.false_and, Bool.not_true, Bool.not_false, if_true, if_false, ite_true, ite_false, reduceIte, reduceCtorEq, Nat.reduceAdd, Nat.reduceSub, Nat.reduceMul, Nat.reduceLeDiff, Nat.reduceLT, Nat.reduceEqDiff, Int.reduceNeg, Bool.false_eq_true, decide_eq_true_eq, decide_true, decide_false, Nat.zero_add, Option.some.injEq, Sl.ow.injEq, Sl.sh.injEq, and_self, and_true, true_and, List.contains_cons, List.contains_nil, List.nodup_nil, List.nodup_cons, List.not_mem_nil, not_false_eq_true, e1, h2, q1]
def CacheOk (s w : Int) (held : List (List Int)) : Prop := ∀ (i : Nat) (xs : List Int), held[i]? = some xs → SetOk s w (i : Int) xs
theorem setOk_rev {s w a : Int} {xs : List Int} (h : SetOk s w a xs) : SetOk s w a xs.reverse := ⟨by rw [List.length_reverse]; exact h.len, List.pairwise_reverse.mpr (h.nd.imp fun e => Ne.symm e), fun x hx => h.mem x (List.mem_reverse.mp hx)⟩
theorem CacheOk.add {s w : Int} {held : List (List Int)} {xs : List Int} (h : CacheOk s w held) (h2 : SetOk s w (held.length : Int) xs) : CacheOk s w (held ++ [xs]) := fun i ys e => by
  rcases Nat.lt_trichotomy i held.length with hi | hi | hi
  · rw [List.getElem?_append_left hi] at e
    exact h i ys e
  · subst hi
    rw [List.getElem?_append_right (Nat.le_refl _), Nat.sub_self] at e
    cases e
    exact h2
  · rw [List.getElem?_append_right (by omega), List.getElem?_eq_none (by simp; omega)] at e
    cases e
theorem cache_turn {a b : Int} {s w j : Nat} {hs : List (List Int)} {h k : Sl} (r : Row a b) (hj : j < s) (s8 : s ≤ 8) (w8 : w ≤ 8) (hh : Mir.plain h = true) (hk : Mir.plain k = true) (hl : hs.length = j) (hc : CacheOk (s : Int) (w : Int) hs) :
    ∃ a' b' h' k' hs', b2__law_cache [.io (.lst [.int a, .int b]), .sh (.int (s : Int)), .sh (.int (w : Int)), .ow (.lst (hs.map dl)), .sh (.int (j : Int)), h, k] = .ok .nx [.io (.lst [.int a', .int b']), .sh (.int (s : Int)), .sh (.int (w : Int)), .ow (.lst (hs'.map dl)), .sh (.int (j : Int)), h', k'] ∧ Row a' b' ∧ Mir.plain h' = true ∧ Mir.plain k' = true ∧ hs'.length = j + 1 ∧ CacheOk (s : Int) (w : Int) hs' := by
  have g1 : t1b1__law_cache [.io (.lst [.int a, .int b]), .sh (.int (s : Int)), .sh (.int (w : Int)), .ow (.lst (hs.map dl)), .sh (.int (j : Int)), h, k] = .ok .nx [.io (.lst [.int a, .int b]), .sh (.int (s : Int)), .sh (.int (w : Int)), .ow (.lst (hs.map dl)), .sh (.int (j : Int)), .ow (.lst []), k] := by
    cases h <;> first | rfl | cases hh
  obtain ⟨a1, b1, k1, xs, g2, p1, r1, l1, o1⟩ := held_val (s := (s : Int)) (at_ := (j : Int)) (t := .ow (.lst (hs.map dl))) hk r (by omega) (by omega) (by omega) w8
  obtain ⟨v, a2, b2, e2, r2, v0, v1⟩ := draw_val r1 (n := 2) (by omega) (by decide)
  have so : SetOk (s : Int) (w : Int) (j : Int) xs := ⟨by omega, o1.nd, fun x hx => ⟨(o1.mem x hx).1, (o1.mem x hx).2.1⟩⟩
  obtain ⟨ys, so2, g3⟩ : ∃ ys, SetOk (s : Int) (w : Int) (j : Int) ys ∧ t3b1__law_cache [.io (.lst [.int a1, .int b1]), .sh (.int (s : Int)), .sh (.int (w : Int)), .ow (.lst (hs.map dl)), .sh (.int (j : Int)), .ow (dl xs), k1] = .ok .nx [.io (.lst [.int a2, .int b2]), .sh (.int (s : Int)), .sh (.int (w : Int)), .ow (.lst (hs.map dl)), .sh (.int (j : Int)), .ow (dl ys), k1] := by
    by_cases hv : v = 1
    · refine ⟨xs.reverse, setOk_rev so, ?_⟩
      have g := rev_val (xs := xs) (r := .io (.lst [.int a2, .int b2])) (s := .sh (.int (s : Int))) (w := .sh (.int (w : Int))) (t := .ow (.lst (hs.map dl))) (at_ := .sh (.int (j : Int))) (k := k1) (by omega) p1
      simp only [t3b1__law_cache, few_ok, atI_zero, atI_one, atI_two, atI_three, ixN_20, ixN_21, ixN_40, ixN_41, ixN_42, ixN_43, Int.reduceLT, Int.reduceLE, Int.natCast_add, Int.cast_ofNat_Int, List.length_map, List.length_append, mSeq, bnd, mOp, mVar, mOnSq, mSl, readAt, asSq, rd, Mir.ret, lft, iOp, mCons, mTup, mLst, mSq, mIx, ixD, mIn, mB, asB, mAnd, mOr, mNot, mAndV, mOrV, mNotV, mIf, mPart, asI, mSlT, slT, mSlL, mCatL, mCB, intO, absO, maxO, minO, seqD, lstD, tupD, bName, bTup, bLst, bNil, bCons, bRd, mFrz, freeze, mRetV, toOut, setSh, setOw, free, putOwn, ownAt, lstO, mLM, appF, popF, mSetIx, setF, mAug, addI, subI, ltI, leI, gtI, geI, addA, addT, addS, addL, isNO, notNO, isN, eqO, neO, eqD, toV, mNeg, negD, mChain, mBor, mCall, evAr, anyAt, Mir.fill, okIx, ioIx, boIx, back_s, back_b, back_t, back_e, back_ss, back_sb, back_st, back_se, back_bs, back_bb, back_bt, back_be, back_ts, back_tb, back_tt, back_te, back_es, back_eb, back_et, back_ee, back_sss, back_ssb, back_sst, back_sbs, back_sbb, back_sbt, back_sts, back_stb, back_stt, back_bss, back_bsb, back_bst, back_bbs, back_bbb, back_bbt, back_bts, back_btb, back_btt, back_tss, back_tsb, back_tst, back_tbs, back_tbb, back_tbt, back_tts, back_ttb, back_ttt, back_ssss, back_sssss, back_bsss, back, Ar.md, cont, startE, slOf, plains, Mir.plain, clearE, restE, Sq.ds, runF, List.zipWith, List.getElem?_cons_zero, List.getElem?_cons_succ, List.getElem?_nil, List.replicate, List.cons_append, List.nil_append, List.set_cons_zero, List.set_cons_succ, List.length_cons, List.length_nil, List.map_cons, List.map_nil, List.all_cons, List.all_nil, List.getD_cons_zero, List.getD_cons_succ, Option.map_some, Option.map_none, Option.bind_some, Option.bind_none, Option.isSome_some, Bool.and_true, Bool.true_and, Bool.and_false, Bool.false_and, Bool.not_true, Bool.not_false, if_true, if_false, ite_true, ite_false, reduceIte, reduceCtorEq, Nat.reduceAdd, Nat.reduceSub, Nat.reduceMul, Nat.reduceLeDiff, Nat.reduceLT, Nat.reduceEqDiff, Int.reduceNeg, Bool.false_eq_true, decide_eq_true_eq, decide_true, decide_false, Nat.zero_add, Option.some.injEq, Sl.ow.injEq, Sl.sh.injEq, and_self, and_true, true_and, List.contains_cons, List.contains_nil, List.nodup_nil, List.nodup_cons, List.not_mem_nil, not_false_eq_true, e2, hv, V.int.injEq, eqV, scal, g]
    · refine ⟨xs, so, ?_⟩
      simp only [t3b1__law_cache, few_ok, atI_zero, atI_one, atI_two, atI_three, ixN_20, ixN_21, ixN_40, ixN_41, ixN_42, ixN_43, Int.reduceLT, Int.reduceLE, Int.natCast_add, Int.cast_ofNat_Int, List.length_map, List.length_append, mSeq, bnd, mOp, mVar, mOnSq, mSl, readAt, asSq, rd, Mir.ret, lft, iOp, mCons, mTup, mLst, mSq, mIx, ixD, mIn, mB, asB, mAnd, mOr, mNot, mAndV, mOrV, mNotV, mIf, mPart, asI, mSlT, slT, mSlL, mCatL, mCB, intO, absO, maxO, minO, seqD, lstD, tupD, bName, bTup, bLst, bNil, bCons, bRd, mFrz, freeze, mRetV, toOut, setSh, setOw, free, putOwn, ownAt, lstO, mLM, appF, popF, mSetIx, setF, mAug, addI, subI, ltI, leI, gtI, geI, addA, addT, addS, addL, isNO, notNO, isN, eqO, neO, eqD, toV, mNeg, negD, mChain, mBor, mCall, evAr, anyAt, Mir.fill, okIx, ioIx, boIx, back_s, back_b, back_t, back_e, back_ss, back_sb, back_st, back_se, back_bs, back_bb, back_bt, back_be, back_ts, back_tb, back_tt, back_te, back_es, back_eb, back_et, back_ee, back_sss, back_ssb, back_sst, back_sbs, back_sbb, back_sbt, back_sts, back_stb, back_stt, back_bss, back_bsb, back_bst, back_bbs, back_bbb, back_bbt, back_bts, back_btb, back_btt, back_tss, back_tsb, back_tst, back_tbs, back_tbb, back_tbt, back_tts, back_ttb, back_ttt, back_ssss, back_sssss, back_bsss, back, Ar.md, cont, startE, slOf, plains, Mir.plain, clearE, restE, Sq.ds, runF, List.zipWith, List.getElem?_cons_zero, List.getElem?_cons_succ, List.getElem?_nil, List.replicate, List.cons_append, List.nil_append, List.set_cons_zero, List.set_cons_succ, List.length_cons, List.length_nil, List.map_cons, List.map_nil, List.all_cons, List.all_nil, List.getD_cons_zero, List.getD_cons_succ, Option.map_some, Option.map_none, Option.bind_some, Option.bind_none, Option.isSome_some, Bool.and_true, Bool.true_and, Bool.and_false, Bool.false_and, Bool.not_true, Bool.not_false, if_true, if_false, ite_true, ite_false, reduceIte, reduceCtorEq, Nat.reduceAdd, Nat.reduceSub, Nat.reduceMul, Nat.reduceLeDiff, Nat.reduceLT, Nat.reduceEqDiff, Int.reduceNeg, Bool.false_eq_true, decide_eq_true_eq, decide_true, decide_false, Nat.zero_add, Option.some.injEq, Sl.ow.injEq, Sl.sh.injEq, and_self, and_true, true_and, List.contains_cons, List.contains_nil, List.nodup_nil, List.nodup_cons, List.not_mem_nil, not_false_eq_true, e2, hv, V.int.injEq, eqV, scal]
  have q1 : hs.length < 1000000 := by omega
  have q2 : List.map dl hs ++ [dl ys] = (hs ++ [ys]).map dl := by rw [List.map_append]; rfl
  refine ⟨a2, b2, .sh (dl ys), k1, hs ++ [ys], run_seq g1 (run_seq g2 (run_seq g3 ?_)), r2, rfl, p1, by rw [List.length_append, hl]; rfl, hc.add (by rw [hl]; exact so2)⟩
  simp only [t4b1__law_cache, few_ok, atI_zero, atI_one, atI_two, atI_three, ixN_20, ixN_21, ixN_40, ixN_41, ixN_42, ixN_43, Int.reduceLT, Int.reduceLE, Int.natCast_add, Int.cast_ofNat_Int, List.length_map, List.length_append, mSeq, bnd, mOp, mVar, mOnSq, mSl, readAt, asSq, rd, Mir.ret, lft, iOp, mCons, mTup, mLst, mSq, mIx, ixD, mIn, mB, asB, mAnd, mOr, mNot, mAndV, mOrV, mNotV, mIf, mPart, asI, mSlT, slT, mSlL, mCatL, mCB, intO, absO, maxO, minO, seqD, lstD, tupD, bName, bTup, bLst, bNil, bCons, bRd, mFrz, freeze, mRetV, toOut, setSh, setOw, free, putOwn, ownAt, lstO, mLM, appF, popF, mSetIx, setF, mAug, addI, subI, ltI, leI, gtI, geI, addA, addT, addS, addL, isNO, notNO, isN, eqO, neO, eqD, toV, mNeg, negD, mChain, mBor, mCall, evAr, anyAt, Mir.fill, okIx, ioIx, boIx, back_s, back_b, back_t, back_e, back_ss, back_sb, back_st, back_se, back_bs, back_bb, back_bt, back_be, back_ts, back_tb, back_tt, back_te, back_es, back_eb, back_et, back_ee, back_sss, back_ssb, back_sst, back_sbs, back_sbb, back_sbt, back_sts, back_stb, back_stt, back_bss, back_bsb, back_bst, back_bbs, back_bbb, back_bbt, back_bts, back_btb, back_btt, back_tss, back_tsb, back_tst, back_tbs, back_tbb, back_tbt, back_tts, back_ttb, back_ttt, back_ssss, back_sssss, back_bsss, back, Ar.md, cont, startE, slOf, plains, Mir.plain, clearE, restE, Sq.ds, runF, List.zipWith, List.getElem?_cons_zero, List.getElem?_cons_succ, List.getElem?_nil, List.replicate, List.cons_append, List.nil_append, List.set_cons_zero, List.set_cons_succ, List.length_cons, List.length_nil, List.map_cons, List.map_nil, List.all_cons, List.all_nil, List.getD_cons_zero, List.getD_cons_succ, Option.map_some, Option.map_none, Option.bind_some, Option.bind_none, Option.isSome_some, Bool.and_true, Bool.true_and, Bool.and_false, Bool.false_and, Bool.not_true, Bool.not_false, if_true, if_false, ite_true, ite_false, reduceIte, reduceCtorEq, Nat.reduceAdd, Nat.reduceSub, Nat.reduceMul, Nat.reduceLeDiff, Nat.reduceLT, Nat.reduceEqDiff, Int.reduceNeg, Bool.false_eq_true, decide_eq_true_eq, decide_true, decide_false, Nat.zero_add, Option.some.injEq, Sl.ow.injEq, Sl.sh.injEq, and_self, and_true, true_and, List.contains_cons, List.contains_nil, List.nodup_nil, List.nodup_cons, List.not_mem_nil, not_false_eq_true, q1, q2]
theorem cache_val {a b : Int} {s w : Nat} (r : Row a b) (s8 : s ≤ 8) (w8 : w ≤ 8) : ∃ hs a' b' ds, f__law_cache [.lst [.int a, .int b], .int (s : Int), .int (w : Int)] = .ok (.lst (hs.map dl)) (.lst [.int a', .int b'] :: .non :: .non :: ds) ∧ Row a' b' ∧ hs.length = s ∧ CacheOk (s : Int) (w : Int) hs := by
  obtain ⟨e, q1, a', b', t, h, k, hs, rfl, r2, p1, p2, p3, l1, c1⟩ := forL_all (b := bName 4) (mb := b2__law_cache) (ds := rngD 0 (s : Int)) (env := [.io (.lst [.int a, .int b]), .sh (.int (s : Int)), .sh (.int (w : Int)), .ow (.lst []), .no, .no, .no])
    (fun j env => ∃ a b t h k hs, env = [.io (.lst [.int a, .int b]), .sh (.int (s : Int)), .sh (.int (w : Int)), .ow (.lst (hs.map dl)), t, h, k] ∧ Row a b ∧ Mir.plain t = true ∧ Mir.plain h = true ∧ Mir.plain k = true ∧ hs.length = j ∧ CacheOk (s : Int) (w : Int) hs) ⟨a, b, .no, .no, .no, [], rfl, r, rfl, rfl, rfl, rfl, fun i xs e => by cases e⟩ (fun j d env hd hI => by
    obtain ⟨rfl, hj⟩ := rngD_get hd
    obtain ⟨a, b, t, h, k, hs, rfl, r, p1, p2, p3, l1, c1⟩ := hI
    obtain ⟨a', b', h', k', hs', g, r2, p4, p5, l2, c2⟩ := cache_turn (s := s) (w := w) (j := j) r (by omega) s8 w8 p2 p3 l1 c1
    rw [Int.zero_add]
    refine ⟨_, ?_, _, .inl g, a', b', _, h', k', hs', rfl, r2, rfl, p4, p5, l2, c2⟩
    cases t <;> first | rfl | cases p1)
  rw [rngD_length] at l1
  have h2 : rng1 [.int (s : Int)] = some (rngD 0 (s : Int)) := rng1_nat (by omega)
  refine ⟨hs, a', b', [.non, cont t, cont h, cont k], ?_, r2, by omega, c1⟩
  simp only [f__law_cache, m__law_cache, t1__law_cache, t2__law_cache, t3__law_cache, l2__law_cache, few_ok, atI_zero, atI_one, atI_two, atI_three, ixN_20, ixN_21, ixN_40, ixN_41, ixN_42, ixN_43, Int.reduceLT, Int.reduceLE, Int.natCast_add, Int.cast_ofNat_Int, List.length_map, List.length_append, mSeq, bnd, mOp, mVar, mOnSq, mSl, readAt, asSq, rd, Mir.ret, lft, iOp, mCons, mTup, mLst, mSq, mIx, ixD, mIn, mB, asB, mAnd, mOr, mNot, mAndV, mOrV, mNotV, mIf, mPart, asI, mSlT, slT, mSlL, mCatL, mCB, intO, absO, maxO, minO, seqD, lstD, tupD, bName, bTup, bLst, bNil, bCons, bRd, mFrz, freeze, mRetV, toOut, setSh, setOw, free, putOwn, ownAt, lstO, mLM, appF, popF, mSetIx, setF, mAug, addI, subI, ltI, leI, gtI, geI, addA, addT, addS, addL, isNO, notNO, isN, eqO, neO, eqD, toV, mNeg, negD, mChain, mBor, mCall, evAr, anyAt, Mir.fill, okIx, ioIx, boIx, back_s, back_b, back_t, back_e, back_ss, back_sb, back_st, back_se, back_bs, back_bb, back_bt, back_be, back_ts, back_tb, back_tt, back_te, back_es, back_eb, back_et, back_ee, back_sss, back_ssb, back_sst, back_sbs, back_sbb, back_sbt, back_sts, back_stb, back_stt, back_bss, back_bsb, back_bst, back_bbs, back_bbb, back_bbt, back_bts, back_btb, back_btt, back_tss, back_tsb, back_tst, back_tbs, back_tbb, back_tbt, back_tts, back_ttb, back_ttt, back_ssss, back_sssss, back_bsss, back, Ar.md, cont, startE, slOf, plains, Mir.plain, clearE, restE, Sq.ds, runF, List.zipWith, List.getElem?_cons_zero, List.getElem?_cons_succ, List.getElem?_nil, List.replicate, List.cons_append, List.nil_append, List.set_cons_zero, List.set_cons_succ, List.length_cons, List.length_nil, List.map_cons, List.map_nil, List.all_cons, List.all_nil, List.getD_cons_zero, List.getD_cons_succ, Option.map_some, Option.map_none, Option.bind_some, Option.bind_none, Option.isSome_some, Bool.and_true, Bool.true_and, Bool.and_false, Bool.false_and, Bool.not_true, Bool.not_false, if_true, if_false, ite_true, ite_false, reduceIte, reduceCtorEq, Nat.reduceAdd, Nat.reduceSub, Nat.reduceMul, Nat.reduceLeDiff, Nat.reduceLT, Nat.reduceEqDiff, Int.reduceNeg, Bool.false_eq_true, decide_eq_true_eq, decide_true, decide_false, Nat.zero_add, Option.some.injEq, Sl.ow.injEq, Sl.sh.injEq, and_self, and_true, true_and, List.contains_cons, List.contains_nil, List.nodup_nil, List.nodup_cons, List.not_mem_nil, not_false_eq_true, h2, q1]
/-! ### worlds -/
def revs (hs : List (List Int)) : List Int := (hs.map List.reverse).flatten
theorem revW_val {xs ps : List Int} {r w s h k : Sl} (hl : xs.length ≤ 1000) (hk : Mir.plain k = true) : c1__law_world [r, w, s, h, .sh (dl ps), .sh (dl xs), k] = .ok (dl xs.reverse) [r, w, s, h, .sh (dl ps), .sh (dl xs), k] := by
  have h0 : rng1 [.int (xs.length : Int)] = some (rngD 0 (xs.length : Int)) := rng1_nat (by omega)
  have q := mComp_pure (f := revF xs) (mi := (bnd (mCons (mOnSq (fun s => some (.int s.ds.length)) (mSl 5)) (ret [])) fun ds => lft (rng1 ds))) (env := [r, w, s, h, .sh (dl ps), .sh (dl xs), k]) (e1 := [r, w, s, h, .sh (dl ps), .sh (dl xs), k]) (ds := rngD 0 (xs.length : Int)) (vs := [6]) (by simp only [dl, few_ok, atI_zero, atI_one, atI_two, atI_three, ixN_20, ixN_21, ixN_40, ixN_41, ixN_42, ixN_43, Int.reduceLT, Int.reduceLE, Int.natCast_add, Int.cast_ofNat_Int, List.length_map, List.length_append, mSeq, bnd, mOp, mVar, mOnSq, mSl, readAt, asSq, rd, Mir.ret, lft, iOp, mCons, mTup, mLst, mSq, mIx, ixD, mIn, mB, asB, mAnd, mOr, mNot, mAndV, mOrV, mNotV, mIf, mPart, asI, mSlT, slT, mSlL, mCatL, mCB, intO, absO, maxO, minO, seqD, lstD, tupD, bName, bTup, bLst, bNil, bCons, bRd, mFrz, freeze, mRetV, toOut, setSh, setOw, free, putOwn, ownAt, lstO, mLM, appF, popF, mSetIx, setF, mAug, addI, subI, ltI, leI, gtI, geI, addA, addT, addS, addL, isNO, notNO, isN, eqO, neO, eqD, toV, mNeg, negD, mChain, mBor, mCall, evAr, anyAt, Mir.fill, okIx, ioIx, boIx, back_s, back_b, back_t, back_e, back_ss, back_sb, back_st, back_se, back_bs, back_bb, back_bt, back_be, back_ts, back_tb, back_tt, back_te, back_es, back_eb, back_et, back_ee, back_sss, back_ssb, back_sst, back_sbs, back_sbb, back_sbt, back_sts, back_stb, back_stt, back_bss, back_bsb, back_bst, back_bbs, back_bbb, back_bbt, back_bts, back_btb, back_btt, back_tss, back_tsb, back_tst, back_tbs, back_tbb, back_tbt, back_tts, back_ttb, back_ttt, back_ssss, back_sssss, back_bsss, back, Ar.md, cont, startE, slOf, plains, Mir.plain, clearE, restE, Sq.ds, runF, List.zipWith, List.getElem?_cons_zero, List.getElem?_cons_succ, List.getElem?_nil, List.replicate, List.cons_append, List.nil_append, List.set_cons_zero, List.set_cons_succ, List.length_cons, List.length_nil, List.map_cons, List.map_nil, List.all_cons, List.all_nil, List.getD_cons_zero, List.getD_cons_succ, Option.map_some, Option.map_none, Option.bind_some, Option.bind_none, Option.isSome_some, Bool.and_true, Bool.true_and, Bool.and_false, Bool.false_and, Bool.not_true, Bool.not_false, if_true, if_false, ite_true, ite_false, reduceIte, reduceCtorEq, Nat.reduceAdd, Nat.reduceSub, Nat.reduceMul, Nat.reduceLeDiff, Nat.reduceLT, Nat.reduceEqDiff, Int.reduceNeg, Bool.false_eq_true, decide_eq_true_eq, decide_true, decide_false, Nat.zero_add, Option.some.injEq, Sl.ow.injEq, Sl.sh.injEq, and_self, and_true, true_and, List.contains_cons, List.contains_nil, List.nodup_nil, List.nodup_cons, List.not_mem_nil, not_false_eq_true, h0]) (by
    simp only [few_ok, atI_zero, atI_one, atI_two, atI_three, ixN_20, ixN_21, ixN_40, ixN_41, ixN_42, ixN_43, Int.reduceLT, Int.reduceLE, Int.natCast_add, Int.cast_ofNat_Int, List.length_map, List.length_append, mSeq, bnd, mOp, mVar, mOnSq, mSl, readAt, asSq, rd, Mir.ret, lft, iOp, mCons, mTup, mLst, mSq, mIx, ixD, mIn, mB, asB, mAnd, mOr, mNot, mAndV, mOrV, mNotV, mIf, mPart, asI, mSlT, slT, mSlL, mCatL, mCB, intO, absO, maxO, minO, seqD, lstD, tupD, bName, bTup, bLst, bNil, bCons, bRd, mFrz, freeze, mRetV, toOut, setSh, setOw, free, putOwn, ownAt, lstO, mLM, appF, popF, mSetIx, setF, mAug, addI, subI, ltI, leI, gtI, geI, addA, addT, addS, addL, isNO, notNO, isN, eqO, neO, eqD, toV, mNeg, negD, mChain, mBor, mCall, evAr, anyAt, Mir.fill, okIx, ioIx, boIx, back_s, back_b, back_t, back_e, back_ss, back_sb, back_st, back_se, back_bs, back_bb, back_bt, back_be, back_ts, back_tb, back_tt, back_te, back_es, back_eb, back_et, back_ee, back_sss, back_ssb, back_sst, back_sbs, back_sbb, back_sbt, back_sts, back_stb, back_stt, back_bss, back_bsb, back_bst, back_bbs, back_bbb, back_bbt, back_bts, back_btb, back_btt, back_tss, back_tsb, back_tst, back_tbs, back_tbb, back_tbt, back_tts, back_ttb, back_ttt, back_ssss, back_sssss, back_bsss, back, Ar.md, cont, startE, slOf, plains, Mir.plain, clearE, restE, Sq.ds, runF, List.zipWith, List.getElem?_cons_zero, List.getElem?_cons_succ, List.getElem?_nil, List.replicate, List.cons_append, List.nil_append, List.set_cons_zero, List.set_cons_succ, List.length_cons, List.length_nil, List.map_cons, List.map_nil, List.all_cons, List.all_nil, List.getD_cons_zero, List.getD_cons_succ, Option.map_some, Option.map_none, Option.bind_some, Option.bind_none, Option.isSome_some, Bool.and_true, Bool.true_and, Bool.and_false, Bool.false_and, Bool.not_true, Bool.not_false, if_true, if_false, ite_true, ite_false, reduceIte, reduceCtorEq, Nat.reduceAdd, Nat.reduceSub, Nat.reduceMul, Nat.reduceLeDiff, Nat.reduceLT, Nat.reduceEqDiff, Int.reduceNeg, Bool.false_eq_true, decide_eq_true_eq, decide_true, decide_false, Nat.zero_add, Option.some.injEq, Sl.ow.injEq, Sl.sh.injEq, and_self, and_true, true_and, List.contains_cons, List.contains_nil, List.nodup_nil, List.nodup_cons, List.not_mem_nil, not_false_eq_true]
    cases k <;> first | rfl | cases hk) (b := bName 6) (mt := ret true) (me := ce1__law_world) (fun d hd => ?_) (by rw [rngD_length]; omega)
  · rw [rev_fm] at q
    exact q
  · obtain ⟨i, hi⟩ := List.mem_iff_getElem?.mp hd
    obtain ⟨rfl, h1⟩ := rngD_get hi
    obtain ⟨y, h2, h3⟩ := rev_some (xs := xs) (i := i) (by omega)
    rw [h2]
    refine .keep (e1 := [r, w, s, h, .sh (dl ps), .sh (dl xs), .sh (.int (0 + (i : Int)))]) rfl rfl ?_ rfl rfl
    simp only [ce1__law_world, dl, few_ok, atI_zero, atI_one, atI_two, atI_three, ixN_20, ixN_21, ixN_40, ixN_41, ixN_42, ixN_43, Int.reduceLT, Int.reduceLE, Int.natCast_add, Int.cast_ofNat_Int, List.length_map, List.length_append, mSeq, bnd, mOp, mVar, mOnSq, mSl, readAt, asSq, rd, Mir.ret, lft, iOp, mCons, mTup, mLst, mSq, mIx, ixD, mIn, mB, asB, mAnd, mOr, mNot, mAndV, mOrV, mNotV, mIf, mPart, asI, mSlT, slT, mSlL, mCatL, mCB, intO, absO, maxO, minO, seqD, lstD, tupD, bName, bTup, bLst, bNil, bCons, bRd, mFrz, freeze, mRetV, toOut, setSh, setOw, free, putOwn, ownAt, lstO, mLM, appF, popF, mSetIx, setF, mAug, addI, subI, ltI, leI, gtI, geI, addA, addT, addS, addL, isNO, notNO, isN, eqO, neO, eqD, toV, mNeg, negD, mChain, mBor, mCall, evAr, anyAt, Mir.fill, okIx, ioIx, boIx, back_s, back_b, back_t, back_e, back_ss, back_sb, back_st, back_se, back_bs, back_bb, back_bt, back_be, back_ts, back_tb, back_tt, back_te, back_es, back_eb, back_et, back_ee, back_sss, back_ssb, back_sst, back_sbs, back_sbb, back_sbt, back_sts, back_stb, back_stt, back_bss, back_bsb, back_bst, back_bbs, back_bbb, back_bbt, back_bts, back_btb, back_btt, back_tss, back_tsb, back_tst, back_tbs, back_tbb, back_tbt, back_tts, back_ttb, back_ttt, back_ssss, back_sssss, back_bsss, back, Ar.md, cont, startE, slOf, plains, Mir.plain, clearE, restE, Sq.ds, runF, List.zipWith, List.getElem?_cons_zero, List.getElem?_cons_succ, List.getElem?_nil, List.replicate, List.cons_append, List.nil_append, List.set_cons_zero, List.set_cons_succ, List.length_cons, List.length_nil, List.map_cons, List.map_nil, List.all_cons, List.all_nil, List.getD_cons_zero, List.getD_cons_succ, Option.map_some, Option.map_none, Option.bind_some, Option.bind_none, Option.isSome_some, Bool.and_true, Bool.true_and, Bool.and_false, Bool.false_and, Bool.not_true, Bool.not_false, if_true, if_false, ite_true, ite_false, reduceIte, reduceCtorEq, Nat.reduceAdd, Nat.reduceSub, Nat.reduceMul, Nat.reduceLeDiff, Nat.reduceLT, Nat.reduceEqDiff, Int.reduceNeg, Bool.false_eq_true, decide_eq_true_eq, decide_true, decide_false, Nat.zero_add, Option.some.injEq, Sl.ow.injEq, Sl.sh.injEq, and_self, and_true, true_and, List.contains_cons, List.contains_nil, List.nodup_nil, List.nodup_cons, List.not_mem_nil, not_false_eq_true, h3]
def wrl (s w : Nat) (hs : List (List Int)) (ps : List Int) : D := .lst [.int (s : Int), .int (w : Int), .lst (hs.map dl), dl ps]
theorem revs_add (hs : List (List Int)) {j : Nat} {xs : List Int} (h : hs[j]? = some xs) : revs (hs.take (j + 1)) = revs (hs.take j) ++ xs.reverse := by
  unfold revs
  rw [List.take_succ, h]
  simp
theorem revs_len {s w : Int} {hs : List (List Int)} (hw : w ≤ 8) (h : CacheOk s w hs) (j : Nat) : (revs (hs.take j)).length ≤ 8 * j := by
  induction j with
  | zero => simp [revs]
  | succ j ih =>
    cases e : hs[j]? with
    | none =>
      rw [List.take_of_length_le (by have := List.getElem?_eq_none_iff.mp e; omega), ← List.take_of_length_le (l := hs) (i := j) (List.getElem?_eq_none_iff.mp e)]
      omega
    | some xs =>
      have := (h j xs e).len
      rw [revs_add hs e, List.length_append, List.length_reverse]
      omega
theorem world_val {a b : Int} {w : Nat} (r : Row a b) (w8 : w ≤ 8) : ∃ s hs a' b' ds, f__law_world [.lst [.int a, .int b], .int (w : Int)] = .ok (wrl s w hs (revs hs)) (.lst [.int a', .int b'] :: .non :: ds) ∧ Row a' b' ∧ 1 ≤ s ∧ s ≤ 8 ∧ hs.length = s ∧ CacheOk (s : Int) (w : Int) hs := by
  obtain ⟨v, a1, b1, e1, r1, v0, v1⟩ := draw_val r (n := 8) (by omega) (by decide)
  obtain ⟨s, hs'⟩ : ∃ s : Nat, 1 + v = (s : Int) := ⟨(1 + v).toNat, by omega⟩
  obtain ⟨hs, a2, b2, ds, e2, r2, l2, c2⟩ := cache_val (s := s) (w := w) r1 (by omega) w8
  obtain ⟨e, q1, x, k, rfl, p1, p2⟩ := forL_all (b := bName 5) (mb := b1__law_world) (ds := hs.map dl) (env := [.io (.lst [.int a2, .int b2]), .sh (.int (w : Int)), .sh (.int (s : Int)), .sh (.lst (hs.map dl)), .sh (.lst []), .no, .no])
    (fun j env => ∃ x k, env = [.io (.lst [.int a2, .int b2]), .sh (.int (w : Int)), .sh (.int (s : Int)), .sh (.lst (hs.map dl)), .sh (dl (revs (hs.take j))), x, k] ∧ Mir.plain x = true ∧ Mir.plain k = true) ⟨.no, .no, rfl, rfl, rfl⟩ (fun j d env hd hI => by
    obtain ⟨x, k, rfl, p1, p2⟩ := hI
    rw [List.getElem?_map] at hd
    cases e : hs[j]? with
    | none => rw [e] at hd; cases hd
    | some xs =>
      rw [e] at hd
      cases hd
      have hj : j < s := by
        have := (List.getElem?_eq_some_iff.mp e).1
        omega
      have l3 := (c2 j xs e).len
      have l4 := revs_len (by omega) c2 j
      have g := revW_val (xs := xs) (ps := revs (hs.take j)) (r := .io (.lst [.int a2, .int b2])) (w := .sh (.int (w : Int))) (s := .sh (.int (s : Int))) (h := .sh (.lst (hs.map dl))) (k := k) (by omega) p2
      refine ⟨[.io (.lst [.int a2, .int b2]), .sh (.int (w : Int)), .sh (.int (s : Int)), .sh (.lst (hs.map dl)), .sh (dl (revs (hs.take j))), .sh (dl xs), k], ?_, [.io (.lst [.int a2, .int b2]), .sh (.int (w : Int)), .sh (.int (s : Int)), .sh (.lst (hs.map dl)), .sh (dl (revs (hs.take (j + 1)))), .sh (dl xs), k], .inl ?_, _, k, rfl, rfl, p2⟩
      · cases x <;> first | rfl | cases p1
      · have g1 : (revs (hs.take j)).length + xs.reverse.length ≤ 1000000 := by rw [List.length_reverse]; omega
        have g2 : List.map D.int (revs (hs.take j)) ++ List.map D.int xs.reverse = List.map D.int (revs (hs.take (j + 1))) := by rw [revs_add hs e, List.map_append]
        rw [show dl (revs (hs.take j)) = .lst ((revs (hs.take j)).map .int) from rfl] at g ⊢
        simp only [b1__law_world, t1b1__law_world, g, few_ok, atI_zero, atI_one, atI_two, atI_three, ixN_20, ixN_21, ixN_40, ixN_41, ixN_42, ixN_43, Int.reduceLT, Int.reduceLE, Int.natCast_add, Int.cast_ofNat_Int, List.length_map, List.length_append, mSeq, bnd, mOp, mVar, mOnSq, mSl, readAt, asSq, rd, Mir.ret, lft, iOp, mCons, mTup, mLst, mSq, mIx, ixD, mIn, mB, asB, mAnd, mOr, mNot, mAndV, mOrV, mNotV, mIf, mPart, asI, mSlT, slT, mSlL, mCatL, mCB, intO, absO, maxO, minO, seqD, lstD, tupD, bName, bTup, bLst, bNil, bCons, bRd, mFrz, freeze, mRetV, toOut, setSh, setOw, free, putOwn, ownAt, lstO, mLM, appF, popF, mSetIx, setF, mAug, addI, subI, ltI, leI, gtI, geI, addA, addT, addS, addL, isNO, notNO, isN, eqO, neO, eqD, toV, mNeg, negD, mChain, mBor, mCall, evAr, anyAt, Mir.fill, okIx, ioIx, boIx, back_s, back_b, back_t, back_e, back_ss, back_sb, back_st, back_se, back_bs, back_bb, back_bt, back_be, back_ts, back_tb, back_tt, back_te, back_es, back_eb, back_et, back_ee, back_sss, back_ssb, back_sst, back_sbs, back_sbb, back_sbt, back_sts, back_stb, back_stt, back_bss, back_bsb, back_bst, back_bbs, back_bbb, back_bbt, back_bts, back_btb, back_btt, back_tss, back_tsb, back_tst, back_tbs, back_tbb, back_tbt, back_tts, back_ttb, back_ttt, back_ssss, back_sssss, back_bsss, back, Ar.md, cont, startE, slOf, plains, Mir.plain, clearE, restE, Sq.ds, runF, List.zipWith, List.getElem?_cons_zero, List.getElem?_cons_succ, List.getElem?_nil, List.replicate, List.cons_append, List.nil_append, List.set_cons_zero, List.set_cons_succ, List.length_cons, List.length_nil, List.map_cons, List.map_nil, List.all_cons, List.all_nil, List.getD_cons_zero, List.getD_cons_succ, Option.map_some, Option.map_none, Option.bind_some, Option.bind_none, Option.isSome_some, Bool.and_true, Bool.true_and, Bool.and_false, Bool.false_and, Bool.not_true, Bool.not_false, if_true, if_false, ite_true, ite_false, reduceIte, reduceCtorEq, Nat.reduceAdd, Nat.reduceSub, Nat.reduceMul, Nat.reduceLeDiff, Nat.reduceLT, Nat.reduceEqDiff, Int.reduceNeg, Bool.false_eq_true, decide_eq_true_eq, decide_true, decide_false, Nat.zero_add, Option.some.injEq, Sl.ow.injEq, Sl.sh.injEq, and_self, and_true, true_and, List.contains_cons, List.contains_nil, List.nodup_nil, List.nodup_cons, List.not_mem_nil, not_false_eq_true]
        simp only [dl, few_ok, atI_zero, atI_one, atI_two, atI_three, ixN_20, ixN_21, ixN_40, ixN_41, ixN_42, ixN_43, Int.reduceLT, Int.reduceLE, Int.natCast_add, Int.cast_ofNat_Int, List.length_map, List.length_append, mSeq, bnd, mOp, mVar, mOnSq, mSl, readAt, asSq, rd, Mir.ret, lft, iOp, mCons, mTup, mLst, mSq, mIx, ixD, mIn, mB, asB, mAnd, mOr, mNot, mAndV, mOrV, mNotV, mIf, mPart, asI, mSlT, slT, mSlL, mCatL, mCB, intO, absO, maxO, minO, seqD, lstD, tupD, bName, bTup, bLst, bNil, bCons, bRd, mFrz, freeze, mRetV, toOut, setSh, setOw, free, putOwn, ownAt, lstO, mLM, appF, popF, mSetIx, setF, mAug, addI, subI, ltI, leI, gtI, geI, addA, addT, addS, addL, isNO, notNO, isN, eqO, neO, eqD, toV, mNeg, negD, mChain, mBor, mCall, evAr, anyAt, Mir.fill, okIx, ioIx, boIx, back_s, back_b, back_t, back_e, back_ss, back_sb, back_st, back_se, back_bs, back_bb, back_bt, back_be, back_ts, back_tb, back_tt, back_te, back_es, back_eb, back_et, back_ee, back_sss, back_ssb, back_sst, back_sbs, back_sbb, back_sbt, back_sts, back_stb, back_stt, back_bss, back_bsb, back_bst, back_bbs, back_bbb, back_bbt, back_bts, back_btb, back_btt, back_tss, back_tsb, back_tst, back_tbs, back_tbb, back_tbt, back_tts, back_ttb, back_ttt, back_ssss, back_sssss, back_bsss, back, Ar.md, cont, startE, slOf, plains, Mir.plain, clearE, restE, Sq.ds, runF, List.zipWith, List.getElem?_cons_zero, List.getElem?_cons_succ, List.getElem?_nil, List.replicate, List.cons_append, List.nil_append, List.set_cons_zero, List.set_cons_succ, List.length_cons, List.length_nil, List.map_cons, List.map_nil, List.all_cons, List.all_nil, List.getD_cons_zero, List.getD_cons_succ, Option.map_some, Option.map_none, Option.bind_some, Option.bind_none, Option.isSome_some, Bool.and_true, Bool.true_and, Bool.and_false, Bool.false_and, Bool.not_true, Bool.not_false, if_true, if_false, ite_true, ite_false, reduceIte, reduceCtorEq, Nat.reduceAdd, Nat.reduceSub, Nat.reduceMul, Nat.reduceLeDiff, Nat.reduceLT, Nat.reduceEqDiff, Int.reduceNeg, Bool.false_eq_true, decide_eq_true_eq, decide_true, decide_false, Nat.zero_add, Option.some.injEq, Sl.ow.injEq, Sl.sh.injEq, and_self, and_true, true_and, List.contains_cons, List.contains_nil, List.nodup_nil, List.nodup_cons, List.not_mem_nil, not_false_eq_true, g1, g2])
  rw [List.take_of_length_le (by rw [List.length_map]; exact Nat.le_refl _)] at q1
  refine ⟨s, hs, a2, b2, [cont (.sh (.int (s : Int))), .non, .non, cont x, cont k], ?_, r2, by omega, by omega, l2, c2⟩
  simp only [f__law_world, m__law_world, t1__law_world, t2__law_world, t3__law_world, t4__law_world, t5__law_world, l1__law_world, wrl, few_ok, atI_zero, atI_one, atI_two, atI_three, ixN_20, ixN_21, ixN_40, ixN_41, ixN_42, ixN_43, Int.reduceLT, Int.reduceLE, Int.natCast_add, Int.cast_ofNat_Int, List.length_map, List.length_append, mSeq, bnd, mOp, mVar, mOnSq, mSl, readAt, asSq, rd, Mir.ret, lft, iOp, mCons, mTup, mLst, mSq, mIx, ixD, mIn, mB, asB, mAnd, mOr, mNot, mAndV, mOrV, mNotV, mIf, mPart, asI, mSlT, slT, mSlL, mCatL, mCB, intO, absO, maxO, minO, seqD, lstD, tupD, bName, bTup, bLst, bNil, bCons, bRd, mFrz, freeze, mRetV, toOut, setSh, setOw, free, putOwn, ownAt, lstO, mLM, appF, popF, mSetIx, setF, mAug, addI, subI, ltI, leI, gtI, geI, addA, addT, addS, addL, isNO, notNO, isN, eqO, neO, eqD, toV, mNeg, negD, mChain, mBor, mCall, evAr, anyAt, Mir.fill, okIx, ioIx, boIx, back_s, back_b, back_t, back_e, back_ss, back_sb, back_st, back_se, back_bs, back_bb, back_bt, back_be, back_ts, back_tb, back_tt, back_te, back_es, back_eb, back_et, back_ee, back_sss, back_ssb, back_sst, back_sbs, back_sbb, back_sbt, back_sts, back_stb, back_stt, back_bss, back_bsb, back_bst, back_bbs, back_bbb, back_bbt, back_bts, back_btb, back_btt, back_tss, back_tsb, back_tst, back_tbs, back_tbb, back_tbt, back_tts, back_ttb, back_ttt, back_ssss, back_sssss, back_bsss, back, Ar.md, cont, startE, slOf, plains, Mir.plain, clearE, restE, Sq.ds, runF, List.zipWith, List.getElem?_cons_zero, List.getElem?_cons_succ, List.getElem?_nil, List.replicate, List.cons_append, List.nil_append, List.set_cons_zero, List.set_cons_succ, List.length_cons, List.length_nil, List.map_cons, List.map_nil, List.all_cons, List.all_nil, List.getD_cons_zero, List.getD_cons_succ, Option.map_some, Option.map_none, Option.bind_some, Option.bind_none, Option.isSome_some, Bool.and_true, Bool.true_and, Bool.and_false, Bool.false_and, Bool.not_true, Bool.not_false, if_true, if_false, ite_true, ite_false, reduceIte, reduceCtorEq, Nat.reduceAdd, Nat.reduceSub, Nat.reduceMul, Nat.reduceLeDiff, Nat.reduceLT, Nat.reduceEqDiff, Int.reduceNeg, Bool.false_eq_true, decide_eq_true_eq, decide_true, decide_false, Nat.zero_add, Option.some.injEq, Sl.ow.injEq, Sl.sh.injEq, and_self, and_true, true_and, List.contains_cons, List.contains_nil, List.nodup_nil, List.nodup_cons, List.not_mem_nil, not_false_eq_true, e1, hs', e2, q1]
end K58
namespace K58
open PySem PySem.Spec PyProof.Rows L2 Mir
theorem runF_rt' {n : Nat} {ms : List Md} {m : M Out} {ds : List D} {d x : D} {e : En} {e' : En} (h : m (startE n ms ds) = .ok (.rt d) (.io x :: e)) : runF false n ms m ds = .ok d (x :: e.map cont) := runF_rt h
theorem at_some {α : Type} {xs : List α} {i : Nat} (h : i < xs.length) : ∃ v, xs[i]? = some v := ⟨_, List.getElem?_eq_getElem h⟩
theorem line_val {a b : Int} {s w : Nat} {hs : List (List Int)} {ps : List Int} (r : Row a b) (s1 : 1 ≤ s) (s8 : s ≤ 8) (w8 : w ≤ 8) (hl : hs.length = s) (hc : ∀ xs ∈ hs, xs.length ≤ 8) (hp : ps.length ≤ 1000) :
    ∃ line a' b' ds, f__law_line [.lst [.int a, .int b], wrl s w hs ps] = .ok (.int line) (.lst [.int a', .int b'] :: ds) ∧ Row a' b' := by
  have E1 : t1__law_line [.io (.lst [.int a, .int b]), .bo (wrl s w hs ps), .no, .no, .no, .no, .no, .no] = .ok .nx [.io (.lst [.int a, .int b]), .bo (wrl s w hs ps), .sh (.int (s : Int)), .sh (.int (w : Int)), .sh (.lst (hs.map dl)), .sh (dl ps), .no, .no] := by
    simp only [t1__law_line, wrl, few_ok, atI_zero, atI_one, atI_two, atI_three, ixN_20, ixN_21, ixN_40, ixN_41, ixN_42, ixN_43, Int.reduceLT, Int.reduceLE, Int.natCast_add, Int.cast_ofNat_Int, List.length_map, List.length_append, mSeq, bnd, mOp, mVar, mOnSq, mSl, readAt, asSq, rd, Mir.ret, lft, iOp, mCons, mTup, mLst, mSq, mIx, ixD, mIn, mB, asB, mAnd, mOr, mNot, mAndV, mOrV, mNotV, mIf, mPart, asI, mSlT, slT, mSlL, mCatL, mCB, intO, absO, maxO, minO, seqD, lstD, tupD, bName, bTup, bLst, bNil, bCons, bRd, mFrz, freeze, mRetV, toOut, setSh, setOw, free, putOwn, ownAt, lstO, mLM, appF, popF, mSetIx, setF, mAug, addI, subI, ltI, leI, gtI, geI, addA, addT, addS, addL, isNO, notNO, isN, eqO, neO, eqD, toV, mNeg, negD, mChain, mBor, mCall, evAr, anyAt, Mir.fill, okIx, ioIx, boIx, back_s, back_b, back_t, back_e, back_ss, back_sb, back_st, back_se, back_bs, back_bb, back_bt, back_be, back_ts, back_tb, back_tt, back_te, back_es, back_eb, back_et, back_ee, back_sss, back_ssb, back_sst, back_sbs, back_sbb, back_sbt, back_sts, back_stb, back_stt, back_bss, back_bsb, back_bst, back_bbs, back_bbb, back_bbt, back_bts, back_btb, back_btt, back_tss, back_tsb, back_tst, back_tbs, back_tbb, back_tbt, back_tts, back_ttb, back_ttt, back_ssss, back_sssss, back_bsss, back, Ar.md, cont, startE, slOf, plains, Mir.plain, clearE, restE, Sq.ds, runF, List.zipWith, List.getElem?_cons_zero, List.getElem?_cons_succ, List.getElem?_nil, List.replicate, List.cons_append, List.nil_append, List.set_cons_zero, List.set_cons_succ, List.length_cons, List.length_nil, List.map_cons, List.map_nil, List.all_cons, List.all_nil, List.getD_cons_zero, List.getD_cons_succ, Option.map_some, Option.map_none, Option.bind_some, Option.bind_none, Option.isSome_some, Bool.and_true, Bool.true_and, Bool.and_false, Bool.false_and, Bool.not_true, Bool.not_false, if_true, if_false, ite_true, ite_false, reduceIte, reduceCtorEq, Nat.reduceAdd, Nat.reduceSub, Nat.reduceMul, Nat.reduceLeDiff, Nat.reduceLT, Nat.reduceEqDiff, Int.reduceNeg, Bool.false_eq_true, decide_eq_true_eq, decide_true, decide_false, Nat.zero_add, Option.some.injEq, Sl.ow.injEq, Sl.sh.injEq, and_self, and_true, true_and, List.contains_cons, List.contains_nil, List.nodup_nil, List.nodup_cons, List.not_mem_nil, not_false_eq_true]
  obtain ⟨k, a1, b1, e1, r1, k0, k6⟩ := draw_val r (n := 6) (by omega) (by decide)
  have E2 : t2__law_line [.io (.lst [.int a, .int b]), .bo (wrl s w hs ps), .sh (.int (s : Int)), .sh (.int (w : Int)), .sh (.lst (hs.map dl)), .sh (dl ps), .no, .no] = .ok .nx [.io (.lst [.int a1, .int b1]), .bo (wrl s w hs ps), .sh (.int (s : Int)), .sh (.int (w : Int)), .sh (.lst (hs.map dl)), .sh (dl ps), .sh (.int k), .no] := by
    simp only [t2__law_line, few_ok, atI_zero, atI_one, atI_two, atI_three, ixN_20, ixN_21, ixN_40, ixN_41, ixN_42, ixN_43, Int.reduceLT, Int.reduceLE, Int.natCast_add, Int.cast_ofNat_Int, List.length_map, List.length_append, mSeq, bnd, mOp, mVar, mOnSq, mSl, readAt, asSq, rd, Mir.ret, lft, iOp, mCons, mTup, mLst, mSq, mIx, ixD, mIn, mB, asB, mAnd, mOr, mNot, mAndV, mOrV, mNotV, mIf, mPart, asI, mSlT, slT, mSlL, mCatL, mCB, intO, absO, maxO, minO, seqD, lstD, tupD, bName, bTup, bLst, bNil, bCons, bRd, mFrz, freeze, mRetV, toOut, setSh, setOw, free, putOwn, ownAt, lstO, mLM, appF, popF, mSetIx, setF, mAug, addI, subI, ltI, leI, gtI, geI, addA, addT, addS, addL, isNO, notNO, isN, eqO, neO, eqD, toV, mNeg, negD, mChain, mBor, mCall, evAr, anyAt, Mir.fill, okIx, ioIx, boIx, back_s, back_b, back_t, back_e, back_ss, back_sb, back_st, back_se, back_bs, back_bb, back_bt, back_be, back_ts, back_tb, back_tt, back_te, back_es, back_eb, back_et, back_ee, back_sss, back_ssb, back_sst, back_sbs, back_sbb, back_sbt, back_sts, back_stb, back_stt, back_bss, back_bsb, back_bst, back_bbs, back_bbb, back_bbt, back_bts, back_btb, back_btt, back_tss, back_tsb, back_tst, back_tbs, back_tbb, back_tbt, back_tts, back_ttb, back_ttt, back_ssss, back_sssss, back_bsss, back, Ar.md, cont, startE, slOf, plains, Mir.plain, clearE, restE, Sq.ds, runF, List.zipWith, List.getElem?_cons_zero, List.getElem?_cons_succ, List.getElem?_nil, List.replicate, List.cons_append, List.nil_append, List.set_cons_zero, List.set_cons_succ, List.length_cons, List.length_nil, List.map_cons, List.map_nil, List.all_cons, List.all_nil, List.getD_cons_zero, List.getD_cons_succ, Option.map_some, Option.map_none, Option.bind_some, Option.bind_none, Option.isSome_some, Bool.and_true, Bool.true_and, Bool.and_false, Bool.false_and, Bool.not_true, Bool.not_false, if_true, if_false, ite_true, ite_false, reduceIte, reduceCtorEq, Nat.reduceAdd, Nat.reduceSub, Nat.reduceMul, Nat.reduceLeDiff, Nat.reduceLT, Nat.reduceEqDiff, Int.reduceNeg, Bool.false_eq_true, decide_eq_true_eq, decide_true, decide_false, Nat.zero_add, Option.some.injEq, Sl.ow.injEq, Sl.sh.injEq, and_self, and_true, true_and, List.contains_cons, List.contains_nil, List.nodup_nil, List.nodup_cons, List.not_mem_nil, not_false_eq_true, e1]
  have E3 : (∃ line a' b' e, t3__law_line [.io (.lst [.int a1, .int b1]), .bo (wrl s w hs ps), .sh (.int (s : Int)), .sh (.int (w : Int)), .sh (.lst (hs.map dl)), .sh (dl ps), .sh (.int k), .no] = .ok (.rt (.int line)) (.io (.lst [.int a', .int b']) :: e) ∧ Row a' b') ∨ (∃ a' b' x, t3__law_line [.io (.lst [.int a1, .int b1]), .bo (wrl s w hs ps), .sh (.int (s : Int)), .sh (.int (w : Int)), .sh (.lst (hs.map dl)), .sh (dl ps), .sh (.int k), .no] = .ok .nx [.io (.lst [.int a', .int b']), .bo (wrl s w hs ps), .sh (.int (s : Int)), .sh (.int (w : Int)), .sh (.lst (hs.map dl)), .sh (dl ps), .sh (.int k), x] ∧ Row a' b') := by
    by_cases h1 : k < 2
    · obtain ⟨v, a2, b2, e2, r2, v0, v1⟩ := draw_val r1 (n := (s : Int)) (by omega) (small_log (by omega))
      obtain ⟨j, rfl⟩ : ∃ j : Nat, v = (j : Int) := ⟨v.toNat, by omega⟩
      obtain ⟨xs, hx⟩ := at_some (xs := hs) (i := j) (by omega)
      have g1 : atI (hs.map dl) (j : Int) = some (dl xs) := atI_of rfl (by rw [List.getElem?_map, hx]; rfl)
      have hxl : xs.length ≤ 8 := hc xs (List.mem_of_getElem? hx)
      by_cases h2 : 0 < (xs.length : Int)
      · obtain ⟨u, a3, b3, e3, r3, u0, u1⟩ := draw_val r2 (n := (xs.length : Int)) (by omega) (small_log (by omega))
        obtain ⟨i, rfl⟩ : ∃ i : Nat, u = (i : Int) := ⟨u.toNat, by omega⟩
        obtain ⟨line, hy⟩ := at_some (xs := xs) (i := i) (by omega)
        have g2 : atI (xs.map D.int) (i : Int) = some (.int line) := atI_of rfl (by rw [List.getElem?_map, hy]; rfl)
        refine .inl ⟨line, a3, b3, [.bo (wrl s w hs ps), .sh (.int (s : Int)), .sh (.int (w : Int)), .sh (.lst (hs.map dl)), .sh (dl ps), .sh (.int k), .sh (dl xs)], ?_, r3⟩
        simp only [t3__law_line, few_ok, atI_zero, atI_one, atI_two, atI_three, ixN_20, ixN_21, ixN_40, ixN_41, ixN_42, ixN_43, Int.reduceLT, Int.reduceLE, Int.natCast_add, Int.cast_ofNat_Int, List.length_map, List.length_append, mSeq, bnd, mOp, mVar, mOnSq, mSl, readAt, asSq, rd, Mir.ret, lft, iOp, mCons, mTup, mLst, mSq, mIx, ixD, mIn, mB, asB, mAnd, mOr, mNot, mAndV, mOrV, mNotV, mIf, mPart, asI, mSlT, slT, mSlL, mCatL, mCB, intO, absO, maxO, minO, seqD, lstD, tupD, bName, bTup, bLst, bNil, bCons, bRd, mFrz, freeze, mRetV, toOut, setSh, setOw, free, putOwn, ownAt, lstO, mLM, appF, popF, mSetIx, setF, mAug, addI, subI, ltI, leI, gtI, geI, addA, addT, addS, addL, isNO, notNO, isN, eqO, neO, eqD, toV, mNeg, negD, mChain, mBor, mCall, evAr, anyAt, Mir.fill, okIx, ioIx, boIx, back_s, back_b, back_t, back_e, back_ss, back_sb, back_st, back_se, back_bs, back_bb, back_bt, back_be, back_ts, back_tb, back_tt, back_te, back_es, back_eb, back_et, back_ee, back_sss, back_ssb, back_sst, back_sbs, back_sbb, back_sbt, back_sts, back_stb, back_stt, back_bss, back_bsb, back_bst, back_bbs, back_bbb, back_bbt, back_bts, back_btb, back_btt, back_tss, back_tsb, back_tst, back_tbs, back_tbb, back_tbt, back_tts, back_ttb, back_ttt, back_ssss, back_sssss, back_bsss, back, Ar.md, cont, startE, slOf, plains, Mir.plain, clearE, restE, Sq.ds, runF, List.zipWith, List.getElem?_cons_zero, List.getElem?_cons_succ, List.getElem?_nil, List.replicate, List.cons_append, List.nil_append, List.set_cons_zero, List.set_cons_succ, List.length_cons, List.length_nil, List.map_cons, List.map_nil, List.all_cons, List.all_nil, List.getD_cons_zero, List.getD_cons_succ, Option.map_some, Option.map_none, Option.bind_some, Option.bind_none, Option.isSome_some, Bool.and_true, Bool.true_and, Bool.and_false, Bool.false_and, Bool.not_true, Bool.not_false, if_true, if_false, ite_true, ite_false, reduceIte, reduceCtorEq, Nat.reduceAdd, Nat.reduceSub, Nat.reduceMul, Nat.reduceLeDiff, Nat.reduceLT, Nat.reduceEqDiff, Int.reduceNeg, Bool.false_eq_true, decide_eq_true_eq, decide_true, decide_false, Nat.zero_add, Option.some.injEq, Sl.ow.injEq, Sl.sh.injEq, and_self, and_true, true_and, List.contains_cons, List.contains_nil, List.nodup_nil, List.nodup_cons, List.not_mem_nil, not_false_eq_true, h1, e2, g1]
        simp only [dl, few_ok, atI_zero, atI_one, atI_two, atI_three, ixN_20, ixN_21, ixN_40, ixN_41, ixN_42, ixN_43, Int.reduceLT, Int.reduceLE, Int.natCast_add, Int.cast_ofNat_Int, List.length_map, List.length_append, mSeq, bnd, mOp, mVar, mOnSq, mSl, readAt, asSq, rd, Mir.ret, lft, iOp, mCons, mTup, mLst, mSq, mIx, ixD, mIn, mB, asB, mAnd, mOr, mNot, mAndV, mOrV, mNotV, mIf, mPart, asI, mSlT, slT, mSlL, mCatL, mCB, intO, absO, maxO, minO, seqD, lstD, tupD, bName, bTup, bLst, bNil, bCons, bRd, mFrz, freeze, mRetV, toOut, setSh, setOw, free, putOwn, ownAt, lstO, mLM, appF, popF, mSetIx, setF, mAug, addI, subI, ltI, leI, gtI, geI, addA, addT, addS, addL, isNO, notNO, isN, eqO, neO, eqD, toV, mNeg, negD, mChain, mBor, mCall, evAr, anyAt, Mir.fill, okIx, ioIx, boIx, back_s, back_b, back_t, back_e, back_ss, back_sb, back_st, back_se, back_bs, back_bb, back_bt, back_be, back_ts, back_tb, back_tt, back_te, back_es, back_eb, back_et, back_ee, back_sss, back_ssb, back_sst, back_sbs, back_sbb, back_sbt, back_sts, back_stb, back_stt, back_bss, back_bsb, back_bst, back_bbs, back_bbb, back_bbt, back_bts, back_btb, back_btt, back_tss, back_tsb, back_tst, back_tbs, back_tbb, back_tbt, back_tts, back_ttb, back_ttt, back_ssss, back_sssss, back_bsss, back, Ar.md, cont, startE, slOf, plains, Mir.plain, clearE, restE, Sq.ds, runF, List.zipWith, List.getElem?_cons_zero, List.getElem?_cons_succ, List.getElem?_nil, List.replicate, List.cons_append, List.nil_append, List.set_cons_zero, List.set_cons_succ, List.length_cons, List.length_nil, List.map_cons, List.map_nil, List.all_cons, List.all_nil, List.getD_cons_zero, List.getD_cons_succ, Option.map_some, Option.map_none, Option.bind_some, Option.bind_none, Option.isSome_some, Bool.and_true, Bool.true_and, Bool.and_false, Bool.false_and, Bool.not_true, Bool.not_false, if_true, if_false, ite_true, ite_false, reduceIte, reduceCtorEq, Nat.reduceAdd, Nat.reduceSub, Nat.reduceMul, Nat.reduceLeDiff, Nat.reduceLT, Nat.reduceEqDiff, Int.reduceNeg, Bool.false_eq_true, decide_eq_true_eq, decide_true, decide_false, Nat.zero_add, Option.some.injEq, Sl.ow.injEq, Sl.sh.injEq, and_self, and_true, true_and, List.contains_cons, List.contains_nil, List.nodup_nil, List.nodup_cons, List.not_mem_nil, not_false_eq_true, h2, e3, g2]
      · refine .inr ⟨a2, b2, .sh (dl xs), ?_, r2⟩
        simp only [t3__law_line, few_ok, atI_zero, atI_one, atI_two, atI_three, ixN_20, ixN_21, ixN_40, ixN_41, ixN_42, ixN_43, Int.reduceLT, Int.reduceLE, Int.natCast_add, Int.cast_ofNat_Int, List.length_map, List.length_append, mSeq, bnd, mOp, mVar, mOnSq, mSl, readAt, asSq, rd, Mir.ret, lft, iOp, mCons, mTup, mLst, mSq, mIx, ixD, mIn, mB, asB, mAnd, mOr, mNot, mAndV, mOrV, mNotV, mIf, mPart, asI, mSlT, slT, mSlL, mCatL, mCB, intO, absO, maxO, minO, seqD, lstD, tupD, bName, bTup, bLst, bNil, bCons, bRd, mFrz, freeze, mRetV, toOut, setSh, setOw, free, putOwn, ownAt, lstO, mLM, appF, popF, mSetIx, setF, mAug, addI, subI, ltI, leI, gtI, geI, addA, addT, addS, addL, isNO, notNO, isN, eqO, neO, eqD, toV, mNeg, negD, mChain, mBor, mCall, evAr, anyAt, Mir.fill, okIx, ioIx, boIx, back_s, back_b, back_t, back_e, back_ss, back_sb, back_st, back_se, back_bs, back_bb, back_bt, back_be, back_ts, back_tb, back_tt, back_te, back_es, back_eb, back_et, back_ee, back_sss, back_ssb, back_sst, back_sbs, back_sbb, back_sbt, back_sts, back_stb, back_stt, back_bss, back_bsb, back_bst, back_bbs, back_bbb, back_bbt, back_bts, back_btb, back_btt, back_tss, back_tsb, back_tst, back_tbs, back_tbb, back_tbt, back_tts, back_ttb, back_ttt, back_ssss, back_sssss, back_bsss, back, Ar.md, cont, startE, slOf, plains, Mir.plain, clearE, restE, Sq.ds, runF, List.zipWith, List.getElem?_cons_zero, List.getElem?_cons_succ, List.getElem?_nil, List.replicate, List.cons_append, List.nil_append, List.set_cons_zero, List.set_cons_succ, List.length_cons, List.length_nil, List.map_cons, List.map_nil, List.all_cons, List.all_nil, List.getD_cons_zero, List.getD_cons_succ, Option.map_some, Option.map_none, Option.bind_some, Option.bind_none, Option.isSome_some, Bool.and_true, Bool.true_and, Bool.and_false, Bool.false_and, Bool.not_true, Bool.not_false, if_true, if_false, ite_true, ite_false, reduceIte, reduceCtorEq, Nat.reduceAdd, Nat.reduceSub, Nat.reduceMul, Nat.reduceLeDiff, Nat.reduceLT, Nat.reduceEqDiff, Int.reduceNeg, Bool.false_eq_true, decide_eq_true_eq, decide_true, decide_false, Nat.zero_add, Option.some.injEq, Sl.ow.injEq, Sl.sh.injEq, and_self, and_true, true_and, List.contains_cons, List.contains_nil, List.nodup_nil, List.nodup_cons, List.not_mem_nil, not_false_eq_true, h1, e2, g1]
        simp only [dl, few_ok, atI_zero, atI_one, atI_two, atI_three, ixN_20, ixN_21, ixN_40, ixN_41, ixN_42, ixN_43, Int.reduceLT, Int.reduceLE, Int.natCast_add, Int.cast_ofNat_Int, List.length_map, List.length_append, mSeq, bnd, mOp, mVar, mOnSq, mSl, readAt, asSq, rd, Mir.ret, lft, iOp, mCons, mTup, mLst, mSq, mIx, ixD, mIn, mB, asB, mAnd, mOr, mNot, mAndV, mOrV, mNotV, mIf, mPart, asI, mSlT, slT, mSlL, mCatL, mCB, intO, absO, maxO, minO, seqD, lstD, tupD, bName, bTup, bLst, bNil, bCons, bRd, mFrz, freeze, mRetV, toOut, setSh, setOw, free, putOwn, ownAt, lstO, mLM, appF, popF, mSetIx, setF, mAug, addI, subI, ltI, leI, gtI, geI, addA, addT, addS, addL, isNO, notNO, isN, eqO, neO, eqD, toV, mNeg, negD, mChain, mBor, mCall, evAr, anyAt, Mir.fill, okIx, ioIx, boIx, back_s, back_b, back_t, back_e, back_ss, back_sb, back_st, back_se, back_bs, back_bb, back_bt, back_be, back_ts, back_tb, back_tt, back_te, back_es, back_eb, back_et, back_ee, back_sss, back_ssb, back_sst, back_sbs, back_sbb, back_sbt, back_sts, back_stb, back_stt, back_bss, back_bsb, back_bst, back_bbs, back_bbb, back_bbt, back_bts, back_btb, back_btt, back_tss, back_tsb, back_tst, back_tbs, back_tbb, back_tbt, back_tts, back_ttb, back_ttt, back_ssss, back_sssss, back_bsss, back, Ar.md, cont, startE, slOf, plains, Mir.plain, clearE, restE, Sq.ds, runF, List.zipWith, List.getElem?_cons_zero, List.getElem?_cons_succ, List.getElem?_nil, List.replicate, List.cons_append, List.nil_append, List.set_cons_zero, List.set_cons_succ, List.length_cons, List.length_nil, List.map_cons, List.map_nil, List.all_cons, List.all_nil, List.getD_cons_zero, List.getD_cons_succ, Option.map_some, Option.map_none, Option.bind_some, Option.bind_none, Option.isSome_some, Bool.and_true, Bool.true_and, Bool.and_false, Bool.false_and, Bool.not_true, Bool.not_false, if_true, if_false, ite_true, ite_false, reduceIte, reduceCtorEq, Nat.reduceAdd, Nat.reduceSub, Nat.reduceMul, Nat.reduceLeDiff, Nat.reduceLT, Nat.reduceEqDiff, Int.reduceNeg, Bool.false_eq_true, decide_eq_true_eq, decide_true, decide_false, Nat.zero_add, Option.some.injEq, Sl.ow.injEq, Sl.sh.injEq, and_self, and_true, true_and, List.contains_cons, List.contains_nil, List.nodup_nil, List.nodup_cons, List.not_mem_nil, not_false_eq_true, h2]
    · refine .inr ⟨a1, b1, .no, ?_, r1⟩
      simp only [t3__law_line, few_ok, atI_zero, atI_one, atI_two, atI_three, ixN_20, ixN_21, ixN_40, ixN_41, ixN_42, ixN_43, Int.reduceLT, Int.reduceLE, Int.natCast_add, Int.cast_ofNat_Int, List.length_map, List.length_append, mSeq, bnd, mOp, mVar, mOnSq, mSl, readAt, asSq, rd, Mir.ret, lft, iOp, mCons, mTup, mLst, mSq, mIx, ixD, mIn, mB, asB, mAnd, mOr, mNot, mAndV, mOrV, mNotV, mIf, mPart, asI, mSlT, slT, mSlL, mCatL, mCB, intO, absO, maxO, minO, seqD, lstD, tupD, bName, bTup, bLst, bNil, bCons, bRd, mFrz, freeze, mRetV, toOut, setSh, setOw, free, putOwn, ownAt, lstO, mLM, appF, popF, mSetIx, setF, mAug, addI, subI, ltI, leI, gtI, geI, addA, addT, addS, addL, isNO, notNO, isN, eqO, neO, eqD, toV, mNeg, negD, mChain, mBor, mCall, evAr, anyAt, Mir.fill, okIx, ioIx, boIx, back_s, back_b, back_t, back_e, back_ss, back_sb, back_st, back_se, back_bs, back_bb, back_bt, back_be, back_ts, back_tb, back_tt, back_te, back_es, back_eb, back_et, back_ee, back_sss, back_ssb, back_sst, back_sbs, back_sbb, back_sbt, back_sts, back_stb, back_stt, back_bss, back_bsb, back_bst, back_bbs, back_bbb, back_bbt, back_bts, back_btb, back_btt, back_tss, back_tsb, back_tst, back_tbs, back_tbb, back_tbt, back_tts, back_ttb, back_ttt, back_ssss, back_sssss, back_bsss, back, Ar.md, cont, startE, slOf, plains, Mir.plain, clearE, restE, Sq.ds, runF, List.zipWith, List.getElem?_cons_zero, List.getElem?_cons_succ, List.getElem?_nil, List.replicate, List.cons_append, List.nil_append, List.set_cons_zero, List.set_cons_succ, List.length_cons, List.length_nil, List.map_cons, List.map_nil, List.all_cons, List.all_nil, List.getD_cons_zero, List.getD_cons_succ, Option.map_some, Option.map_none, Option.bind_some, Option.bind_none, Option.isSome_some, Bool.and_true, Bool.true_and, Bool.and_false, Bool.false_and, Bool.not_true, Bool.not_false, if_true, if_false, ite_true, ite_false, reduceIte, reduceCtorEq, Nat.reduceAdd, Nat.reduceSub, Nat.reduceMul, Nat.reduceLeDiff, Nat.reduceLT, Nat.reduceEqDiff, Int.reduceNeg, Bool.false_eq_true, decide_eq_true_eq, decide_true, decide_false, Nat.zero_add, Option.some.injEq, Sl.ow.injEq, Sl.sh.injEq, and_self, and_true, true_and, List.contains_cons, List.contains_nil, List.nodup_nil, List.nodup_cons, List.not_mem_nil, not_false_eq_true, h1]
  rcases E3 with ⟨line, a', b', e, E3, r3⟩ | ⟨a2, b2, x, E3, r2⟩
  · exact ⟨line, a', b', _, runF_rt (run_seq E1 (run_seq E2 (run_rt E3))), r3⟩
  have E4 : (∃ line a' b' e, t4__law_line [.io (.lst [.int a2, .int b2]), .bo (wrl s w hs ps), .sh (.int (s : Int)), .sh (.int (w : Int)), .sh (.lst (hs.map dl)), .sh (dl ps), .sh (.int k), x] = .ok (.rt (.int line)) (.io (.lst [.int a', .int b']) :: e) ∧ Row a' b') ∨ (t4__law_line [.io (.lst [.int a2, .int b2]), .bo (wrl s w hs ps), .sh (.int (s : Int)), .sh (.int (w : Int)), .sh (.lst (hs.map dl)), .sh (dl ps), .sh (.int k), x] = .ok .nx [.io (.lst [.int a2, .int b2]), .bo (wrl s w hs ps), .sh (.int (s : Int)), .sh (.int (w : Int)), .sh (.lst (hs.map dl)), .sh (dl ps), .sh (.int k), x]) := by
    by_cases h1 : k = 2
    · by_cases h2 : 0 < (ps.length : Int)
      · obtain ⟨u, a3, b3, e3, r3, u0, u1⟩ := draw_val r2 (n := (ps.length : Int)) (by omega) (small_log (by omega))
        obtain ⟨i, rfl⟩ : ∃ i : Nat, u = (i : Int) := ⟨u.toNat, by omega⟩
        obtain ⟨line, hy⟩ := at_some (xs := ps) (i := i) (by omega)
        have g2 : atI (ps.map D.int) (i : Int) = some (.int line) := atI_of rfl (by rw [List.getElem?_map, hy]; rfl)
        refine .inl ⟨line, a3, b3, [.bo (wrl s w hs ps), .sh (.int (s : Int)), .sh (.int (w : Int)), .sh (.lst (hs.map dl)), .sh (dl ps), .sh (.int k), x], ?_, r3⟩
        simp only [t4__law_line, dl, few_ok, atI_zero, atI_one, atI_two, atI_three, ixN_20, ixN_21, ixN_40, ixN_41, ixN_42, ixN_43, Int.reduceLT, Int.reduceLE, Int.natCast_add, Int.cast_ofNat_Int, List.length_map, List.length_append, mSeq, bnd, mOp, mVar, mOnSq, mSl, readAt, asSq, rd, Mir.ret, lft, iOp, mCons, mTup, mLst, mSq, mIx, ixD, mIn, mB, asB, mAnd, mOr, mNot, mAndV, mOrV, mNotV, mIf, mPart, asI, mSlT, slT, mSlL, mCatL, mCB, intO, absO, maxO, minO, seqD, lstD, tupD, bName, bTup, bLst, bNil, bCons, bRd, mFrz, freeze, mRetV, toOut, setSh, setOw, free, putOwn, ownAt, lstO, mLM, appF, popF, mSetIx, setF, mAug, addI, subI, ltI, leI, gtI, geI, addA, addT, addS, addL, isNO, notNO, isN, eqO, neO, eqD, toV, mNeg, negD, mChain, mBor, mCall, evAr, anyAt, Mir.fill, okIx, ioIx, boIx, back_s, back_b, back_t, back_e, back_ss, back_sb, back_st, back_se, back_bs, back_bb, back_bt, back_be, back_ts, back_tb, back_tt, back_te, back_es, back_eb, back_et, back_ee, back_sss, back_ssb, back_sst, back_sbs, back_sbb, back_sbt, back_sts, back_stb, back_stt, back_bss, back_bsb, back_bst, back_bbs, back_bbb, back_bbt, back_bts, back_btb, back_btt, back_tss, back_tsb, back_tst, back_tbs, back_tbb, back_tbt, back_tts, back_ttb, back_ttt, back_ssss, back_sssss, back_bsss, back, Ar.md, cont, startE, slOf, plains, Mir.plain, clearE, restE, Sq.ds, runF, List.zipWith, List.getElem?_cons_zero, List.getElem?_cons_succ, List.getElem?_nil, List.replicate, List.cons_append, List.nil_append, List.set_cons_zero, List.set_cons_succ, List.length_cons, List.length_nil, List.map_cons, List.map_nil, List.all_cons, List.all_nil, List.getD_cons_zero, List.getD_cons_succ, Option.map_some, Option.map_none, Option.bind_some, Option.bind_none, Option.isSome_some, Bool.and_true, Bool.true_and, Bool.and_false, Bool.false_and, Bool.not_true, Bool.not_false, if_true, if_false, ite_true, ite_false, reduceIte, reduceCtorEq, Nat.reduceAdd, Nat.reduceSub, Nat.reduceMul, Nat.reduceLeDiff, Nat.reduceLT, Nat.reduceEqDiff, Int.reduceNeg, Bool.false_eq_true, decide_eq_true_eq, decide_true, decide_false, Nat.zero_add, Option.some.injEq, Sl.ow.injEq, Sl.sh.injEq, and_self, and_true, true_and, List.contains_cons, List.contains_nil, List.nodup_nil, List.nodup_cons, List.not_mem_nil, not_false_eq_true, h1, eqV, scal, h2, e3, g2]
      · refine .inr ?_
        simp only [t4__law_line, dl, few_ok, atI_zero, atI_one, atI_two, atI_three, ixN_20, ixN_21, ixN_40, ixN_41, ixN_42, ixN_43, Int.reduceLT, Int.reduceLE, Int.natCast_add, Int.cast_ofNat_Int, List.length_map, List.length_append, mSeq, bnd, mOp, mVar, mOnSq, mSl, readAt, asSq, rd, Mir.ret, lft, iOp, mCons, mTup, mLst, mSq, mIx, ixD, mIn, mB, asB, mAnd, mOr, mNot, mAndV, mOrV, mNotV, mIf, mPart, asI, mSlT, slT, mSlL, mCatL, mCB, intO, absO, maxO, minO, seqD, lstD, tupD, bName, bTup, bLst, bNil, bCons, bRd, mFrz, freeze, mRetV, toOut, setSh, setOw, free, putOwn, ownAt, lstO, mLM, appF, popF, mSetIx, setF, mAug, addI, subI, ltI, leI, gtI, geI, addA, addT, addS, addL, isNO, notNO, isN, eqO, neO, eqD, toV, mNeg, negD, mChain, mBor, mCall, evAr, anyAt, Mir.fill, okIx, ioIx, boIx, back_s, back_b, back_t, back_e, back_ss, back_sb, back_st, back_se, back_bs, back_bb, back_bt, back_be, back_ts, back_tb, back_tt, back_te, back_es, back_eb, back_et, back_ee, back_sss, back_ssb, back_sst, back_sbs, back_sbb, back_sbt, back_sts, back_stb, back_stt, back_bss, back_bsb, back_bst, back_bbs, back_bbb, back_bbt, back_bts, back_btb, back_btt, back_tss, back_tsb, back_tst, back_tbs, back_tbb, back_tbt, back_tts, back_ttb, back_ttt, back_ssss, back_sssss, back_bsss, back, Ar.md, cont, startE, slOf, plains, Mir.plain, clearE, restE, Sq.ds, runF, List.zipWith, List.getElem?_cons_zero, List.getElem?_cons_succ, List.getElem?_nil, List.replicate, List.cons_append, List.nil_append, List.set_cons_zero, List.set_cons_succ, List.length_cons, List.length_nil, List.map_cons, List.map_nil, List.all_cons, List.all_nil, List.getD_cons_zero, List.getD_cons_succ, Option.map_some, Option.map_none, Option.bind_some, Option.bind_none, Option.isSome_some, Bool.and_true, Bool.true_and, Bool.and_false, Bool.false_and, Bool.not_true, Bool.not_false, if_true, if_false, ite_true, ite_false, reduceIte, reduceCtorEq, Nat.reduceAdd, Nat.reduceSub, Nat.reduceMul, Nat.reduceLeDiff, Nat.reduceLT, Nat.reduceEqDiff, Int.reduceNeg, Bool.false_eq_true, decide_eq_true_eq, decide_true, decide_false, Nat.zero_add, Option.some.injEq, Sl.ow.injEq, Sl.sh.injEq, and_self, and_true, true_and, List.contains_cons, List.contains_nil, List.nodup_nil, List.nodup_cons, List.not_mem_nil, not_false_eq_true, h1, eqV, scal, h2]
    · refine .inr ?_
      simp only [t4__law_line, few_ok, atI_zero, atI_one, atI_two, atI_three, ixN_20, ixN_21, ixN_40, ixN_41, ixN_42, ixN_43, Int.reduceLT, Int.reduceLE, Int.natCast_add, Int.cast_ofNat_Int, List.length_map, List.length_append, mSeq, bnd, mOp, mVar, mOnSq, mSl, readAt, asSq, rd, Mir.ret, lft, iOp, mCons, mTup, mLst, mSq, mIx, ixD, mIn, mB, asB, mAnd, mOr, mNot, mAndV, mOrV, mNotV, mIf, mPart, asI, mSlT, slT, mSlL, mCatL, mCB, intO, absO, maxO, minO, seqD, lstD, tupD, bName, bTup, bLst, bNil, bCons, bRd, mFrz, freeze, mRetV, toOut, setSh, setOw, free, putOwn, ownAt, lstO, mLM, appF, popF, mSetIx, setF, mAug, addI, subI, ltI, leI, gtI, geI, addA, addT, addS, addL, isNO, notNO, isN, eqO, neO, eqD, toV, mNeg, negD, mChain, mBor, mCall, evAr, anyAt, Mir.fill, okIx, ioIx, boIx, back_s, back_b, back_t, back_e, back_ss, back_sb, back_st, back_se, back_bs, back_bb, back_bt, back_be, back_ts, back_tb, back_tt, back_te, back_es, back_eb, back_et, back_ee, back_sss, back_ssb, back_sst, back_sbs, back_sbb, back_sbt, back_sts, back_stb, back_stt, back_bss, back_bsb, back_bst, back_bbs, back_bbb, back_bbt, back_bts, back_btb, back_btt, back_tss, back_tsb, back_tst, back_tbs, back_tbb, back_tbt, back_tts, back_ttb, back_ttt, back_ssss, back_sssss, back_bsss, back, Ar.md, cont, startE, slOf, plains, Mir.plain, clearE, restE, Sq.ds, runF, List.zipWith, List.getElem?_cons_zero, List.getElem?_cons_succ, List.getElem?_nil, List.replicate, List.cons_append, List.nil_append, List.set_cons_zero, List.set_cons_succ, List.length_cons, List.length_nil, List.map_cons, List.map_nil, List.all_cons, List.all_nil, List.getD_cons_zero, List.getD_cons_succ, Option.map_some, Option.map_none, Option.bind_some, Option.bind_none, Option.isSome_some, Bool.and_true, Bool.true_and, Bool.and_false, Bool.false_and, Bool.not_true, Bool.not_false, if_true, if_false, ite_true, ite_false, reduceIte, reduceCtorEq, Nat.reduceAdd, Nat.reduceSub, Nat.reduceMul, Nat.reduceLeDiff, Nat.reduceLT, Nat.reduceEqDiff, Int.reduceNeg, Bool.false_eq_true, decide_eq_true_eq, decide_true, decide_false, Nat.zero_add, Option.some.injEq, Sl.ow.injEq, Sl.sh.injEq, and_self, and_true, true_and, List.contains_cons, List.contains_nil, List.nodup_nil, List.nodup_cons, List.not_mem_nil, not_false_eq_true, h1, V.int.injEq, eqV, scal]
  rcases E4 with ⟨line, a', b', e, E4, r3⟩ | E4
  · exact ⟨line, a', b', _, runF_rt (run_seq E1 (run_seq E2 (run_seq E3 (run_rt E4)))), r3⟩
  have E5 : (∃ line a' b' e, t5__law_line [.io (.lst [.int a2, .int b2]), .bo (wrl s w hs ps), .sh (.int (s : Int)), .sh (.int (w : Int)), .sh (.lst (hs.map dl)), .sh (dl ps), .sh (.int k), x] = .ok (.rt (.int line)) (.io (.lst [.int a', .int b']) :: e) ∧ Row a' b') ∨ (t5__law_line [.io (.lst [.int a2, .int b2]), .bo (wrl s w hs ps), .sh (.int (s : Int)), .sh (.int (w : Int)), .sh (.lst (hs.map dl)), .sh (dl ps), .sh (.int k), x] = .ok .nx [.io (.lst [.int a2, .int b2]), .bo (wrl s w hs ps), .sh (.int (s : Int)), .sh (.int (w : Int)), .sh (.lst (hs.map dl)), .sh (dl ps), .sh (.int k), x]) := by
    by_cases h1 : k = 3
    · obtain ⟨u, a3, b3, e3, r3, u0, u1⟩ := draw_val r2 (n := 10 ^ 40) (by decide) (small_log (by decide))
      have g2 : powI 10 40 = some (.int (10 ^ 40)) := powI_ok (by decide)
      refine .inl ⟨u, a3, b3, [.bo (wrl s w hs ps), .sh (.int (s : Int)), .sh (.int (w : Int)), .sh (.lst (hs.map dl)), .sh (dl ps), .sh (.int k), x], ?_, r3⟩
      simp only [t5__law_line, dl, few_ok, atI_zero, atI_one, atI_two, atI_three, ixN_20, ixN_21, ixN_40, ixN_41, ixN_42, ixN_43, Int.reduceLT, Int.reduceLE, Int.natCast_add, Int.cast_ofNat_Int, List.length_map, List.length_append, mSeq, bnd, mOp, mVar, mOnSq, mSl, readAt, asSq, rd, Mir.ret, lft, iOp, mCons, mTup, mLst, mSq, mIx, ixD, mIn, mB, asB, mAnd, mOr, mNot, mAndV, mOrV, mNotV, mIf, mPart, asI, mSlT, slT, mSlL, mCatL, mCB, intO, absO, maxO, minO, seqD, lstD, tupD, bName, bTup, bLst, bNil, bCons, bRd, mFrz, freeze, mRetV, toOut, setSh, setOw, free, putOwn, ownAt, lstO, mLM, appF, popF, mSetIx, setF, mAug, addI, subI, ltI, leI, gtI, geI, addA, addT, addS, addL, isNO, notNO, isN, eqO, neO, eqD, toV, mNeg, negD, mChain, mBor, mCall, evAr, anyAt, Mir.fill, okIx, ioIx, boIx, back_s, back_b, back_t, back_e, back_ss, back_sb, back_st, back_se, back_bs, back_bb, back_bt, back_be, back_ts, back_tb, back_tt, back_te, back_es, back_eb, back_et, back_ee, back_sss, back_ssb, back_sst, back_sbs, back_sbb, back_sbt, back_sts, back_stb, back_stt, back_bss, back_bsb, back_bst, back_bbs, back_bbb, back_bbt, back_bts, back_btb, back_btt, back_tss, back_tsb, back_tst, back_tbs, back_tbb, back_tbt, back_tts, back_ttb, back_ttt, back_ssss, back_sssss, back_bsss, back, Ar.md, cont, startE, slOf, plains, Mir.plain, clearE, restE, Sq.ds, runF, List.zipWith, List.getElem?_cons_zero, List.getElem?_cons_succ, List.getElem?_nil, List.replicate, List.cons_append, List.nil_append, List.set_cons_zero, List.set_cons_succ, List.length_cons, List.length_nil, List.map_cons, List.map_nil, List.all_cons, List.all_nil, List.getD_cons_zero, List.getD_cons_succ, Option.map_some, Option.map_none, Option.bind_some, Option.bind_none, Option.isSome_some, Bool.and_true, Bool.true_and, Bool.and_false, Bool.false_and, Bool.not_true, Bool.not_false, if_true, if_false, ite_true, ite_false, reduceIte, reduceCtorEq, Nat.reduceAdd, Nat.reduceSub, Nat.reduceMul, Nat.reduceLeDiff, Nat.reduceLT, Nat.reduceEqDiff, Int.reduceNeg, Bool.false_eq_true, decide_eq_true_eq, decide_true, decide_false, Nat.zero_add, Option.some.injEq, Sl.ow.injEq, Sl.sh.injEq, and_self, and_true, true_and, List.contains_cons, List.contains_nil, List.nodup_nil, List.nodup_cons, List.not_mem_nil, not_false_eq_true, h1, eqV, scal, e3, g2]
    · refine .inr ?_
      simp only [t5__law_line, few_ok, atI_zero, atI_one, atI_two, atI_three, ixN_20, ixN_21, ixN_40, ixN_41, ixN_42, ixN_43, Int.reduceLT, Int.reduceLE, Int.natCast_add, Int.cast_ofNat_Int, List.length_map, List.length_append, mSeq, bnd, mOp, mVar, mOnSq, mSl, readAt, asSq, rd, Mir.ret, lft, iOp, mCons, mTup, mLst, mSq, mIx, ixD, mIn, mB, asB, mAnd, mOr, mNot, mAndV, mOrV, mNotV, mIf, mPart, asI, mSlT, slT, mSlL, mCatL, mCB, intO, absO, maxO, minO, seqD, lstD, tupD, bName, bTup, bLst, bNil, bCons, bRd, mFrz, freeze, mRetV, toOut, setSh, setOw, free, putOwn, ownAt, lstO, mLM, appF, popF, mSetIx, setF, mAug, addI, subI, ltI, leI, gtI, geI, addA, addT, addS, addL, isNO, notNO, isN, eqO, neO, eqD, toV, mNeg, negD, mChain, mBor, mCall, evAr, anyAt, Mir.fill, okIx, ioIx, boIx, back_s, back_b, back_t, back_e, back_ss, back_sb, back_st, back_se, back_bs, back_bb, back_bt, back_be, back_ts, back_tb, back_tt, back_te, back_es, back_eb, back_et, back_ee, back_sss, back_ssb, back_sst, back_sbs, back_sbb, back_sbt, back_sts, back_stb, back_stt, back_bss, back_bsb, back_bst, back_bbs, back_bbb, back_bbt, back_bts, back_btb, back_btt, back_tss, back_tsb, back_tst, back_tbs, back_tbb, back_tbt, back_tts, back_ttb, back_ttt, back_ssss, back_sssss, back_bsss, back, Ar.md, cont, startE, slOf, plains, Mir.plain, clearE, restE, Sq.ds, runF, List.zipWith, List.getElem?_cons_zero, List.getElem?_cons_succ, List.getElem?_nil, List.replicate, List.cons_append, List.nil_append, List.set_cons_zero, List.set_cons_succ, List.length_cons, List.length_nil, List.map_cons, List.map_nil, List.all_cons, List.all_nil, List.getD_cons_zero, List.getD_cons_succ, Option.map_some, Option.map_none, Option.bind_some, Option.bind_none, Option.isSome_some, Bool.and_true, Bool.true_and, Bool.and_false, Bool.false_and, Bool.not_true, Bool.not_false, if_true, if_false, ite_true, ite_false, reduceIte, reduceCtorEq, Nat.reduceAdd, Nat.reduceSub, Nat.reduceMul, Nat.reduceLeDiff, Nat.reduceLT, Nat.reduceEqDiff, Int.reduceNeg, Bool.false_eq_true, decide_eq_true_eq, decide_true, decide_false, Nat.zero_add, Option.some.injEq, Sl.ow.injEq, Sl.sh.injEq, and_self, and_true, true_and, List.contains_cons, List.contains_nil, List.nodup_nil, List.nodup_cons, List.not_mem_nil, not_false_eq_true, h1, V.int.injEq, eqV, scal]
  rcases E5 with ⟨line, a', b', e, E5, r3⟩ | E5
  · exact ⟨line, a', b', _, runF_rt (run_seq E1 (run_seq E2 (run_seq E3 (run_seq E4 (run_rt E5))))), r3⟩
  obtain ⟨u, a3, b3, e3, r3, u0, u1⟩ := draw_val r2 (n := (s : Int) * 6) (by omega) (small_log (by omega))
  have g2 : mulI (s : Int) 6 = some (.int ((s : Int) * 6)) := mulI_ok (a := 20) (b := 20) (by omega) (by decide) (by decide) (by decide) (by decide)
  refine ⟨u, a3, b3, _, runF_rt (e := .io (.lst [.int a3, .int b3]) :: [.bo (wrl s w hs ps), .sh (.int (s : Int)), .sh (.int (w : Int)), .sh (.lst (hs.map dl)), .sh (dl ps), .sh (.int k), x]) (run_seq E1 (run_seq E2 (run_seq E3 (run_seq E4 (run_seq E5 ?_))))), r3⟩
  simp only [t6__law_line, few_ok, atI_zero, atI_one, atI_two, atI_three, ixN_20, ixN_21, ixN_40, ixN_41, ixN_42, ixN_43, Int.reduceLT, Int.reduceLE, Int.natCast_add, Int.cast_ofNat_Int, List.length_map, List.length_append, mSeq, bnd, mOp, mVar, mOnSq, mSl, readAt, asSq, rd, Mir.ret, lft, iOp, mCons, mTup, mLst, mSq, mIx, ixD, mIn, mB, asB, mAnd, mOr, mNot, mAndV, mOrV, mNotV, mIf, mPart, asI, mSlT, slT, mSlL, mCatL, mCB, intO, absO, maxO, minO, seqD, lstD, tupD, bName, bTup, bLst, bNil, bCons, bRd, mFrz, freeze, mRetV, toOut, setSh, setOw, free, putOwn, ownAt, lstO, mLM, appF, popF, mSetIx, setF, mAug, addI, subI, ltI, leI, gtI, geI, addA, addT, addS, addL, isNO, notNO, isN, eqO, neO, eqD, toV, mNeg, negD, mChain, mBor, mCall, evAr, anyAt, Mir.fill, okIx, ioIx, boIx, back_s, back_b, back_t, back_e, back_ss, back_sb, back_st, back_se, back_bs, back_bb, back_bt, back_be, back_ts, back_tb, back_tt, back_te, back_es, back_eb, back_et, back_ee, back_sss, back_ssb, back_sst, back_sbs, back_sbb, back_sbt, back_sts, back_stb, back_stt, back_bss, back_bsb, back_bst, back_bbs, back_bbb, back_bbt, back_bts, back_btb, back_btt, back_tss, back_tsb, back_tst, back_tbs, back_tbb, back_tbt, back_tts, back_ttb, back_ttt, back_ssss, back_sssss, back_bsss, back, Ar.md, cont, startE, slOf, plains, Mir.plain, clearE, restE, Sq.ds, runF, List.zipWith, List.getElem?_cons_zero, List.getElem?_cons_succ, List.getElem?_nil, List.replicate, List.cons_append, List.nil_append, List.set_cons_zero, List.set_cons_succ, List.length_cons, List.length_nil, List.map_cons, List.map_nil, List.all_cons, List.all_nil, List.getD_cons_zero, List.getD_cons_succ, Option.map_some, Option.map_none, Option.bind_some, Option.bind_none, Option.isSome_some, Bool.and_true, Bool.true_and, Bool.and_false, Bool.false_and, Bool.not_true, Bool.not_false, if_true, if_false, ite_true, ite_false, reduceIte, reduceCtorEq, Nat.reduceAdd, Nat.reduceSub, Nat.reduceMul, Nat.reduceLeDiff, Nat.reduceLT, Nat.reduceEqDiff, Int.reduceNeg, Bool.false_eq_true, decide_eq_true_eq, decide_true, decide_false, Nat.zero_add, Option.some.injEq, Sl.ow.injEq, Sl.sh.injEq, and_self, and_true, true_and, List.contains_cons, List.contains_nil, List.nodup_nil, List.nodup_cons, List.not_mem_nil, not_false_eq_true, g2, e3]
end K58
namespace K58
open PySem PySem.Spec PyProof.Rows L2 Mir
def tupF : D → Option D
  | .lst xs => some (.tup xs)
  | _ => none
theorem tupF_all : ∀ hs : List (List Int), (hs.map dl).filterMap tupF = hs.map dt
  | [] => rfl
  | x :: r => by rw [List.map_cons, List.filterMap_cons, tupF_all r]; rfl
theorem tuples_val {hs : List (List Int)} (hl : hs.length ≤ 1000) : f__law_tuples [.lst (hs.map dl)] = .ok (.tup (hs.map dt)) [.non, .non] := by
  have q := mComp_pure (f := tupF) (mi := (bnd (mVar 0) fun d => lft (seqD d))) (env := [.sh (.lst (hs.map dl)), .no]) (e1 := [.sh (.lst (hs.map dl)), .no]) (ds := hs.map dl) (vs := [1]) rfl rfl (b := bName 1) (mt := ret true) (me := ce1__law_tuples) (fun d hd => by
    obtain ⟨xs, _, rfl⟩ := List.mem_map.mp hd
    exact .keep (e1 := [.sh (.lst (hs.map dl)), .sh (dl xs)]) rfl rfl rfl rfl rfl) (by rw [List.length_map]; omega)
  rw [tupF_all] at q
  have q2 : c1__law_tuples [.sh (.lst (hs.map dl)), .no] = .ok (.lst (hs.map dt)) [.sh (.lst (hs.map dl)), .no] := q
  simp only [f__law_tuples, m__law_tuples, t1__law_tuples, few_ok, atI_zero, atI_one, atI_two, atI_three, ixN_20, ixN_21, ixN_40, ixN_41, ixN_42, ixN_43, Int.reduceLT, Int.reduceLE, Int.natCast_add, Int.cast_ofNat_Int, List.length_map, List.length_append, mSeq, bnd, mOp, mVar, mOnSq, mSl, readAt, asSq, rd, Mir.ret, lft, iOp, mCons, mTup, mLst, mSq, mIx, ixD, mIn, mB, asB, mAnd, mOr, mNot, mAndV, mOrV, mNotV, mIf, mPart, asI, mSlT, slT, mSlL, mCatL, mCB, intO, absO, maxO, minO, seqD, lstD, tupD, bName, bTup, bLst, bNil, bCons, bRd, mFrz, freeze, mRetV, toOut, setSh, setOw, free, putOwn, ownAt, lstO, mLM, appF, popF, mSetIx, setF, mAug, addI, subI, ltI, leI, gtI, geI, addA, addT, addS, addL, isNO, notNO, isN, eqO, neO, eqD, toV, mNeg, negD, mChain, mBor, mCall, evAr, anyAt, Mir.fill, okIx, ioIx, boIx, back_s, back_b, back_t, back_e, back_ss, back_sb, back_st, back_se, back_bs, back_bb, back_bt, back_be, back_ts, back_tb, back_tt, back_te, back_es, back_eb, back_et, back_ee, back_sss, back_ssb, back_sst, back_sbs, back_sbb, back_sbt, back_sts, back_stb, back_stt, back_bss, back_bsb, back_bst, back_bbs, back_bbb, back_bbt, back_bts, back_btb, back_btt, back_tss, back_tsb, back_tst, back_tbs, back_tbb, back_tbt, back_tts, back_ttb, back_ttt, back_ssss, back_sssss, back_bsss, back, Ar.md, cont, startE, slOf, plains, Mir.plain, clearE, restE, Sq.ds, runF, List.zipWith, List.getElem?_cons_zero, List.getElem?_cons_succ, List.getElem?_nil, List.replicate, List.cons_append, List.nil_append, List.set_cons_zero, List.set_cons_succ, List.length_cons, List.length_nil, List.map_cons, List.map_nil, List.all_cons, List.all_nil, List.getD_cons_zero, List.getD_cons_succ, Option.map_some, Option.map_none, Option.bind_some, Option.bind_none, Option.isSome_some, Bool.and_true, Bool.true_and, Bool.and_false, Bool.false_and, Bool.not_true, Bool.not_false, if_true, if_false, ite_true, ite_false, reduceIte, reduceCtorEq, Nat.reduceAdd, Nat.reduceSub, Nat.reduceMul, Nat.reduceLeDiff, Nat.reduceLT, Nat.reduceEqDiff, Int.reduceNeg, Bool.false_eq_true, decide_eq_true_eq, decide_true, decide_false, Nat.zero_add, Option.some.injEq, Sl.ow.injEq, Sl.sh.injEq, and_self, and_true, true_and, List.contains_cons, List.contains_nil, List.nodup_nil, List.nodup_cons, List.not_mem_nil, not_false_eq_true, q2]
def dropF (line : Int) : D → Option D
  | .int x => if x = line then none else some (.int x)
  | _ => none
theorem dropF_all (line : Int) (ls : List Int) : (ls.map D.int).filterMap (dropF line) = (ls.filter (fun x => decide (x ≠ line))).map D.int := filterMap_ints line ls
theorem touched_val {hs : List (List Int)} {line : Int} {s w j : Nat} {ls ps : List Int} (hj : hs[j]? = some ls) (he : line % (s : Int) = (j : Int)) (s1 : 1 ≤ s) (hc : hs.length ≤ 1000) (hl : ls.length ≤ 1000) :
    ∃ ds, f__law_touched [wrl s w hs ps, .int line] = .ok (.lst [.bl (decide (line ∈ ls)), .lst ((hs.set j (mv ls line w)).map dl)]) ds := by
  have hjl : j < hs.length := (List.getElem?_eq_some_iff.mp hj).1
  have h1 : modI line (s : Int) = some (.int (j : Int)) := by rw [modI_pos (by omega), he]
  have h2 : atI (List.map dl hs) (j : Int) = some (.lst (ls.map D.int)) := atI_of rfl (by rw [List.getElem?_map, hj]; rfl)
  have h3 := inD_ints line ls
  have h4 : c1__law_touched [.bo (wrl s w hs ps), .sh (.int line), .sh (.int (s : Int)), .sh (.int (w : Int)), .sh (.lst (hs.map dl)), .sh (dl ps), .sh (.int (j : Int)), .no, .no] = .ok (.lst ((ls.filter (fun x => decide (x ≠ line))).map D.int)) [.bo (wrl s w hs ps), .sh (.int line), .sh (.int (s : Int)), .sh (.int (w : Int)), .sh (.lst (hs.map dl)), .sh (dl ps), .sh (.int (j : Int)), .no, .no] := by
    have q := mComp_pure (mi := bnd (mIx (mSl 4) (mVar 6)) fun d => lft (seqD d)) (b := bName 8) (mt := ct1__law_touched) (me := ce1__law_touched) (vs := [8]) (env := [.bo (wrl s w hs ps), .sh (.int line), .sh (.int (s : Int)), .sh (.int (w : Int)), .sh (.lst (hs.map dl)), .sh (dl ps), .sh (.int (j : Int)), .no, .no]) (e1 := [.bo (wrl s w hs ps), .sh (.int line), .sh (.int (s : Int)), .sh (.int (w : Int)), .sh (.lst (hs.map dl)), .sh (dl ps), .sh (.int (j : Int)), .no, .no]) (ds := ls.map D.int)
      (f := dropF line) (by simp only [few_ok, atI_zero, atI_one, atI_two, atI_three, ixN_20, ixN_21, ixN_40, ixN_41, ixN_42, ixN_43, Int.reduceLT, Int.reduceLE, Int.natCast_add, Int.cast_ofNat_Int, List.length_map, List.length_append, mSeq, bnd, mOp, mVar, mOnSq, mSl, readAt, asSq, rd, Mir.ret, lft, iOp, mCons, mTup, mLst, mSq, mIx, ixD, mIn, mB, asB, mAnd, mOr, mNot, mAndV, mOrV, mNotV, mIf, mPart, asI, mSlT, slT, mSlL, mCatL, mCB, intO, absO, maxO, minO, seqD, lstD, tupD, bName, bTup, bLst, bNil, bCons, bRd, mFrz, freeze, mRetV, toOut, setSh, setOw, free, putOwn, ownAt, lstO, mLM, appF, popF, mSetIx, setF, mAug, addI, subI, ltI, leI, gtI, geI, addA, addT, addS, addL, isNO, notNO, isN, eqO, neO, eqD, toV, mNeg, negD, mChain, mBor, mCall, evAr, anyAt, Mir.fill, okIx, ioIx, boIx, back_s, back_b, back_t, back_e, back_ss, back_sb, back_st, back_se, back_bs, back_bb, back_bt, back_be, back_ts, back_tb, back_tt, back_te, back_es, back_eb, back_et, back_ee, back_sss, back_ssb, back_sst, back_sbs, back_sbb, back_sbt, back_sts, back_stb, back_stt, back_bss, back_bsb, back_bst, back_bbs, back_bbb, back_bbt, back_bts, back_btb, back_btt, back_tss, back_tsb, back_tst, back_tbs, back_tbb, back_tbt, back_tts, back_ttb, back_ttt, back_ssss, back_sssss, back_bsss, back, Ar.md, cont, startE, slOf, plains, Mir.plain, clearE, restE, Sq.ds, runF, List.zipWith, List.getElem?_cons_zero, List.getElem?_cons_succ, List.getElem?_nil, List.replicate, List.cons_append, List.nil_append, List.set_cons_zero, List.set_cons_succ, List.length_cons, List.length_nil, List.map_cons, List.map_nil, List.all_cons, List.all_nil, List.getD_cons_zero, List.getD_cons_succ, Option.map_some, Option.map_none, Option.bind_some, Option.bind_none, Option.isSome_some, Bool.and_true, Bool.true_and, Bool.and_false, Bool.false_and, Bool.not_true, Bool.not_false, if_true, if_false, ite_true, ite_false, reduceIte, reduceCtorEq, Nat.reduceAdd, Nat.reduceSub, Nat.reduceMul, Nat.reduceLeDiff, Nat.reduceLT, Nat.reduceEqDiff, Int.reduceNeg, Bool.false_eq_true, decide_eq_true_eq, decide_true, decide_false, Nat.zero_add, Option.some.injEq, Sl.ow.injEq, Sl.sh.injEq, and_self, and_true, true_and, List.contains_cons, List.contains_nil, List.nodup_nil, List.nodup_cons, List.not_mem_nil, not_false_eq_true, h2]) rfl (fun d hd => ?_) (by rw [List.length_map]; omega)
    · rw [dropF_all] at q
      exact q
    · obtain ⟨x, _, rfl⟩ := List.mem_map.mp hd
      by_cases hx : x = line
      · simp only [dropF, hx, if_true]
        refine .skip rfl ?_ rfl rfl
        simp only [ct1__law_touched, few_ok, atI_zero, atI_one, atI_two, atI_three, ixN_20, ixN_21, ixN_40, ixN_41, ixN_42, ixN_43, Int.reduceLT, Int.reduceLE, Int.natCast_add, Int.cast_ofNat_Int, List.length_map, List.length_append, mSeq, bnd, mOp, mVar, mOnSq, mSl, readAt, asSq, rd, Mir.ret, lft, iOp, mCons, mTup, mLst, mSq, mIx, ixD, mIn, mB, asB, mAnd, mOr, mNot, mAndV, mOrV, mNotV, mIf, mPart, asI, mSlT, slT, mSlL, mCatL, mCB, intO, absO, maxO, minO, seqD, lstD, tupD, bName, bTup, bLst, bNil, bCons, bRd, mFrz, freeze, mRetV, toOut, setSh, setOw, free, putOwn, ownAt, lstO, mLM, appF, popF, mSetIx, setF, mAug, addI, subI, ltI, leI, gtI, geI, addA, addT, addS, addL, isNO, notNO, isN, eqO, neO, eqD, toV, mNeg, negD, mChain, mBor, mCall, evAr, anyAt, Mir.fill, okIx, ioIx, boIx, back_s, back_b, back_t, back_e, back_ss, back_sb, back_st, back_se, back_bs, back_bb, back_bt, back_be, back_ts, back_tb, back_tt, back_te, back_es, back_eb, back_et, back_ee, back_sss, back_ssb, back_sst, back_sbs, back_sbb, back_sbt, back_sts, back_stb, back_stt, back_bss, back_bsb, back_bst, back_bbs, back_bbb, back_bbt, back_bts, back_btb, back_btt, back_tss, back_tsb, back_tst, back_tbs, back_tbb, back_tbt, back_tts, back_ttb, back_ttt, back_ssss, back_sssss, back_bsss, back, Ar.md, cont, startE, slOf, plains, Mir.plain, clearE, restE, Sq.ds, runF, List.zipWith, List.getElem?_cons_zero, List.getElem?_cons_succ, List.getElem?_nil, List.replicate, List.cons_append, List.nil_append, List.set_cons_zero, List.set_cons_succ, List.length_cons, List.length_nil, List.map_cons, List.map_nil, List.all_cons, List.all_nil, List.getD_cons_zero, List.getD_cons_succ, Option.map_some, Option.map_none, Option.bind_some, Option.bind_none, Option.isSome_some, Bool.and_true, Bool.true_and, Bool.and_false, Bool.false_and, Bool.not_true, Bool.not_false, if_true, if_false, ite_true, ite_false, reduceIte, reduceCtorEq, Nat.reduceAdd, Nat.reduceSub, Nat.reduceMul, Nat.reduceLeDiff, Nat.reduceLT, Nat.reduceEqDiff, Int.reduceNeg, Bool.false_eq_true, decide_eq_true_eq, decide_true, decide_false, Nat.zero_add, Option.some.injEq, Sl.ow.injEq, Sl.sh.injEq, and_self, and_true, true_and, List.contains_cons, List.contains_nil, List.nodup_nil, List.nodup_cons, List.not_mem_nil, not_false_eq_true, scal]
      · simp only [dropF, hx, if_false]
        refine .keep rfl ?_ rfl rfl rfl
        simp only [ct1__law_touched, few_ok, atI_zero, atI_one, atI_two, atI_three, ixN_20, ixN_21, ixN_40, ixN_41, ixN_42, ixN_43, Int.reduceLT, Int.reduceLE, Int.natCast_add, Int.cast_ofNat_Int, List.length_map, List.length_append, mSeq, bnd, mOp, mVar, mOnSq, mSl, readAt, asSq, rd, Mir.ret, lft, iOp, mCons, mTup, mLst, mSq, mIx, ixD, mIn, mB, asB, mAnd, mOr, mNot, mAndV, mOrV, mNotV, mIf, mPart, asI, mSlT, slT, mSlL, mCatL, mCB, intO, absO, maxO, minO, seqD, lstD, tupD, bName, bTup, bLst, bNil, bCons, bRd, mFrz, freeze, mRetV, toOut, setSh, setOw, free, putOwn, ownAt, lstO, mLM, appF, popF, mSetIx, setF, mAug, addI, subI, ltI, leI, gtI, geI, addA, addT, addS, addL, isNO, notNO, isN, eqO, neO, eqD, toV, mNeg, negD, mChain, mBor, mCall, evAr, anyAt, Mir.fill, okIx, ioIx, boIx, back_s, back_b, back_t, back_e, back_ss, back_sb, back_st, back_se, back_bs, back_bb, back_bt, back_be, back_ts, back_tb, back_tt, back_te, back_es, back_eb, back_et, back_ee, back_sss, back_ssb, back_sst, back_sbs, back_sbb, back_sbt, back_sts, back_stb, back_stt, back_bss, back_bsb, back_bst, back_bbs, back_bbb, back_bbt, back_bts, back_btb, back_btt, back_tss, back_tsb, back_tst, back_tbs, back_tbb, back_tbt, back_tts, back_ttb, back_ttt, back_ssss, back_sssss, back_bsss, back, Ar.md, cont, startE, slOf, plains, Mir.plain, clearE, restE, Sq.ds, runF, List.zipWith, List.getElem?_cons_zero, List.getElem?_cons_succ, List.getElem?_nil, List.replicate, List.cons_append, List.nil_append, List.set_cons_zero, List.set_cons_succ, List.length_cons, List.length_nil, List.map_cons, List.map_nil, List.all_cons, List.all_nil, List.getD_cons_zero, List.getD_cons_succ, Option.map_some, Option.map_none, Option.bind_some, Option.bind_none, Option.isSome_some, Bool.and_true, Bool.true_and, Bool.and_false, Bool.false_and, Bool.not_true, Bool.not_false, if_true, if_false, ite_true, ite_false, reduceIte, reduceCtorEq, Nat.reduceAdd, Nat.reduceSub, Nat.reduceMul, Nat.reduceLeDiff, Nat.reduceLT, Nat.reduceEqDiff, Int.reduceNeg, Bool.false_eq_true, decide_eq_true_eq, decide_true, decide_false, Nat.zero_add, Option.some.injEq, Sl.ow.injEq, Sl.sh.injEq, and_self, and_true, true_and, List.contains_cons, List.contains_nil, List.nodup_nil, List.nodup_cons, List.not_mem_nil, not_false_eq_true, scal, V.int.injEq, hx]
  refine ⟨[.non, .non, .non, .non, .non, .non, .non, .non, .non], ?_⟩
  have h5 : 1 + (List.filter (fun x => decide (x ≠ line)) ls).length ≤ 1000000 := by
    have := List.length_filter_le (fun x => decide (x ≠ line)) ls
    omega
  have h6 : (List.take j (List.map dl hs)).length + 1 ≤ 1000000 := by
    rw [List.length_take, List.length_map]
    omega
  have h7 : ∀ xs : List D, Mir.cutD xs (some ((j : Int) + 1)) none = xs.drop (j + 1) := fun xs => by
    have := cut_hi xs (j + 1)
    rwa [Int.natCast_add] at this
  have h8 : (List.take j (List.map dl hs)).length + 1 + (List.drop (j + 1) (List.map dl hs)).length ≤ 1000000 := by
    rw [List.length_take, List.length_drop, List.length_map]
    omega
  have h9 : List.take j (List.map dl hs) ++ [D.lst (List.take w (D.int line :: List.map D.int (List.filter (fun x => decide (x ≠ line)) ls)))] ++ List.drop (j + 1) (List.map dl hs) = (hs.set j (mv ls line w)).map dl := by
    rw [List.map_set, List.set_eq_take_append_cons_drop, if_pos (by rw [List.length_map]; exact hjl), List.append_assoc]
    unfold mv
    rw [dl, List.map_take, List.map_cons]
    rfl
  have g1 : t1__law_touched [.bo (wrl s w hs ps), .sh (.int line), .no, .no, .no, .no, .no, .no, .no] = .ok .nx [.bo (wrl s w hs ps), .sh (.int line), .sh (.int (s : Int)), .sh (.int (w : Int)), .sh (.lst (hs.map dl)), .sh (dl ps), .no, .no, .no] := by
    simp only [t1__law_touched, wrl, few_ok, atI_zero, atI_one, atI_two, atI_three, ixN_20, ixN_21, ixN_40, ixN_41, ixN_42, ixN_43, Int.reduceLT, Int.reduceLE, Int.natCast_add, Int.cast_ofNat_Int, List.length_map, List.length_append, mSeq, bnd, mOp, mVar, mOnSq, mSl, readAt, asSq, rd, Mir.ret, lft, iOp, mCons, mTup, mLst, mSq, mIx, ixD, mIn, mB, asB, mAnd, mOr, mNot, mAndV, mOrV, mNotV, mIf, mPart, asI, mSlT, slT, mSlL, mCatL, mCB, intO, absO, maxO, minO, seqD, lstD, tupD, bName, bTup, bLst, bNil, bCons, bRd, mFrz, freeze, mRetV, toOut, setSh, setOw, free, putOwn, ownAt, lstO, mLM, appF, popF, mSetIx, setF, mAug, addI, subI, ltI, leI, gtI, geI, addA, addT, addS, addL, isNO, notNO, isN, eqO, neO, eqD, toV, mNeg, negD, mChain, mBor, mCall, evAr, anyAt, Mir.fill, okIx, ioIx, boIx, back_s, back_b, back_t, back_e, back_ss, back_sb, back_st, back_se, back_bs, back_bb, back_bt, back_be, back_ts, back_tb, back_tt, back_te, back_es, back_eb, back_et, back_ee, back_sss, back_ssb, back_sst, back_sbs, back_sbb, back_sbt, back_sts, back_stb, back_stt, back_bss, back_bsb, back_bst, back_bbs, back_bbb, back_bbt, back_bts, back_btb, back_btt, back_tss, back_tsb, back_tst, back_tbs, back_tbb, back_tbt, back_tts, back_ttb, back_ttt, back_ssss, back_sssss, back_bsss, back, Ar.md, cont, startE, slOf, plains, Mir.plain, clearE, restE, Sq.ds, runF, List.zipWith, List.getElem?_cons_zero, List.getElem?_cons_succ, List.getElem?_nil, List.replicate, List.cons_append, List.nil_append, List.set_cons_zero, List.set_cons_succ, List.length_cons, List.length_nil, List.map_cons, List.map_nil, List.all_cons, List.all_nil, List.getD_cons_zero, List.getD_cons_succ, Option.map_some, Option.map_none, Option.bind_some, Option.bind_none, Option.isSome_some, Bool.and_true, Bool.true_and, Bool.and_false, Bool.false_and, Bool.not_true, Bool.not_false, if_true, if_false, ite_true, ite_false, reduceIte, reduceCtorEq, Nat.reduceAdd, Nat.reduceSub, Nat.reduceMul, Nat.reduceLeDiff, Nat.reduceLT, Nat.reduceEqDiff, Int.reduceNeg, Bool.false_eq_true, decide_eq_true_eq, decide_true, decide_false, Nat.zero_add, Option.some.injEq, Sl.ow.injEq, Sl.sh.injEq, and_self, and_true, true_and, List.contains_cons, List.contains_nil, List.nodup_nil, List.nodup_cons, List.not_mem_nil, not_false_eq_true]
  refine runF_rt (e := [.bo (wrl s w hs ps), .sh (.int line), .sh (.int (s : Int)), .sh (.int (w : Int)), .sh (.lst (hs.map dl)), .sh (dl ps), .sh (.int (j : Int)), .sh (.lst (List.take w (D.int line :: List.map D.int (List.filter (fun x => decide (x ≠ line)) ls)))), .no]) (run_seq g1 ?_)
  simp only [t2__law_touched, t3__law_touched, t4__law_touched, few_ok, atI_zero, atI_one, atI_two, atI_three, ixN_20, ixN_21, ixN_40, ixN_41, ixN_42, ixN_43, Int.reduceLT, Int.reduceLE, Int.natCast_add, Int.cast_ofNat_Int, List.length_map, List.length_append, mSeq, bnd, mOp, mVar, mOnSq, mSl, readAt, asSq, rd, Mir.ret, lft, iOp, mCons, mTup, mLst, mSq, mIx, ixD, mIn, mB, asB, mAnd, mOr, mNot, mAndV, mOrV, mNotV, mIf, mPart, asI, mSlT, slT, mSlL, mCatL, mCB, intO, absO, maxO, minO, seqD, lstD, tupD, bName, bTup, bLst, bNil, bCons, bRd, mFrz, freeze, mRetV, toOut, setSh, setOw, free, putOwn, ownAt, lstO, mLM, appF, popF, mSetIx, setF, mAug, addI, subI, ltI, leI, gtI, geI, addA, addT, addS, addL, isNO, notNO, isN, eqO, neO, eqD, toV, mNeg, negD, mChain, mBor, mCall, evAr, anyAt, Mir.fill, okIx, ioIx, boIx, back_s, back_b, back_t, back_e, back_ss, back_sb, back_st, back_se, back_bs, back_bb, back_bt, back_be, back_ts, back_tb, back_tt, back_te, back_es, back_eb, back_et, back_ee, back_sss, back_ssb, back_sst, back_sbs, back_sbb, back_sbt, back_sts, back_stb, back_stt, back_bss, back_bsb, back_bst, back_bbs, back_bbb, back_bbt, back_bts, back_btb, back_btt, back_tss, back_tsb, back_tst, back_tbs, back_tbb, back_tbt, back_tts, back_ttb, back_ttt, back_ssss, back_sssss, back_bsss, back, Ar.md, cont, startE, slOf, plains, Mir.plain, clearE, restE, Sq.ds, runF, List.zipWith, List.getElem?_cons_zero, List.getElem?_cons_succ, List.getElem?_nil, List.replicate, List.cons_append, List.nil_append, List.set_cons_zero, List.set_cons_succ, List.length_cons, List.length_nil, List.map_cons, List.map_nil, List.all_cons, List.all_nil, List.getD_cons_zero, List.getD_cons_succ, Option.map_some, Option.map_none, Option.bind_some, Option.bind_none, Option.isSome_some, Bool.and_true, Bool.true_and, Bool.and_false, Bool.false_and, Bool.not_true, Bool.not_false, if_true, if_false, ite_true, ite_false, reduceIte, reduceCtorEq, Nat.reduceAdd, Nat.reduceSub, Nat.reduceMul, Nat.reduceLeDiff, Nat.reduceLT, Nat.reduceEqDiff, Int.reduceNeg, Bool.false_eq_true, decide_eq_true_eq, decide_true, decide_false, Nat.zero_add, Option.some.injEq, Sl.ow.injEq, Sl.sh.injEq, and_self, and_true, true_and, List.contains_cons, List.contains_nil, List.nodup_nil, List.nodup_cons, List.not_mem_nil, not_false_eq_true, h1, h2, h3, h4, h5, cut_lo, h6, h7, h8, h9]
/-! ### what a recency walk tells -/
def uniq (acc : List Int) : List Int → List Int
  | [] => acc
  | x :: r => if x ∈ acc then uniq acc r else uniq (acc ++ [x]) r
def hitL (w : Nat) (s line : Int) (acc : List Int) : List Int → Bool
  | [] => false
  | x :: r => if x = line then decide (acc.length < w) else if x % s = line % s ∧ x ∉ acc then hitL w s line (acc ++ [x]) r else hitL w s line acc r
theorem uniq_pre (l acc : List Int) : ∃ r, uniq acc l = acc ++ r := by
  induction l generalizing acc with
  | nil => exact ⟨[], by simp [uniq]⟩
  | cons x l ih =>
    unfold uniq
    split
    · exact ih acc
    · obtain ⟨r, e⟩ := ih (acc ++ [x])
      exact ⟨x :: r, by rw [e, List.append_assoc]; rfl⟩
theorem uniq_nd (l acc : List Int) (h : acc.Nodup) : (uniq acc l).Nodup := by
  induction l generalizing acc with
  | nil => exact h
  | cons x l ih =>
    unfold uniq
    split
    · exact ih acc h
    · rename_i hx
      exact ih _ (List.nodup_append.mpr ⟨h, by simp, fun a ha b hb e => hx (by rw [List.mem_singleton] at hb; rw [← hb, ← e]; exact ha)⟩)
theorem hitL_uniq {w : Nat} {s line : Int} (l acc : List Int) (h : line ∉ acc) : hitL w s line acc l = decide (line ∈ (uniq acc (l.filter fun x => decide (x % s = line % s))).take w) := by
  induction l generalizing acc with
  | nil =>
    have : line ∉ List.take w acc := fun hm => h (List.mem_of_mem_take hm)
    simp [hitL, uniq, this]
  | cons x l ih =>
    unfold hitL
    by_cases hx : x = line
    · subst hx
      rw [if_pos rfl, List.filter_cons, if_pos (by simp)]
      unfold uniq
      rw [if_neg h]
      obtain ⟨r, e⟩ := uniq_pre (l.filter fun y => decide (y % s = x % s)) (acc ++ [x])
      rw [e]
      by_cases hw : acc.length < w
      · rw [decide_eq_true hw, eq_comm, decide_eq_true_eq, List.append_assoc, List.take_append, List.mem_append]
        refine .inr ?_
        obtain ⟨m, hm⟩ : ∃ m, w - acc.length = m + 1 := ⟨w - acc.length - 1, by omega⟩
        rw [hm]
        simp
      · rw [decide_eq_false hw, eq_comm, decide_eq_false_iff_not, List.append_assoc, List.take_append_of_le_length (by omega)]
        exact fun hm => h (List.mem_of_mem_take hm)
    · rw [if_neg hx]
      by_cases h1 : x % s = line % s
      · have ef : (x :: l).filter (fun x => decide (x % s = line % s)) = x :: l.filter (fun x => decide (x % s = line % s)) := List.filter_cons_of_pos (by simpa using h1)
        rw [ef]
        by_cases h2 : x ∈ acc
        · rw [if_neg (fun c => c.2 h2), ih acc h]
          conv => rhs; unfold uniq
          rw [if_pos h2]
        · rw [if_pos ⟨h1, h2⟩, ih (acc ++ [x]) (by simp [h]; exact fun e => hx e.symm)]
          conv => rhs; unfold uniq
          rw [if_neg h2]
      · have ef : (x :: l).filter (fun x => decide (x % s = line % s)) = l.filter (fun x => decide (x % s = line % s)) := List.filter_cons_of_neg (by simpa using h1)
        rw [if_neg (fun c => h1 c.1), ef]
        exact ih acc h
theorem uniq_head (line : Int) (l acc : List Int) : uniq (line :: acc.filter fun x => decide (x ≠ line)) l = line :: (uniq acc l).filter fun x => decide (x ≠ line) := by
  induction l generalizing acc with
  | nil => rfl
  | cons x l ih =>
    unfold uniq
    by_cases hx : x = line
    · subst hx
      rw [if_pos List.mem_cons_self]
      split
      · exact ih acc
      · rw [← ih (acc ++ [x])]
        simp
    · by_cases h2 : x ∈ acc
      · rw [if_pos h2, if_pos (List.mem_cons_of_mem _ (List.mem_filter.mpr ⟨h2, by simpa using hx⟩))]
        exact ih acc
      · rw [if_neg h2, if_neg (by simp [hx, h2]), ← ih (acc ++ [x])]
        simp [List.filter_append, hx]
theorem take_filter {line : Int} : ∀ (k : Nat) (u : List Int), u.Nodup → (u.filter fun x => decide (x ≠ line)).take k = ((u.take (k + 1)).filter fun x => decide (x ≠ line)).take k
  | 0, _, _ => rfl
  | k + 1, [], _ => rfl
  | k + 1, x :: t, h => by
    rw [List.take_succ_cons, List.filter_cons, List.filter_cons]
    by_cases hx : x = line
    · subst hx
      have hn : x ∉ t := (List.nodup_cons.mp h).1
      rw [if_neg (by simp), if_neg (by simp)]
      have e1 : t.filter (fun y => decide (y ≠ x)) = t := List.filter_eq_self.mpr fun a ha => by rw [decide_eq_true_eq]; intro e; subst e; exact hn ha
      have e2 : (t.take (k + 1)).filter (fun y => decide (y ≠ x)) = t.take (k + 1) := List.filter_eq_self.mpr fun a ha => by rw [decide_eq_true_eq]; intro e; subst e; exact hn (List.mem_of_mem_take ha)
      rw [e1, e2, List.take_take, Nat.min_self]
    · rw [if_pos (by simpa using hx), if_pos (by simpa using hx), List.take_succ_cons, List.take_succ_cons, take_filter k t (List.nodup_cons.mp h).2]
theorem mv_uniq {line : Int} {w : Nat} (l : List Int) : mv ((uniq [] l).take w) line w = (uniq [] (line :: l)).take w := by
  have e : uniq [] (line :: l) = line :: (uniq [] l).filter fun x => decide (x ≠ line) := uniq_head line l []
  rw [e]
  unfold mv
  cases w with
  | zero => rfl
  | succ k => rw [List.take_succ_cons, List.take_succ_cons, take_filter k _ (uniq_nd l [] List.nodup_nil)]
/-- the sets hold what the past says -/
def LRU (s w : Nat) (hs : List (List Int)) (ps : List Int) : Prop := hs.length = s ∧ ∀ (j : Nat) (xs : List Int), hs[j]? = some xs → xs = (uniq [] (ps.reverse.filter fun x => decide (x % (s : Int) = (j : Int)))).take w
theorem LRU.step {s w j : Nat} {hs : List (List Int)} {ps ls : List Int} {line : Int} (h : LRU s w hs ps) (hj : hs[j]? = some ls) (he : line % (s : Int) = (j : Int)) : LRU s w (hs.set j (mv ls line w)) (ps ++ [line]) := by
  refine ⟨by rw [List.length_set]; exact h.1, fun i xs hx => ?_⟩
  rw [List.reverse_append, List.reverse_singleton, List.singleton_append, List.filter_cons]
  by_cases hi : i = j
  · subst hi
    rw [List.getElem?_set_self (List.getElem?_eq_some_iff.mp hj).1] at hx
    cases hx
    rw [if_pos (by simpa using he), h.2 i ls hj]
    exact mv_uniq _
  · rw [List.getElem?_set_ne (fun e => hi e.symm)] at hx
    rw [if_neg (by rw [decide_eq_true_eq, he]; omega)]
    exact h.2 i xs hx
theorem LRU.hit {s w j : Nat} {hs : List (List Int)} {ps ls : List Int} {line : Int} (h : LRU s w hs ps) (hj : hs[j]? = some ls) (he : line % (s : Int) = (j : Int)) : hitL w s line [] ps.reverse = decide (line ∈ ls) := by
  rw [hitL_uniq _ _ (by simp), he, h.2 j ls hj]
theorem uniq_self (l acc : List Int) (h : (acc ++ l).Nodup) : uniq acc l = acc ++ l := by
  induction l generalizing acc with
  | nil => simp [uniq]
  | cons x l ih =>
    have hn : x ∉ acc := fun hm => (List.nodup_append.mp h).2.2 x hm x List.mem_cons_self rfl
    unfold uniq
    rw [if_neg hn, ih (acc ++ [x]) (by rw [List.append_assoc]; exact h), List.append_assoc]
    rfl
theorem revs_cons (x : List Int) (r : List (List Int)) : revs (x :: r) = x.reverse ++ revs r := by simp [revs]
theorem revs_filter {s w : Int} {hs : List (List Int)} (j : Nat) (n : Nat) (h : ∀ (i : Nat) (xs : List Int), hs[i]? = some xs → SetOk s w ((i + n : Nat) : Int) xs) : (revs hs).reverse.filter (fun x => decide (x % s = ((j + n : Nat) : Int))) = (hs[j]?).getD [] := by
  induction hs generalizing j n with
  | nil => simp [revs]
  | cons x r ih =>
    rw [revs_cons, List.reverse_append, List.filter_append, List.reverse_reverse]
    have hx := h 0 x rfl
    have hr : ∀ (i : Nat) (xs : List Int), r[i]? = some xs → SetOk s w ((i + (n + 1) : Nat) : Int) xs := fun i xs e => by
      have := h (i + 1) xs (by simpa using e)
      rw [show i + (n + 1) = i + 1 + n by omega]
      exact this
    cases j with
    | zero =>
      have e1 : x.filter (fun x => decide (x % s = ((0 + n : Nat) : Int))) = x := List.filter_eq_self.mpr fun a ha => by simpa using (hx.mem a ha).2
      have e2 : (revs r).reverse.filter (fun x => decide (x % s = ((0 + n : Nat) : Int))) = [] := by
        rw [List.filter_eq_nil_iff]
        intro a ha
        rw [List.mem_reverse] at ha
        unfold revs at ha
        rw [List.mem_flatten] at ha
        obtain ⟨l, hl, hal⟩ := ha
        obtain ⟨ys, hy, rfl⟩ := List.mem_map.mp hl
        obtain ⟨i, hi⟩ := List.mem_iff_getElem?.mp hy
        have := ((hr i ys hi).mem a (List.mem_reverse.mp hal)).2
        rw [decide_eq_true_eq, this]
        omega
      rw [e1, e2]
      rfl
    | succ j =>
      have e1 : x.filter (fun x => decide (x % s = ((j + 1 + n : Nat) : Int))) = [] := by
        rw [List.filter_eq_nil_iff]
        intro a ha
        rw [decide_eq_true_eq, (hx.mem a ha).2]
        omega
      rw [e1, List.append_nil, show j + 1 + n = j + (n + 1) by omega, ih j (n + 1) hr]
      rfl
theorem LRU.start {s w : Nat} {hs : List (List Int)} (hl : hs.length = s) (h : CacheOk (s : Int) (w : Int) hs) : LRU s w hs (revs hs) := by
  refine ⟨hl, fun j xs hx => ?_⟩
  have e := revs_filter (s := (s : Int)) (w := (w : Int)) (hs := hs) j 0 (fun i ys e => h i ys e)
  rw [Nat.add_zero, hx] at e
  rw [e]
  have o := h j xs hx
  rw [Option.getD_some, uniq_self xs [] (by simpa using o.nd), List.nil_append, List.take_of_length_le (by have := o.len; omega)]
end K58
namespace K58
open PySem PySem.Spec PyProof.Rows L2 Mir
theorem drop_cons {α : Type} {l : List α} {k : Nat} {y : α} (h : l[k]? = some y) : l.drop k = y :: l.drop (k + 1) := by
  obtain ⟨h1, h2⟩ := List.getElem?_eq_some_iff.mp h
  rw [List.drop_eq_getElem_cons h1, h2]
theorem hits_turn {hs : List (List Int)} {ps acc : List Int} {line y : Int} {s w k : Nat} {u : Sl} (s1 : 1 ≤ s) (hk : ps.reverse[k]? = some y) (ha : acc.length ≤ k) (hl : ps.length ≤ 1000) (hu : Mir.plain u = true) :
    (y = line ∧ ∃ e, b1__law_hits [.bo (wrl s w hs ps), .sh (.int line), .sh (.int (s : Int)), .sh (.int (w : Int)), .sh (.lst (hs.map dl)), .sh (dl ps), .ow (dl acc), .sh (.int (0 + (k : Int))), u] = .ok (.rt (.bl (decide (acc.length < w)))) e) ∨
    (y ≠ line ∧ b1__law_hits [.bo (wrl s w hs ps), .sh (.int line), .sh (.int (s : Int)), .sh (.int (w : Int)), .sh (.lst (hs.map dl)), .sh (dl ps), .ow (dl acc), .sh (.int (0 + (k : Int))), u] = .ok .nx [.bo (wrl s w hs ps), .sh (.int line), .sh (.int (s : Int)), .sh (.int (w : Int)), .sh (.lst (hs.map dl)), .sh (dl ps), .ow (dl (if y % (s : Int) = line % (s : Int) ∧ y ∉ acc then acc ++ [y] else acc)), .sh (.int (0 + (k : Int))), .sh (.int y)]) := by
  have hkl : k < ps.length := by
    have := (List.getElem?_eq_some_iff.mp hk).1
    rwa [List.length_reverse] at this
  obtain ⟨z, h1, h2⟩ := rev_some (xs := ps) hkl
  rw [rev_at hkl, List.getElem?_map, hk] at h1
  cases h1
  have g1 : t1b1__law_hits [.bo (wrl s w hs ps), .sh (.int line), .sh (.int (s : Int)), .sh (.int (w : Int)), .sh (.lst (hs.map dl)), .sh (dl ps), .ow (dl acc), .sh (.int (0 + (k : Int))), u] = .ok .nx [.bo (wrl s w hs ps), .sh (.int line), .sh (.int (s : Int)), .sh (.int (w : Int)), .sh (.lst (hs.map dl)), .sh (dl ps), .ow (dl acc), .sh (.int (0 + (k : Int))), .sh (.int y)] := by
    simp only [t1b1__law_hits, dl, few_ok, atI_zero, atI_one, atI_two, atI_three, ixN_20, ixN_21, ixN_40, ixN_41, ixN_42, ixN_43, Int.reduceLT, Int.reduceLE, Int.natCast_add, Int.cast_ofNat_Int, List.length_map, List.length_append, mSeq, bnd, mOp, mVar, mOnSq, mSl, readAt, asSq, rd, Mir.ret, lft, iOp, mCons, mTup, mLst, mSq, mIx, ixD, mIn, mB, asB, mAnd, mOr, mNot, mAndV, mOrV, mNotV, mIf, mPart, asI, mSlT, slT, mSlL, mCatL, mCB, intO, absO, maxO, minO, seqD, lstD, tupD, bName, bTup, bLst, bNil, bCons, bRd, mFrz, freeze, mRetV, toOut, setSh, setOw, free, putOwn, ownAt, lstO, mLM, appF, popF, mSetIx, setF, mAug, addI, subI, ltI, leI, gtI, geI, addA, addT, addS, addL, isNO, notNO, isN, eqO, neO, eqD, toV, mNeg, negD, mChain, mBor, mCall, evAr, anyAt, Mir.fill, okIx, ioIx, boIx, back_s, back_b, back_t, back_e, back_ss, back_sb, back_st, back_se, back_bs, back_bb, back_bt, back_be, back_ts, back_tb, back_tt, back_te, back_es, back_eb, back_et, back_ee, back_sss, back_ssb, back_sst, back_sbs, back_sbb, back_sbt, back_sts, back_stb, back_stt, back_bss, back_bsb, back_bst, back_bbs, back_bbb, back_bbt, back_bts, back_btb, back_btt, back_tss, back_tsb, back_tst, back_tbs, back_tbb, back_tbt, back_tts, back_ttb, back_ttt, back_ssss, back_sssss, back_bsss, back, Ar.md, cont, startE, slOf, plains, Mir.plain, clearE, restE, Sq.ds, runF, List.zipWith, List.getElem?_cons_zero, List.getElem?_cons_succ, List.getElem?_nil, List.replicate, List.cons_append, List.nil_append, List.set_cons_zero, List.set_cons_succ, List.length_cons, List.length_nil, List.map_cons, List.map_nil, List.all_cons, List.all_nil, List.getD_cons_zero, List.getD_cons_succ, Option.map_some, Option.map_none, Option.bind_some, Option.bind_none, Option.isSome_some, Bool.and_true, Bool.true_and, Bool.and_false, Bool.false_and, Bool.not_true, Bool.not_false, if_true, if_false, ite_true, ite_false, reduceIte, reduceCtorEq, Nat.reduceAdd, Nat.reduceSub, Nat.reduceMul, Nat.reduceLeDiff, Nat.reduceLT, Nat.reduceEqDiff, Int.reduceNeg, Bool.false_eq_true, decide_eq_true_eq, decide_true, decide_false, Nat.zero_add, Option.some.injEq, Sl.ow.injEq, Sl.sh.injEq, and_self, and_true, true_and, List.contains_cons, List.contains_nil, List.nodup_nil, List.nodup_cons, List.not_mem_nil, not_false_eq_true, h2]
    cases u <;> first | rfl | cases hu
  have h3 : ∀ x : Int, modI x (s : Int) = some (.int (x % (s : Int))) := fun x => modI_pos (by omega)
  have h4 := inD_ints y acc
  have h5 : acc.length < 1000000 := by omega
  by_cases hy : y = line
  · refine .inl ⟨hy, [.bo (wrl s w hs ps), .sh (.int line), .sh (.int (s : Int)), .sh (.int (w : Int)), .sh (.lst (hs.map dl)), .sh (dl ps), .ow (dl acc), .sh (.int (0 + (k : Int))), .sh (.int y)], run_seq g1 (run_rt ?_)⟩
    simp only [t2b1__law_hits, dl, few_ok, atI_zero, atI_one, atI_two, atI_three, ixN_20, ixN_21, ixN_40, ixN_41, ixN_42, ixN_43, Int.reduceLT, Int.reduceLE, Int.natCast_add, Int.cast_ofNat_Int, List.length_map, List.length_append, mSeq, bnd, mOp, mVar, mOnSq, mSl, readAt, asSq, rd, Mir.ret, lft, iOp, mCons, mTup, mLst, mSq, mIx, ixD, mIn, mB, asB, mAnd, mOr, mNot, mAndV, mOrV, mNotV, mIf, mPart, asI, mSlT, slT, mSlL, mCatL, mCB, intO, absO, maxO, minO, seqD, lstD, tupD, bName, bTup, bLst, bNil, bCons, bRd, mFrz, freeze, mRetV, toOut, setSh, setOw, free, putOwn, ownAt, lstO, mLM, appF, popF, mSetIx, setF, mAug, addI, subI, ltI, leI, gtI, geI, addA, addT, addS, addL, isNO, notNO, isN, eqO, neO, eqD, toV, mNeg, negD, mChain, mBor, mCall, evAr, anyAt, Mir.fill, okIx, ioIx, boIx, back_s, back_b, back_t, back_e, back_ss, back_sb, back_st, back_se, back_bs, back_bb, back_bt, back_be, back_ts, back_tb, back_tt, back_te, back_es, back_eb, back_et, back_ee, back_sss, back_ssb, back_sst, back_sbs, back_sbb, back_sbt, back_sts, back_stb, back_stt, back_bss, back_bsb, back_bst, back_bbs, back_bbb, back_bbt, back_bts, back_btb, back_btt, back_tss, back_tsb, back_tst, back_tbs, back_tbb, back_tbt, back_tts, back_ttb, back_ttt, back_ssss, back_sssss, back_bsss, back, Ar.md, cont, startE, slOf, plains, Mir.plain, clearE, restE, Sq.ds, runF, List.zipWith, List.getElem?_cons_zero, List.getElem?_cons_succ, List.getElem?_nil, List.replicate, List.cons_append, List.nil_append, List.set_cons_zero, List.set_cons_succ, List.length_cons, List.length_nil, List.map_cons, List.map_nil, List.all_cons, List.all_nil, List.getD_cons_zero, List.getD_cons_succ, Option.map_some, Option.map_none, Option.bind_some, Option.bind_none, Option.isSome_some, Bool.and_true, Bool.true_and, Bool.and_false, Bool.false_and, Bool.not_true, Bool.not_false, if_true, if_false, ite_true, ite_false, reduceIte, reduceCtorEq, Nat.reduceAdd, Nat.reduceSub, Nat.reduceMul, Nat.reduceLeDiff, Nat.reduceLT, Nat.reduceEqDiff, Int.reduceNeg, Bool.false_eq_true, decide_eq_true_eq, decide_true, decide_false, Nat.zero_add, Option.some.injEq, Sl.ow.injEq, Sl.sh.injEq, and_self, and_true, true_and, List.contains_cons, List.contains_nil, List.nodup_nil, List.nodup_cons, List.not_mem_nil, not_false_eq_true, hy, eqV, scal, Int.ofNat_lt]
  · refine .inr ⟨hy, run_seq g1 (run_seq (e := [.bo (wrl s w hs ps), .sh (.int line), .sh (.int (s : Int)), .sh (.int (w : Int)), .sh (.lst (hs.map dl)), .sh (dl ps), .ow (dl acc), .sh (.int (0 + (k : Int))), .sh (.int y)]) ?_ ?_)⟩
    · simp only [t2b1__law_hits, dl, few_ok, atI_zero, atI_one, atI_two, atI_three, ixN_20, ixN_21, ixN_40, ixN_41, ixN_42, ixN_43, Int.reduceLT, Int.reduceLE, Int.natCast_add, Int.cast_ofNat_Int, List.length_map, List.length_append, mSeq, bnd, mOp, mVar, mOnSq, mSl, readAt, asSq, rd, Mir.ret, lft, iOp, mCons, mTup, mLst, mSq, mIx, ixD, mIn, mB, asB, mAnd, mOr, mNot, mAndV, mOrV, mNotV, mIf, mPart, asI, mSlT, slT, mSlL, mCatL, mCB, intO, absO, maxO, minO, seqD, lstD, tupD, bName, bTup, bLst, bNil, bCons, bRd, mFrz, freeze, mRetV, toOut, setSh, setOw, free, putOwn, ownAt, lstO, mLM, appF, popF, mSetIx, setF, mAug, addI, subI, ltI, leI, gtI, geI, addA, addT, addS, addL, isNO, notNO, isN, eqO, neO, eqD, toV, mNeg, negD, mChain, mBor, mCall, evAr, anyAt, Mir.fill, okIx, ioIx, boIx, back_s, back_b, back_t, back_e, back_ss, back_sb, back_st, back_se, back_bs, back_bb, back_bt, back_be, back_ts, back_tb, back_tt, back_te, back_es, back_eb, back_et, back_ee, back_sss, back_ssb, back_sst, back_sbs, back_sbb, back_sbt, back_sts, back_stb, back_stt, back_bss, back_bsb, back_bst, back_bbs, back_bbb, back_bbt, back_bts, back_btb, back_btt, back_tss, back_tsb, back_tst, back_tbs, back_tbb, back_tbt, back_tts, back_ttb, back_ttt, back_ssss, back_sssss, back_bsss, back, Ar.md, cont, startE, slOf, plains, Mir.plain, clearE, restE, Sq.ds, runF, List.zipWith, List.getElem?_cons_zero, List.getElem?_cons_succ, List.getElem?_nil, List.replicate, List.cons_append, List.nil_append, List.set_cons_zero, List.set_cons_succ, List.length_cons, List.length_nil, List.map_cons, List.map_nil, List.all_cons, List.all_nil, List.getD_cons_zero, List.getD_cons_succ, Option.map_some, Option.map_none, Option.bind_some, Option.bind_none, Option.isSome_some, Bool.and_true, Bool.true_and, Bool.and_false, Bool.false_and, Bool.not_true, Bool.not_false, if_true, if_false, ite_true, ite_false, reduceIte, reduceCtorEq, Nat.reduceAdd, Nat.reduceSub, Nat.reduceMul, Nat.reduceLeDiff, Nat.reduceLT, Nat.reduceEqDiff, Int.reduceNeg, Bool.false_eq_true, decide_eq_true_eq, decide_true, decide_false, Nat.zero_add, Option.some.injEq, Sl.ow.injEq, Sl.sh.injEq, and_self, and_true, true_and, List.contains_cons, List.contains_nil, List.nodup_nil, List.nodup_cons, List.not_mem_nil, not_false_eq_true, hy, V.int.injEq, eqV, scal]
    · by_cases h6 : y % (s : Int) = line % (s : Int)
      · by_cases h7 : y ∈ acc
        · simp only [t3b1__law_hits, dl, few_ok, atI_zero, atI_one, atI_two, atI_three, ixN_20, ixN_21, ixN_40, ixN_41, ixN_42, ixN_43, Int.reduceLT, Int.reduceLE, Int.natCast_add, Int.cast_ofNat_Int, List.length_map, List.length_append, mSeq, bnd, mOp, mVar, mOnSq, mSl, readAt, asSq, rd, Mir.ret, lft, iOp, mCons, mTup, mLst, mSq, mIx, ixD, mIn, mB, asB, mAnd, mOr, mNot, mAndV, mOrV, mNotV, mIf, mPart, asI, mSlT, slT, mSlL, mCatL, mCB, intO, absO, maxO, minO, seqD, lstD, tupD, bName, bTup, bLst, bNil, bCons, bRd, mFrz, freeze, mRetV, toOut, setSh, setOw, free, putOwn, ownAt, lstO, mLM, appF, popF, mSetIx, setF, mAug, addI, subI, ltI, leI, gtI, geI, addA, addT, addS, addL, isNO, notNO, isN, eqO, neO, eqD, toV, mNeg, negD, mChain, mBor, mCall, evAr, anyAt, Mir.fill, okIx, ioIx, boIx, back_s, back_b, back_t, back_e, back_ss, back_sb, back_st, back_se, back_bs, back_bb, back_bt, back_be, back_ts, back_tb, back_tt, back_te, back_es, back_eb, back_et, back_ee, back_sss, back_ssb, back_sst, back_sbs, back_sbb, back_sbt, back_sts, back_stb, back_stt, back_bss, back_bsb, back_bst, back_bbs, back_bbb, back_bbt, back_bts, back_btb, back_btt, back_tss, back_tsb, back_tst, back_tbs, back_tbb, back_tbt, back_tts, back_ttb, back_ttt, back_ssss, back_sssss, back_bsss, back, Ar.md, cont, startE, slOf, plains, Mir.plain, clearE, restE, Sq.ds, runF, List.zipWith, List.getElem?_cons_zero, List.getElem?_cons_succ, List.getElem?_nil, List.replicate, List.cons_append, List.nil_append, List.set_cons_zero, List.set_cons_succ, List.length_cons, List.length_nil, List.map_cons, List.map_nil, List.all_cons, List.all_nil, List.getD_cons_zero, List.getD_cons_succ, Option.map_some, Option.map_none, Option.bind_some, Option.bind_none, Option.isSome_some, Bool.and_true, Bool.true_and, Bool.and_false, Bool.false_and, Bool.not_true, Bool.not_false, if_true, if_false, ite_true, ite_false, reduceIte, reduceCtorEq, Nat.reduceAdd, Nat.reduceSub, Nat.reduceMul, Nat.reduceLeDiff, Nat.reduceLT, Nat.reduceEqDiff, Int.reduceNeg, Bool.false_eq_true, decide_eq_true_eq, decide_true, decide_false, Nat.zero_add, Option.some.injEq, Sl.ow.injEq, Sl.sh.injEq, and_self, and_true, true_and, List.contains_cons, List.contains_nil, List.nodup_nil, List.nodup_cons, List.not_mem_nil, not_false_eq_true, h3, h6, eqV, scal, h4, h7, not_true_eq_false, and_false]
        · simp only [t3b1__law_hits, dl, few_ok, atI_zero, atI_one, atI_two, atI_three, ixN_20, ixN_21, ixN_40, ixN_41, ixN_42, ixN_43, Int.reduceLT, Int.reduceLE, Int.natCast_add, Int.cast_ofNat_Int, List.length_map, List.length_append, mSeq, bnd, mOp, mVar, mOnSq, mSl, readAt, asSq, rd, Mir.ret, lft, iOp, mCons, mTup, mLst, mSq, mIx, ixD, mIn, mB, asB, mAnd, mOr, mNot, mAndV, mOrV, mNotV, mIf, mPart, asI, mSlT, slT, mSlL, mCatL, mCB, intO, absO, maxO, minO, seqD, lstD, tupD, bName, bTup, bLst, bNil, bCons, bRd, mFrz, freeze, mRetV, toOut, setSh, setOw, free, putOwn, ownAt, lstO, mLM, appF, popF, mSetIx, setF, mAug, addI, subI, ltI, leI, gtI, geI, addA, addT, addS, addL, isNO, notNO, isN, eqO, neO, eqD, toV, mNeg, negD, mChain, mBor, mCall, evAr, anyAt, Mir.fill, okIx, ioIx, boIx, back_s, back_b, back_t, back_e, back_ss, back_sb, back_st, back_se, back_bs, back_bb, back_bt, back_be, back_ts, back_tb, back_tt, back_te, back_es, back_eb, back_et, back_ee, back_sss, back_ssb, back_sst, back_sbs, back_sbb, back_sbt, back_sts, back_stb, back_stt, back_bss, back_bsb, back_bst, back_bbs, back_bbb, back_bbt, back_bts, back_btb, back_btt, back_tss, back_tsb, back_tst, back_tbs, back_tbb, back_tbt, back_tts, back_ttb, back_ttt, back_ssss, back_sssss, back_bsss, back, Ar.md, cont, startE, slOf, plains, Mir.plain, clearE, restE, Sq.ds, runF, List.zipWith, List.getElem?_cons_zero, List.getElem?_cons_succ, List.getElem?_nil, List.replicate, List.cons_append, List.nil_append, List.set_cons_zero, List.set_cons_succ, List.length_cons, List.length_nil, List.map_cons, List.map_nil, List.all_cons, List.all_nil, List.getD_cons_zero, List.getD_cons_succ, Option.map_some, Option.map_none, Option.bind_some, Option.bind_none, Option.isSome_some, Bool.and_true, Bool.true_and, Bool.and_false, Bool.false_and, Bool.not_true, Bool.not_false, if_true, if_false, ite_true, ite_false, reduceIte, reduceCtorEq, Nat.reduceAdd, Nat.reduceSub, Nat.reduceMul, Nat.reduceLeDiff, Nat.reduceLT, Nat.reduceEqDiff, Int.reduceNeg, Bool.false_eq_true, decide_eq_true_eq, decide_true, decide_false, Nat.zero_add, Option.some.injEq, Sl.ow.injEq, Sl.sh.injEq, and_self, and_true, true_and, List.contains_cons, List.contains_nil, List.nodup_nil, List.nodup_cons, List.not_mem_nil, not_false_eq_true, h3, h6, eqV, scal, h4, h7, h5, List.map_append]
      · simp only [t3b1__law_hits, dl, few_ok, atI_zero, atI_one, atI_two, atI_three, ixN_20, ixN_21, ixN_40, ixN_41, ixN_42, ixN_43, Int.reduceLT, Int.reduceLE, Int.natCast_add, Int.cast_ofNat_Int, List.length_map, List.length_append, mSeq, bnd, mOp, mVar, mOnSq, mSl, readAt, asSq, rd, Mir.ret, lft, iOp, mCons, mTup, mLst, mSq, mIx, ixD, mIn, mB, asB, mAnd, mOr, mNot, mAndV, mOrV, mNotV, mIf, mPart, asI, mSlT, slT, mSlL, mCatL, mCB, intO, absO, maxO, minO, seqD, lstD, tupD, bName, bTup, bLst, bNil, bCons, bRd, mFrz, freeze, mRetV, toOut, setSh, setOw, free, putOwn, ownAt, lstO, mLM, appF, popF, mSetIx, setF, mAug, addI, subI, ltI, leI, gtI, geI, addA, addT, addS, addL, isNO, notNO, isN, eqO, neO, eqD, toV, mNeg, negD, mChain, mBor, mCall, evAr, anyAt, Mir.fill, okIx, ioIx, boIx, back_s, back_b, back_t, back_e, back_ss, back_sb, back_st, back_se, back_bs, back_bb, back_bt, back_be, back_ts, back_tb, back_tt, back_te, back_es, back_eb, back_et, back_ee, back_sss, back_ssb, back_sst, back_sbs, back_sbb, back_sbt, back_sts, back_stb, back_stt, back_bss, back_bsb, back_bst, back_bbs, back_bbb, back_bbt, back_bts, back_btb, back_btt, back_tss, back_tsb, back_tst, back_tbs, back_tbb, back_tbt, back_tts, back_ttb, back_ttt, back_ssss, back_sssss, back_bsss, back, Ar.md, cont, startE, slOf, plains, Mir.plain, clearE, restE, Sq.ds, runF, List.zipWith, List.getElem?_cons_zero, List.getElem?_cons_succ, List.getElem?_nil, List.replicate, List.cons_append, List.nil_append, List.set_cons_zero, List.set_cons_succ, List.length_cons, List.length_nil, List.map_cons, List.map_nil, List.all_cons, List.all_nil, List.getD_cons_zero, List.getD_cons_succ, Option.map_some, Option.map_none, Option.bind_some, Option.bind_none, Option.isSome_some, Bool.and_true, Bool.true_and, Bool.and_false, Bool.false_and, Bool.not_true, Bool.not_false, if_true, if_false, ite_true, ite_false, reduceIte, reduceCtorEq, Nat.reduceAdd, Nat.reduceSub, Nat.reduceMul, Nat.reduceLeDiff, Nat.reduceLT, Nat.reduceEqDiff, Int.reduceNeg, Bool.false_eq_true, decide_eq_true_eq, decide_true, decide_false, Nat.zero_add, Option.some.injEq, Sl.ow.injEq, Sl.sh.injEq, and_self, and_true, true_and, List.contains_cons, List.contains_nil, List.nodup_nil, List.nodup_cons, List.not_mem_nil, not_false_eq_true, h3, h6, V.int.injEq, eqV, scal, false_and]
theorem hits_val {hs : List (List Int)} {ps : List Int} {line : Int} {s w : Nat} (s1 : 1 ≤ s) (hl : ps.length ≤ 1000) : ∃ ds, f__law_hits [wrl s w hs ps, .int line] = .ok (.bl (hitL w (s : Int) line [] ps.reverse)) ds := by
  have h2 : rng1 [.int (ps.length : Int)] = some (rngD 0 (ps.length : Int)) := rng1_nat (by omega)
  have q := forL_ret (b := bName 7) (mb := b1__law_hits) (fun k env => ∃ acc u x, env = [.bo (wrl s w hs ps), .sh (.int line), .sh (.int (s : Int)), .sh (.int (w : Int)), .sh (.lst (hs.map dl)), .sh (dl ps), .ow (dl acc), u, x] ∧ Mir.plain u = true ∧ Mir.plain x = true ∧ acc.length ≤ k ∧ hitL w (s : Int) line [] ps.reverse = hitL w (s : Int) line acc (ps.reverse.drop k))
    (fun r => (∃ e, r = .ok (.rt (.bl (hitL w (s : Int) line [] ps.reverse))) e) ∨ ((∃ e, r = .ok .nx e) ∧ hitL w (s : Int) line [] ps.reverse = false)) (rngD 0 (ps.length : Int)) 0 [.bo (wrl s w hs ps), .sh (.int line), .sh (.int (s : Int)), .sh (.int (w : Int)), .sh (.lst (hs.map dl)), .sh (dl ps), .ow (.lst []), .no, .no]
    ⟨[], .no, .no, rfl, rfl, rfl, Nat.le_refl _, rfl⟩ (fun k d env hd hI => by
      rw [Nat.zero_add] at hI ⊢
      obtain ⟨rfl, hk⟩ := rngD_get hd
      obtain ⟨acc, u, x, rfl, p1, p2, p3, p4⟩ := hI
      have hkl : k < ps.reverse.length := by rw [List.length_reverse]; omega
      obtain ⟨y, hy⟩ := at_some hkl
      rw [drop_cons hy] at p4
      refine ⟨[.bo (wrl s w hs ps), .sh (.int line), .sh (.int (s : Int)), .sh (.int (w : Int)), .sh (.lst (hs.map dl)), .sh (dl ps), .ow (dl acc), .sh (.int (0 + (k : Int))), x], ?_, ?_⟩
      · cases u <;> first | rfl | cases p1
      rcases hits_turn (hs := hs) (w := w) (line := line) s1 hy p3 hl p2 with ⟨h1, e, h2⟩ | ⟨h1, h2⟩
      · refine .inr ⟨_, e, h2, .inl ⟨e, ?_⟩⟩
        rw [p4, hitL, if_pos h1]
      · refine .inl ⟨_, .inl h2, _, _, _, rfl, rfl, rfl, ?_, ?_⟩
        · split
          · rw [List.length_append]; simp; omega
          · omega
        · rw [p4, hitL, if_neg h1]
          split <;> rfl)
    (fun env hI => by
      obtain ⟨acc, u, x, rfl, p1, p2, p3, p4⟩ := hI
      refine .inr ⟨⟨_, rfl⟩, ?_⟩
      rw [p4, Nat.zero_add, rngD_length, List.drop_of_length_le (by rw [List.length_reverse]; omega)]
      rfl)
  have g1 : t1__law_hits [.bo (wrl s w hs ps), .sh (.int line), .no, .no, .no, .no, .no, .no, .no] = .ok .nx [.bo (wrl s w hs ps), .sh (.int line), .sh (.int (s : Int)), .sh (.int (w : Int)), .sh (.lst (hs.map dl)), .sh (dl ps), .no, .no, .no] := by
    simp only [t1__law_hits, wrl, few_ok, atI_zero, atI_one, atI_two, atI_three, ixN_20, ixN_21, ixN_40, ixN_41, ixN_42, ixN_43, Int.reduceLT, Int.reduceLE, Int.natCast_add, Int.cast_ofNat_Int, List.length_map, List.length_append, mSeq, bnd, mOp, mVar, mOnSq, mSl, readAt, asSq, rd, Mir.ret, lft, iOp, mCons, mTup, mLst, mSq, mIx, ixD, mIn, mB, asB, mAnd, mOr, mNot, mAndV, mOrV, mNotV, mIf, mPart, asI, mSlT, slT, mSlL, mCatL, mCB, intO, absO, maxO, minO, seqD, lstD, tupD, bName, bTup, bLst, bNil, bCons, bRd, mFrz, freeze, mRetV, toOut, setSh, setOw, free, putOwn, ownAt, lstO, mLM, appF, popF, mSetIx, setF, mAug, addI, subI, ltI, leI, gtI, geI, addA, addT, addS, addL, isNO, notNO, isN, eqO, neO, eqD, toV, mNeg, negD, mChain, mBor, mCall, evAr, anyAt, Mir.fill, okIx, ioIx, boIx, back_s, back_b, back_t, back_e, back_ss, back_sb, back_st, back_se, back_bs, back_bb, back_bt, back_be, back_ts, back_tb, back_tt, back_te, back_es, back_eb, back_et, back_ee, back_sss, back_ssb, back_sst, back_sbs, back_sbb, back_sbt, back_sts, back_stb, back_stt, back_bss, back_bsb, back_bst, back_bbs, back_bbb, back_bbt, back_bts, back_btb, back_btt, back_tss, back_tsb, back_tst, back_tbs, back_tbb, back_tbt, back_tts, back_ttb, back_ttt, back_ssss, back_sssss, back_bsss, back, Ar.md, cont, startE, slOf, plains, Mir.plain, clearE, restE, Sq.ds, runF, List.zipWith, List.getElem?_cons_zero, List.getElem?_cons_succ, List.getElem?_nil, List.replicate, List.cons_append, List.nil_append, List.set_cons_zero, List.set_cons_succ, List.length_cons, List.length_nil, List.map_cons, List.map_nil, List.all_cons, List.all_nil, List.getD_cons_zero, List.getD_cons_succ, Option.map_some, Option.map_none, Option.bind_some, Option.bind_none, Option.isSome_some, Bool.and_true, Bool.true_and, Bool.and_false, Bool.false_and, Bool.not_true, Bool.not_false, if_true, if_false, ite_true, ite_false, reduceIte, reduceCtorEq, Nat.reduceAdd, Nat.reduceSub, Nat.reduceMul, Nat.reduceLeDiff, Nat.reduceLT, Nat.reduceEqDiff, Int.reduceNeg, Bool.false_eq_true, decide_eq_true_eq, decide_true, decide_false, Nat.zero_add, Option.some.injEq, Sl.ow.injEq, Sl.sh.injEq, and_self, and_true, true_and, List.contains_cons, List.contains_nil, List.nodup_nil, List.nodup_cons, List.not_mem_nil, not_false_eq_true]
  have g2 : t2__law_hits [.bo (wrl s w hs ps), .sh (.int line), .sh (.int (s : Int)), .sh (.int (w : Int)), .sh (.lst (hs.map dl)), .sh (dl ps), .no, .no, .no] = .ok .nx [.bo (wrl s w hs ps), .sh (.int line), .sh (.int (s : Int)), .sh (.int (w : Int)), .sh (.lst (hs.map dl)), .sh (dl ps), .ow (.lst []), .no, .no] := rfl
  have g3 : t3__law_hits [.bo (wrl s w hs ps), .sh (.int line), .sh (.int (s : Int)), .sh (.int (w : Int)), .sh (.lst (hs.map dl)), .sh (dl ps), .ow (.lst []), .no, .no] = forL (bName 7) b1__law_hits (rngD 0 (ps.length : Int)) [.bo (wrl s w hs ps), .sh (.int line), .sh (.int (s : Int)), .sh (.int (w : Int)), .sh (.lst (hs.map dl)), .sh (dl ps), .ow (.lst []), .no, .no] := by
    simp only [t3__law_hits, l1__law_hits, dl, few_ok, atI_zero, atI_one, atI_two, atI_three, ixN_20, ixN_21, ixN_40, ixN_41, ixN_42, ixN_43, Int.reduceLT, Int.reduceLE, Int.natCast_add, Int.cast_ofNat_Int, List.length_map, List.length_append, mSeq, bnd, mOp, mVar, mOnSq, mSl, readAt, asSq, rd, Mir.ret, lft, iOp, mCons, mTup, mLst, mSq, mIx, ixD, mIn, mB, asB, mAnd, mOr, mNot, mAndV, mOrV, mNotV, mIf, mPart, asI, mSlT, slT, mSlL, mCatL, mCB, intO, absO, maxO, minO, seqD, lstD, tupD, bName, bTup, bLst, bNil, bCons, bRd, mFrz, freeze, mRetV, toOut, setSh, setOw, free, putOwn, ownAt, lstO, mLM, appF, popF, mSetIx, setF, mAug, addI, subI, ltI, leI, gtI, geI, addA, addT, addS, addL, isNO, notNO, isN, eqO, neO, eqD, toV, mNeg, negD, mChain, mBor, mCall, evAr, anyAt, Mir.fill, okIx, ioIx, boIx, back_s, back_b, back_t, back_e, back_ss, back_sb, back_st, back_se, back_bs, back_bb, back_bt, back_be, back_ts, back_tb, back_tt, back_te, back_es, back_eb, back_et, back_ee, back_sss, back_ssb, back_sst, back_sbs, back_sbb, back_sbt, back_sts, back_stb, back_stt, back_bss, back_bsb, back_bst, back_bbs, back_bbb, back_bbt, back_bts, back_btb, back_btt, back_tss, back_tsb, back_tst, back_tbs, back_tbb, back_tbt, back_tts, back_ttb, back_ttt, back_ssss, back_sssss, back_bsss, back, Ar.md, cont, startE, slOf, plains, Mir.plain, clearE, restE, Sq.ds, runF, List.zipWith, List.getElem?_cons_zero, List.getElem?_cons_succ, List.getElem?_nil, List.replicate, List.cons_append, List.nil_append, List.set_cons_zero, List.set_cons_succ, List.length_cons, List.length_nil, List.map_cons, List.map_nil, List.all_cons, List.all_nil, List.getD_cons_zero, List.getD_cons_succ, Option.map_some, Option.map_none, Option.bind_some, Option.bind_none, Option.isSome_some, Bool.and_true, Bool.true_and, Bool.and_false, Bool.false_and, Bool.not_true, Bool.not_false, if_true, if_false, ite_true, ite_false, reduceIte, reduceCtorEq, Nat.reduceAdd, Nat.reduceSub, Nat.reduceMul, Nat.reduceLeDiff, Nat.reduceLT, Nat.reduceEqDiff, Int.reduceNeg, Bool.false_eq_true, decide_eq_true_eq, decide_true, decide_false, Nat.zero_add, Option.some.injEq, Sl.ow.injEq, Sl.sh.injEq, and_self, and_true, true_and, List.contains_cons, List.contains_nil, List.nodup_nil, List.nodup_cons, List.not_mem_nil, not_false_eq_true, h2]
  rcases q with ⟨e, q⟩ | ⟨⟨e, q⟩, q2⟩
  · exact ⟨_, runF_rt (run_seq g1 (run_seq g2 (run_rt (g3.trans q))))⟩
  · rw [q2]
    exact ⟨_, runF_rt (run_seq g1 (run_seq g2 (run_seq (g3.trans q) rfl)))⟩
end K58
namespace K58
open PySem PySem.Spec PyProof.Rows L2 Mir
def Pl : Nat → D → Prop
  | _, .non => True
  | _, .bl _ => True
  | _, .int _ => True
  | _, .str _ => True
  | 0, .tup _ => False
  | 0, .lst _ => False
  | n + 1, .tup ds => ds.length ≤ 1000000 ∧ ∀ d ∈ ds, Pl n d
  | n + 1, .lst ds => ds.length ≤ 1000000 ∧ ∀ d ∈ ds, Pl n d
  | _, .ins _ _ => False
theorem same_loop {rec : List D → FR} {c : D} {s : List D} (hs : seqD c = some s) (hl : s.length ≤ 1000000) (h : ∀ d ∈ s, ∃ ds, rec [d, d] = .ok (.bl true) ds) : ∃ e, t7__law_same rec [.sh c, .sh c, .no] = .ok .nx e := by
  have h0 : rng1 [.int (s.length : Int)] = some (rngD 0 (s.length : Int)) := rng1_nat hl
  obtain ⟨e, q1, x, rfl, q2⟩ := forL_all (b := bName 2) (mb := b1__law_same rec) (ds := rngD 0 (s.length : Int)) (env := [.sh c, .sh c, .no]) (fun k env => ∃ x, env = [.sh c, .sh c, x] ∧ Mir.plain x = true) ⟨.no, rfl, rfl⟩ (fun k d env hd hI => by
    obtain ⟨rfl, hk⟩ := rngD_get hd
    obtain ⟨x, rfl, p⟩ := hI
    obtain ⟨y, hy⟩ : ∃ y, s[k]? = some y := ⟨_, List.getElem?_eq_getElem (by omega)⟩
    obtain ⟨ds, hr⟩ := h y (List.mem_of_getElem? hy)
    have g1 : atI s (0 + (k : Int)) = some y := atI_of (Int.zero_add _) hy

    refine ⟨[.sh c, .sh c, .sh (.int (0 + (k : Int)))], ?_, [.sh c, .sh c, .sh (.int (0 + (k : Int)))], .inl ?_, _, rfl, rfl⟩
    · cases x <;> first | rfl | cases p
    · cases c <;> first | cases hs | skip
      all_goals
        simp only [b1__law_same, t1b1__law_same, few_ok, atI_zero, atI_one, atI_two, atI_three, ixN_20, ixN_21, ixN_40, ixN_41, ixN_42, ixN_43, Int.reduceLT, Int.reduceLE, Int.natCast_add, Int.cast_ofNat_Int, List.length_map, List.length_append, mSeq, bnd, mOp, mVar, mOnSq, mSl, readAt, asSq, rd, Mir.ret, lft, iOp, mCons, mTup, mLst, mSq, mIx, ixD, mIn, mB, asB, mAnd, mOr, mNot, mAndV, mOrV, mNotV, mIf, mPart, asI, mSlT, slT, mSlL, mCatL, mCB, intO, absO, maxO, minO, seqD, lstD, tupD, bName, bTup, bLst, bNil, bCons, bRd, mFrz, freeze, mRetV, toOut, setSh, setOw, free, putOwn, ownAt, lstO, mLM, appF, popF, mSetIx, setF, mAug, addI, subI, ltI, leI, gtI, geI, addA, addT, addS, addL, isNO, notNO, isN, eqO, neO, eqD, toV, mNeg, negD, mChain, mBor, mCall, evAr, anyAt, Mir.fill, okIx, ioIx, boIx, back_s, back_b, back_t, back_e, back_ss, back_sb, back_st, back_se, back_bs, back_bb, back_bt, back_be, back_ts, back_tb, back_tt, back_te, back_es, back_eb, back_et, back_ee, back_sss, back_ssb, back_sst, back_sbs, back_sbb, back_sbt, back_sts, back_stb, back_stt, back_bss, back_bsb, back_bst, back_bbs, back_bbb, back_bbt, back_bts, back_btb, back_btt, back_tss, back_tsb, back_tst, back_tbs, back_tbb, back_tbt, back_tts, back_ttb, back_ttt, back_ssss, back_sssss, back_bsss, back, Ar.md, cont, startE, slOf, plains, Mir.plain, clearE, restE, Sq.ds, runF, List.zipWith, List.getElem?_cons_zero, List.getElem?_cons_succ, List.getElem?_nil, List.replicate, List.cons_append, List.nil_append, List.set_cons_zero, List.set_cons_succ, List.length_cons, List.length_nil, List.map_cons, List.map_nil, List.all_cons, List.all_nil, List.getD_cons_zero, List.getD_cons_succ, Option.map_some, Option.map_none, Option.bind_some, Option.bind_none, Option.isSome_some, Bool.and_true, Bool.true_and, Bool.and_false, Bool.false_and, Bool.not_true, Bool.not_false, if_true, if_false, ite_true, ite_false, reduceIte, reduceCtorEq, Nat.reduceAdd, Nat.reduceSub, Nat.reduceMul, Nat.reduceLeDiff, Nat.reduceLT, Nat.reduceEqDiff, Int.reduceNeg, Bool.false_eq_true, decide_eq_true_eq, decide_true, decide_false, Nat.zero_add, Option.some.injEq, Sl.ow.injEq, Sl.sh.injEq, and_self, and_true, true_and, List.contains_cons, List.contains_nil, List.nodup_nil, List.nodup_cons, List.not_mem_nil, not_false_eq_true, g1, hr])
  refine ⟨[.sh c, .sh c, x], ?_⟩
  cases c <;> first | cases hs | skip
  all_goals simp only [t7__law_same, l1__law_same, few_ok, atI_zero, atI_one, atI_two, atI_three, ixN_20, ixN_21, ixN_40, ixN_41, ixN_42, ixN_43, Int.reduceLT, Int.reduceLE, Int.natCast_add, Int.cast_ofNat_Int, List.length_map, List.length_append, mSeq, bnd, mOp, mVar, mOnSq, mSl, readAt, asSq, rd, Mir.ret, lft, iOp, mCons, mTup, mLst, mSq, mIx, ixD, mIn, mB, asB, mAnd, mOr, mNot, mAndV, mOrV, mNotV, mIf, mPart, asI, mSlT, slT, mSlL, mCatL, mCB, intO, absO, maxO, minO, seqD, lstD, tupD, bName, bTup, bLst, bNil, bCons, bRd, mFrz, freeze, mRetV, toOut, setSh, setOw, free, putOwn, ownAt, lstO, mLM, appF, popF, mSetIx, setF, mAug, addI, subI, ltI, leI, gtI, geI, addA, addT, addS, addL, isNO, notNO, isN, eqO, neO, eqD, toV, mNeg, negD, mChain, mBor, mCall, evAr, anyAt, Mir.fill, okIx, ioIx, boIx, back_s, back_b, back_t, back_e, back_ss, back_sb, back_st, back_se, back_bs, back_bb, back_bt, back_be, back_ts, back_tb, back_tt, back_te, back_es, back_eb, back_et, back_ee, back_sss, back_ssb, back_sst, back_sbs, back_sbb, back_sbt, back_sts, back_stb, back_stt, back_bss, back_bsb, back_bst, back_bbs, back_bbb, back_bbt, back_bts, back_btb, back_btt, back_tss, back_tsb, back_tst, back_tbs, back_tbb, back_tbt, back_tts, back_ttb, back_ttt, back_ssss, back_sssss, back_bsss, back, Ar.md, cont, startE, slOf, plains, Mir.plain, clearE, restE, Sq.ds, runF, List.zipWith, List.getElem?_cons_zero, List.getElem?_cons_succ, List.getElem?_nil, List.replicate, List.cons_append, List.nil_append, List.set_cons_zero, List.set_cons_succ, List.length_cons, List.length_nil, List.map_cons, List.map_nil, List.all_cons, List.all_nil, List.getD_cons_zero, List.getD_cons_succ, Option.map_some, Option.map_none, Option.bind_some, Option.bind_none, Option.isSome_some, Bool.and_true, Bool.true_and, Bool.and_false, Bool.false_and, Bool.not_true, Bool.not_false, if_true, if_false, ite_true, ite_false, reduceIte, reduceCtorEq, Nat.reduceAdd, Nat.reduceSub, Nat.reduceMul, Nat.reduceLeDiff, Nat.reduceLT, Nat.reduceEqDiff, Int.reduceNeg, Bool.false_eq_true, decide_eq_true_eq, decide_true, decide_false, Nat.zero_add, Option.some.injEq, Sl.ow.injEq, Sl.sh.injEq, and_self, and_true, true_and, List.contains_cons, List.contains_nil, List.nodup_nil, List.nodup_cons, List.not_mem_nil, not_false_eq_true, h0, q1]
theorem isi_int (i : Int) : isiO "int" (.int i) = some (.bl true) ∧ isiO "bool" (.int i) = some (.bl false) := ⟨rfl, rfl⟩
theorem isi_bl (b : Bool) : isiO "bool" (.bl b) = some (.bl true) := rfl
theorem isi_str (s : Str) : isiO "int" (.str s) = some (.bl false) ∧ isiO "bool" (.str s) = some (.bl false) ∧ isiO "str" (.str s) = some (.bl true) := ⟨rfl, rfl, rfl⟩
theorem isi_tup (s : List D) : isiO "int" (.tup s) = some (.bl false) ∧ isiO "bool" (.tup s) = some (.bl false) ∧ isiO "str" (.tup s) = some (.bl false) ∧ isiO "tuple" (.tup s) = some (.bl true) ∧ isiO "list" (.tup s) = some (.bl false) := ⟨rfl, rfl, rfl, rfl, rfl⟩
theorem isi_lst (s : List D) : isiO "int" (.lst s) = some (.bl false) ∧ isiO "bool" (.lst s) = some (.bl false) ∧ isiO "str" (.lst s) = some (.bl false) ∧ isiO "tuple" (.lst s) = some (.bl false) ∧ isiO "list" (.lst s) = some (.bl true) := ⟨rfl, rfl, rfl, rfl, rfl⟩
theorem same_val : ∀ (n : Nat) (d : D), Pl n d → ∃ ds, f__law_same (n + 1) [d, d] = .ok (.bl true) ds
  | n, .non, _ => ⟨_, runF_rt (e := [.sh .non, .sh .non, .no]) (run_rt rfl)⟩
  | n, .bl b, _ => by
    refine ⟨_, runF_rt (e := [.sh (.bl b), .sh (.bl b), .no]) ?_⟩
    simp only [m__law_same, t1__law_same, t2__law_same, few_ok, atI_zero, atI_one, atI_two, atI_three, ixN_20, ixN_21, ixN_40, ixN_41, ixN_42, ixN_43, Int.reduceLT, Int.reduceLE, Int.natCast_add, Int.cast_ofNat_Int, List.length_map, List.length_append, mSeq, bnd, mOp, mVar, mOnSq, mSl, readAt, asSq, rd, Mir.ret, lft, iOp, mCons, mTup, mLst, mSq, mIx, ixD, mIn, mB, asB, mAnd, mOr, mNot, mAndV, mOrV, mNotV, mIf, mPart, asI, mSlT, slT, mSlL, mCatL, mCB, intO, absO, maxO, minO, seqD, lstD, tupD, bName, bTup, bLst, bNil, bCons, bRd, mFrz, freeze, mRetV, toOut, setSh, setOw, free, putOwn, ownAt, lstO, mLM, appF, popF, mSetIx, setF, mAug, addI, subI, ltI, leI, gtI, geI, addA, addT, addS, addL, isNO, notNO, isN, eqO, neO, eqD, toV, mNeg, negD, mChain, mBor, mCall, evAr, anyAt, Mir.fill, okIx, ioIx, boIx, back_s, back_b, back_t, back_e, back_ss, back_sb, back_st, back_se, back_bs, back_bb, back_bt, back_be, back_ts, back_tb, back_tt, back_te, back_es, back_eb, back_et, back_ee, back_sss, back_ssb, back_sst, back_sbs, back_sbb, back_sbt, back_sts, back_stb, back_stt, back_bss, back_bsb, back_bst, back_bbs, back_bbb, back_bbt, back_bts, back_btb, back_btt, back_tss, back_tsb, back_tst, back_tbs, back_tbb, back_tbt, back_tts, back_ttb, back_ttt, back_ssss, back_sssss, back_bsss, back, Ar.md, cont, startE, slOf, plains, Mir.plain, clearE, restE, Sq.ds, runF, List.zipWith, List.getElem?_cons_zero, List.getElem?_cons_succ, List.getElem?_nil, List.replicate, List.cons_append, List.nil_append, List.set_cons_zero, List.set_cons_succ, List.length_cons, List.length_nil, List.map_cons, List.map_nil, List.all_cons, List.all_nil, List.getD_cons_zero, List.getD_cons_succ, Option.map_some, Option.map_none, Option.bind_some, Option.bind_none, Option.isSome_some, Bool.and_true, Bool.true_and, Bool.and_false, Bool.false_and, Bool.not_true, Bool.not_false, if_true, if_false, ite_true, ite_false, reduceIte, reduceCtorEq, Nat.reduceAdd, Nat.reduceSub, Nat.reduceMul, Nat.reduceLeDiff, Nat.reduceLT, Nat.reduceEqDiff, Int.reduceNeg, Bool.false_eq_true, decide_eq_true_eq, decide_true, decide_false, Nat.zero_add, Option.some.injEq, Sl.ow.injEq, Sl.sh.injEq, and_self, and_true, true_and, List.contains_cons, List.contains_nil, List.nodup_nil, List.nodup_cons, List.not_mem_nil, not_false_eq_true, isi_bl, eqV, scal]
  | n, .int i, _ => by
    refine ⟨_, runF_rt (e := [.sh (.int i), .sh (.int i), .no]) ?_⟩
    simp only [m__law_same, t1__law_same, t2__law_same, t3__law_same, few_ok, atI_zero, atI_one, atI_two, atI_three, ixN_20, ixN_21, ixN_40, ixN_41, ixN_42, ixN_43, Int.reduceLT, Int.reduceLE, Int.natCast_add, Int.cast_ofNat_Int, List.length_map, List.length_append, mSeq, bnd, mOp, mVar, mOnSq, mSl, readAt, asSq, rd, Mir.ret, lft, iOp, mCons, mTup, mLst, mSq, mIx, ixD, mIn, mB, asB, mAnd, mOr, mNot, mAndV, mOrV, mNotV, mIf, mPart, asI, mSlT, slT, mSlL, mCatL, mCB, intO, absO, maxO, minO, seqD, lstD, tupD, bName, bTup, bLst, bNil, bCons, bRd, mFrz, freeze, mRetV, toOut, setSh, setOw, free, putOwn, ownAt, lstO, mLM, appF, popF, mSetIx, setF, mAug, addI, subI, ltI, leI, gtI, geI, addA, addT, addS, addL, isNO, notNO, isN, eqO, neO, eqD, toV, mNeg, negD, mChain, mBor, mCall, evAr, anyAt, Mir.fill, okIx, ioIx, boIx, back_s, back_b, back_t, back_e, back_ss, back_sb, back_st, back_se, back_bs, back_bb, back_bt, back_be, back_ts, back_tb, back_tt, back_te, back_es, back_eb, back_et, back_ee, back_sss, back_ssb, back_sst, back_sbs, back_sbb, back_sbt, back_sts, back_stb, back_stt, back_bss, back_bsb, back_bst, back_bbs, back_bbb, back_bbt, back_bts, back_btb, back_btt, back_tss, back_tsb, back_tst, back_tbs, back_tbb, back_tbt, back_tts, back_ttb, back_ttt, back_ssss, back_sssss, back_bsss, back, Ar.md, cont, startE, slOf, plains, Mir.plain, clearE, restE, Sq.ds, runF, List.zipWith, List.getElem?_cons_zero, List.getElem?_cons_succ, List.getElem?_nil, List.replicate, List.cons_append, List.nil_append, List.set_cons_zero, List.set_cons_succ, List.length_cons, List.length_nil, List.map_cons, List.map_nil, List.all_cons, List.all_nil, List.getD_cons_zero, List.getD_cons_succ, Option.map_some, Option.map_none, Option.bind_some, Option.bind_none, Option.isSome_some, Bool.and_true, Bool.true_and, Bool.and_false, Bool.false_and, Bool.not_true, Bool.not_false, if_true, if_false, ite_true, ite_false, reduceIte, reduceCtorEq, Nat.reduceAdd, Nat.reduceSub, Nat.reduceMul, Nat.reduceLeDiff, Nat.reduceLT, Nat.reduceEqDiff, Int.reduceNeg, Bool.false_eq_true, decide_eq_true_eq, decide_true, decide_false, Nat.zero_add, Option.some.injEq, Sl.ow.injEq, Sl.sh.injEq, and_self, and_true, true_and, List.contains_cons, List.contains_nil, List.nodup_nil, List.nodup_cons, List.not_mem_nil, not_false_eq_true, isi_int, eqV, scal]
  | n, .str i, _ => by
    refine ⟨_, runF_rt (e := [.sh (.str i), .sh (.str i), .no]) ?_⟩
    simp only [m__law_same, t1__law_same, t2__law_same, t3__law_same, t4__law_same, few_ok, atI_zero, atI_one, atI_two, atI_three, ixN_20, ixN_21, ixN_40, ixN_41, ixN_42, ixN_43, Int.reduceLT, Int.reduceLE, Int.natCast_add, Int.cast_ofNat_Int, List.length_map, List.length_append, mSeq, bnd, mOp, mVar, mOnSq, mSl, readAt, asSq, rd, Mir.ret, lft, iOp, mCons, mTup, mLst, mSq, mIx, ixD, mIn, mB, asB, mAnd, mOr, mNot, mAndV, mOrV, mNotV, mIf, mPart, asI, mSlT, slT, mSlL, mCatL, mCB, intO, absO, maxO, minO, seqD, lstD, tupD, bName, bTup, bLst, bNil, bCons, bRd, mFrz, freeze, mRetV, toOut, setSh, setOw, free, putOwn, ownAt, lstO, mLM, appF, popF, mSetIx, setF, mAug, addI, subI, ltI, leI, gtI, geI, addA, addT, addS, addL, isNO, notNO, isN, eqO, neO, eqD, toV, mNeg, negD, mChain, mBor, mCall, evAr, anyAt, Mir.fill, okIx, ioIx, boIx, back_s, back_b, back_t, back_e, back_ss, back_sb, back_st, back_se, back_bs, back_bb, back_bt, back_be, back_ts, back_tb, back_tt, back_te, back_es, back_eb, back_et, back_ee, back_sss, back_ssb, back_sst, back_sbs, back_sbb, back_sbt, back_sts, back_stb, back_stt, back_bss, back_bsb, back_bst, back_bbs, back_bbb, back_bbt, back_bts, back_btb, back_btt, back_tss, back_tsb, back_tst, back_tbs, back_tbb, back_tbt, back_tts, back_ttb, back_ttt, back_ssss, back_sssss, back_bsss, back, Ar.md, cont, startE, slOf, plains, Mir.plain, clearE, restE, Sq.ds, runF, List.zipWith, List.getElem?_cons_zero, List.getElem?_cons_succ, List.getElem?_nil, List.replicate, List.cons_append, List.nil_append, List.set_cons_zero, List.set_cons_succ, List.length_cons, List.length_nil, List.map_cons, List.map_nil, List.all_cons, List.all_nil, List.getD_cons_zero, List.getD_cons_succ, Option.map_some, Option.map_none, Option.bind_some, Option.bind_none, Option.isSome_some, Bool.and_true, Bool.true_and, Bool.and_false, Bool.false_and, Bool.not_true, Bool.not_false, if_true, if_false, ite_true, ite_false, reduceIte, reduceCtorEq, Nat.reduceAdd, Nat.reduceSub, Nat.reduceMul, Nat.reduceLeDiff, Nat.reduceLT, Nat.reduceEqDiff, Int.reduceNeg, Bool.false_eq_true, decide_eq_true_eq, decide_true, decide_false, Nat.zero_add, Option.some.injEq, Sl.ow.injEq, Sl.sh.injEq, and_self, and_true, true_and, List.contains_cons, List.contains_nil, List.nodup_nil, List.nodup_cons, List.not_mem_nil, not_false_eq_true, isi_str, eqV, scal]
  | 0, .tup _, h => False.elim h
  | 0, .lst _, h => False.elim h
  | n + 1, .tup s, h => by
    obtain ⟨e, q⟩ := same_loop (c := .tup s) rfl h.1 fun d hd => same_val n d (h.2 d hd)
    refine ⟨_, runF_rt (e := e) (run_seq (e := [.sh (.tup s), .sh (.tup s), .no]) ?_ (run_seq (e := [.sh (.tup s), .sh (.tup s), .no]) ?_ (run_seq (e := [.sh (.tup s), .sh (.tup s), .no]) ?_ (run_seq (e := [.sh (.tup s), .sh (.tup s), .no]) ?_ (run_seq (e := [.sh (.tup s), .sh (.tup s), .no]) ?_ (run_seq (e := [.sh (.tup s), .sh (.tup s), .no]) ?_ (run_seq q rfl)))))))⟩
    all_goals simp only [t1__law_same, t2__law_same, t3__law_same, t4__law_same, t5__law_same, t6__law_same, few_ok, atI_zero, atI_one, atI_two, atI_three, ixN_20, ixN_21, ixN_40, ixN_41, ixN_42, ixN_43, Int.reduceLT, Int.reduceLE, Int.natCast_add, Int.cast_ofNat_Int, List.length_map, List.length_append, mSeq, bnd, mOp, mVar, mOnSq, mSl, readAt, asSq, rd, Mir.ret, lft, iOp, mCons, mTup, mLst, mSq, mIx, ixD, mIn, mB, asB, mAnd, mOr, mNot, mAndV, mOrV, mNotV, mIf, mPart, asI, mSlT, slT, mSlL, mCatL, mCB, intO, absO, maxO, minO, seqD, lstD, tupD, bName, bTup, bLst, bNil, bCons, bRd, mFrz, freeze, mRetV, toOut, setSh, setOw, free, putOwn, ownAt, lstO, mLM, appF, popF, mSetIx, setF, mAug, addI, subI, ltI, leI, gtI, geI, addA, addT, addS, addL, isNO, notNO, isN, eqO, neO, eqD, toV, mNeg, negD, mChain, mBor, mCall, evAr, anyAt, Mir.fill, okIx, ioIx, boIx, back_s, back_b, back_t, back_e, back_ss, back_sb, back_st, back_se, back_bs, back_bb, back_bt, back_be, back_ts, back_tb, back_tt, back_te, back_es, back_eb, back_et, back_ee, back_sss, back_ssb, back_sst, back_sbs, back_sbb, back_sbt, back_sts, back_stb, back_stt, back_bss, back_bsb, back_bst, back_bbs, back_bbb, back_bbt, back_bts, back_btb, back_btt, back_tss, back_tsb, back_tst, back_tbs, back_tbb, back_tbt, back_tts, back_ttb, back_ttt, back_ssss, back_sssss, back_bsss, back, Ar.md, cont, startE, slOf, plains, Mir.plain, clearE, restE, Sq.ds, runF, List.zipWith, List.getElem?_cons_zero, List.getElem?_cons_succ, List.getElem?_nil, List.replicate, List.cons_append, List.nil_append, List.set_cons_zero, List.set_cons_succ, List.length_cons, List.length_nil, List.map_cons, List.map_nil, List.all_cons, List.all_nil, List.getD_cons_zero, List.getD_cons_succ, Option.map_some, Option.map_none, Option.bind_some, Option.bind_none, Option.isSome_some, Bool.and_true, Bool.true_and, Bool.and_false, Bool.false_and, Bool.not_true, Bool.not_false, if_true, if_false, ite_true, ite_false, reduceIte, reduceCtorEq, Nat.reduceAdd, Nat.reduceSub, Nat.reduceMul, Nat.reduceLeDiff, Nat.reduceLT, Nat.reduceEqDiff, Int.reduceNeg, Bool.false_eq_true, decide_eq_true_eq, decide_true, decide_false, Nat.zero_add, Option.some.injEq, Sl.ow.injEq, Sl.sh.injEq, and_self, and_true, true_and, List.contains_cons, List.contains_nil, List.nodup_nil, List.nodup_cons, List.not_mem_nil, not_false_eq_true, isi_tup, eqV, scal]
  | n + 1, .lst s, h => by
    obtain ⟨e, q⟩ := same_loop (c := .lst s) rfl h.1 fun d hd => same_val n d (h.2 d hd)
    refine ⟨_, runF_rt (e := e) (run_seq (e := [.sh (.lst s), .sh (.lst s), .no]) ?_ (run_seq (e := [.sh (.lst s), .sh (.lst s), .no]) ?_ (run_seq (e := [.sh (.lst s), .sh (.lst s), .no]) ?_ (run_seq (e := [.sh (.lst s), .sh (.lst s), .no]) ?_ (run_seq (e := [.sh (.lst s), .sh (.lst s), .no]) ?_ (run_seq (e := [.sh (.lst s), .sh (.lst s), .no]) ?_ (run_seq q rfl)))))))⟩
    all_goals simp only [t1__law_same, t2__law_same, t3__law_same, t4__law_same, t5__law_same, t6__law_same, few_ok, atI_zero, atI_one, atI_two, atI_three, ixN_20, ixN_21, ixN_40, ixN_41, ixN_42, ixN_43, Int.reduceLT, Int.reduceLE, Int.natCast_add, Int.cast_ofNat_Int, List.length_map, List.length_append, mSeq, bnd, mOp, mVar, mOnSq, mSl, readAt, asSq, rd, Mir.ret, lft, iOp, mCons, mTup, mLst, mSq, mIx, ixD, mIn, mB, asB, mAnd, mOr, mNot, mAndV, mOrV, mNotV, mIf, mPart, asI, mSlT, slT, mSlL, mCatL, mCB, intO, absO, maxO, minO, seqD, lstD, tupD, bName, bTup, bLst, bNil, bCons, bRd, mFrz, freeze, mRetV, toOut, setSh, setOw, free, putOwn, ownAt, lstO, mLM, appF, popF, mSetIx, setF, mAug, addI, subI, ltI, leI, gtI, geI, addA, addT, addS, addL, isNO, notNO, isN, eqO, neO, eqD, toV, mNeg, negD, mChain, mBor, mCall, evAr, anyAt, Mir.fill, okIx, ioIx, boIx, back_s, back_b, back_t, back_e, back_ss, back_sb, back_st, back_se, back_bs, back_bb, back_bt, back_be, back_ts, back_tb, back_tt, back_te, back_es, back_eb, back_et, back_ee, back_sss, back_ssb, back_sst, back_sbs, back_sbb, back_sbt, back_sts, back_stb, back_stt, back_bss, back_bsb, back_bst, back_bbs, back_bbb, back_bbt, back_bts, back_btb, back_btt, back_tss, back_tsb, back_tst, back_tbs, back_tbb, back_tbt, back_tts, back_ttb, back_ttt, back_ssss, back_sssss, back_bsss, back, Ar.md, cont, startE, slOf, plains, Mir.plain, clearE, restE, Sq.ds, runF, List.zipWith, List.getElem?_cons_zero, List.getElem?_cons_succ, List.getElem?_nil, List.replicate, List.cons_append, List.nil_append, List.set_cons_zero, List.set_cons_succ, List.length_cons, List.length_nil, List.map_cons, List.map_nil, List.all_cons, List.all_nil, List.getD_cons_zero, List.getD_cons_succ, Option.map_some, Option.map_none, Option.bind_some, Option.bind_none, Option.isSome_some, Bool.and_true, Bool.true_and, Bool.and_false, Bool.false_and, Bool.not_true, Bool.not_false, if_true, if_false, ite_true, ite_false, reduceIte, reduceCtorEq, Nat.reduceAdd, Nat.reduceSub, Nat.reduceMul, Nat.reduceLeDiff, Nat.reduceLT, Nat.reduceEqDiff, Int.reduceNeg, Bool.false_eq_true, decide_eq_true_eq, decide_true, decide_false, Nat.zero_add, Option.some.injEq, Sl.ow.injEq, Sl.sh.injEq, and_self, and_true, true_and, List.contains_cons, List.contains_nil, List.nodup_nil, List.nodup_cons, List.not_mem_nil, not_false_eq_true, isi_lst, eqV, scal]
  | n + 1, .ins _ _, h => False.elim h
end K58
namespace K58
open PySem PySem.Spec PyProof.Rows L2 Mir
theorem a1_val (ns : List Int) : ∃ (a b : Int), m_a1 (Sl.sh (.lst (ns.map .int)) :: List.replicate 13 .no) = .ok .nx (.sh (.lst (ns.map .int)) :: .ow (.lst [.int a, .int b]) :: List.replicate 12 .no) ∧ Row a b := by
  obtain ⟨a, b, ds, e1, r1⟩ := row_val (ns := ns) (k := 0) (by decide) (by decide)
  refine ⟨a, b, ?_, r1⟩
  simp only [m_a1, t1_a1, few_ok, atI_zero, atI_one, atI_two, atI_three, ixN_20, ixN_21, ixN_40, ixN_41, ixN_42, ixN_43, Int.reduceLT, Int.reduceLE, Int.natCast_add, Int.cast_ofNat_Int, List.length_map, List.length_append, mSeq, bnd, mOp, mVar, mOnSq, mSl, readAt, asSq, rd, Mir.ret, lft, iOp, mCons, mTup, mLst, mSq, mIx, ixD, mIn, mB, asB, mAnd, mOr, mNot, mAndV, mOrV, mNotV, mIf, mPart, asI, mSlT, slT, mSlL, mCatL, mCB, intO, absO, maxO, minO, seqD, lstD, tupD, bName, bTup, bLst, bNil, bCons, bRd, mFrz, freeze, mRetV, toOut, setSh, setOw, free, putOwn, ownAt, lstO, mLM, appF, popF, mSetIx, setF, mAug, addI, subI, ltI, leI, gtI, geI, addA, addT, addS, addL, isNO, notNO, isN, eqO, neO, eqD, toV, mNeg, negD, mChain, mBor, mCall, evAr, anyAt, Mir.fill, okIx, ioIx, boIx, back_s, back_b, back_t, back_e, back_ss, back_sb, back_st, back_se, back_bs, back_bb, back_bt, back_be, back_ts, back_tb, back_tt, back_te, back_es, back_eb, back_et, back_ee, back_sss, back_ssb, back_sst, back_sbs, back_sbb, back_sbt, back_sts, back_stb, back_stt, back_bss, back_bsb, back_bst, back_bbs, back_bbb, back_bbt, back_bts, back_btb, back_btt, back_tss, back_tsb, back_tst, back_tbs, back_tbb, back_tbt, back_tts, back_ttb, back_ttt, back_ssss, back_sssss, back_bsss, back, Ar.md, cont, startE, slOf, plains, Mir.plain, clearE, restE, Sq.ds, runF, List.zipWith, List.getElem?_cons_zero, List.getElem?_cons_succ, List.getElem?_nil, List.replicate, List.cons_append, List.nil_append, List.set_cons_zero, List.set_cons_succ, List.length_cons, List.length_nil, List.map_cons, List.map_nil, List.all_cons, List.all_nil, List.getD_cons_zero, List.getD_cons_succ, Option.map_some, Option.map_none, Option.bind_some, Option.bind_none, Option.isSome_some, Bool.and_true, Bool.true_and, Bool.and_false, Bool.false_and, Bool.not_true, Bool.not_false, if_true, if_false, ite_true, ite_false, reduceIte, reduceCtorEq, Nat.reduceAdd, Nat.reduceSub, Nat.reduceMul, Nat.reduceLeDiff, Nat.reduceLT, Nat.reduceEqDiff, Int.reduceNeg, Bool.false_eq_true, decide_eq_true_eq, decide_true, decide_false, Nat.zero_add, Option.some.injEq, Sl.ow.injEq, Sl.sh.injEq, and_self, and_true, true_and, List.contains_cons, List.contains_nil, List.nodup_nil, List.nodup_cons, List.not_mem_nil, not_false_eq_true, e1]
theorem a2_val (ns : List Int) {a b : Int} (r : Row a b) : ∃ (c : Nat) (a' b' : Int), m_a2 (.sh (.lst (ns.map .int)) :: .ow (.lst [.int a, .int b]) :: List.replicate 12 .no) = .ok .nx (.sh (.lst (ns.map .int)) :: .ow (.lst [.int a', .int b']) :: .sh (.int (c : Int)) :: List.replicate 11 .no) ∧ Row a' b' ∧ c ≤ 60 := by
  obtain ⟨v, a2, b2, e2, r2, v0, v1⟩ := draw_val r (n := 60) (by decide) (by decide)
  obtain ⟨c, hc⟩ : ∃ c : Nat, 1 + v = (c : Int) := ⟨(1 + v).toNat, by omega⟩
  refine ⟨c, a2, b2, ?_, r2, by omega⟩
  simp only [m_a2, t1_a2, few_ok, atI_zero, atI_one, atI_two, atI_three, ixN_20, ixN_21, ixN_40, ixN_41, ixN_42, ixN_43, Int.reduceLT, Int.reduceLE, Int.natCast_add, Int.cast_ofNat_Int, List.length_map, List.length_append, mSeq, bnd, mOp, mVar, mOnSq, mSl, readAt, asSq, rd, Mir.ret, lft, iOp, mCons, mTup, mLst, mSq, mIx, ixD, mIn, mB, asB, mAnd, mOr, mNot, mAndV, mOrV, mNotV, mIf, mPart, asI, mSlT, slT, mSlL, mCatL, mCB, intO, absO, maxO, minO, seqD, lstD, tupD, bName, bTup, bLst, bNil, bCons, bRd, mFrz, freeze, mRetV, toOut, setSh, setOw, free, putOwn, ownAt, lstO, mLM, appF, popF, mSetIx, setF, mAug, addI, subI, ltI, leI, gtI, geI, addA, addT, addS, addL, isNO, notNO, isN, eqO, neO, eqD, toV, mNeg, negD, mChain, mBor, mCall, evAr, anyAt, Mir.fill, okIx, ioIx, boIx, back_s, back_b, back_t, back_e, back_ss, back_sb, back_st, back_se, back_bs, back_bb, back_bt, back_be, back_ts, back_tb, back_tt, back_te, back_es, back_eb, back_et, back_ee, back_sss, back_ssb, back_sst, back_sbs, back_sbb, back_sbt, back_sts, back_stb, back_stt, back_bss, back_bsb, back_bst, back_bbs, back_bbb, back_bbt, back_bts, back_btb, back_btt, back_tss, back_tsb, back_tst, back_tbs, back_tbb, back_tbt, back_tts, back_ttb, back_ttt, back_ssss, back_sssss, back_bsss, back, Ar.md, cont, startE, slOf, plains, Mir.plain, clearE, restE, Sq.ds, runF, List.zipWith, List.getElem?_cons_zero, List.getElem?_cons_succ, List.getElem?_nil, List.replicate, List.cons_append, List.nil_append, List.set_cons_zero, List.set_cons_succ, List.length_cons, List.length_nil, List.map_cons, List.map_nil, List.all_cons, List.all_nil, List.getD_cons_zero, List.getD_cons_succ, Option.map_some, Option.map_none, Option.bind_some, Option.bind_none, Option.isSome_some, Bool.and_true, Bool.true_and, Bool.and_false, Bool.false_and, Bool.not_true, Bool.not_false, if_true, if_false, ite_true, ite_false, reduceIte, reduceCtorEq, Nat.reduceAdd, Nat.reduceSub, Nat.reduceMul, Nat.reduceLeDiff, Nat.reduceLT, Nat.reduceEqDiff, Int.reduceNeg, Bool.false_eq_true, decide_eq_true_eq, decide_true, decide_false, Nat.zero_add, Option.some.injEq, Sl.ow.injEq, Sl.sh.injEq, and_self, and_true, true_and, List.contains_cons, List.contains_nil, List.nodup_nil, List.nodup_cons, List.not_mem_nil, not_false_eq_true, e2, hc]
/-- a world that is as it should be -/
structure WOk (s w : Nat) (hs : List (List Int)) (ps : List Int) (m : Nat) : Prop where
  s1 : 1 ≤ s
  s8 : s ≤ 8
  w8 : w ≤ 8
  lru : LRU s w hs ps
  len : ps.length ≤ m
theorem WOk.set8 {s w m : Nat} {hs : List (List Int)} {ps : List Int} (h : WOk s w hs ps m) : ∀ xs ∈ hs, xs.length ≤ 8 := fun xs hx => by
  obtain ⟨j, hj⟩ := List.mem_iff_getElem?.mp hx
  have := h.w8
  rw [h.lru.2 j xs hj, List.length_take]
  omega
theorem world_ok {a b : Int} {w : Nat} (r : Row a b) (w8 : w ≤ 8) : ∃ s hs a' b' ds, f__law_world [.lst [.int a, .int b], .int (w : Int)] = .ok (wrl s w hs (revs hs)) (.lst [.int a', .int b'] :: .non :: ds) ∧ WOk s w hs (revs hs) 64 := by
  obtain ⟨s, hs, a', b', ds, e, r', h1, h8, hl, hc⟩ := world_val r w8
  refine ⟨s, hs, a', b', ds, e, h1, h8, w8, .start hl hc, ?_⟩
  have := revs_len (by omega) hc s
  rw [List.take_of_length_le (by omega)] at this
  omega
noncomputable def w1M : M D := mCall [.tm (mCall [.sh (mVar 0), .sh (ret (.int 1))] f__law_row), .sh (mCall [.io 1, .sh (ret (.int 9))] f__law_draw)] f__law_world
noncomputable def w2M : M D := mCall [.tm (mCall [.sh (mVar 0), .sh (ret (.int 2))] f__law_row), .sh (mIx (mSq (mLst (mCons (ret (.int 0)) (mCons (ret (.int 1)) (mCons (ret (.int 2)) (mCons (ret (.int 8)) (ret []))))))) (mCall [.io 1, .sh (ret (.int 4))] f__law_draw))] f__law_world
theorem w1_val (ns : List Int) {a b : Int} {c f : Sl} {e : En} (r : Row a b) : ∃ s w hs a' b', w1M (.sh (.lst (ns.map .int)) :: .ow (.lst [.int a, .int b]) :: c :: f :: e) = .ok (wrl s w hs (revs hs)) (.sh (.lst (ns.map .int)) :: .ow (.lst [.int a', .int b']) :: c :: f :: e) ∧ Row a' b' ∧ WOk s w hs (revs hs) 64 := by
  obtain ⟨p, q, ds, e1, r1⟩ := row_val (ns := ns) (k := 1) (by decide) (by decide)
  obtain ⟨v, a2, b2, e2, r2, v0, v1⟩ := draw_val r (n := 9) (by decide) (by decide)
  obtain ⟨w, rfl⟩ : ∃ w : Nat, v = (w : Int) := ⟨v.toNat, by omega⟩
  obtain ⟨s, hs, a3, b3, ds3, e3, wk⟩ := world_ok r1 (w := w) (by omega)
  refine ⟨s, w, hs, a2, b2, ?_, r2, wk⟩
  simp only [w1M, few_ok, atI_zero, atI_one, atI_two, atI_three, ixN_20, ixN_21, ixN_40, ixN_41, ixN_42, ixN_43, Int.reduceLT, Int.reduceLE, Int.natCast_add, Int.cast_ofNat_Int, List.length_map, List.length_append, mSeq, bnd, mOp, mVar, mOnSq, mSl, readAt, asSq, rd, Mir.ret, lft, iOp, mCons, mTup, mLst, mSq, mIx, ixD, mIn, mB, asB, mAnd, mOr, mNot, mAndV, mOrV, mNotV, mIf, mPart, asI, mSlT, slT, mSlL, mCatL, mCB, intO, absO, maxO, minO, seqD, lstD, tupD, bName, bTup, bLst, bNil, bCons, bRd, mFrz, freeze, mRetV, toOut, setSh, setOw, free, putOwn, ownAt, lstO, mLM, appF, popF, mSetIx, setF, mAug, addI, subI, ltI, leI, gtI, geI, addA, addT, addS, addL, isNO, notNO, isN, eqO, neO, eqD, toV, mNeg, negD, mChain, mBor, mCall, evAr, anyAt, Mir.fill, okIx, ioIx, boIx, back_s, back_b, back_t, back_e, back_ss, back_sb, back_st, back_se, back_bs, back_bb, back_bt, back_be, back_ts, back_tb, back_tt, back_te, back_es, back_eb, back_et, back_ee, back_sss, back_ssb, back_sst, back_sbs, back_sbb, back_sbt, back_sts, back_stb, back_stt, back_bss, back_bsb, back_bst, back_bbs, back_bbb, back_bbt, back_bts, back_btb, back_btt, back_tss, back_tsb, back_tst, back_tbs, back_tbb, back_tbt, back_tts, back_ttb, back_ttt, back_ssss, back_sssss, back_bsss, back, Ar.md, cont, startE, slOf, plains, Mir.plain, clearE, restE, Sq.ds, runF, List.zipWith, List.getElem?_cons_zero, List.getElem?_cons_succ, List.getElem?_nil, List.replicate, List.cons_append, List.nil_append, List.set_cons_zero, List.set_cons_succ, List.length_cons, List.length_nil, List.map_cons, List.map_nil, List.all_cons, List.all_nil, List.getD_cons_zero, List.getD_cons_succ, Option.map_some, Option.map_none, Option.bind_some, Option.bind_none, Option.isSome_some, Bool.and_true, Bool.true_and, Bool.and_false, Bool.false_and, Bool.not_true, Bool.not_false, if_true, if_false, ite_true, ite_false, reduceIte, reduceCtorEq, Nat.reduceAdd, Nat.reduceSub, Nat.reduceMul, Nat.reduceLeDiff, Nat.reduceLT, Nat.reduceEqDiff, Int.reduceNeg, Bool.false_eq_true, decide_eq_true_eq, decide_true, decide_false, Nat.zero_add, Option.some.injEq, Sl.ow.injEq, Sl.sh.injEq, and_self, and_true, true_and, List.contains_cons, List.contains_nil, List.nodup_nil, List.nodup_cons, List.not_mem_nil, not_false_eq_true, e1, e2, e3]
theorem w2_val (ns : List Int) {a b : Int} {c f : Sl} {e : En} (r : Row a b) : ∃ s w hs a' b', w2M (.sh (.lst (ns.map .int)) :: .ow (.lst [.int a, .int b]) :: c :: f :: e) = .ok (wrl s w hs (revs hs)) (.sh (.lst (ns.map .int)) :: .ow (.lst [.int a', .int b']) :: c :: f :: e) ∧ Row a' b' ∧ WOk s w hs (revs hs) 64 := by
  obtain ⟨p, q, ds, e1, r1⟩ := row_val (ns := ns) (k := 2) (by decide) (by decide)
  obtain ⟨v, a2, b2, e2, r2, v0, v1⟩ := draw_val r (n := 4) (by decide) (by decide)
  obtain ⟨w, hw, w8⟩ : ∃ w : Nat, atI [D.int 0, D.int 1, D.int 2, D.int 8] v = some (.int (w : Int)) ∧ w ≤ 8 := by
    have : v = 0 ∨ v = 1 ∨ v = 2 ∨ v = 3 := by omega
    rcases this with rfl | rfl | rfl | rfl
    · exact ⟨0, atI_zero, by decide⟩
    · exact ⟨1, atI_one, by decide⟩
    · exact ⟨2, atI_two, by decide⟩
    · exact ⟨8, atI_three, by decide⟩
  obtain ⟨s, hs, a3, b3, ds3, e3, wk⟩ := world_ok r1 (w := w) w8
  refine ⟨s, w, hs, a2, b2, ?_, r2, wk⟩
  simp only [w2M, few_ok, atI_zero, atI_one, atI_two, atI_three, ixN_20, ixN_21, ixN_40, ixN_41, ixN_42, ixN_43, Int.reduceLT, Int.reduceLE, Int.natCast_add, Int.cast_ofNat_Int, List.length_map, List.length_append, mSeq, bnd, mOp, mVar, mOnSq, mSl, readAt, asSq, rd, Mir.ret, lft, iOp, mCons, mTup, mLst, mSq, mIx, ixD, mIn, mB, asB, mAnd, mOr, mNot, mAndV, mOrV, mNotV, mIf, mPart, asI, mSlT, slT, mSlL, mCatL, mCB, intO, absO, maxO, minO, seqD, lstD, tupD, bName, bTup, bLst, bNil, bCons, bRd, mFrz, freeze, mRetV, toOut, setSh, setOw, free, putOwn, ownAt, lstO, mLM, appF, popF, mSetIx, setF, mAug, addI, subI, ltI, leI, gtI, geI, addA, addT, addS, addL, isNO, notNO, isN, eqO, neO, eqD, toV, mNeg, negD, mChain, mBor, mCall, evAr, anyAt, Mir.fill, okIx, ioIx, boIx, back_s, back_b, back_t, back_e, back_ss, back_sb, back_st, back_se, back_bs, back_bb, back_bt, back_be, back_ts, back_tb, back_tt, back_te, back_es, back_eb, back_et, back_ee, back_sss, back_ssb, back_sst, back_sbs, back_sbb, back_sbt, back_sts, back_stb, back_stt, back_bss, back_bsb, back_bst, back_bbs, back_bbb, back_bbt, back_bts, back_btb, back_btt, back_tss, back_tsb, back_tst, back_tbs, back_tbb, back_tbt, back_tts, back_ttb, back_ttt, back_ssss, back_sssss, back_bsss, back, Ar.md, cont, startE, slOf, plains, Mir.plain, clearE, restE, Sq.ds, runF, List.zipWith, List.getElem?_cons_zero, List.getElem?_cons_succ, List.getElem?_nil, List.replicate, List.cons_append, List.nil_append, List.set_cons_zero, List.set_cons_succ, List.length_cons, List.length_nil, List.map_cons, List.map_nil, List.all_cons, List.all_nil, List.getD_cons_zero, List.getD_cons_succ, Option.map_some, Option.map_none, Option.bind_some, Option.bind_none, Option.isSome_some, Bool.and_true, Bool.true_and, Bool.and_false, Bool.false_and, Bool.not_true, Bool.not_false, if_true, if_false, ite_true, ite_false, reduceIte, reduceCtorEq, Nat.reduceAdd, Nat.reduceSub, Nat.reduceMul, Nat.reduceLeDiff, Nat.reduceLT, Nat.reduceEqDiff, Int.reduceNeg, Bool.false_eq_true, decide_eq_true_eq, decide_true, decide_false, Nat.zero_add, Option.some.injEq, Sl.ow.injEq, Sl.sh.injEq, and_self, and_true, true_and, List.contains_cons, List.contains_nil, List.nodup_nil, List.nodup_cons, List.not_mem_nil, not_false_eq_true, e1, e2, hw, e3]
/-- what is kept of the first turns -/
def FirstOk (d : D) : Prop := ∃ (hd due : D) (line w : Int), d = .lst [hd, .int line, .int w, due] ∧ (∃ ds, f_touch [hd, .int line, .int w] = .ok due ds) ∧ Pl 3 due
theorem pl_due {b : Bool} {hs : List (List Int)} (h1 : hs.length ≤ 1000) (h2 : ∀ xs ∈ hs, xs.length ≤ 1000) : Pl 3 (.tup [.bl b, .tup (hs.map dt)]) := by
  refine ⟨show 2 ≤ 1000000 by decide, fun d hd => ?_⟩
  rcases List.mem_cons.mp hd with rfl | hd
  · exact trivial
  · rw [List.mem_singleton.mp hd]
    refine ⟨by rw [List.length_map]; omega, fun d hd => ?_⟩
    obtain ⟨xs, hx, rfl⟩ := List.mem_map.mp hd
    have := h2 xs hx
    refine ⟨by rw [List.length_map]; omega, fun d hd => ?_⟩
    obtain ⟨x, _, rfl⟩ := List.mem_map.mp hd
    exact trivial
end K58
namespace K58
open PySem PySem.Spec PyProof.Rows L2 Mir
theorem b1_val {ns : List Int} {rw_ ct pw x7 x8 x9 x10 x11 x12 x13 : Sl} {fs : List D} {k s w : Nat} {hs : List (List Int)} {ps : List Int} {m : Nat} (hk : k ≤ 100) (h : WOk s w hs ps m) (hm : m ≤ 1000) (p : Mir.plain x7 = true) : ∃ line : Int, t1_b [.sh (.lst (ns.map .int)), rw_, ct, pw, .ow (.lst fs), .sh (.int (k : Int)), .io (wrl s w hs ps), x7, x8, x9, x10, x11, x12, x13] = .ok .nx [.sh (.lst (ns.map .int)), rw_, ct, pw, .ow (.lst fs), .sh (.int (k : Int)), .io (wrl s w hs ps), .sh (.int line), x8, x9, x10, x11, x12, x13] := by
  obtain ⟨a, b, ds, e1, r1⟩ := row_val (ns := ns) (k := 3 + (k : Int)) (by omega) (by omega)
  obtain ⟨line, a2, b2, ds2, e2, r2⟩ := line_val (s := s) (w := w) (hs := hs) (ps := ps) r1 h.s1 h.s8 h.w8 h.lru.1 h.set8 (by have := h.len; omega)
  refine ⟨line, ?_⟩
  simp only [t1_b, few_ok, atI_zero, atI_one, atI_two, atI_three, ixN_20, ixN_21, ixN_40, ixN_41, ixN_42, ixN_43, Int.reduceLT, Int.reduceLE, Int.natCast_add, Int.cast_ofNat_Int, List.length_map, List.length_append, mSeq, bnd, mOp, mVar, mOnSq, mSl, readAt, asSq, rd, Mir.ret, lft, iOp, mCons, mTup, mLst, mSq, mIx, ixD, mIn, mB, asB, mAnd, mOr, mNot, mAndV, mOrV, mNotV, mIf, mPart, asI, mSlT, slT, mSlL, mCatL, mCB, intO, absO, maxO, minO, seqD, lstD, tupD, bName, bTup, bLst, bNil, bCons, bRd, mFrz, freeze, mRetV, toOut, setSh, setOw, free, putOwn, ownAt, lstO, mLM, appF, popF, mSetIx, setF, mAug, addI, subI, ltI, leI, gtI, geI, addA, addT, addS, addL, isNO, notNO, isN, eqO, neO, eqD, toV, mNeg, negD, mChain, mBor, mCall, evAr, anyAt, Mir.fill, okIx, ioIx, boIx, back_s, back_b, back_t, back_e, back_ss, back_sb, back_st, back_se, back_bs, back_bb, back_bt, back_be, back_ts, back_tb, back_tt, back_te, back_es, back_eb, back_et, back_ee, back_sss, back_ssb, back_sst, back_sbs, back_sbb, back_sbt, back_sts, back_stb, back_stt, back_bss, back_bsb, back_bst, back_bbs, back_bbb, back_bbt, back_bts, back_btb, back_btt, back_tss, back_tsb, back_tst, back_tbs, back_tbb, back_tbt, back_tts, back_ttb, back_ttt, back_ssss, back_sssss, back_bsss, back, Ar.md, cont, startE, slOf, plains, Mir.plain, clearE, restE, Sq.ds, runF, List.zipWith, List.getElem?_cons_zero, List.getElem?_cons_succ, List.getElem?_nil, List.replicate, List.cons_append, List.nil_append, List.set_cons_zero, List.set_cons_succ, List.length_cons, List.length_nil, List.map_cons, List.map_nil, List.all_cons, List.all_nil, List.getD_cons_zero, List.getD_cons_succ, Option.map_some, Option.map_none, Option.bind_some, Option.bind_none, Option.isSome_some, Bool.and_true, Bool.true_and, Bool.and_false, Bool.false_and, Bool.not_true, Bool.not_false, if_true, if_false, ite_true, ite_false, reduceIte, reduceCtorEq, Nat.reduceAdd, Nat.reduceSub, Nat.reduceMul, Nat.reduceLeDiff, Nat.reduceLT, Nat.reduceEqDiff, Int.reduceNeg, Bool.false_eq_true, decide_eq_true_eq, decide_true, decide_false, Nat.zero_add, Option.some.injEq, Sl.ow.injEq, Sl.sh.injEq, and_self, and_true, true_and, List.contains_cons, List.contains_nil, List.nodup_nil, List.nodup_cons, List.not_mem_nil, not_false_eq_true, e1, e2]
  cases x7 <;> first | rfl | cases p
theorem b2_val {ns : List Int} {rw_ ct pw x8 x9 x10 x11 x12 x13 : Sl} {fs : List D} {k s w : Nat} {hs : List (List Int)} {ps : List Int} {line : Int} (h : hs.length ≤ 1000) (p : Mir.plain x8 = true) : t2_b [.sh (.lst (ns.map .int)), rw_, ct, pw, .ow (.lst fs), .sh (.int (k : Int)), .io (wrl s w hs ps), .sh (.int line), x8, x9, x10, x11, x12, x13] = .ok .nx [.sh (.lst (ns.map .int)), rw_, ct, pw, .ow (.lst fs), .sh (.int (k : Int)), .io (wrl s w hs ps), .sh (.int line), .sh (.tup (hs.map dt)), x9, x10, x11, x12, x13] := by
  have e := tuples_val h
  simp only [t2_b, wrl, few_ok, atI_zero, atI_one, atI_two, atI_three, ixN_20, ixN_21, ixN_40, ixN_41, ixN_42, ixN_43, Int.reduceLT, Int.reduceLE, Int.natCast_add, Int.cast_ofNat_Int, List.length_map, List.length_append, mSeq, bnd, mOp, mVar, mOnSq, mSl, readAt, asSq, rd, Mir.ret, lft, iOp, mCons, mTup, mLst, mSq, mIx, ixD, mIn, mB, asB, mAnd, mOr, mNot, mAndV, mOrV, mNotV, mIf, mPart, asI, mSlT, slT, mSlL, mCatL, mCB, intO, absO, maxO, minO, seqD, lstD, tupD, bName, bTup, bLst, bNil, bCons, bRd, mFrz, freeze, mRetV, toOut, setSh, setOw, free, putOwn, ownAt, lstO, mLM, appF, popF, mSetIx, setF, mAug, addI, subI, ltI, leI, gtI, geI, addA, addT, addS, addL, isNO, notNO, isN, eqO, neO, eqD, toV, mNeg, negD, mChain, mBor, mCall, evAr, anyAt, Mir.fill, okIx, ioIx, boIx, back_s, back_b, back_t, back_e, back_ss, back_sb, back_st, back_se, back_bs, back_bb, back_bt, back_be, back_ts, back_tb, back_tt, back_te, back_es, back_eb, back_et, back_ee, back_sss, back_ssb, back_sst, back_sbs, back_sbb, back_sbt, back_sts, back_stb, back_stt, back_bss, back_bsb, back_bst, back_bbs, back_bbb, back_bbt, back_bts, back_btb, back_btt, back_tss, back_tsb, back_tst, back_tbs, back_tbb, back_tbt, back_tts, back_ttb, back_ttt, back_ssss, back_sssss, back_bsss, back, Ar.md, cont, startE, slOf, plains, Mir.plain, clearE, restE, Sq.ds, runF, List.zipWith, List.getElem?_cons_zero, List.getElem?_cons_succ, List.getElem?_nil, List.replicate, List.cons_append, List.nil_append, List.set_cons_zero, List.set_cons_succ, List.length_cons, List.length_nil, List.map_cons, List.map_nil, List.all_cons, List.all_nil, List.getD_cons_zero, List.getD_cons_succ, Option.map_some, Option.map_none, Option.bind_some, Option.bind_none, Option.isSome_some, Bool.and_true, Bool.true_and, Bool.and_false, Bool.false_and, Bool.not_true, Bool.not_false, if_true, if_false, ite_true, ite_false, reduceIte, reduceCtorEq, Nat.reduceAdd, Nat.reduceSub, Nat.reduceMul, Nat.reduceLeDiff, Nat.reduceLT, Nat.reduceEqDiff, Int.reduceNeg, Bool.false_eq_true, decide_eq_true_eq, decide_true, decide_false, Nat.zero_add, Option.some.injEq, Sl.ow.injEq, Sl.sh.injEq, and_self, and_true, true_and, List.contains_cons, List.contains_nil, List.nodup_nil, List.nodup_cons, List.not_mem_nil, not_false_eq_true, e]
  cases x8 <;> first | rfl | cases p
theorem b3_val {ns : List Int} {rw_ ct pw x9 x10 x11 x12 x13 : Sl} {fs : List D} {k s w : Nat} {hs : List (List Int)} {ps : List Int} {line : Int} {j : Nat} {ls : List Int} (hj : hs[j]? = some ls) (he : line % (s : Int) = (j : Int)) (s1 : 1 ≤ s) (hc : hs.length ≤ 1000) (hl : ls.length ≤ 1000) (p : Mir.plain x9 = true) (p2 : Mir.plain x10 = true) : t3_b [.sh (.lst (ns.map .int)), rw_, ct, pw, .ow (.lst fs), .sh (.int (k : Int)), .io (wrl s w hs ps), .sh (.int line), .sh (.tup (hs.map dt)), x9, x10, x11, x12, x13] = .ok .nx [.sh (.lst (ns.map .int)), rw_, ct, pw, .ow (.lst fs), .sh (.int (k : Int)), .io (wrl s w hs ps), .sh (.int line), .sh (.tup (hs.map dt)), .sh (.bl (decide (line ∈ ls))), .sh (.lst ((hs.set j (mv ls line w)).map dl)), x11, x12, x13] := by
  obtain ⟨ds, e⟩ := touched_val (w := w) (ps := ps) hj he s1 hc hl
  simp only [t3_b, few_ok, atI_zero, atI_one, atI_two, atI_three, ixN_20, ixN_21, ixN_40, ixN_41, ixN_42, ixN_43, Int.reduceLT, Int.reduceLE, Int.natCast_add, Int.cast_ofNat_Int, List.length_map, List.length_append, mSeq, bnd, mOp, mVar, mOnSq, mSl, readAt, asSq, rd, Mir.ret, lft, iOp, mCons, mTup, mLst, mSq, mIx, ixD, mIn, mB, asB, mAnd, mOr, mNot, mAndV, mOrV, mNotV, mIf, mPart, asI, mSlT, slT, mSlL, mCatL, mCB, intO, absO, maxO, minO, seqD, lstD, tupD, bName, bTup, bLst, bNil, bCons, bRd, mFrz, freeze, mRetV, toOut, setSh, setOw, free, putOwn, ownAt, lstO, mLM, appF, popF, mSetIx, setF, mAug, addI, subI, ltI, leI, gtI, geI, addA, addT, addS, addL, isNO, notNO, isN, eqO, neO, eqD, toV, mNeg, negD, mChain, mBor, mCall, evAr, anyAt, Mir.fill, okIx, ioIx, boIx, back_s, back_b, back_t, back_e, back_ss, back_sb, back_st, back_se, back_bs, back_bb, back_bt, back_be, back_ts, back_tb, back_tt, back_te, back_es, back_eb, back_et, back_ee, back_sss, back_ssb, back_sst, back_sbs, back_sbb, back_sbt, back_sts, back_stb, back_stt, back_bss, back_bsb, back_bst, back_bbs, back_bbb, back_bbt, back_bts, back_btb, back_btt, back_tss, back_tsb, back_tst, back_tbs, back_tbb, back_tbt, back_tts, back_ttb, back_ttt, back_ssss, back_sssss, back_bsss, back, Ar.md, cont, startE, slOf, plains, Mir.plain, clearE, restE, Sq.ds, runF, List.zipWith, List.getElem?_cons_zero, List.getElem?_cons_succ, List.getElem?_nil, List.replicate, List.cons_append, List.nil_append, List.set_cons_zero, List.set_cons_succ, List.length_cons, List.length_nil, List.map_cons, List.map_nil, List.all_cons, List.all_nil, List.getD_cons_zero, List.getD_cons_succ, Option.map_some, Option.map_none, Option.bind_some, Option.bind_none, Option.isSome_some, Bool.and_true, Bool.true_and, Bool.and_false, Bool.false_and, Bool.not_true, Bool.not_false, if_true, if_false, ite_true, ite_false, reduceIte, reduceCtorEq, Nat.reduceAdd, Nat.reduceSub, Nat.reduceMul, Nat.reduceLeDiff, Nat.reduceLT, Nat.reduceEqDiff, Int.reduceNeg, Bool.false_eq_true, decide_eq_true_eq, decide_true, decide_false, Nat.zero_add, Option.some.injEq, Sl.ow.injEq, Sl.sh.injEq, and_self, and_true, true_and, List.contains_cons, List.contains_nil, List.nodup_nil, List.nodup_cons, List.not_mem_nil, not_false_eq_true, e]
  cases x9 <;> first | (cases p; done) | skip
  all_goals cases x10 <;> first | rfl | cases p2
theorem b4_val {ns : List Int} {rw_ ct pw x11 x12 x13 : Sl} {fs : List D} {k s w : Nat} {hs : List (List Int)} {ps : List Int} {line : Int} {j : Nat} {ls : List Int} (h : (hs.set j (mv ls line w)).length ≤ 1000) (p : Mir.plain x11 = true) : t4_b [.sh (.lst (ns.map .int)), rw_, ct, pw, .ow (.lst fs), .sh (.int (k : Int)), .io (wrl s w hs ps), .sh (.int line), .sh (.tup (hs.map dt)), .sh (.bl (decide (line ∈ ls))), .sh (.lst ((hs.set j (mv ls line w)).map dl)), x11, x12, x13] = .ok .nx [.sh (.lst (ns.map .int)), rw_, ct, pw, .ow (.lst fs), .sh (.int (k : Int)), .io (wrl s w hs ps), .sh (.int line), .sh (.tup (hs.map dt)), .sh (.bl (decide (line ∈ ls))), .sh (.lst ((hs.set j (mv ls line w)).map dl)), .sh (.tup [.bl (decide (line ∈ ls)), .tup ((hs.set j (mv ls line w)).map dt)]), x12, x13] := by
  have e := tuples_val h
  simp only [t4_b, few_ok, atI_zero, atI_one, atI_two, atI_three, ixN_20, ixN_21, ixN_40, ixN_41, ixN_42, ixN_43, Int.reduceLT, Int.reduceLE, Int.natCast_add, Int.cast_ofNat_Int, List.length_map, List.length_append, mSeq, bnd, mOp, mVar, mOnSq, mSl, readAt, asSq, rd, Mir.ret, lft, iOp, mCons, mTup, mLst, mSq, mIx, ixD, mIn, mB, asB, mAnd, mOr, mNot, mAndV, mOrV, mNotV, mIf, mPart, asI, mSlT, slT, mSlL, mCatL, mCB, intO, absO, maxO, minO, seqD, lstD, tupD, bName, bTup, bLst, bNil, bCons, bRd, mFrz, freeze, mRetV, toOut, setSh, setOw, free, putOwn, ownAt, lstO, mLM, appF, popF, mSetIx, setF, mAug, addI, subI, ltI, leI, gtI, geI, addA, addT, addS, addL, isNO, notNO, isN, eqO, neO, eqD, toV, mNeg, negD, mChain, mBor, mCall, evAr, anyAt, Mir.fill, okIx, ioIx, boIx, back_s, back_b, back_t, back_e, back_ss, back_sb, back_st, back_se, back_bs, back_bb, back_bt, back_be, back_ts, back_tb, back_tt, back_te, back_es, back_eb, back_et, back_ee, back_sss, back_ssb, back_sst, back_sbs, back_sbb, back_sbt, back_sts, back_stb, back_stt, back_bss, back_bsb, back_bst, back_bbs, back_bbb, back_bbt, back_bts, back_btb, back_btt, back_tss, back_tsb, back_tst, back_tbs, back_tbb, back_tbt, back_tts, back_ttb, back_ttt, back_ssss, back_sssss, back_bsss, back, Ar.md, cont, startE, slOf, plains, Mir.plain, clearE, restE, Sq.ds, runF, List.zipWith, List.getElem?_cons_zero, List.getElem?_cons_succ, List.getElem?_nil, List.replicate, List.cons_append, List.nil_append, List.set_cons_zero, List.set_cons_succ, List.length_cons, List.length_nil, List.map_cons, List.map_nil, List.all_cons, List.all_nil, List.getD_cons_zero, List.getD_cons_succ, Option.map_some, Option.map_none, Option.bind_some, Option.bind_none, Option.isSome_some, Bool.and_true, Bool.true_and, Bool.and_false, Bool.false_and, Bool.not_true, Bool.not_false, if_true, if_false, ite_true, ite_false, reduceIte, reduceCtorEq, Nat.reduceAdd, Nat.reduceSub, Nat.reduceMul, Nat.reduceLeDiff, Nat.reduceLT, Nat.reduceEqDiff, Int.reduceNeg, Bool.false_eq_true, decide_eq_true_eq, decide_true, decide_false, Nat.zero_add, Option.some.injEq, Sl.ow.injEq, Sl.sh.injEq, and_self, and_true, true_and, List.contains_cons, List.contains_nil, List.nodup_nil, List.nodup_cons, List.not_mem_nil, not_false_eq_true, e]
  cases x11 <;> first | rfl | cases p
theorem b5_val {ns : List Int} {rw_ ct pw x12 x13 : Sl} {fs : List D} {k s w : Nat} {hs : List (List Int)} {ps : List Int} {line : Int} {j : Nat} {ls : List Int} (hj : hs[j]? = some ls) (he : line % (hs.length : Int) = (j : Int)) (hc : hs.length ≤ 1000) (hl : ls.length ≤ 1000) (hw : w ≤ 1000) (p : Mir.plain x12 = true) : t5_b [.sh (.lst (ns.map .int)), rw_, ct, pw, .ow (.lst fs), .sh (.int (k : Int)), .io (wrl s w hs ps), .sh (.int line), .sh (.tup (hs.map dt)), .sh (.bl (decide (line ∈ ls))), .sh (.lst ((hs.set j (mv ls line w)).map dl)), .sh (.tup [.bl (decide (line ∈ ls)), .tup ((hs.set j (mv ls line w)).map dt)]), x12, x13] = .ok .nx [.sh (.lst (ns.map .int)), rw_, ct, pw, .ow (.lst fs), .sh (.int (k : Int)), .io (wrl s w hs ps), .sh (.int line), .sh (.tup (hs.map dt)), .sh (.bl (decide (line ∈ ls))), .sh (.lst ((hs.set j (mv ls line w)).map dl)), .sh (.tup [.bl (decide (line ∈ ls)), .tup ((hs.set j (mv ls line w)).map dt)]), .sh (.tup [.bl (decide (line ∈ ls)), .tup ((hs.set j (mv ls line w)).map dt)]), x13] := by
  obtain ⟨ds, e⟩ := touch_val (w := w) hj he hc hl hw
  simp only [t5_b, wrl, few_ok, atI_zero, atI_one, atI_two, atI_three, ixN_20, ixN_21, ixN_40, ixN_41, ixN_42, ixN_43, Int.reduceLT, Int.reduceLE, Int.natCast_add, Int.cast_ofNat_Int, List.length_map, List.length_append, mSeq, bnd, mOp, mVar, mOnSq, mSl, readAt, asSq, rd, Mir.ret, lft, iOp, mCons, mTup, mLst, mSq, mIx, ixD, mIn, mB, asB, mAnd, mOr, mNot, mAndV, mOrV, mNotV, mIf, mPart, asI, mSlT, slT, mSlL, mCatL, mCB, intO, absO, maxO, minO, seqD, lstD, tupD, bName, bTup, bLst, bNil, bCons, bRd, mFrz, freeze, mRetV, toOut, setSh, setOw, free, putOwn, ownAt, lstO, mLM, appF, popF, mSetIx, setF, mAug, addI, subI, ltI, leI, gtI, geI, addA, addT, addS, addL, isNO, notNO, isN, eqO, neO, eqD, toV, mNeg, negD, mChain, mBor, mCall, evAr, anyAt, Mir.fill, okIx, ioIx, boIx, back_s, back_b, back_t, back_e, back_ss, back_sb, back_st, back_se, back_bs, back_bb, back_bt, back_be, back_ts, back_tb, back_tt, back_te, back_es, back_eb, back_et, back_ee, back_sss, back_ssb, back_sst, back_sbs, back_sbb, back_sbt, back_sts, back_stb, back_stt, back_bss, back_bsb, back_bst, back_bbs, back_bbb, back_bbt, back_bts, back_btb, back_btt, back_tss, back_tsb, back_tst, back_tbs, back_tbb, back_tbt, back_tts, back_ttb, back_ttt, back_ssss, back_sssss, back_bsss, back, Ar.md, cont, startE, slOf, plains, Mir.plain, clearE, restE, Sq.ds, runF, List.zipWith, List.getElem?_cons_zero, List.getElem?_cons_succ, List.getElem?_nil, List.replicate, List.cons_append, List.nil_append, List.set_cons_zero, List.set_cons_succ, List.length_cons, List.length_nil, List.map_cons, List.map_nil, List.all_cons, List.all_nil, List.getD_cons_zero, List.getD_cons_succ, Option.map_some, Option.map_none, Option.bind_some, Option.bind_none, Option.isSome_some, Bool.and_true, Bool.true_and, Bool.and_false, Bool.false_and, Bool.not_true, Bool.not_false, if_true, if_false, ite_true, ite_false, reduceIte, reduceCtorEq, Nat.reduceAdd, Nat.reduceSub, Nat.reduceMul, Nat.reduceLeDiff, Nat.reduceLT, Nat.reduceEqDiff, Int.reduceNeg, Bool.false_eq_true, decide_eq_true_eq, decide_true, decide_false, Nat.zero_add, Option.some.injEq, Sl.ow.injEq, Sl.sh.injEq, and_self, and_true, true_and, List.contains_cons, List.contains_nil, List.nodup_nil, List.nodup_cons, List.not_mem_nil, not_false_eq_true, e]
  cases x12 <;> first | rfl | cases p
theorem b6_val {ns : List Int} {rw_ ct pw x13 : Sl} {fs : List D} {k s w : Nat} {hs : List (List Int)} {ps : List Int} {line : Int} {j : Nat} {ls : List Int} (hp : Pl 3 (.tup [.bl (decide (line ∈ ls)), .tup ((hs.set j (mv ls line w)).map dt)])) (hh : hitL w (s : Int) line [] ps.reverse = decide (line ∈ ls)) (s1 : 1 ≤ s) (hl : ps.length ≤ 1000) : t6_b [.sh (.lst (ns.map .int)), rw_, ct, pw, .ow (.lst fs), .sh (.int (k : Int)), .io (wrl s w hs ps), .sh (.int line), .sh (.tup (hs.map dt)), .sh (.bl (decide (line ∈ ls))), .sh (.lst ((hs.set j (mv ls line w)).map dl)), .sh (.tup [.bl (decide (line ∈ ls)), .tup ((hs.set j (mv ls line w)).map dt)]), .sh (.tup [.bl (decide (line ∈ ls)), .tup ((hs.set j (mv ls line w)).map dt)]), x13] = .ok .nx [.sh (.lst (ns.map .int)), rw_, ct, pw, .ow (.lst fs), .sh (.int (k : Int)), .io (wrl s w hs ps), .sh (.int line), .sh (.tup (hs.map dt)), .sh (.bl (decide (line ∈ ls))), .sh (.lst ((hs.set j (mv ls line w)).map dl)), .sh (.tup [.bl (decide (line ∈ ls)), .tup ((hs.set j (mv ls line w)).map dt)]), .sh (.tup [.bl (decide (line ∈ ls)), .tup ((hs.set j (mv ls line w)).map dt)]), x13] := by
  obtain ⟨ds, e⟩ := same_val 3 _ hp
  obtain ⟨ds2, e2⟩ := hits_val (hs := hs) (line := line) (w := w) s1 hl
  rw [hh] at e2
  simp only [t6_b, few_ok, atI_zero, atI_one, atI_two, atI_three, ixN_20, ixN_21, ixN_40, ixN_41, ixN_42, ixN_43, Int.reduceLT, Int.reduceLE, Int.natCast_add, Int.cast_ofNat_Int, List.length_map, List.length_append, mSeq, bnd, mOp, mVar, mOnSq, mSl, readAt, asSq, rd, Mir.ret, lft, iOp, mCons, mTup, mLst, mSq, mIx, ixD, mIn, mB, asB, mAnd, mOr, mNot, mAndV, mOrV, mNotV, mIf, mPart, asI, mSlT, slT, mSlL, mCatL, mCB, intO, absO, maxO, minO, seqD, lstD, tupD, bName, bTup, bLst, bNil, bCons, bRd, mFrz, freeze, mRetV, toOut, setSh, setOw, free, putOwn, ownAt, lstO, mLM, appF, popF, mSetIx, setF, mAug, addI, subI, ltI, leI, gtI, geI, addA, addT, addS, addL, isNO, notNO, isN, eqO, neO, eqD, toV, mNeg, negD, mChain, mBor, mCall, evAr, anyAt, Mir.fill, okIx, ioIx, boIx, back_s, back_b, back_t, back_e, back_ss, back_sb, back_st, back_se, back_bs, back_bb, back_bt, back_be, back_ts, back_tb, back_tt, back_te, back_es, back_eb, back_et, back_ee, back_sss, back_ssb, back_sst, back_sbs, back_sbb, back_sbt, back_sts, back_stb, back_stt, back_bss, back_bsb, back_bst, back_bbs, back_bbb, back_bbt, back_bts, back_btb, back_btt, back_tss, back_tsb, back_tst, back_tbs, back_tbb, back_tbt, back_tts, back_ttb, back_ttt, back_ssss, back_sssss, back_bsss, back, Ar.md, cont, startE, slOf, plains, Mir.plain, clearE, restE, Sq.ds, runF, List.zipWith, List.getElem?_cons_zero, List.getElem?_cons_succ, List.getElem?_nil, List.replicate, List.cons_append, List.nil_append, List.set_cons_zero, List.set_cons_succ, List.length_cons, List.length_nil, List.map_cons, List.map_nil, List.all_cons, List.all_nil, List.getD_cons_zero, List.getD_cons_succ, Option.map_some, Option.map_none, Option.bind_some, Option.bind_none, Option.isSome_some, Bool.and_true, Bool.true_and, Bool.and_false, Bool.false_and, Bool.not_true, Bool.not_false, if_true, if_false, ite_true, ite_false, reduceIte, reduceCtorEq, Nat.reduceAdd, Nat.reduceSub, Nat.reduceMul, Nat.reduceLeDiff, Nat.reduceLT, Nat.reduceEqDiff, Int.reduceNeg, Bool.false_eq_true, decide_eq_true_eq, decide_true, decide_false, Nat.zero_add, Option.some.injEq, Sl.ow.injEq, Sl.sh.injEq, and_self, and_true, true_and, List.contains_cons, List.contains_nil, List.nodup_nil, List.nodup_cons, List.not_mem_nil, not_false_eq_true, e, e2, eqV, scal]
theorem b7_val {ns : List Int} {rw_ ct pw x13 : Sl} {fs : List D} {k s w : Nat} {hs : List (List Int)} {ps : List Int} {line : Int} {j : Nat} {ls : List Int} (hf : fs.length ≤ 1000) : t7_b [.sh (.lst (ns.map .int)), rw_, ct, pw, .ow (.lst fs), .sh (.int (k : Int)), .io (wrl s w hs ps), .sh (.int line), .sh (.tup (hs.map dt)), .sh (.bl (decide (line ∈ ls))), .sh (.lst ((hs.set j (mv ls line w)).map dl)), .sh (.tup [.bl (decide (line ∈ ls)), .tup ((hs.set j (mv ls line w)).map dt)]), .sh (.tup [.bl (decide (line ∈ ls)), .tup ((hs.set j (mv ls line w)).map dt)]), x13] = .ok .nx [.sh (.lst (ns.map .int)), rw_, ct, pw, .ow (.lst (if (k : Int) < 2 then fs ++ [.lst [.tup (hs.map dt), .int line, .int (w : Int), (.tup [.bl (decide (line ∈ ls)), .tup ((hs.set j (mv ls line w)).map dt)])]] else fs)), .sh (.int (k : Int)), .io (wrl s w hs ps), .sh (.int line), .sh (.tup (hs.map dt)), .sh (.bl (decide (line ∈ ls))), .sh (.lst ((hs.set j (mv ls line w)).map dl)), .sh (.tup [.bl (decide (line ∈ ls)), .tup ((hs.set j (mv ls line w)).map dt)]), .sh (.tup [.bl (decide (line ∈ ls)), .tup ((hs.set j (mv ls line w)).map dt)]), x13] := by
  have h1 : fs.length < 1000000 := by omega
  by_cases h : (k : Int) < 2
  · simp only [t7_b, wrl, few_ok, atI_zero, atI_one, atI_two, atI_three, ixN_20, ixN_21, ixN_40, ixN_41, ixN_42, ixN_43, Int.reduceLT, Int.reduceLE, Int.natCast_add, Int.cast_ofNat_Int, List.length_map, List.length_append, mSeq, bnd, mOp, mVar, mOnSq, mSl, readAt, asSq, rd, Mir.ret, lft, iOp, mCons, mTup, mLst, mSq, mIx, ixD, mIn, mB, asB, mAnd, mOr, mNot, mAndV, mOrV, mNotV, mIf, mPart, asI, mSlT, slT, mSlL, mCatL, mCB, intO, absO, maxO, minO, seqD, lstD, tupD, bName, bTup, bLst, bNil, bCons, bRd, mFrz, freeze, mRetV, toOut, setSh, setOw, free, putOwn, ownAt, lstO, mLM, appF, popF, mSetIx, setF, mAug, addI, subI, ltI, leI, gtI, geI, addA, addT, addS, addL, isNO, notNO, isN, eqO, neO, eqD, toV, mNeg, negD, mChain, mBor, mCall, evAr, anyAt, Mir.fill, okIx, ioIx, boIx, back_s, back_b, back_t, back_e, back_ss, back_sb, back_st, back_se, back_bs, back_bb, back_bt, back_be, back_ts, back_tb, back_tt, back_te, back_es, back_eb, back_et, back_ee, back_sss, back_ssb, back_sst, back_sbs, back_sbb, back_sbt, back_sts, back_stb, back_stt, back_bss, back_bsb, back_bst, back_bbs, back_bbb, back_bbt, back_bts, back_btb, back_btt, back_tss, back_tsb, back_tst, back_tbs, back_tbb, back_tbt, back_tts, back_ttb, back_ttt, back_ssss, back_sssss, back_bsss, back, Ar.md, cont, startE, slOf, plains, Mir.plain, clearE, restE, Sq.ds, runF, List.zipWith, List.getElem?_cons_zero, List.getElem?_cons_succ, List.getElem?_nil, List.replicate, List.cons_append, List.nil_append, List.set_cons_zero, List.set_cons_succ, List.length_cons, List.length_nil, List.map_cons, List.map_nil, List.all_cons, List.all_nil, List.getD_cons_zero, List.getD_cons_succ, Option.map_some, Option.map_none, Option.bind_some, Option.bind_none, Option.isSome_some, Bool.and_true, Bool.true_and, Bool.and_false, Bool.false_and, Bool.not_true, Bool.not_false, if_true, if_false, ite_true, ite_false, reduceIte, reduceCtorEq, Nat.reduceAdd, Nat.reduceSub, Nat.reduceMul, Nat.reduceLeDiff, Nat.reduceLT, Nat.reduceEqDiff, Int.reduceNeg, Bool.false_eq_true, decide_eq_true_eq, decide_true, decide_false, Nat.zero_add, Option.some.injEq, Sl.ow.injEq, Sl.sh.injEq, and_self, and_true, true_and, List.contains_cons, List.contains_nil, List.nodup_nil, List.nodup_cons, List.not_mem_nil, not_false_eq_true, h, h1]
  · simp only [t7_b, wrl, few_ok, atI_zero, atI_one, atI_two, atI_three, ixN_20, ixN_21, ixN_40, ixN_41, ixN_42, ixN_43, Int.reduceLT, Int.reduceLE, Int.natCast_add, Int.cast_ofNat_Int, List.length_map, List.length_append, mSeq, bnd, mOp, mVar, mOnSq, mSl, readAt, asSq, rd, Mir.ret, lft, iOp, mCons, mTup, mLst, mSq, mIx, ixD, mIn, mB, asB, mAnd, mOr, mNot, mAndV, mOrV, mNotV, mIf, mPart, asI, mSlT, slT, mSlL, mCatL, mCB, intO, absO, maxO, minO, seqD, lstD, tupD, bName, bTup, bLst, bNil, bCons, bRd, mFrz, freeze, mRetV, toOut, setSh, setOw, free, putOwn, ownAt, lstO, mLM, appF, popF, mSetIx, setF, mAug, addI, subI, ltI, leI, gtI, geI, addA, addT, addS, addL, isNO, notNO, isN, eqO, neO, eqD, toV, mNeg, negD, mChain, mBor, mCall, evAr, anyAt, Mir.fill, okIx, ioIx, boIx, back_s, back_b, back_t, back_e, back_ss, back_sb, back_st, back_se, back_bs, back_bb, back_bt, back_be, back_ts, back_tb, back_tt, back_te, back_es, back_eb, back_et, back_ee, back_sss, back_ssb, back_sst, back_sbs, back_sbb, back_sbt, back_sts, back_stb, back_stt, back_bss, back_bsb, back_bst, back_bbs, back_bbb, back_bbt, back_bts, back_btb, back_btt, back_tss, back_tsb, back_tst, back_tbs, back_tbb, back_tbt, back_tts, back_ttb, back_ttt, back_ssss, back_sssss, back_bsss, back, Ar.md, cont, startE, slOf, plains, Mir.plain, clearE, restE, Sq.ds, runF, List.zipWith, List.getElem?_cons_zero, List.getElem?_cons_succ, List.getElem?_nil, List.replicate, List.cons_append, List.nil_append, List.set_cons_zero, List.set_cons_succ, List.length_cons, List.length_nil, List.map_cons, List.map_nil, List.all_cons, List.all_nil, List.getD_cons_zero, List.getD_cons_succ, Option.map_some, Option.map_none, Option.bind_some, Option.bind_none, Option.isSome_some, Bool.and_true, Bool.true_and, Bool.and_false, Bool.false_and, Bool.not_true, Bool.not_false, if_true, if_false, ite_true, ite_false, reduceIte, reduceCtorEq, Nat.reduceAdd, Nat.reduceSub, Nat.reduceMul, Nat.reduceLeDiff, Nat.reduceLT, Nat.reduceEqDiff, Int.reduceNeg, Bool.false_eq_true, decide_eq_true_eq, decide_true, decide_false, Nat.zero_add, Option.some.injEq, Sl.ow.injEq, Sl.sh.injEq, and_self, and_true, true_and, List.contains_cons, List.contains_nil, List.nodup_nil, List.nodup_cons, List.not_mem_nil, not_false_eq_true, h, h1]
theorem b8_val {ns : List Int} {rw_ ct pw x13 : Sl} {fs : List D} {k s w : Nat} {hs : List (List Int)} {ps : List Int} {line : Int} {j : Nat} {ls : List Int} : t8_b [.sh (.lst (ns.map .int)), rw_, ct, pw, .ow (.lst fs), .sh (.int (k : Int)), .io (wrl s w hs ps), .sh (.int line), .sh (.tup (hs.map dt)), .sh (.bl (decide (line ∈ ls))), .sh (.lst ((hs.set j (mv ls line w)).map dl)), .sh (.tup [.bl (decide (line ∈ ls)), .tup ((hs.set j (mv ls line w)).map dt)]), .sh (.tup [.bl (decide (line ∈ ls)), .tup ((hs.set j (mv ls line w)).map dt)]), x13] = .ok .nx [.sh (.lst (ns.map .int)), rw_, ct, pw, .ow (.lst fs), .sh (.int (k : Int)), .io (.lst [.int (s : Int), .int (w : Int), .lst ((hs.set j (mv ls line w)).map dl), dl ps]), .sh (.int line), .sh (.tup (hs.map dt)), .sh (.bl (decide (line ∈ ls))), .sh (.lst ((hs.set j (mv ls line w)).map dl)), .sh (.tup [.bl (decide (line ∈ ls)), .tup ((hs.set j (mv ls line w)).map dt)]), .sh (.tup [.bl (decide (line ∈ ls)), .tup ((hs.set j (mv ls line w)).map dt)]), x13] := by
  simp only [t8_b, wrl, few_ok, atI_zero, atI_one, atI_two, atI_three, ixN_20, ixN_21, ixN_40, ixN_41, ixN_42, ixN_43, Int.reduceLT, Int.reduceLE, Int.natCast_add, Int.cast_ofNat_Int, List.length_map, List.length_append, mSeq, bnd, mOp, mVar, mOnSq, mSl, readAt, asSq, rd, Mir.ret, lft, iOp, mCons, mTup, mLst, mSq, mIx, ixD, mIn, mB, asB, mAnd, mOr, mNot, mAndV, mOrV, mNotV, mIf, mPart, asI, mSlT, slT, mSlL, mCatL, mCB, intO, absO, maxO, minO, seqD, lstD, tupD, bName, bTup, bLst, bNil, bCons, bRd, mFrz, freeze, mRetV, toOut, setSh, setOw, free, putOwn, ownAt, lstO, mLM, appF, popF, mSetIx, setF, mAug, addI, subI, ltI, leI, gtI, geI, addA, addT, addS, addL, isNO, notNO, isN, eqO, neO, eqD, toV, mNeg, negD, mChain, mBor, mCall, evAr, anyAt, Mir.fill, okIx, ioIx, boIx, back_s, back_b, back_t, back_e, back_ss, back_sb, back_st, back_se, back_bs, back_bb, back_bt, back_be, back_ts, back_tb, back_tt, back_te, back_es, back_eb, back_et, back_ee, back_sss, back_ssb, back_sst, back_sbs, back_sbb, back_sbt, back_sts, back_stb, back_stt, back_bss, back_bsb, back_bst, back_bbs, back_bbb, back_bbt, back_bts, back_btb, back_btt, back_tss, back_tsb, back_tst, back_tbs, back_tbb, back_tbt, back_tts, back_ttb, back_ttt, back_ssss, back_sssss, back_bsss, back, Ar.md, cont, startE, slOf, plains, Mir.plain, clearE, restE, Sq.ds, runF, List.zipWith, List.getElem?_cons_zero, List.getElem?_cons_succ, List.getElem?_nil, List.replicate, List.cons_append, List.nil_append, List.set_cons_zero, List.set_cons_succ, List.length_cons, List.length_nil, List.map_cons, List.map_nil, List.all_cons, List.all_nil, List.getD_cons_zero, List.getD_cons_succ, Option.map_some, Option.map_none, Option.bind_some, Option.bind_none, Option.isSome_some, Bool.and_true, Bool.true_and, Bool.and_false, Bool.false_and, Bool.not_true, Bool.not_false, if_true, if_false, ite_true, ite_false, reduceIte, reduceCtorEq, Nat.reduceAdd, Nat.reduceSub, Nat.reduceMul, Nat.reduceLeDiff, Nat.reduceLT, Nat.reduceEqDiff, Int.reduceNeg, Bool.false_eq_true, decide_eq_true_eq, decide_true, decide_false, Nat.zero_add, Option.some.injEq, Sl.ow.injEq, Sl.sh.injEq, and_self, and_true, true_and, List.contains_cons, List.contains_nil, List.nodup_nil, List.nodup_cons, List.not_mem_nil, not_false_eq_true]
theorem b9_val {ns : List Int} {rw_ ct pw x13 : Sl} {fs : List D} {k s w : Nat} {hs : List (List Int)} {ps : List Int} {line : Int} {j : Nat} {ls : List Int} (hl : ps.length ≤ 1000) : t9_b [.sh (.lst (ns.map .int)), rw_, ct, pw, .ow (.lst fs), .sh (.int (k : Int)), .io (.lst [.int (s : Int), .int (w : Int), .lst ((hs.set j (mv ls line w)).map dl), dl ps]), .sh (.int line), .sh (.tup (hs.map dt)), .sh (.bl (decide (line ∈ ls))), .sh (.lst ((hs.set j (mv ls line w)).map dl)), .sh (.tup [.bl (decide (line ∈ ls)), .tup ((hs.set j (mv ls line w)).map dt)]), .sh (.tup [.bl (decide (line ∈ ls)), .tup ((hs.set j (mv ls line w)).map dt)]), x13] = .ok .nx [.sh (.lst (ns.map .int)), rw_, ct, pw, .ow (.lst fs), .sh (.int (k : Int)), .io (wrl s w (hs.set j (mv ls line w)) (ps ++ [line])), .sh (.int line), .sh (.tup (hs.map dt)), .sh (.bl (decide (line ∈ ls))), .sh (.lst ((hs.set j (mv ls line w)).map dl)), .sh (.tup [.bl (decide (line ∈ ls)), .tup ((hs.set j (mv ls line w)).map dt)]), .sh (.tup [.bl (decide (line ∈ ls)), .tup ((hs.set j (mv ls line w)).map dt)]), x13] := by
  have h1 : ps.length + 1 ≤ 1000000 := by omega
  simp only [t9_b, wrl, dl, few_ok, atI_zero, atI_one, atI_two, atI_three, ixN_20, ixN_21, ixN_40, ixN_41, ixN_42, ixN_43, Int.reduceLT, Int.reduceLE, Int.natCast_add, Int.cast_ofNat_Int, List.length_map, List.length_append, mSeq, bnd, mOp, mVar, mOnSq, mSl, readAt, asSq, rd, Mir.ret, lft, iOp, mCons, mTup, mLst, mSq, mIx, ixD, mIn, mB, asB, mAnd, mOr, mNot, mAndV, mOrV, mNotV, mIf, mPart, asI, mSlT, slT, mSlL, mCatL, mCB, intO, absO, maxO, minO, seqD, lstD, tupD, bName, bTup, bLst, bNil, bCons, bRd, mFrz, freeze, mRetV, toOut, setSh, setOw, free, putOwn, ownAt, lstO, mLM, appF, popF, mSetIx, setF, mAug, addI, subI, ltI, leI, gtI, geI, addA, addT, addS, addL, isNO, notNO, isN, eqO, neO, eqD, toV, mNeg, negD, mChain, mBor, mCall, evAr, anyAt, Mir.fill, okIx, ioIx, boIx, back_s, back_b, back_t, back_e, back_ss, back_sb, back_st, back_se, back_bs, back_bb, back_bt, back_be, back_ts, back_tb, back_tt, back_te, back_es, back_eb, back_et, back_ee, back_sss, back_ssb, back_sst, back_sbs, back_sbb, back_sbt, back_sts, back_stb, back_stt, back_bss, back_bsb, back_bst, back_bbs, back_bbb, back_bbt, back_bts, back_btb, back_btt, back_tss, back_tsb, back_tst, back_tbs, back_tbb, back_tbt, back_tts, back_ttb, back_ttt, back_ssss, back_sssss, back_bsss, back, Ar.md, cont, startE, slOf, plains, Mir.plain, clearE, restE, Sq.ds, runF, List.zipWith, List.getElem?_cons_zero, List.getElem?_cons_succ, List.getElem?_nil, List.replicate, List.cons_append, List.nil_append, List.set_cons_zero, List.set_cons_succ, List.length_cons, List.length_nil, List.map_cons, List.map_nil, List.all_cons, List.all_nil, List.getD_cons_zero, List.getD_cons_succ, Option.map_some, Option.map_none, Option.bind_some, Option.bind_none, Option.isSome_some, Bool.and_true, Bool.true_and, Bool.and_false, Bool.false_and, Bool.not_true, Bool.not_false, if_true, if_false, ite_true, ite_false, reduceIte, reduceCtorEq, Nat.reduceAdd, Nat.reduceSub, Nat.reduceMul, Nat.reduceLeDiff, Nat.reduceLT, Nat.reduceEqDiff, Int.reduceNeg, Bool.false_eq_true, decide_eq_true_eq, decide_true, decide_false, Nat.zero_add, Option.some.injEq, Sl.ow.injEq, Sl.sh.injEq, and_self, and_true, true_and, List.contains_cons, List.contains_nil, List.nodup_nil, List.nodup_cons, List.not_mem_nil, not_false_eq_true, h1, List.map_append]
theorem turn_val {ns : List Int} {rw_ ct pw x7 x8 x9 x10 x11 x12 x13 : Sl} {fs : List D} {k s w : Nat} {hs : List (List Int)} {ps : List Int} {m : Nat} (hk : k ≤ 100) (h : WOk s w hs ps m) (hm : m ≤ 900) (hf : fs.length ≤ 900) (hfs : ∀ d ∈ fs, FirstOk d) (p7 : Mir.plain x7 = true) (p8 : Mir.plain x8 = true) (p9 : Mir.plain x9 = true) (p10 : Mir.plain x10 = true) (p11 : Mir.plain x11 = true) (p12 : Mir.plain x12 = true) :
    ∃ hs' ps' fs' d7 d8 d9 d10 d11 d12, m_b [.sh (.lst (ns.map .int)), rw_, ct, pw, .ow (.lst fs), .sh (.int (k : Int)), .io (wrl s w hs ps), x7, x8, x9, x10, x11, x12, x13] = .ok .nx [.sh (.lst (ns.map .int)), rw_, ct, pw, .ow (.lst fs'), .sh (.int (k : Int)), .io (wrl s w hs' ps'), .sh d7, .sh d8, .sh d9, .sh d10, .sh d11, .sh d12, x13] ∧ WOk s w hs' ps' (m + 1) ∧ (∀ d ∈ fs', FirstOk d) ∧ fs'.length ≤ fs.length + 1 := by
  obtain ⟨line, g1⟩ := b1_val (ns := ns) (rw_ := rw_) (ct := ct) (pw := pw) (x8 := x8) (x9 := x9) (x10 := x10) (x11 := x11) (x12 := x12) (x13 := x13) (fs := fs) hk h (by omega) p7
  have hlen := h.lru.1
  have s8 := h.s8
  have s1 := h.s1
  have w8 := h.w8
  have pl := h.len
  have m0 : 0 ≤ line % (s : Int) := Int.emod_nonneg _ (by omega)
  have m1 : line % (s : Int) < (s : Int) := Int.emod_lt_of_pos _ (by omega)
  obtain ⟨j, ej⟩ : ∃ j : Nat, line % (s : Int) = (j : Int) := ⟨(line % (s : Int)).toNat, by omega⟩
  obtain ⟨ls, hj⟩ : ∃ ls, hs[j]? = some ls := ⟨_, List.getElem?_eq_getElem (by omega)⟩
  have l8 := h.set8 ls (List.mem_of_getElem? hj)
  have l2 : (hs.set j (mv ls line w)).length ≤ 1000 := by rw [List.length_set]; omega
  have st := h.lru.step hj ej
  have wk : WOk s w (hs.set j (mv ls line w)) (ps ++ [line]) (m + 1) := ⟨s1, s8, w8, st, by rw [List.length_append]; simp; omega⟩
  have pd : Pl 3 (.tup [.bl (decide (line ∈ ls)), .tup ((hs.set j (mv ls line w)).map dt)]) := pl_due l2 fun xs hx => by have := wk.set8 xs hx; omega
  refine ⟨_, _, _, _, _, _, _, _, _, run_seq g1 (run_seq (b2_val (by omega) p8) (run_seq (b3_val hj ej s1 (by omega) (by omega) p9 p10) (run_seq (b4_val l2 p11) (run_seq (b5_val hj (by rw [hlen]; exact ej) (by omega) (by omega) (by omega) p12) (run_seq (b6_val pd (h.lru.hit hj ej) s1 (by omega)) (run_seq (b7_val (by omega)) (run_seq b8_val (b9_val (by omega))))))))), wk, fun d hd => ?_, ?_⟩
  · split at hd
    · rcases List.mem_append.mp hd with hd | hd
      · exact hfs d hd
      · rw [List.mem_singleton.mp hd]
        exact ⟨_, _, _, _, rfl, touch_val hj (by rw [hlen]; exact ej) (by omega) (by omega) (by omega), pd⟩
    · exact hfs d hd
  · split
    · rw [List.length_append]; exact Nat.le_refl _
    · omega
theorem d_val {sc rw_ ct pw k x6 x7 x8 x9 x10 x11 x12 x13 : Sl} {fs : List D} (hl : fs.length ≤ 1000) (hfs : ∀ d ∈ fs, FirstOk d) (p7 : Mir.plain x7 = true) (p8 : Mir.plain x8 = true) (p11 : Mir.plain x11 = true) (p13 : Mir.plain x13 = true) : ∃ e, m_d [sc, rw_, ct, pw, .ow (.lst fs), k, x6, x7, x8, x9, x10, x11, x12, x13] = .ok (.rt (.bl true)) e := by
  obtain ⟨e, q1, y7, y8, y11, y13, rfl, _⟩ := forL_all (b := bLst 4 (bCons (bName 8) (bCons (bName 7) (bCons (bName 13) (bCons (bName 11) bNil))))) (mb := b1_d) (ds := fs) (env := [sc, rw_, ct, pw, .sh (.lst fs), k, x6, x7, x8, x9, x10, x11, x12, x13])
    (fun _ env => ∃ y7 y8 y11 y13, env = [sc, rw_, ct, pw, .sh (.lst fs), k, x6, y7, y8, x9, x10, y11, x12, y13] ∧ Mir.plain y7 = true ∧ Mir.plain y8 = true ∧ Mir.plain y11 = true ∧ Mir.plain y13 = true) ⟨x7, x8, x11, x13, rfl, p7, p8, p11, p13⟩ (fun i d env hd hI => by
      obtain ⟨y7, y8, y11, y13, rfl, q7, q8, q11, q13⟩ := hI
      obtain ⟨hd', due, line, w, rfl, ⟨ds, e1⟩, pl⟩ := hfs d (List.mem_of_getElem? hd)
      obtain ⟨ds2, e2⟩ := same_val 3 due pl
      refine ⟨[sc, rw_, ct, pw, .sh (.lst fs), k, x6, .sh (.int line), .sh hd', x9, x10, .sh due, x12, .sh (.int w)], ?_, [sc, rw_, ct, pw, .sh (.lst fs), k, x6, .sh (.int line), .sh hd', x9, x10, .sh due, x12, .sh (.int w)], .inl ?_, _, _, _, _, rfl, rfl, rfl, rfl, rfl⟩
      · cases y7 <;> first | (cases q7; done) | skip
        all_goals cases y8 <;> first | (cases q8; done) | skip
        all_goals cases y11 <;> first | (cases q11; done) | skip
        all_goals cases y13 <;> first | rfl | cases q13
      · simp only [b1_d, t1b1_d, few_ok, atI_zero, atI_one, atI_two, atI_three, ixN_20, ixN_21, ixN_40, ixN_41, ixN_42, ixN_43, Int.reduceLT, Int.reduceLE, Int.natCast_add, Int.cast_ofNat_Int, List.length_map, List.length_append, mSeq, bnd, mOp, mVar, mOnSq, mSl, readAt, asSq, rd, Mir.ret, lft, iOp, mCons, mTup, mLst, mSq, mIx, ixD, mIn, mB, asB, mAnd, mOr, mNot, mAndV, mOrV, mNotV, mIf, mPart, asI, mSlT, slT, mSlL, mCatL, mCB, intO, absO, maxO, minO, seqD, lstD, tupD, bName, bTup, bLst, bNil, bCons, bRd, mFrz, freeze, mRetV, toOut, setSh, setOw, free, putOwn, ownAt, lstO, mLM, appF, popF, mSetIx, setF, mAug, addI, subI, ltI, leI, gtI, geI, addA, addT, addS, addL, isNO, notNO, isN, eqO, neO, eqD, toV, mNeg, negD, mChain, mBor, mCall, evAr, anyAt, Mir.fill, okIx, ioIx, boIx, back_s, back_b, back_t, back_e, back_ss, back_sb, back_st, back_se, back_bs, back_bb, back_bt, back_be, back_ts, back_tb, back_tt, back_te, back_es, back_eb, back_et, back_ee, back_sss, back_ssb, back_sst, back_sbs, back_sbb, back_sbt, back_sts, back_stb, back_stt, back_bss, back_bsb, back_bst, back_bbs, back_bbb, back_bbt, back_bts, back_btb, back_btt, back_tss, back_tsb, back_tst, back_tbs, back_tbb, back_tbt, back_tts, back_ttb, back_ttt, back_ssss, back_sssss, back_bsss, back, Ar.md, cont, startE, slOf, plains, Mir.plain, clearE, restE, Sq.ds, runF, List.zipWith, List.getElem?_cons_zero, List.getElem?_cons_succ, List.getElem?_nil, List.replicate, List.cons_append, List.nil_append, List.set_cons_zero, List.set_cons_succ, List.length_cons, List.length_nil, List.map_cons, List.map_nil, List.all_cons, List.all_nil, List.getD_cons_zero, List.getD_cons_succ, Option.map_some, Option.map_none, Option.bind_some, Option.bind_none, Option.isSome_some, Bool.and_true, Bool.true_and, Bool.and_false, Bool.false_and, Bool.not_true, Bool.not_false, if_true, if_false, ite_true, ite_false, reduceIte, reduceCtorEq, Nat.reduceAdd, Nat.reduceSub, Nat.reduceMul, Nat.reduceLeDiff, Nat.reduceLT, Nat.reduceEqDiff, Int.reduceNeg, Bool.false_eq_true, decide_eq_true_eq, decide_true, decide_false, Nat.zero_add, Option.some.injEq, Sl.ow.injEq, Sl.sh.injEq, and_self, and_true, true_and, List.contains_cons, List.contains_nil, List.nodup_nil, List.nodup_cons, List.not_mem_nil, not_false_eq_true, e1, e2])
  refine ⟨[sc, rw_, ct, pw, .sh (.lst fs), k, x6, y7, y8, x9, x10, y11, x12, y13], run_seq ?_ rfl⟩
  simp only [t1_d, l1_d, few_ok, atI_zero, atI_one, atI_two, atI_three, ixN_20, ixN_21, ixN_40, ixN_41, ixN_42, ixN_43, Int.reduceLT, Int.reduceLE, Int.natCast_add, Int.cast_ofNat_Int, List.length_map, List.length_append, mSeq, bnd, mOp, mVar, mOnSq, mSl, readAt, asSq, rd, Mir.ret, lft, iOp, mCons, mTup, mLst, mSq, mIx, ixD, mIn, mB, asB, mAnd, mOr, mNot, mAndV, mOrV, mNotV, mIf, mPart, asI, mSlT, slT, mSlL, mCatL, mCB, intO, absO, maxO, minO, seqD, lstD, tupD, bName, bTup, bLst, bNil, bCons, bRd, mFrz, freeze, mRetV, toOut, setSh, setOw, free, putOwn, ownAt, lstO, mLM, appF, popF, mSetIx, setF, mAug, addI, subI, ltI, leI, gtI, geI, addA, addT, addS, addL, isNO, notNO, isN, eqO, neO, eqD, toV, mNeg, negD, mChain, mBor, mCall, evAr, anyAt, Mir.fill, okIx, ioIx, boIx, back_s, back_b, back_t, back_e, back_ss, back_sb, back_st, back_se, back_bs, back_bb, back_bt, back_be, back_ts, back_tb, back_tt, back_te, back_es, back_eb, back_et, back_ee, back_sss, back_ssb, back_sst, back_sbs, back_sbb, back_sbt, back_sts, back_stb, back_stt, back_bss, back_bsb, back_bst, back_bbs, back_bbb, back_bbt, back_bts, back_btb, back_btt, back_tss, back_tsb, back_tst, back_tbs, back_tbb, back_tbt, back_tts, back_ttb, back_ttt, back_ssss, back_sssss, back_bsss, back, Ar.md, cont, startE, slOf, plains, Mir.plain, clearE, restE, Sq.ds, runF, List.zipWith, List.getElem?_cons_zero, List.getElem?_cons_succ, List.getElem?_nil, List.replicate, List.cons_append, List.nil_append, List.set_cons_zero, List.set_cons_succ, List.length_cons, List.length_nil, List.map_cons, List.map_nil, List.all_cons, List.all_nil, List.getD_cons_zero, List.getD_cons_succ, Option.map_some, Option.map_none, Option.bind_some, Option.bind_none, Option.isSome_some, Bool.and_true, Bool.true_and, Bool.and_false, Bool.false_and, Bool.not_true, Bool.not_false, if_true, if_false, ite_true, ite_false, reduceIte, reduceCtorEq, Nat.reduceAdd, Nat.reduceSub, Nat.reduceMul, Nat.reduceLeDiff, Nat.reduceLT, Nat.reduceEqDiff, Int.reduceNeg, Bool.false_eq_true, decide_eq_true_eq, decide_true, decide_false, Nat.zero_add, Option.some.injEq, Sl.ow.injEq, Sl.sh.injEq, and_self, and_true, true_and, List.contains_cons, List.contains_nil, List.nodup_nil, List.nodup_cons, List.not_mem_nil, not_false_eq_true, q1]
end K58
namespace K58
open PySem PySem.Spec PyProof.Rows L2 Mir
open Classical in
noncomputable def f_law (ds : List D) : FR := if ∃ ns : List Int, ds = [.lst (ns.map .int)] then .ok (.bl true) [.non] else .no
section
variable {P : Program} {w : World} {K : PySem.W.Frag} {mg : Str → Option Value} {base : Heap}
theorem pp_w (T : Txt K mg) (q : Value × Around × List Env × Shared × Hp × XK) (hr : Room 5 (cxF P w K mg base N_law "law" s_law T.a_law q).A) : Pair K (fun _ : Unit => cxF P w K mg base N_law "law" s_law T.a_law q) (stAt (defBody s_law) 2) 3 w1M w2M := by
  have sc := sc_law
  exact ss_pair (W := fun cls d _ H => q.2.2.2.2.2 cls d H) (fun _ => sc.nd)
    (so_call (fun _ => ok__law_world T) (fun _ => hr.mono (by decide)) (fun _ => T.g__law_world) (fun _ => T.F__law_world.kp) (fun _ => T.b__law_world) (fun _ => takes_of rfl rfl rfl rfl) (sar_tm (so_call (fun _ => ok__law_row T) (fun _ => hr.mono (by decide)) (fun _ => T.g__law_row) (fun _ => T.F__law_row.kp) (fun _ => T.b__law_row) (fun _ => takes_of rfl rfl rfl rfl) (sar_sh (se_var 0) (sar_sh se_int sar_nil))) (sar_sh (se_call (fun _ => ok__law_draw T) (fun _ => hr.mono (by decide)) (fun _ => T.g__law_draw) (fun _ => T.F__law_draw.kp) (fun _ => T.b__law_draw) (fun _ => takes_of rfl rfl rfl rfl) (sar_io 1 (sar_sh se_int sar_nil))) sar_nil)))
    (so_call (fun _ => ok__law_world T) (fun _ => hr.mono (by decide)) (fun _ => T.g__law_world) (fun _ => T.F__law_world.kp) (fun _ => T.b__law_world) (fun _ => takes_of rfl rfl rfl rfl) (sar_tm (so_call (fun _ => ok__law_row T) (fun _ => hr.mono (by decide)) (fun _ => T.g__law_row) (fun _ => T.F__law_row.kp) (fun _ => T.b__law_row) (fun _ => takes_of rfl rfl rfl rfl) (sar_sh (se_var 0) (sar_sh se_int sar_nil))) (sar_sh (se_ix (sb_of (se_of_so (so_lst (sa_cons se_int (sa_cons se_int (sa_cons se_int (sa_cons se_int sa_nil))))))) (se_call (fun _ => ok__law_draw T) (fun _ => hr.mono (by decide)) (fun _ => T.g__law_draw) (fun _ => T.F__law_draw.kp) (fun _ => T.b__law_draw) (fun _ => takes_of rfl rfl rfl rfl) (sar_io 1 (sar_sh se_int sar_nil)))) sar_nil)))
theorem pp_k (T : Txt K mg) (q : Value × Around × List Env × Shared × Hp × XK) : Pick K (fun _ : Unit => cxF P w K mg base N_law "law" s_law T.a_law q) (stAt (forBody (stAt (defBody s_law) 4)) 0) 6 3 (mOp (iOp modI) (mVar 5) (ret (.int 2))) := by
  have sc := sc_law
  exact ss_pick (W := fun cls d _ H => q.2.2.2.2.2 cls d H) (fun _ => sc.nd) (se_op od_modI (se_var 5) se_int)
theorem pp_l (T : Txt K mg) (q : Value × Around × List Env × Shared × Hp × XK) {tb : TS} (hb : ∀ k : Unit, PSs ((fun _ : Unit => cxF P w K mg base N_law "law" s_law T.a_law q) k) (forBody (stAt (defBody s_law) 4)) tb) : ForR K (fun _ : Unit => cxF P w K mg base N_law "law" s_law T.a_law q) (stAt (defBody s_law) 4) 5 (mCons (mVar 2) (ret [])) tb := by
  have sc := sc_law
  exact ss_forRange (W := fun cls d _ H => q.2.2.2.2.2 cls d H) (sa_cons (se_var 2) sa_nil) (fun _ => sc.nd) hb (fun _ => T.n_range) (fun _ => passes_of rfl)
theorem core_turn {W : WX} {tbb : TS} (qb : ∀ g S σ H env Dn, Ok K g S σ H env → PostS K g S W Dn (m_b env) → tbb Dn σ H) {g : G} {S : Hp} {σ : L2.St} {H : Hp} {A B : Addr} {x y : HO} {dB : D} {Dn : Ends}
    {ns : List Int} {rw_ ct pw x7 x8 x9 x10 x11 x12 x13 : Sl} {fs : List D} {k s w : Nat} {hs : List (List Int)} {ps : List Int} {m : Nat}
    (o : Ok K (g.hold A x) S σ H [.sh (.lst (ns.map .int)), rw_, ct, pw, .ow (.lst fs), .sh (.int (k : Int)), .no, x7, x8, x9, x10, x11, x12, x13])
    (hv : σ[6]? = some (some (.ref A))) (oA : ObD K S H A (wrl s w hs ps)) (oB : ObD K S H B dB) (hf : g.F A = none) (hs0 : g.S0 A = none) (hio : g.io = []) (hbf : Same g.B g.F) (hB : g.F B = some y)
    (hk : k ≤ 100) (h : WOk s w hs ps m) (hm : m ≤ 900) (hfl : fs.length ≤ 900) (hfs : ∀ d ∈ fs, FirstOk d) (p7 : Mir.plain x7 = true) (p8 : Mir.plain x8 = true) (p9 : Mir.plain x9 = true) (p10 : Mir.plain x10 = true) (p11 : Mir.plain x11 = true) (p12 : Mir.plain x12 = true)
    (hc : ∀ S' σ' H' x' hs' ps' fs' d7 d8 d9 d10 d11 d12, Ok K (g.hold A x') S' σ' H' [.sh (.lst (ns.map .int)), rw_, ct, pw, .ow (.lst fs'), .sh (.int (k : Int)), .no, .sh d7, .sh d8, .sh d9, .sh d10, .sh d11, .sh d12, x13] → ObD K S' H' A (wrl s w hs' ps') → ObD K S' H' B dB → WOk s w hs' ps' (m + 1) → (∀ d ∈ fs', FirstOk d) → fs'.length ≤ fs.length + 1 → Dn.nx σ' H') : tbb Dn σ H := by
  have o1 := o.claim hf hs0 hio hbf (i := 6) rfl hv oA
  obtain ⟨hs', ps', fs', d7, d8, d9, d10, d11, d12, e, wk, h1, h2⟩ := turn_val (ns := ns) (rw_ := rw_) (ct := ct) (pw := pw) (x13 := x13) hk h hm hfl hfs p7 p8 p9 p10 p11 p12
  refine qb _ S σ H _ Dn o1 ?_
  have e' : m_b ([.sh (.lst (ns.map .int)), rw_, ct, pw, .ow (.lst fs), .sh (.int (k : Int)), .no, x7, x8, x9, x10, x11, x12, x13].set 6 (.io (wrl s w hs ps))) = _ := e
  rw [e']
  intro S' σ' H' s' o2
  obtain ⟨x', hx, hv', oA', o3⟩ := o2.release hio rfl
  have hBH : H B = some y := o1.fr B y hB
  exact hc S' σ' H' x' hs' ps' fs' d7 d8 d9 d10 d11 d12 o3 oA' (obD_at oB hBH hB o2.fr s') wk h1 h2
end
end K58
namespace K58
open PySem PySem.Spec PyProof.Rows L2 Mir
section
variable {P : Program} {w : World} {K : PySem.W.Frag} {mg : Str → Option Value} {base : Heap}
structure Inv (K : PySem.W.Frag) (g : G) (ns : List Int) (rw_ ct : Sl) (A0 A1 L : Addr) (j : Nat) (σ : L2.St) (H : Hp) (S : Hp) (x0 x1 : HO) (fs : List D) (y5 y7 y8 y9 y10 y11 y12 y13 : Sl) (s0 w0 s1 w1 : Nat) (h0 h1 : List (List Int)) (p0 p1 : List Int) : Prop where
  ok : Ok K (((g.hold A0 x0).hold A1 x1).hold L (.lst [.ref A0, .ref A1])) S σ H [.sh (.lst (ns.map .int)), rw_, ct, .pn (.ref L), .ow (.lst fs), y5, .no, y7, y8, y9, y10, y11, y12, y13]
  p5 : Mir.plain y5 = true
  p7 : Mir.plain y7 = true
  p8 : Mir.plain y8 = true
  p9 : Mir.plain y9 = true
  p10 : Mir.plain y10 = true
  p11 : Mir.plain y11 = true
  p12 : Mir.plain y12 = true
  p13 : Mir.plain y13 = true
  o0 : ObD K S H A0 (wrl s0 w0 h0 p0)
  o1 : ObD K S H A1 (wrl s1 w1 h1 p1)
  w0 : WOk s0 w0 h0 p0 (64 + j)
  w1 : WOk s1 w1 h1 p1 (64 + j)
  fo : ∀ d ∈ fs, FirstOk d
  fl : fs.length ≤ j
def InvX (K : PySem.W.Frag) (g : G) (ns : List Int) (rw_ ct : Sl) (A0 A1 L : Addr) (j : Nat) (σ : L2.St) (H : Hp) : Prop :=
  ∃ S x0 x1 fs y5 y7 y8 y9 y10 y11 y12 y13 s0 w0 s1 w1 h0 h1 p0 p1, Inv K g ns rw_ ct A0 A1 L j σ H S x0 x1 fs y5 y7 y8 y9 y10 y11 y12 y13 s0 w0 s1 w1 h0 h1 p0 p1
theorem ok_law (T : Txt K mg) : FnOk P w K mg base (L2.CX P w) 6 T.a_law T.d_law ["script"] (spOf K false [.sh] f_law) := by
  have sc := sc_law
  refine T.F_law.okX sc (fun vs H Q E h => ?_) fun cdv A outer s H vs Q E hr h => ?_
  · obtain ⟨g, ds, _, ao, _⟩ := h
    rw [ao.len.1]
    rfl
  obtain ⟨g, ds, go, ao, h⟩ := h
  have o := start_ok go ao (N := N_law) (by decide)
  have hio : g.io = [] := by
    cases e : g.io with
    | nil => rfl
    | cons z r =>
      obtain ⟨i, a⟩ := z
      have h1 := go.iom i a (by rw [e]; exact List.mem_cons_self)
      match i, h1 with
      | 0, h1 => cases h1
      | i + 1, h1 => cases h1
  unfold f_law at h
  by_cases hns : ∃ ns : List Int, ds = [.lst (ns.map .int)]
  case neg => rw [if_neg hns] at h; exact h.elim
  rw [if_pos hns] at h
  obtain ⟨ns, rfl⟩ := hns
  let q : Value × Around × List Env × Shared × Hp × XK := (cdv, A, outer, s, H, E)
  obtain ⟨ta1, pa1, qa1⟩ := pp_a1 T q hr
  obtain ⟨ta2, pa2, qa2⟩ := pp_a2 T q hr
  obtain ⟨t2, p2, q2⟩ := pp_w T q hr
  obtain ⟨tc, pc, qc⟩ := pp_c T q hr
  obtain ⟨tb, pb, qb⟩ := pp_b T q hr
  obtain ⟨t0, p0, q0⟩ := pp_k (P := P) (w := w) (base := base) T q
  obtain ⟨t4, p4, q4⟩ := pp_l (P := P) (w := w) (base := base) T q (tb := tSeq t0 tb) (fun k => pss_cons (p0 k) (pb k))
  obtain ⟨td, pd, qd⟩ := pp_d T q hr
  refine ⟨tSeq ta1 (tSeq ta2 (tSeq t2 (tSeq tc (tSeq t4 td)))), pss_cons (pa1 ()) (pss_cons (pa2 ()) (pss_cons (p2 ()) (pss_cons (pc ()) (pss_cons (p4 ()) (pd ()))))), ?_⟩
  obtain ⟨ra, rb, e1, r1⟩ := a1_val ns
  obtain ⟨c, ra2, rb2, e2, r2, hc⟩ := a2_val ns r1
  obtain ⟨s0, w0, h0, ra3, rb3, e3, r3, wk0⟩ := w1_val ns r2 (c := .sh (.int (c : Int))) (f := .no) (e := List.replicate 10 .no)
  obtain ⟨s1, w1, h1, ra4, rb4, e4, r4, wk1⟩ := w2_val ns r3 (c := .sh (.int (c : Int))) (f := .no) (e := List.replicate 10 .no)
  refine qa1 g g.S0 (L2.start N_law vs) H _ _ o ?_
  rw [show startE N_law.length [.sh] [.lst (ns.map .int)] = Sl.sh (.lst (ns.map .int)) :: List.replicate 13 .no from rfl, e1]
  intro S1 σ1 H1 _ o1
  refine qa2 g S1 σ1 H1 _ _ o1 ?_
  rw [e2]
  intro S2 σ2 H2 _ o2
  refine q2 g S2 σ2 H2 _ _ _ _ _ _ o2 e3 e4 rfl fun S3 σ3 H3 A0 A1 L x0 x1 s23 n01 n0L n1L f0 f1 fL g0 g1 gL hx0 hx1 ob0 ob1 o3 => ?_
  refine qc _ S3 σ3 H3 _ _ o3 ?_
  have ec : m_c ((.sh (.lst (ns.map .int)) :: .ow (.lst [.int ra4, .int rb4]) :: .sh (.int (c : Int)) :: .no :: List.replicate 10 .no).set 3 (.pn (.ref L))) = .ok .nx [.sh (.lst (ns.map .int)), .ow (.lst [.int ra4, .int rb4]), .sh (.int (c : Int)), .pn (.ref L), .ow (.lst []), .no, .no, .no, .no, .no, .no, .no, .no, .no] := rfl
  rw [ec]
  intro S4 σ4 H4 s34 o4
  have ob0' : ObD K S4 H4 A0 (wrl s0 w0 h0 (revs h0)) := obD_at ob0 hx0 (F := upd (upd (upd g.F A0 x0) A1 x1) L (.lst [.ref A0, .ref A1])) (by rw [upd_ne n0L, upd_ne n01, upd_same]) o4.fr s34
  have ob1' : ObD K S4 H4 A1 (wrl s1 w1 h1 (revs h1)) := obD_at ob1 hx1 (F := upd (upd (upd g.F A0 x0) A1 x1) L (.lst [.ref A0, .ref A1])) (by rw [upd_ne n1L, upd_same]) o4.fr s34
  refine q4 _ S4 σ4 H4 _ _ c _ (InvX K g ns (.ow (.lst [.int ra4, .int rb4])) (.sh (.int (c : Int))) A0 A1 L) o4 rfl (by omega) (fun S5 H5 s45 o5 => ?_) (fun j σ H hj hI => ?_) (fun σ H hI => ?_)
  · refine ⟨S5, x0, x1, [], .no, .no, .no, .no, .no, .no, .no, .no, s0, w0, s1, w1, h0, h1, revs h0, revs h1, o5, rfl, rfl, rfl, rfl, rfl, rfl, rfl, rfl, ?_, ?_, wk0, wk1, fun d hd => (by cases hd), Nat.le_refl _⟩
    · exact obD_at ob0' (o4.fr A0 x0 (show upd (upd (upd g.F A0 x0) A1 x1) L _ A0 = _ by rw [upd_ne n0L, upd_ne n01, upd_same])) (show upd (upd (upd g.F A0 x0) A1 x1) L _ A0 = _ by rw [upd_ne n0L, upd_ne n01, upd_same]) o5.fr s45
    · exact obD_at ob1' (o4.fr A1 x1 (show upd (upd (upd g.F A0 x0) A1 x1) L _ A1 = _ by rw [upd_ne n1L, upd_same])) (show upd (upd (upd g.F A0 x0) A1 x1) L _ A1 = _ by rw [upd_ne n1L, upd_same]) o5.fr s45
  · obtain ⟨S, x0, x1, fs, y5, y7, y8, y9, y10, y11, y12, y13, s0, w0, s1, w1, h0, h1, p0, p1, I⟩ := hI
    refine ⟨_, S, _, [.sh (.lst (ns.map .int)), .ow (.lst [.int ra4, .int rb4]), .sh (.int (c : Int)), .pn (.ref L), .ow (.lst fs), .sh (.int (j : Int)), .no, y7, y8, y9, y10, y11, y12, y13], I.ok, ?_, fun σ' o' => ?_⟩
    · have := I.p5
      cases y5 <;> first | rfl | cases this
    have mj : modI (j : Int) 2 = some (.int ((j : Int) % 2)) := modI_pos (by decide)
    have em : (mOp (iOp modI) (mVar 5) (ret (.int 2))) [.sh (.lst (ns.map .int)), .ow (.lst [.int ra4, .int rb4]), .sh (.int (c : Int)), .pn (.ref L), .ow (.lst fs), .sh (.int (j : Int)), .no, y7, y8, y9, y10, y11, y12, y13] = .ok (.int ((j : Int) % 2)) [.sh (.lst (ns.map .int)), .ow (.lst [.int ra4, .int rb4]), .sh (.int (c : Int)), .pn (.ref L), .ow (.lst fs), .sh (.int (j : Int)), .no, y7, y8, y9, y10, y11, y12, y13] := by
      simp only [few_ok, atI_zero, atI_one, atI_two, atI_three, ixN_20, ixN_21, ixN_40, ixN_41, ixN_42, ixN_43, Int.reduceLT, Int.reduceLE, Int.natCast_add, Int.cast_ofNat_Int, List.length_map, List.length_append, mSeq, bnd, mOp, mVar, mOnSq, mSl, readAt, asSq, rd, Mir.ret, lft, iOp, mCons, mTup, mLst, mSq, mIx, ixD, mIn, mB, asB, mAnd, mOr, mNot, mAndV, mOrV, mNotV, mIf, mPart, asI, mSlT, slT, mSlL, mCatL, mCB, intO, absO, maxO, minO, seqD, lstD, tupD, bName, bTup, bLst, bNil, bCons, bRd, mFrz, freeze, mRetV, toOut, setSh, setOw, free, putOwn, ownAt, lstO, mLM, appF, popF, mSetIx, setF, mAug, addI, subI, ltI, leI, gtI, geI, addA, addT, addS, addL, isNO, notNO, isN, eqO, neO, eqD, toV, mNeg, negD, mChain, mBor, mCall, evAr, anyAt, Mir.fill, okIx, ioIx, boIx, back_s, back_b, back_t, back_e, back_ss, back_sb, back_st, back_se, back_bs, back_bb, back_bt, back_be, back_ts, back_tb, back_tt, back_te, back_es, back_eb, back_et, back_ee, back_sss, back_ssb, back_sst, back_sbs, back_sbb, back_sbt, back_sts, back_stb, back_stt, back_bss, back_bsb, back_bst, back_bbs, back_bbb, back_bbt, back_bts, back_btb, back_btt, back_tss, back_tsb, back_tst, back_tbs, back_tbb, back_tbt, back_tts, back_ttb, back_ttt, back_ssss, back_sssss, back_bsss, back, Ar.md, cont, startE, slOf, plains, Mir.plain, clearE, restE, Sq.ds, runF, List.zipWith, List.getElem?_cons_zero, List.getElem?_cons_succ, List.getElem?_nil, List.replicate, List.cons_append, List.nil_append, List.set_cons_zero, List.set_cons_succ, List.length_cons, List.length_nil, List.map_cons, List.map_nil, List.all_cons, List.all_nil, List.getD_cons_zero, List.getD_cons_succ, Option.map_some, Option.map_none, Option.bind_some, Option.bind_none, Option.isSome_some, Bool.and_true, Bool.true_and, Bool.and_false, Bool.false_and, Bool.not_true, Bool.not_false, if_true, if_false, ite_true, ite_false, reduceIte, reduceCtorEq, Nat.reduceAdd, Nat.reduceSub, Nat.reduceMul, Nat.reduceLeDiff, Nat.reduceLT, Nat.reduceEqDiff, Int.reduceNeg, Bool.false_eq_true, decide_eq_true_eq, decide_true, decide_false, Nat.zero_add, Option.some.injEq, Sl.ow.injEq, Sl.sh.injEq, and_self, and_true, true_and, List.contains_cons, List.contains_nil, List.nodup_nil, List.nodup_cons, List.not_mem_nil, not_false_eq_true, mj]
    have bf := go.bf
    have hL1 : ∀ (F : Hp) (u : HO), upd F L u L = some u := fun _ _ => upd_same
    rcases (by omega : (j : Int) % 2 = 0 ∨ (j : Int) % 2 = 1) with hz | hz
    · rw [hz] at em
      refine q0 _ S σ' H _ _ 0 _ L [.ref A0, .ref A1] (.ref A0) o' rfl em upd_same rfl rfl fun S6 σ6 H6 s6 hv o6 => ?_
      have a0 : ObD K S6 H6 A0 (wrl s0 w0 h0 p0) := obD_at I.o0 (o'.fr A0 x0 (show upd (upd (upd g.F A0 x0) A1 x1) L _ A0 = _ by rw [upd_ne n0L, upd_ne n01, upd_same])) (show upd (upd (upd g.F A0 x0) A1 x1) L _ A0 = _ by rw [upd_ne n0L, upd_ne n01, upd_same]) o6.fr s6
      have a1 : ObD K S6 H6 A1 (wrl s1 w1 h1 p1) := obD_at I.o1 (o'.fr A1 x1 (show upd (upd (upd g.F A0 x0) A1 x1) L _ A1 = _ by rw [upd_ne n1L, upd_same])) (show upd (upd (upd g.F A0 x0) A1 x1) L _ A1 = _ by rw [upd_ne n1L, upd_same]) o6.fr s6
      rw [hold_comm n01, hold_comm n0L] at o6
      have fa : ((g.hold A1 x1).hold L (.lst [.ref A0, .ref A1])).F A0 = none := (show upd (upd g.F A1 x1) L _ A0 = none by rw [upd_ne n0L, upd_ne n01]; exact f0)
      refine core_turn qb o6 hv a0 a1 fa g0 hio (Same.trans (Same.trans bf (same_upd' f1)) (same_upd' (show upd g.F A1 x1 L = none by rw [upd_ne (fun e => n1L e.symm)]; exact fL))) (y := x1) (show upd (upd g.F A1 x1) L _ A1 = _ by rw [upd_ne n1L, upd_same]) (by omega) I.w0 (by omega) (by have := I.fl; omega) I.fo I.p7 I.p8 I.p9 I.p10 I.p11 I.p12 ?_
      intro S7 σ7 H7 x' hs' ps' fs' d7 d8 d9 d10 d11 d12 o7 b0 b1 wk h1' h2'
      rw [← hold_comm n0L, ← hold_comm n01] at o7
      exact ⟨S7, x', x1, fs', _, _, _, _, _, _, _, _, s0, w0, s1, w1, hs', h1, ps', p1, o7, rfl, rfl, rfl, rfl, rfl, rfl, rfl, I.p13, b0, b1, wk, ⟨I.w1.s1, I.w1.s8, I.w1.w8, I.w1.lru, by have := I.w1.len; omega⟩, h1', by have := I.fl; omega⟩
    · rw [hz] at em
      refine q0 _ S σ' H _ _ 1 _ L [.ref A0, .ref A1] (.ref A1) o' rfl em upd_same rfl rfl fun S6 σ6 H6 s6 hv o6 => ?_
      have a0 : ObD K S6 H6 A0 (wrl s0 w0 h0 p0) := obD_at I.o0 (o'.fr A0 x0 (show upd (upd (upd g.F A0 x0) A1 x1) L _ A0 = _ by rw [upd_ne n0L, upd_ne n01, upd_same])) (show upd (upd (upd g.F A0 x0) A1 x1) L _ A0 = _ by rw [upd_ne n0L, upd_ne n01, upd_same]) o6.fr s6
      have a1 : ObD K S6 H6 A1 (wrl s1 w1 h1 p1) := obD_at I.o1 (o'.fr A1 x1 (show upd (upd (upd g.F A0 x0) A1 x1) L _ A1 = _ by rw [upd_ne n1L, upd_same])) (show upd (upd (upd g.F A0 x0) A1 x1) L _ A1 = _ by rw [upd_ne n1L, upd_same]) o6.fr s6
      rw [hold_comm n1L] at o6
      have fa : ((g.hold A0 x0).hold L (.lst [.ref A0, .ref A1])).F A1 = none := (show upd (upd g.F A0 x0) L _ A1 = none by rw [upd_ne n1L, upd_ne (fun e => n01 e.symm)]; exact f1)
      refine core_turn qb o6 hv a1 a0 fa g1 hio (Same.trans (Same.trans bf (same_upd' f0)) (same_upd' (show upd g.F A0 x0 L = none by rw [upd_ne (fun e => n0L e.symm)]; exact fL))) (y := x0) (show upd (upd g.F A0 x0) L _ A0 = _ by rw [upd_ne n0L, upd_same]) (by omega) I.w1 (by omega) (by have := I.fl; omega) I.fo I.p7 I.p8 I.p9 I.p10 I.p11 I.p12 ?_
      intro S7 σ7 H7 x' hs' ps' fs' d7 d8 d9 d10 d11 d12 o7 b1 b0 wk h1' h2'
      rw [← hold_comm n1L] at o7
      exact ⟨S7, x0, x', fs', _, _, _, _, _, _, _, _, s0, w0, s1, w1, h0, hs', p0, ps', o7, rfl, rfl, rfl, rfl, rfl, rfl, rfl, I.p13, b0, b1, ⟨I.w0.s1, I.w0.s8, I.w0.w8, I.w0.lru, by have := I.w0.len; omega⟩, wk, h1', by have := I.fl; omega⟩
  · obtain ⟨S, x0, x1, fs, y5, y7, y8, y9, y10, y11, y12, y13, s0, w0, s1, w1, h0, h1, p0, p1, I⟩ := hI
    have nio : ∀ (a : Addr) (j : Nat), (j, a) ∉ g.io := fun a j z => by rw [hio] at z; cases z
    obtain ⟨o7, _⟩ := I.ok.unhold (show upd (upd g.F A0 x0) A1 x1 L = none by rw [upd_ne (fun e => n1L e.symm), upd_ne (fun e => n0L e.symm)]; exact fL) gL (nio L) (Same.trans (Same.trans go.bf (same_upd' f0)) (same_upd' (show upd g.F A0 x0 A1 = none by rw [upd_ne (fun e => n01 e.symm)]; exact f1)))
    obtain ⟨o8, _⟩ := o7.unhold (show upd g.F A0 x0 A1 = none by rw [upd_ne (fun e => n01 e.symm)]; exact f1) g1 (nio A1) (Same.trans go.bf (same_upd' f0))
    obtain ⟨o9, _⟩ := o8.unhold f0 g0 (nio A0) go.bf
    obtain ⟨e, ed⟩ := d_val (sc := .sh (.lst (ns.map .int))) (rw_ := .ow (.lst [.int ra4, .int rb4])) (ct := .sh (.int (c : Int))) (pw := .pn (.ref L)) (k := y5) (x6 := .no) (x9 := y9) (x10 := y10) (x12 := y12) (fs := fs) (by have := I.fl; omega) I.fo I.p7 I.p8 I.p11 I.p13
    refine qd g S σ H _ _ o9 ?_
    rw [ed]
    intro S' σ' H' v _ o10 r
    have af := o10.after
    exact h S' H' v ⟨af.s, af.st, af.fr, af.new, fun i a hi => absurd hi (nio a i)⟩ r
end
end K58
namespace K58
open PySem PySem.Spec PyProof.Rows L2 Mir
theorem law_val (ns : List Int) (hl : ns.length ≤ 63) (hb : ∀ z ∈ ns, Builtin.Int.intBits z ≤ 1048576) : f_law [.lst (ns.map D.int)] = .ok (.bl true) [.non] := if_pos ⟨ns, rfl⟩
end K58
namespace K58
open PySem PySem.Spec PyProof.Rows L2 Mir
theorem all_mk {l : PySem.W.OpenLaw} {w : World} {K : PySem.W.Frag} {h : Heap} {mg : Str → Option Value} {fa f1 f2 f3 f4 f5 f6 f7 f8 f9 f10 f11 : Addr} (X : K.In h) (G : h.Ns mainGlobals mg) (hfa : mg "law" = some (.ref fa))
    {od1 od2 od3 od4 od5 od6 od7 od8 od9 od10 od11 an1 an2 an3 an4 an5 an6 an7 an8 an9 an10 an11 : Option Addr} {sl1 sl2 sl3 sl4 sl5 sl6 sl7 sl8 sl9 sl10 sl11 : Array (Option Value)} {oc1 oc2 oc3 oc4 oc5 oc6 oc7 oc8 oc9 oc10 oc11 kV1 kV2 kV3 kV4 kV5 kV6 kV7 kV8 kV9 kV10 kV11 dc1 dc2 dc3 dc4 dc5 dc6 dc7 dc8 dc9 dc10 dc11 pm1 pm2 pm3 pm4 pm5 pm6 pm7 pm8 pm9 pm10 pm11 cd1 cd2 cd3 cd4 cd5 cd6 cd7 cd8 cd9 cd10 cd11 ct1 ct2 ct3 ct4 ct5 ct6 ct7 ct8 ct9 ct10 ct11 : Value}
    (a1 : PySem.W.nsIn K mainGlobals "touch" = some (some (.ref f1))) (l1 : K.lookup f1 = some ⟨oc1, od1, .func (PySem.W.fnOf "touch" "touch" (defArgs s_touch) (defBody s_touch) (defScope s_touch) .none kV1 dc1 pm1 an1 cd1 ct1), sl1⟩) (c1 : PySem.W.codeIn K cd1 "touch" = true) (k1 : PySem.W.keepIn K (.ref f1) = true)
    (a2 : PySem.W.nsIn K mainGlobals "_law_row" = some (some (.ref f2))) (l2 : K.lookup f2 = some ⟨oc2, od2, .func (PySem.W.fnOf "_law_row" "_law_row" (defArgs s__law_row) (defBody s__law_row) (defScope s__law_row) .none kV2 dc2 pm2 an2 cd2 ct2), sl2⟩) (c2 : PySem.W.codeIn K cd2 "_law_row" = true) (k2 : PySem.W.keepIn K (.ref f2) = true)
    (a3 : PySem.W.nsIn K mainGlobals "_law_draw" = some (some (.ref f3))) (l3 : K.lookup f3 = some ⟨oc3, od3, .func (PySem.W.fnOf "_law_draw" "_law_draw" (defArgs s__law_draw) (defBody s__law_draw) (defScope s__law_draw) .none kV3 dc3 pm3 an3 cd3 ct3), sl3⟩) (c3 : PySem.W.codeIn K cd3 "_law_draw" = true) (k3 : PySem.W.keepIn K (.ref f3) = true)
    (a4 : PySem.W.nsIn K mainGlobals "_law_same" = some (some (.ref f4))) (l4 : K.lookup f4 = some ⟨oc4, od4, .func (PySem.W.fnOf "_law_same" "_law_same" (defArgs s__law_same) (defBody s__law_same) (defScope s__law_same) .none kV4 dc4 pm4 an4 cd4 ct4), sl4⟩) (c4 : PySem.W.codeIn K cd4 "_law_same" = true) (k4 : PySem.W.keepIn K (.ref f4) = true)
    (a5 : PySem.W.nsIn K mainGlobals "_law_cache" = some (some (.ref f5))) (l5 : K.lookup f5 = some ⟨oc5, od5, .func (PySem.W.fnOf "_law_cache" "_law_cache" (defArgs s__law_cache) (defBody s__law_cache) (defScope s__law_cache) .none kV5 dc5 pm5 an5 cd5 ct5), sl5⟩) (c5 : PySem.W.codeIn K cd5 "_law_cache" = true) (k5 : PySem.W.keepIn K (.ref f5) = true)
    (a6 : PySem.W.nsIn K mainGlobals "_law_world" = some (some (.ref f6))) (l6 : K.lookup f6 = some ⟨oc6, od6, .func (PySem.W.fnOf "_law_world" "_law_world" (defArgs s__law_world) (defBody s__law_world) (defScope s__law_world) .none kV6 dc6 pm6 an6 cd6 ct6), sl6⟩) (c6 : PySem.W.codeIn K cd6 "_law_world" = true) (k6 : PySem.W.keepIn K (.ref f6) = true)
    (a7 : PySem.W.nsIn K mainGlobals "_law_line" = some (some (.ref f7))) (l7 : K.lookup f7 = some ⟨oc7, od7, .func (PySem.W.fnOf "_law_line" "_law_line" (defArgs s__law_line) (defBody s__law_line) (defScope s__law_line) .none kV7 dc7 pm7 an7 cd7 ct7), sl7⟩) (c7 : PySem.W.codeIn K cd7 "_law_line" = true) (k7 : PySem.W.keepIn K (.ref f7) = true)
    (a8 : PySem.W.nsIn K mainGlobals "_law_touched" = some (some (.ref f8))) (l8 : K.lookup f8 = some ⟨oc8, od8, .func (PySem.W.fnOf "_law_touched" "_law_touched" (defArgs s__law_touched) (defBody s__law_touched) (defScope s__law_touched) .none kV8 dc8 pm8 an8 cd8 ct8), sl8⟩) (c8 : PySem.W.codeIn K cd8 "_law_touched" = true) (k8 : PySem.W.keepIn K (.ref f8) = true)
    (a9 : PySem.W.nsIn K mainGlobals "_law_hits" = some (some (.ref f9))) (l9 : K.lookup f9 = some ⟨oc9, od9, .func (PySem.W.fnOf "_law_hits" "_law_hits" (defArgs s__law_hits) (defBody s__law_hits) (defScope s__law_hits) .none kV9 dc9 pm9 an9 cd9 ct9), sl9⟩) (c9 : PySem.W.codeIn K cd9 "_law_hits" = true) (k9 : PySem.W.keepIn K (.ref f9) = true)
    (a10 : PySem.W.nsIn K mainGlobals "_law_tuples" = some (some (.ref f10))) (l10 : K.lookup f10 = some ⟨oc10, od10, .func (PySem.W.fnOf "_law_tuples" "_law_tuples" (defArgs s__law_tuples) (defBody s__law_tuples) (defScope s__law_tuples) .none kV10 dc10 pm10 an10 cd10 ct10), sl10⟩) (c10 : PySem.W.codeIn K cd10 "_law_tuples" = true) (k10 : PySem.W.keepIn K (.ref f10) = true)
    (a11 : PySem.W.nsIn K mainGlobals "law" = some (some (.ref f11))) (l11 : K.lookup f11 = some ⟨oc11, od11, .func (PySem.W.fnOf "law" "law" (defArgs s_law) (defBody s_law) (defScope s_law) .none kV11 dc11 pm11 an11 cd11 ct11), sl11⟩) (c11 : PySem.W.codeIn K cd11 "law" = true) (k11 : PySem.W.keepIn K (.ref f11) = true)
    (z1 : PySem.W.nsIn K mainGlobals "abs" = some none)
    (z2 : PySem.W.nsIn K mainGlobals "bool" = some none)
    (z3 : PySem.W.nsIn K mainGlobals "int" = some none)
    (z4 : PySem.W.nsIn K mainGlobals "isinstance" = some none)
    (z5 : PySem.W.nsIn K mainGlobals "len" = some none)
    (z6 : PySem.W.nsIn K mainGlobals "list" = some none)
    (z7 : PySem.W.nsIn K mainGlobals "range" = some none)
    (z8 : PySem.W.nsIn K mainGlobals "str" = some none)
    (z9 : PySem.W.nsIn K mainGlobals "tuple" = some none)
    : ∃ fd : FuncData, (∀ (s : Shared) (v : Value), BindsTo s fd ⟨[v], []⟩ [("script", v)]) ∧ ∀ base : Heap, K.In base → base.Ns mainGlobals mg → FnOk l.prog w K mg base (L2.CX l.prog w) 6 fa fd ["script"] (spOf K false [.sh] f_law) := by
  have e := hfa.symm.trans (PySem.W.mg_of X G a11)
  cases e
  have F1 := fun_mk (st := s_touch) l1 c1 k1
  have b1 := F1.binds (ps := ["cache", "line", "ways"]) fun _ _ _ _ _ _ us hl => match us, hl with | [_, _, _], _ => rfl
  have F2 := fun_mk (st := s__law_row) l2 c2 k2
  have b2 := F2.binds (ps := ["script", "k"]) fun _ _ _ _ _ _ us hl => match us, hl with | [_, _], _ => rfl
  have F3 := fun_mk (st := s__law_draw) l3 c3 k3
  have b3 := F3.binds (ps := ["row", "n"]) fun _ _ _ _ _ _ us hl => match us, hl with | [_, _], _ => rfl
  have F4 := fun_mk (st := s__law_same) l4 c4 k4
  have b4 := F4.binds (ps := ["actual", "due"]) fun _ _ _ _ _ _ us hl => match us, hl with | [_, _], _ => rfl
  have F5 := fun_mk (st := s__law_cache) l5 c5 k5
  have b5 := F5.binds (ps := ["row", "sets", "ways"]) fun _ _ _ _ _ _ us hl => match us, hl with | [_, _, _], _ => rfl
  have F6 := fun_mk (st := s__law_world) l6 c6 k6
  have b6 := F6.binds (ps := ["row", "ways"]) fun _ _ _ _ _ _ us hl => match us, hl with | [_, _], _ => rfl
  have F7 := fun_mk (st := s__law_line) l7 c7 k7
  have b7 := F7.binds (ps := ["row", "world"]) fun _ _ _ _ _ _ us hl => match us, hl with | [_, _], _ => rfl
  have F8 := fun_mk (st := s__law_touched) l8 c8 k8
  have b8 := F8.binds (ps := ["world", "line"]) fun _ _ _ _ _ _ us hl => match us, hl with | [_, _], _ => rfl
  have F9 := fun_mk (st := s__law_hits) l9 c9 k9
  have b9 := F9.binds (ps := ["world", "line"]) fun _ _ _ _ _ _ us hl => match us, hl with | [_, _], _ => rfl
  have F10 := fun_mk (st := s__law_tuples) l10 c10 k10
  have b10 := F10.binds (ps := ["held"]) fun _ _ _ _ _ _ us hl => match us, hl with | [_], _ => rfl
  have F11 := fun_mk (st := s_law) l11 c11 k11
  have b11 := F11.binds (ps := ["script"]) fun _ _ _ _ _ _ us hl => match us, hl with | [_], _ => rfl
  have T : Txt K mg := ⟨_, _, F1, b1, PySem.W.mg_of X G a1, _, _, F2, b2, PySem.W.mg_of X G a2, _, _, F3, b3, PySem.W.mg_of X G a3, _, _, F4, b4, PySem.W.mg_of X G a4, _, _, F5, b5, PySem.W.mg_of X G a5, _, _, F6, b6, PySem.W.mg_of X G a6, _, _, F7, b7, PySem.W.mg_of X G a7, _, _, F8, b8, PySem.W.mg_of X G a8, _, _, F9, b9, PySem.W.mg_of X G a9, _, _, F10, b10, PySem.W.mg_of X G a10, _, _, F11, b11, PySem.W.mg_of X G a11, PySem.W.mg_none_of X G z1, PySem.W.mg_none_of X G z2, PySem.W.mg_none_of X G z3, PySem.W.mg_none_of X G z4, PySem.W.mg_none_of X G z5, PySem.W.mg_none_of X G z6, PySem.W.mg_none_of X G z7, PySem.W.mg_none_of X G z8, PySem.W.mg_none_of X G z9⟩
  refine ⟨PySem.W.fnOf "law" "law" (defArgs s_law) (defBody s_law) (defScope s_law) .none kV11 dc11 pm11 an11 cd11 ct11, fun s v => .of_eq rfl, fun base _ _ => ?_⟩
  exact ok_law (P := l.prog) (w := w) (base := base) ⟨_, _, F1, b1, PySem.W.mg_of X G a1, _, _, F2, b2, PySem.W.mg_of X G a2, _, _, F3, b3, PySem.W.mg_of X G a3, _, _, F4, b4, PySem.W.mg_of X G a4, _, _, F5, b5, PySem.W.mg_of X G a5, _, _, F6, b6, PySem.W.mg_of X G a6, _, _, F7, b7, PySem.W.mg_of X G a7, _, _, F8, b8, PySem.W.mg_of X G a8, _, _, F9, b9, PySem.W.mg_of X G a9, _, _, F10, b10, PySem.W.mg_of X G a10, _, _, F11, b11, PySem.W.mg_of X G a11, PySem.W.mg_none_of X G z1, PySem.W.mg_none_of X G z2, PySem.W.mg_none_of X G z3, PySem.W.mg_none_of X G z4, PySem.W.mg_none_of X G z5, PySem.W.mg_none_of X G z6, PySem.W.mg_none_of X G z7, PySem.W.mg_none_of X G z8, PySem.W.mg_none_of X G z9⟩
theorem walk {l : PySem.W.OpenLaw} {q : Program} {loose : List Str} {XP : (Str → Option Value) → Heap → Prop} {YP : World → Heap → Prop} {d : DefRec} {K : Params → PySem.W.Frag} (hn : l.most = some 63) (hdf : d.params.defaults = [])
    (hY : ∀ (w : World) (h : Heap), YP w h → (K w.params).In h)
    (F : ∀ (w : World) (mg : Str → Option Value) (fa : Addr) (h : Heap), (K w.params).In h → h.Ns mainGlobals mg → mg d.name = some (.ref fa) →
      ∃ fd : FuncData, (∀ (s : Shared) (u : Value), BindsTo s fd ⟨[u], []⟩ [("script", u)]) ∧ ∀ base : Heap, (K w.params).In base → base.Ns mainGlobals mg → FnOk l.prog w (K w.params) mg base (L2.CX l.prog w) 6 fa fd ["script"] (spOf (K w.params) false [.sh] f_law)) :
    PySem.W.WalkO q loose XP YP l.row.toRowW d [] (fun f vs => PySem.call f vs) :=
  L2.walk_ofB (n := 63) (k := 6) (x := "script") (CX := fun w => L2.CX l.prog w) (sp := fun w => spOf (K w.params) false [.sh] f_law) hn (by decide) hdf ⟨rfl, by decide, by decide⟩ hY F (fun _ H a ns hl hb _ hS => law_sp (law_val ns hl hb) hS) fun _ _ _ _ _ z => law_cx z
end K58
open PySem PySem.W PyProof.Rows
set_option maxRecDepth 100000 in
set_option maxHeartbeats 0 in
theorem PySem.Challenge.cw_beatsbounded_k58_least_lately_used_holds : PySem.Challenge.rw_beatsbounded_k58_least_lately_used.Holds := by
  w_on; o_law; k_head; (case hw => w_witness2)
  k_fill
  refine K58.walk (l := PySem.Challenge.rw_beatsbounded_k58_least_lately_used) rfl rfl (fun w h Y => PySem.W.kIn_of Y) ?F
  case F =>
    intro w mg fa h KX G hmg
    refine' K58.all_mk KX G hmg ?a1 ?l1 ?c1 ?k1 ?a2 ?l2 ?c2 ?k2 ?a3 ?l3 ?c3 ?k3 ?a4 ?l4 ?c4 ?k4 ?a5 ?l5 ?c5 ?k5 ?a6 ?l6 ?c6 ?k6 ?a7 ?l7 ?c7 ?k7 ?a8 ?l8 ?c8 ?k8 ?a9 ?l9 ?c9 ?k9 ?a10 ?l10 ?c10 ?k10 ?a11 ?l11 ?c11 ?k11 ?z1 ?z2 ?z3 ?z4 ?z5 ?z6 ?z7 ?z8 ?z9
    (case a1 => k_is)
    (case l1 => k_is)
    (case c1 => k_is)
    (case k1 => k_is)
    (case a2 => k_is)
    (case l2 => k_is)
    (case c2 => k_is)
    (case k2 => k_is)
    (case a3 => k_is)
    (case l3 => k_is)
    (case c3 => k_is)
    (case k3 => k_is)
    (case a4 => k_is)
    (case l4 => k_is)
    (case c4 => k_is)
    (case k4 => k_is)
    (case a5 => k_is)
    (case l5 => k_is)
    (case c5 => k_is)
    (case k5 => k_is)
    (case a6 => k_is)
    (case l6 => k_is)
    (case c6 => k_is)
    (case k6 => k_is)
    (case a7 => k_is)
    (case l7 => k_is)
    (case c7 => k_is)
    (case k7 => k_is)
    (case a8 => k_is)
    (case l8 => k_is)
    (case c8 => k_is)
    (case k8 => k_is)
    (case a9 => k_is)
    (case l9 => k_is)
    (case c9 => k_is)
    (case k9 => k_is)
    (case a10 => k_is)
    (case l10 => k_is)
    (case c10 => k_is)
    (case k10 => k_is)
    (case a11 => k_is)
    (case l11 => k_is)
    (case c11 => k_is)
    (case k11 => k_is)
    (case z1 => k_is)
    (case z2 => k_is)
    (case z3 => k_is)
    (case z4 => k_is)
    (case z5 => k_is)
    (case z6 => k_is)
    (case z7 => k_is)
    (case z8 => k_is)
    (case z9 => k_is)
#print axioms PySem.Challenge.cw_beatsbounded_k58_least_lately_used_holds
