import PyProof.Rows.All
import Wide.All
import OpenK.AllK
import Wide.FinOn
import HandS.ForMost
import HandS.Evl
import HandS.Exc
import HandS.ExcOwn
import HandS.WordsExc
import HandS.HeadHook1
import HandS.HeadHook2
import HandS.Style
import HandS.Flow
import HandS.Deep
import HandS.WordsDict
import HandS.StrMore
import HandS.NoneIn
import HandS.Defaults
import HandS.HeadEnd
import HandS.Head0
import HandS.Head1
import HandS.Head2
import PySem.Challenge.RW_fascicle_k21_folded_expressions
set_option Elab.async false
set_option linter.all false
set_option maxRecDepth 100000
set_option maxHeartbeats 3900000
/-! AL0: plain data D, a store S of mutable objects, and how they stand in HandS's heap. -/
namespace AL
open PySem PySem.Spec
open PyProof.Rows L2

/-- data: tuples are values, a mutable object is a number, a list of the written part (never changed) is a value -/
inductive D where
  | non | bl (b : Bool) | int (i : Int) | str (s : Str) | tup (l : List D) | ref (i : Nat) | kl (l : List D)
/-- a list of the written part -/
def KL (K : PySem.W.Frag) (a : Addr) (xs : List V) : Prop :=
  ∃ (ob : Obj) (us : Array Value) (cap : Nat), K.lookup a = some ob ∧ ob.cls = .type "list" ∧ ob.dict = none ∧ ob.data = .seq us cap ∧ us.size ≤ sizeLine ∧ Vals xs us.toList
instance : Inhabited D := ⟨.non⟩
/-- a mutable object -/
inductive O where
  | lst (l : List D)
  | rol (l : List D)
  | dK (kvs : List (Key × D))
  | ins (c : Str) (fs : List (Str × D))
instance : Inhabited O := ⟨.lst []⟩
abbrev Sto := List O

section
variable (K : PySem.W.Frag) (A : List Addr) (H : Hp)
mutual
inductive Rp : D → V → Prop
  | non : Rp .non .non
  | bl (b : Bool) : Rp (.bl b) (.bl b)
  | int (i : Int) : Rp (.int i) (.int i)
  | str (x : Str) : Rp (.str x) (.str x)
  | ref {i : Nat} {a : Addr} : A[i]? = some a → Rp (.ref i) (.ref a)
  | tup {a : Addr} {vs : List V} {l : List D} : SqT K H a vs → RpL l vs → Rp (.tup l) (.ref a)
  | kl {a : Addr} {vs : List V} {l : List D} : KL K a vs → RpL l vs → Rp (.kl l) (.ref a)
inductive RpL : List D → List V → Prop
  | nil : RpL [] []
  | cons {d : D} {v : V} {l : List D} {vs : List V} : Rp d v → RpL l vs → RpL (d :: l) (v :: vs)
end
def RpK (κ : Type) : List (κ × D) → List (κ × V) → Prop := Paired fun p q => p.1 = q.1 ∧ Rp K A H p.2 q.2
/-- the object o stands at a -/
def OR : O → Addr → Prop
  | .lst l, a => ∃ vs, H a = some (.lst vs) ∧ RpL K A H l vs
  | .rol l, a => ∃ vs, Rd H a (.lst vs) ∧ RpL K A H l vs
  | .dK kvs, a => ∃ ks, H a = some (.dK ks) ∧ RpK K A H Key kvs ks
  | .ins c fs, a => ∃ dx gs, H a = some (.ins (He.ga K c) dx gs) ∧ RpK K A H Str fs gs
structure MtS (S : Sto) : Prop where
  len : S.length = A.length
  nd : A.Nodup
  ok : ∀ (i : Nat) (o : O) (a : Addr), S[i]? = some o → A[i]? = some a → OR K A H o a
end
abbrev Rho := List (Option D)
structure Mt (K : PySem.W.Frag) (A : List Addr) (H : Hp) (ρ : Rho) (σ : L2.St) : Prop where
  len : ρ.length = σ.length
  ok : ∀ (i : Nat) (d : D), ρ[i]? = some (some d) → ∃ v, σ[i]? = some (some v) ∧ Rp K A H d v
/-- what data lean on is kept -/
structure Uw (K : PySem.W.Frag) (A : List Addr) (H : Hp) (A' : List Addr) (H' : Hp) : Prop where
  pre : A <+: A'
  tup : ∀ a vs, SqT K H a vs → SqT K H' a vs
/-- a step of the world -/
structure Up (K : PySem.W.Frag) (A : List Addr) (H : Hp) (A' : List Addr) (H' : Hp) : Prop extends Uw K A H A' H' where
  fr : ∀ b o, H b = some o → b ∉ A → H' b = some o
  new : ∀ b, b ∈ A' → b ∉ A → H b = none

section
variable {K : PySem.W.Frag} {A A' A1 A2 : List Addr} {H H' H1 H2 : Hp} {S S' : Sto} {d : D} {v : V} {l : List D} {vs : List V} {ρ : Rho} {σ : L2.St}
theorem pre_get {α : Type} {l l' : List α} {i : Nat} {x : α} (h : l <+: l') (e : l[i]? = some x) : l'[i]? = some x := by
  obtain ⟨t, rfl⟩ := h
  rw [List.getElem?_append_left (List.getElem?_eq_some_iff.mp e).1]; exact e
theorem Up.refl : Up K A H A H := ⟨⟨List.prefix_refl _, fun _ _ h => h⟩, fun _ _ h _ => h, fun _ h n => absurd h n⟩
theorem Up.trans (u : Up K A H A1 H1) (w : Up K A1 H1 A2 H2) : Up K A H A2 H2 := by
  refine ⟨⟨u.pre.trans w.pre, fun a vs h => w.tup a vs (u.tup a vs h)⟩, fun b o e n => ?_, fun b h n => ?_⟩
  · by_cases m : b ∈ A1
    · have z := u.new b m n
      rw [e] at z; cases z
    · exact w.fr b o (u.fr b o e n) m
  · by_cases m : b ∈ A1
    · exact u.new b m n
    · have z := w.new b h m
      cases e : H b with
      | none => rfl
      | some o =>
        rw [u.fr b o e n] at z; cases z
mutual
theorem Rp.up (u : Uw K A H A' H') : ∀ (d : D) (v : V), Rp K A H d v → Rp K A' H' d v
  | .non, _, h => by cases h; exact .non
  | .bl b, _, h => by cases h; exact .bl b
  | .int i, _, h => by cases h; exact .int i
  | .str x, _, h => by cases h; exact .str x
  | .ref i, _, h => by cases h; rename_i e; exact .ref (pre_get u.pre e)
  | .tup l, _, h => by cases h; rename_i h1 h2; exact .tup (u.tup _ _ h1) (RpL.up u l _ h2)
  | .kl l, _, h => by cases h; rename_i h1 h2; exact .kl h1 (RpL.up u l _ h2)
theorem RpL.up (u : Uw K A H A' H') : ∀ (l : List D) (vs : List V), RpL K A H l vs → RpL K A' H' l vs
  | [], _, h => by cases h; exact .nil
  | d :: l, _, h => by cases h; rename_i h1 h2; exact .cons (Rp.up u d _ h1) (RpL.up u l _ h2)
end
theorem Rp.mono (h : Rp K A H d v) (u : Up K A H A' H') : Rp K A' H' d v := Rp.up u.toUw d v h
theorem Rp.monow (h : Rp K A H d v) (u : Uw K A H A' H') : Rp K A' H' d v := Rp.up u d v h
theorem RpL.mono (h : RpL K A H l vs) (u : Up K A H A' H') : RpL K A' H' l vs := RpL.up u.toUw l vs h
theorem RpL.monow (h : RpL K A H l vs) (u : Uw K A H A' H') : RpL K A' H' l vs := RpL.up u l vs h
theorem RpK.mono {κ : Type} {kvs : List (κ × D)} {ks : List (κ × V)} (h : RpK K A H κ kvs ks) (u : Up K A H A' H') : RpK K A' H' κ kvs ks := Paired.mapP h fun _ _ z => ⟨z.1, z.2.mono u⟩
theorem RpK.monow {κ : Type} {kvs : List (κ × D)} {ks : List (κ × V)} (h : RpK K A H κ kvs ks) (u : Uw K A H A' H') : RpK K A' H' κ kvs ks := Paired.mapP h fun _ _ z => ⟨z.1, z.2.monow u⟩
theorem Mt.mono (h : Mt K A H ρ σ) (u : Up K A H A' H') : Mt K A' H' ρ σ := ⟨h.len, fun i d e => let ⟨v, e1, r⟩ := h.ok i d e; ⟨v, e1, r.mono u⟩⟩
theorem Mt.set {i : Nat} (h : Mt K A H ρ σ) (r : Rp K A H d v) : Mt K A H (ρ.set i (some d)) (σ.set i (some v)) := by
  refine ⟨by simp [h.len], fun j e q => ?_⟩
  by_cases hj : i = j
  · subst hj
    have hl : i < ρ.length := by
      have := (List.getElem?_eq_some_iff.mp q).1
      simpa using this
    rw [List.getElem?_set_self hl] at q
    cases q
    exact ⟨v, List.getElem?_set_self (by rw [← h.len]; exact hl), r⟩
  · rw [List.getElem?_set_ne hj] at q ⊢
    exact h.ok j e q
/-- forgetting a slot -/
theorem Mt.unset {i : Nat} {x : Option V} (h : Mt K A H ρ σ) : Mt K A H (ρ.set i none) (σ.set i x) := by
  refine ⟨by simp [h.len], fun j e q => ?_⟩
  by_cases hj : i = j
  · subst hj
    have hl : i < ρ.length := by
      have := (List.getElem?_eq_some_iff.mp q).1
      simpa using this
    rw [List.getElem?_set_self hl] at q
    cases q
  · rw [List.getElem?_set_ne hj] at q ⊢
    exact h.ok j e q
theorem RpL.length : ∀ {l : List D} {vs : List V}, RpL K A H l vs → l.length = vs.length
  | [], _, h => by cases h; rfl
  | _ :: _, _, h => by cases h; rename_i _ h2; simp [RpL.length h2]
theorem RpL.get : ∀ {l : List D} {vs : List V} {i : Nat} {d : D}, RpL K A H l vs → l[i]? = some d → ∃ v, vs[i]? = some v ∧ Rp K A H d v
  | [], _, _, _, _, e => by simp at e
  | x :: l, _, 0, d, h, e => by
    cases h; rename_i h1 h2
    simp at e; subst e
    exact ⟨_, rfl, h1⟩
  | x :: l, _, i + 1, d, h, e => by
    cases h; rename_i h1 h2
    obtain ⟨v, q, r⟩ := RpL.get (i := i) h2 (by simpa using e)
    exact ⟨v, by simpa using q, r⟩
theorem RpL.back : ∀ {l : List D} {vs : List V} {i : Nat} {v : V}, RpL K A H l vs → vs[i]? = some v → ∃ d, l[i]? = some d ∧ Rp K A H d v
  | [], _, _, _, h, e => by cases h; simp at e
  | x :: l, _, 0, v, h, e => by
    cases h; rename_i h1 h2
    simp at e; subst e
    exact ⟨_, rfl, h1⟩
  | x :: l, _, i + 1, v, h, e => by
    cases h; rename_i h1 h2
    obtain ⟨d, q, r⟩ := RpL.back (i := i) h2 (by simpa using e)
    exact ⟨d, by simpa using q, r⟩
theorem RpL.append : ∀ {l l' : List D} {vs vs' : List V}, RpL K A H l vs → RpL K A H l' vs' → RpL K A H (l ++ l') (vs ++ vs')
  | [], _, _, _, h, h' => by cases h; exact h'
  | _ :: _, _, _, _, h, h' => by cases h; rename_i h1 h2; exact .cons h1 (RpL.append h2 h')
theorem RpL.one (r : Rp K A H d v) : RpL K A H [d] [v] := .cons r .nil
theorem RpL.set : ∀ {l : List D} {vs : List V} {i : Nat}, RpL K A H l vs → Rp K A H d v → RpL K A H (l.set i d) (vs.set i v)
  | [], _, _, h, _ => by cases h; exact .nil
  | _ :: _, _, 0, h, r => by cases h; rename_i h1 h2; exact .cons r h2
  | _ :: _, _, i + 1, h, r => by cases h; rename_i h1 h2; exact .cons h1 (RpL.set h2 r)
theorem RpL.take : ∀ {l : List D} {vs : List V} (n : Nat), RpL K A H l vs → RpL K A H (l.take n) (vs.take n)
  | _, _, 0, _ => by simpa using RpL.nil
  | [], _, _ + 1, h => by cases h; exact .nil
  | _ :: _, _, n + 1, h => by cases h; rename_i h1 h2; exact .cons h1 (RpL.take n h2)
theorem RpL.drop : ∀ {l : List D} {vs : List V} (n : Nat), RpL K A H l vs → RpL K A H (l.drop n) (vs.drop n)
  | _, _, 0, h => by simpa using h
  | [], _, _ + 1, h => by cases h; exact .nil
  | _ :: _, _, n + 1, h => by cases h; rename_i h1 h2; exact RpL.drop n h2

/-- the object of a number -/
theorem MtS.at (m : MtS K A H S) {i : Nat} {o : O} (e : S[i]? = some o) : ∃ a, A[i]? = some a ∧ OR K A H o a := by
  have hi : i < A.length := by rw [← m.len]; exact (List.getElem?_eq_some_iff.mp e).1
  exact ⟨A[i], List.getElem?_eq_getElem hi, m.ok i o _ e (List.getElem?_eq_getElem hi)⟩
theorem OR.some_at {o : O} {a : Addr} (h : OR K A H o a) : ∃ u, H a = some u := by
  cases o with
  | lst l => obtain ⟨_, e, _⟩ := h; exact ⟨_, e⟩
  | rol l =>
    obtain ⟨_, e, _⟩ := h
    rcases e with e | ⟨_, e⟩
    · exact ⟨_, e⟩
    · exact ⟨_, e⟩
  | dK l => obtain ⟨_, e, _⟩ := h; exact ⟨_, e⟩
  | ins c fs => obtain ⟨_, _, e, _⟩ := h; exact ⟨_, e⟩
theorem MtS.some_at (m : MtS K A H S) {a : Addr} (h : a ∈ A) : ∃ u, H a = some u := by
  obtain ⟨i, hi⟩ := List.getElem?_of_mem h
  have hl : i < S.length := by rw [m.len]; exact (List.getElem?_eq_some_iff.mp hi).1
  exact (m.ok i _ a (List.getElem?_eq_getElem hl) hi).some_at
theorem MtS.notin (m : MtS K A H S) {p : Addr} (h : H p = none) : p ∉ A := fun q => by
  obtain ⟨u, e⟩ := m.some_at q
  rw [h] at e; cases e
/-- no number stands at a tuple -/
theorem OR.notup {o : O} {a : Addr} (h : OR K A H o a) {vs : List V} : ¬ H a = some (.tup vs) := fun q => by
  cases o with
  | lst l => obtain ⟨_, e, _⟩ := h; rw [q] at e; cases e
  | rol l =>
    obtain ⟨_, e, _⟩ := h
    rcases e with e | ⟨_, e⟩ <;> (rw [q] at e; cases e)
  | dK l => obtain ⟨_, e, _⟩ := h; rw [q] at e; cases e
  | ins c fs => obtain ⟨_, _, e, _⟩ := h; rw [q] at e; cases e

/-- an object kept where its place and what it names are kept -/
theorem OR.keep {o : O} {a : Addr} (h : OR K A H o a) (e : H' a = H a) (u : Uw K A H A' H') : OR K A' H' o a := by
  cases o with
  | lst l => obtain ⟨vs, q, r⟩ := h; exact ⟨vs, e.trans q, r.monow u⟩
  | rol l =>
    obtain ⟨vs, q, r⟩ := h
    refine ⟨vs, ?_, r.monow u⟩
    rcases q with q | ⟨ob, q⟩
    · exact .inl (e.trans q)
    · exact .inr ⟨ob, e.trans q⟩
  | dK l => obtain ⟨ks, q, r⟩ := h; exact ⟨ks, e.trans q, r.monow u⟩
  | ins c fs => obtain ⟨dx, gs, q, r⟩ := h; exact ⟨dx, gs, e.trans q, r.monow u⟩

/-- something untracked is laid (a tuple, a hidden list): no number -/
theorem Up.lay {p : Addr} {o : HO} (hp : H p = none) : Up K A H A (upd H p o) := by
  have ne : ∀ {b : Addr} {u : HO}, H b = some u → b ≠ p := fun e => ne_of_none e hp
  refine ⟨⟨List.prefix_refl _, fun a vs h => ?_⟩, fun b u e _ => by rw [upd_ne (ne e)]; exact e, fun _ h n => absurd h n⟩
  rcases h with (h | ⟨ob, h⟩) | h
  · exact .inl (.inl (by rw [upd_ne (ne h)]; exact h))
  · exact .inl (.inr ⟨ob, by rw [upd_ne (ne h)]; exact h⟩)
  · exact .inr h
theorem MtS.lay (m : MtS K A H S) {p : Addr} {o : HO} (hp : H p = none) : MtS K A (upd H p o) S := by
  refine ⟨m.len, m.nd, fun i ob a e1 e2 => ?_⟩
  refine (m.ok i ob a e1 e2).keep ?_ (Up.lay hp).toUw
  have hne : a ≠ p := fun z => m.notin hp (z ▸ List.mem_of_getElem? e2)
  exact upd_ne hne
/-- a new number -/
theorem Up.alloc (m : MtS K A H S) {p : Addr} {o : HO} (hp : H p = none) : Up K A H (A ++ [p]) (upd H p o) := by
  have u : Up K A H A (upd H p o) := Up.lay hp
  refine ⟨⟨List.prefix_append _ _, u.tup⟩, u.fr, fun b h n => ?_⟩
  obtain h | h := List.mem_append.mp h
  · exact absurd h n
  · rw [List.mem_singleton.mp h]; exact hp
theorem MtS.alloc (m : MtS K A H S) {p : Addr} {ho : HO} {o : O} (hp : H p = none) (ok : OR K (A ++ [p]) (upd H p ho) o p) : MtS K (A ++ [p]) (upd H p ho) (S ++ [o]) := by
  have u : Up K A H (A ++ [p]) (upd H p ho) := Up.alloc m hp
  have np := m.notin hp
  refine ⟨by simp [m.len], ?_, fun i ob a e1 e2 => ?_⟩
  · rw [List.nodup_append]
    refine ⟨m.nd, by simp, fun x hx y hy z => ?_⟩
    rw [List.mem_singleton.mp hy] at z
    exact np (z ▸ hx)
  · by_cases hi : i < A.length
    · rw [List.getElem?_append_left hi] at e2
      rw [List.getElem?_append_left (by rw [m.len]; exact hi)] at e1
      have hne : a ≠ p := fun z => np (z ▸ List.mem_of_getElem? e2)
      exact (m.ok i ob a e1 e2).keep (upd_ne hne) u.toUw
    · have hi' : i = A.length := by
        have := (List.getElem?_eq_some_iff.mp e2).1
        simp at this; omega
      subst hi'
      rw [List.getElem?_append_right (Nat.le_refl _)] at e2
      rw [List.getElem?_append_right (by rw [m.len]; exact Nat.le_refl _), m.len] at e1
      simp at e1 e2
      subst e1; subst e2
      exact ok
theorem alloc_at {p : Addr} : (A ++ [p])[A.length]? = some p := by simp
/-- a number's object is changed -/
theorem Up.write (m : MtS K A H S) {i : Nat} {a : Addr} {ho : HO} (e : A[i]? = some a) : Up K A H A (upd H a ho) := by
  have hm : a ∈ A := List.mem_of_getElem? e
  have hl : i < S.length := by rw [m.len]; exact (List.getElem?_eq_some_iff.mp e).1
  have ho := m.ok i _ a (List.getElem?_eq_getElem hl) e
  have nofrz : ∀ ob vs, ¬ H a = some (.frz ob (.tup vs)) := fun ob vs q => by
    revert ho
    cases S[i] with
    | lst l => rintro ⟨_, z, _⟩; rw [q] at z; cases z
    | rol l =>
      rintro ⟨_, z, _⟩
      rcases z with z | ⟨_, z⟩
      · rw [q] at z; cases z
      · rw [q] at z; injection z with z; injection z with _ z; cases z
    | dK l => rintro ⟨_, z, _⟩; rw [q] at z; cases z
    | ins c fs => rintro ⟨_, _, z, _⟩; rw [q] at z; cases z
  refine ⟨⟨List.prefix_refl _, fun b vs h => ?_⟩, fun b u q n => ?_, fun _ h n => absurd h n⟩
  · rcases h with (h | ⟨ob, h⟩) | h
    · refine .inl (.inl ?_)
      rw [upd_ne (fun z => by subst z; exact ho.notup h)]; exact h
    · refine .inl (.inr ⟨ob, ?_⟩)
      rw [upd_ne (fun z => by subst z; exact nofrz _ _ h)]; exact h
    · exact .inr h
  · have hne : b ≠ a := fun z => n (z ▸ hm)
    rw [upd_ne hne]; exact q
theorem MtS.write (m : MtS K A H S) {i : Nat} {a : Addr} {ho : HO} {o : O} (e : A[i]? = some a) (ok : OR K A (upd H a ho) o a) : MtS K A (upd H a ho) (S.set i o) := by
  have u : Up K A H A (upd H a ho) := Up.write m e
  refine ⟨by simp [m.len], m.nd, fun j ob b e1 e2 => ?_⟩
  by_cases hj : i = j
  · subst hj
    have hl : i < S.length := by
      have := (List.getElem?_eq_some_iff.mp e1).1
      simpa using this
    rw [List.getElem?_set_self hl] at e1
    rw [e] at e2
    cases e1; cases e2
    exact ok
  · rw [List.getElem?_set_ne hj] at e1
    have hne : b ≠ a := fun z => by
      subst z
      exact hj (nodup_ixA m.nd e e2)
    exact (m.ok j ob b e1 e2).keep (upd_ne hne) u.toUw
where
  nodup_ixA {N : List Addr} (hN : N.Nodup) {i j : Nat} {x : Addr} (a : N[i]? = some x) (b : N[j]? = some x) : i = j := by
    have ha := List.getElem?_eq_some_iff.mp a
    have hb := List.getElem?_eq_some_iff.mp b
    exact (List.getElem_inj hN).mp (ha.2.trans hb.2.symm)
/-- an object that no number stands at is changed -/
theorem Uw.hid {p : Addr} {o : HO} {xs : List V} (e : H p = some (.lst xs)) : Uw K A H A (upd H p o) := by
  refine ⟨List.prefix_refl _, fun a us hh => ?_⟩
  rcases hh with (hh | ⟨ob, hh⟩) | hh
  · exact .inl (.inl (by rw [upd_ne (fun z => by subst z; rw [e] at hh; cases hh)]; exact hh))
  · exact .inl (.inr ⟨ob, by rw [upd_ne (fun z => by subst z; rw [e] at hh; cases hh)]; exact hh⟩)
  · exact .inr hh
theorem MtS.hid (m : MtS K A H S) {p : Addr} {o : HO} {xs : List V} (e : H p = some (.lst xs)) (n : p ∉ A) : MtS K A (upd H p o) S :=
  ⟨m.len, m.nd, fun i ob a e1 e2 => (m.ok i ob a e1 e2).keep (upd_ne fun z => n (z ▸ List.mem_of_getElem? e2)) (Uw.hid e)⟩
/-- a hidden object becomes a number -/
theorem MtS.show (m : MtS K A H S) {p : Addr} {l : List D} {xs : List V} (e : H p = some (.lst xs)) (n : p ∉ A) (r : RpL K A H l xs) : MtS K (A ++ [p]) H (S ++ [.lst l]) := by
  have u : Uw K A H (A ++ [p]) H := ⟨List.prefix_append _ _, fun _ _ h => h⟩
  refine ⟨by simp [m.len], ?_, fun i ob a e1 e2 => ?_⟩
  · rw [List.nodup_append]
    refine ⟨m.nd, by simp, fun x hx y hy z => ?_⟩
    rw [List.mem_singleton.mp hy] at z
    exact n (z ▸ hx)
  · by_cases hi : i < A.length
    · rw [List.getElem?_append_left hi] at e2
      rw [List.getElem?_append_left (by rw [m.len]; exact hi)] at e1
      exact (m.ok i ob a e1 e2).keep rfl u
    · have hi' : i = A.length := by
        have := (List.getElem?_eq_some_iff.mp e2).1
        simp at this; omega
      subst hi'
      rw [List.getElem?_append_right (Nat.le_refl _)] at e2
      rw [List.getElem?_append_right (by rw [m.len]; exact Nat.le_refl _), m.len] at e1
      simp at e1 e2
      subst e1; subst e2
      exact ⟨xs, e, r.monow u⟩
end
end AL
/-! AL1: abstract readings of expressions. -/
namespace AL
open PySem PySem.Spec
open PyProof.Rows L2

/-- an exception: its class's name, its fields -/
structure Exn where
  cls : Str
  fs : List (Str × D)
abbrev VA := D → Sto → Prop
abbrev XA := Exn → Sto → Prop
abbrev ATE := Rho → Sto → XA → VA → Prop
abbrev ATT := Rho → Sto → XA → (Bool → Sto → Prop) → Prop
abbrev ATA := Rho → Sto → XA → (List D → Sto → Prop) → Prop

/-- an exception in the concrete -/
def ExR (K : PySem.W.Frag) (A : List Addr) (H : Hp) (x : Exn) (cls : Value) (d : Option Addr) : Prop :=
  cls = .ref (He.ga K x.cls) ∧ ((x.fs = [] ∧ d = none) ∨ ∃ a gs, d = some a ∧ H a = some (.xd gs) ∧ RpK K A H Str x.fs gs)
section
variable (K : PySem.W.Frag) (A : List Addr) (H : Hp)
def KQ (P : VK) (Q : VA) : Prop := ∀ v H' d A' S', Up K A H A' H' → MtS K A' H' S' → Rp K A' H' d v → Q d S' → P v H'
def KT (P : Bool → Hp → Prop) (Q : Bool → Sto → Prop) : Prop := ∀ b H' A' S', Up K A H A' H' → MtS K A' H' S' → Q b S' → P b H'
def KA (P : List V → Hp → Prop) (Q : List D → Sto → Prop) : Prop := ∀ vs H' ds A' S', Up K A H A' H' → MtS K A' H' S' → RpL K A' H' ds vs → Q ds S' → P vs H'
def KX (W : XK) (E : XA) : Prop := ∀ x cls d H' A' S', Up K A H A' H' → MtS K A' H' S' → ExR K A' H' x cls d → E x S' → W cls d H'
end
section
variable {K : PySem.W.Frag} {A A' : List Addr} {H H' : Hp}
theorem KQ.mono {P : VK} {Q : VA} (k : KQ K A H P Q) (u : Up K A H A' H') : KQ K A' H' P Q := fun v H2 d A2 S2 w m r q => k v H2 d A2 S2 (u.trans w) m r q
theorem KT.mono {P : Bool → Hp → Prop} {Q : Bool → Sto → Prop} (k : KT K A H P Q) (u : Up K A H A' H') : KT K A' H' P Q := fun v H2 A2 S2 w m q => k v H2 A2 S2 (u.trans w) m q
theorem KA.mono {P : List V → Hp → Prop} {Q : List D → Sto → Prop} (k : KA K A H P Q) (u : Up K A H A' H') : KA K A' H' P Q := fun v H2 d A2 S2 w m r q => k v H2 d A2 S2 (u.trans w) m r q
theorem KX.mono {W : XK} {E : XA} (k : KX K A H W E) (u : Up K A H A' H') : KX K A' H' W E := fun x c d H2 A2 S2 w m r q => k x c d H2 A2 S2 (u.trans w) m r q
end
abbrev WE' (W : WX) (σ : L2.St) : XK := fun c d H => W c d σ H
section
variable (K : PySem.W.Frag) (W : WX)
def LE (t : TE) (a : ATE) : Prop := ∀ σ H A ρ S (P : VK) (Q : VA) (E : XA), MtS K A H S → Mt K A H ρ σ → a ρ S E Q → KQ K A H P Q → KX K A H (WE' W σ) E → t σ H P
def LT (t : TT) (a : ATT) : Prop := ∀ σ H A ρ S (P : Bool → Hp → Prop) (Q : Bool → Sto → Prop) (E : XA), MtS K A H S → Mt K A H ρ σ → a ρ S E Q → KT K A H P Q → KX K A H (WE' W σ) E → t σ H P
def LA (t : TA) (a : ATA) : Prop := ∀ σ H A ρ S (P : List V → Hp → Prop) (Q : List D → Sto → Prop) (E : XA), MtS K A H S → Mt K A H ρ σ → a ρ S E Q → KA K A H P Q → KX K A H (WE' W σ) E → t σ H P
end
/-- the judgements -/
def AE (X : Cx) (W : WX) (e : Expr) (a : ATE) : Prop := ∃ t, PE X e t ∧ LE X.K W t a
def AT (X : Cx) (W : WX) (e : Expr) (a : ATT) : Prop := ∃ t, PT X e t ∧ LT X.K W t a
def AW (X : Cx) (W : WX) (e : Expr) (a : ATT) : Prop := ∃ t, PW X e t ∧ LT X.K W t a
def AA (X : Cx) (W : WX) (es : List Expr) (a : ATA) : Prop := ∃ t, PA X es t ∧ LA X.K W t a
theorem AW.at {X : Cx} {W : WX} {e : Expr} {a : ATT} (h : AW X W e a) : AT X W e a := let ⟨t, p, l⟩ := h; ⟨t, p.pt, l⟩

/-! ### names, constants -/
def gt : Rho → Nat → Option D
  | [], _ => none
  | x :: _, 0 => x
  | _ :: r, i + 1 => gt r i
theorem gt_eq : ∀ {ρ : Rho} {i : Nat} {d : D}, gt ρ i = some d → ρ[i]? = some (some d)
  | [], _, _, h => by cases h
  | x :: _, 0, _, h => by
    have h' : x = some _ := h
    simp [h']
  | _ :: r, i + 1, _, h => by simpa using gt_eq (ρ := r) (i := i) h
/-- what must be there -/
def must {α : Type} (o : Option α) (f : α → Prop) : Prop := match o with
  | some x => f x
  | none => False
theorem must_some {α : Type} {x : α} {f : α → Prop} : must (some x) f = f x := rfl
theorem must_none {α : Type} {f : α → Prop} : must none f = False := rfl
theorem of_must {α : Type} {o : Option α} {f : α → Prop} (h : must o f) : ∃ x, o = some x ∧ f x := by
  cases o with
  | none => exact h.elim
  | some x => exact ⟨x, rfl, h⟩
def aVar (i : Nat) : ATE := fun ρ S _ Q => must (gt ρ i) fun d => Q d S
def aC (d : D) : ATE := fun _ S _ Q => Q d S
section
variable {X : Cx} {W : WX} {a b c : Expr} {aa ab ac : ATE} {pos : Pos} {at1 at2 : ATT}
theorem le_var {K : PySem.W.Frag} {i : Nat} : LE K W (tVar i) (aVar i) := fun σ H A ρ S P Q E m mt h kq _ => by
  obtain ⟨d, e, q⟩ := of_must h
  obtain ⟨v, e1, r⟩ := mt.ok i d (gt_eq e)
  exact ⟨v, e1, kq v H d A S Up.refl m r q⟩
theorem av (i : Nat) {x : Str} {pos : Pos} (hN : X.N[i]? = some x := by rfl) (hv : Vis X.env.scope x := by first | exact Or.inl rfl | exact Or.inr (Or.inl rfl) | exact Or.inr (Or.inr rfl)) (hd : (x == ("__debug__" : Str)) = false := by decide)
    (hcd : (x == ("__classdict__" : Str)) = false := by decide) : AE X W (.Name x pos) (aVar i) := ⟨_, pe_var hN hv hd hcd, le_var⟩
theorem le_c {K : PySem.W.Frag} {v : V} {d : D} (r : ∀ A H, Rp K A H d v) : LE K W (tC v) (aC d) := fun σ H A ρ S P Q E m mt h kq _ => kq v H d A S Up.refl m (r A H) h
theorem ae_int {i j pos} : AE X W (.Constant (.int i) j pos) (aC (.int i)) := ⟨_, pe_int, le_c fun _ _ => .int i⟩
theorem ae_bl {b j pos} : AE X W (.Constant (.bool b) j pos) (aC (.bl b)) := ⟨_, pe_bl, le_c fun _ _ => .bl b⟩
theorem ae_non {j pos} : AE X W (.Constant .none j pos) (aC .non) := ⟨_, pe_non, le_c fun _ _ => .non⟩
theorem ae_str {x j pos} : AE X W (.Constant (.str x) j pos) (aC (.str x)) := ⟨_, pe_str, le_c fun _ _ => .str x⟩
/-- a constant of the module -/
def GlD (K : PySem.W.Frag) (mg : Str → Option Value) (x : Str) (d : D) : Prop := ∃ v u, mg x = some u ∧ RelV v u ∧ ∀ A H, Rp K A H d v
theorem ae_glob {x : Str} {d : D} (g : GlD X.K X.mg x d) (hg : Gl X x := by rfl) (hd : (x == ("__debug__" : Str)) = false := by decide) : AE X W (.Name x pos) (aC d) := by
  obtain ⟨v, u, hm, r, h⟩ := g
  exact ⟨_, pe_glob hg hm r hd, le_c h⟩

/-! ### two-place operations -/
abbrev AR2 := D → D → Sto → VA → Prop
def LO (K : PySem.W.Frag) (r' : R2) (r : AR2) : Prop := ∀ x y H A dx dy S (P : VK) (Q : VA), MtS K A H S → Rp K A H dx x → Rp K A H dy y → r dx dy S Q → KQ K A H P Q → r' x y H P
def AOp (X : Cx) (f : Value → Value → Sem Value) (r : AR2) : Prop := ∃ r', OpR X f r' ∧ LO X.K r' r
theorem AOp.or {f : Value → Value → Sem Value} {r1 r2 : AR2} (h1 : AOp X f r1) (h2 : AOp X f r2) : AOp X f (fun x y S Q => r1 x y S Q ∨ r2 x y S Q) := by
  obtain ⟨t1, o1, l1⟩ := h1
  obtain ⟨t2, o2, l2⟩ := h2
  refine ⟨_, o1.or o2, fun x y H A dx dy S P Q m rx ry h k => ?_⟩
  rcases h with h | h
  · exact .inl (l1 x y H A dx dy S P Q m rx ry h k)
  · exact .inr (l2 x y H A dx dy S P Q m rx ry h k)
theorem AOp.imp {f : Value → Value → Sem Value} {r1 r2 : AR2} (h1 : AOp X f r1) (h : ∀ x y S Q, r2 x y S Q → r1 x y S Q) : AOp X f r2 := by
  obtain ⟨t1, o1, l1⟩ := h1
  exact ⟨_, o1, fun x y H A dx dy S P Q m rx ry q k => l1 x y H A dx dy S P Q m rx ry (h _ _ _ _ q) k⟩
def aOp (r : AR2) (a b : ATE) : ATE := fun ρ S E Q => a ρ S E fun x S1 => b ρ S1 E fun y S2 => r x y S2 Q
theorem le_op {K : PySem.W.Frag} {r' : R2} {r : AR2} {ta tb : TE} (lo : LO K r' r) (la : LE K W ta aa) (lb : LE K W tb ab) : LE K W (tOp r' ta tb) (aOp r aa ab) := fun σ H A ρ S P Q E m mt h kq kx =>
  la σ H A ρ S _ _ E m mt h (fun x H1 dx A1 S1 u1 m1 r1 q1 => lb σ H1 A1 ρ S1 _ _ E m1 (mt.mono u1) q1 (fun y H2 dy A2 S2 u2 m2 r2 q2 =>
    lo x y H2 A2 dx dy S2 P Q m2 (r1.mono u2) r2 q2 (kq.mono (u1.trans u2))) (kx.mono u1)) kx
theorem ae_op {op : Operator} {r : AR2} (ho : AOp X (binaryOp op) r) (ha : AE X W a aa) (hb : AE X W b ab) : AE X W (.BinOp a op b pos) (aOp r aa ab) := by
  obtain ⟨r', o, lo⟩ := ho
  obtain ⟨ta, pa, la⟩ := ha
  obtain ⟨tb, pb, lb⟩ := hb
  exact ⟨_, pe_op o pa pb, le_op lo la lb⟩
theorem ae_cmp {op : CmpOp} {r : AR2} (ho : AOp X (compareOp op) r) (ha : AE X W a aa) (hb : AE X W b ab) (hm : behindInMarks op b = false := by first | exact nobehind _ (by decide) (by decide) | rfl) : AE X W (.Compare a [op] [b] pos) (aOp r aa ab) := by
  obtain ⟨r', o, lo⟩ := ho
  obtain ⟨ta, pa, la⟩ := ha
  obtain ⟨tb, pb, lb⟩ := hb
  exact ⟨_, pe_cmpR o pa pb hm, le_op lo la lb⟩
def aChain (r r' : AR2) (a b c : ATE) : ATE := fun ρ S E Q => a ρ S E fun x S1 => b ρ S1 E fun y S2 => r x y S2 fun z S3 => match z with
  | .bl true => c ρ S3 E fun w S4 => r' y w S4 Q
  | .bl false => Q (.bl false) S3
  | _ => False
theorem le_chain {K : PySem.W.Frag} {r1 r1' : R2} {r2 r2' : AR2} {ta tb tc : TE} (lo : LO K r1 r2) (lo' : LO K r1' r2') (la : LE K W ta aa) (lb : LE K W tb ab) (lc : LE K W tc ac) :
    LE K W (tChain r1 r1' ta tb tc) (aChain r2 r2' aa ab ac) := fun σ H A ρ S P Q E m mt h kq kx =>
  la σ H A ρ S _ _ E m mt h (fun x H1 dx A1 S1 u1 m1 x1 q1 => lb σ H1 A1 ρ S1 _ _ E m1 (mt.mono u1) q1 (fun y H2 dy A2 S2 u2 m2 x2 q2 => by
    refine lo x y H2 A2 dx dy S2 _ _ m2 (x1.mono u2) x2 q2 fun z H3 dz A3 S3 u3 m3 x3 q3 => ?_
    have uu := (u1.trans u2).trans u3
    cases dz with
    | bl k =>
      cases x3
      refine ⟨k, rfl, ?_⟩
      cases k with
      | true =>
        show tc σ H3 _
        exact lc σ H3 A3 ρ S3 _ _ E m3 (mt.mono uu) q3 (fun w H4 dw A4 S4 u4 m4 x4 q4 => lo' y w H4 A4 dy dw S4 P Q m4 ((x2.mono u3).mono u4) x4 q4 (kq.mono (uu.trans u4))) (kx.mono uu)
      | false =>
        show P (.bl false) H3
        exact kq _ H3 (.bl false) A3 S3 uu m3 (.bl false) q3
    | _ => exact q3.elim) (kx.mono u1)) kx
theorem ae_chain {op op' : CmpOp} {r r' : AR2} (ho : AOp X (compareOp op) r) (ho' : AOp X (compareOp op') r') (ha : AE X W a aa) (hb : AE X W b ab) (hc : AE X W c ac) (hm : lastMarks [op, op'] [b, c] = false := by rfl) : AE X W (.Compare a [op, op'] [b, c] pos) (aChain r r' aa ab ac) := by
  obtain ⟨r1, o1, l1⟩ := ho
  obtain ⟨r2, o2, l2⟩ := ho'
  obtain ⟨ta, pa, la⟩ := ha
  obtain ⟨tb, pb, lb⟩ := hb
  obtain ⟨tc, pc, lc⟩ := hc
  exact ⟨_, pe_chain o1 o2 pa pb pc hm, le_chain l1 l2 la lb lc⟩

/-! ### tests -/
def aB (a : ATE) : ATT := fun ρ S E Q => a ρ S E fun d S1 => match d with
  | .bl k => Q k S1
  | _ => False
theorem lt_B {K : PySem.W.Frag} {ta : TE} (la : LE K W ta aa) : LT K W (tB ta) (aB aa) := fun σ H A ρ S P Q E m mt h kt kx =>
  la σ H A ρ S _ _ E m mt h (fun x H1 dx A1 S1 u1 m1 r1 q1 => by
    cases dx with
    | bl k => cases r1; exact ⟨k, rfl, kt k H1 A1 S1 u1 m1 q1⟩
    | _ => exact q1.elim) kx
theorem lt_T {K : PySem.W.Frag} {ta : TE} (la : LE K W ta aa) : LT K W (tTest ta) (aB aa) := fun σ H A ρ S P Q E m mt h kt kx =>
  la σ H A ρ S _ _ E m mt h (fun x H1 dx A1 S1 u1 m1 r1 q1 => by
    cases dx with
    | bl k => cases r1; exact ⟨k, rfl, kt k H1 A1 S1 u1 m1 q1⟩
    | _ => exact q1.elim) kx
theorem at_cmp {op : CmpOp} {r : AR2} (ho : AOp X (compareOp op) r) (ha : AE X W a aa) (hb : AE X W b ab) (hm : behindInMarks op b = false := by first | exact nobehind _ (by decide) (by decide) | rfl) : AT X W (.Compare a [op] [b] pos) (aB (aOp r aa ab)) := by
  obtain ⟨r', o, lo⟩ := ho
  obtain ⟨ta, pa, la⟩ := ha
  obtain ⟨tb, pb, lb⟩ := hb
  exact ⟨_, pt_cmpR o pa pb hm, lt_T (le_op lo la lb)⟩
theorem at_chain {op op' : CmpOp} {r r' : AR2} (ho : AOp X (compareOp op) r) (ho' : AOp X (compareOp op') r') (ha : AE X W a aa) (hb : AE X W b ab) (hc : AE X W c ac) (hm : lastMarks [op, op'] [b, c] = false := by rfl) : AT X W (.Compare a [op, op'] [b, c] pos) (aB (aChain r r' aa ab ac)) := by
  obtain ⟨r1, o1, l1⟩ := ho
  obtain ⟨r2, o2, l2⟩ := ho'
  obtain ⟨ta, pa, la⟩ := ha
  obtain ⟨tb, pb, lb⟩ := hb
  obtain ⟨tc, pc, lc⟩ := hc
  exact ⟨_, pt_chain o1 o2 pa pb pc hm, lt_T (le_chain l1 l2 la lb lc)⟩
theorem at_val {e : Expr} (h : AE X W e aa) (he : ∀ whole, isTrue e X.env whole = (do let v ← whole; standAt e.pos; holding [v] (truthy v)) := by intro _; rfl) : AT X W e (aB aa) := by
  obtain ⟨ta, pa, la⟩ := h
  exact ⟨_, pt_val pa he, lt_B la⟩
def aAnd (t u : ATT) : ATT := fun ρ S E Q => t ρ S E fun k S1 => match k with
  | true => u ρ S1 E Q
  | false => Q false S1
def aOr (t u : ATT) : ATT := fun ρ S E Q => t ρ S E fun k S1 => match k with
  | true => Q true S1
  | false => u ρ S1 E Q
def aNot (t : ATT) : ATT := fun ρ S E Q => t ρ S E fun k S1 => Q (!k) S1
theorem lt_and {K : PySem.W.Frag} {t u : TT} (l1 : LT K W t at1) (l2 : LT K W u at2) : LT K W (tAnd t u) (aAnd at1 at2) := fun σ H A ρ S P Q E m mt h kt kx =>
  l1 σ H A ρ S _ _ E m mt h (fun k H1 A1 S1 u1 m1 q1 => by
    cases k with
    | true => exact l2 σ H1 A1 ρ S1 P Q E m1 (mt.mono u1) q1 (kt.mono u1) (kx.mono u1)
    | false => exact kt false H1 A1 S1 u1 m1 q1) kx
theorem lt_or {K : PySem.W.Frag} {t u : TT} (l1 : LT K W t at1) (l2 : LT K W u at2) : LT K W (tOr t u) (aOr at1 at2) := fun σ H A ρ S P Q E m mt h kt kx =>
  l1 σ H A ρ S _ _ E m mt h (fun k H1 A1 S1 u1 m1 q1 => by
    cases k with
    | false => exact l2 σ H1 A1 ρ S1 P Q E m1 (mt.mono u1) q1 (kt.mono u1) (kx.mono u1)
    | true => exact kt true H1 A1 S1 u1 m1 q1) kx
theorem lt_not {K : PySem.W.Frag} {t : TT} (l1 : LT K W t at1) : LT K W (tNot t) (aNot at1) := fun σ H A ρ S P Q E m mt h kt kx =>
  l1 σ H A ρ S _ _ E m mt h (fun k H1 A1 S1 u1 m1 q1 => kt (!k) H1 A1 S1 u1 m1 q1) kx
variable {rest : List Expr}
theorem aw_and1 (h : AT X W a at1) : AW X W (.BoolOp .And [a] pos) at1 := let ⟨t, p, l⟩ := h; ⟨t, pw_and1 p, l⟩
theorem aw_or1 (h : AT X W a at1) : AW X W (.BoolOp .Or [a] pos) at1 := let ⟨t, p, l⟩ := h; ⟨t, pw_or1 p, l⟩
theorem aw_and (h : AT X W a at1) (g : AW X W (.BoolOp .And (b :: rest) pos) at2) : AW X W (.BoolOp .And (a :: b :: rest) pos) (aAnd at1 at2) := let ⟨_, p, l⟩ := h; let ⟨_, q, l'⟩ := g; ⟨_, pw_and p q, lt_and l l'⟩
theorem aw_or (h : AT X W a at1) (g : AW X W (.BoolOp .Or (b :: rest) pos) at2) : AW X W (.BoolOp .Or (a :: b :: rest) pos) (aOr at1 at2) := let ⟨_, p, l⟩ := h; let ⟨_, q, l'⟩ := g; ⟨_, pw_or p q, lt_or l l'⟩
theorem at_not (h : AT X W a at1) : AT X W (.UnaryOp .Not a pos) (aNot at1) := let ⟨_, p, l⟩ := h; ⟨_, pt_not p, lt_not l⟩
/-! .. as values (all but the last True or False) -/
def aAndV (a b : ATE) : ATE := fun ρ S E Q => a ρ S E fun x S1 => match x with
  | .bl true => b ρ S1 E Q
  | .bl false => Q (.bl false) S1
  | _ => False
def aOrV (a b : ATE) : ATE := fun ρ S E Q => a ρ S E fun x S1 => match x with
  | .bl true => Q (.bl true) S1
  | .bl false => b ρ S1 E Q
  | _ => False
def aNotV (a : ATE) : ATE := fun ρ S E Q => a ρ S E fun x S1 => match x with
  | .bl k => Q (.bl (!k)) S1
  | _ => False
theorem ae_one {op} (h : AE X W a aa) : AE X W (.BoolOp op [a] pos) aa := let ⟨_, p, l⟩ := h; ⟨_, pe_one p, l⟩
theorem ae_and (h : AE X W a aa) (g : AE X W (.BoolOp .And (b :: rest) pos) ab) : AE X W (.BoolOp .And (a :: b :: rest) pos) (aAndV aa ab) := by
  obtain ⟨ta, pa, la⟩ := h
  obtain ⟨tb, pb, lb⟩ := g
  refine ⟨_, pe_and pa pb, fun σ H A ρ S P Q E m mt h kq kx => la σ H A ρ S _ _ E m mt h (fun x H1 dx A1 S1 u1 m1 r1 q1 => ?_) kx⟩
  cases dx with
  | bl k =>
    cases r1
    refine ⟨k, rfl, ?_⟩
    cases k with
    | true => exact lb σ H1 A1 ρ S1 P Q E m1 (mt.mono u1) q1 (kq.mono u1) (kx.mono u1)
    | false => exact kq _ H1 _ A1 S1 u1 m1 (.bl false) q1
  | _ => exact q1.elim
theorem ae_or (h : AE X W a aa) (g : AE X W (.BoolOp .Or (b :: rest) pos) ab) : AE X W (.BoolOp .Or (a :: b :: rest) pos) (aOrV aa ab) := by
  obtain ⟨ta, pa, la⟩ := h
  obtain ⟨tb, pb, lb⟩ := g
  refine ⟨_, pe_or pa pb, fun σ H A ρ S P Q E m mt h kq kx => la σ H A ρ S _ _ E m mt h (fun x H1 dx A1 S1 u1 m1 r1 q1 => ?_) kx⟩
  cases dx with
  | bl k =>
    cases r1
    refine ⟨k, rfl, ?_⟩
    cases k with
    | false => exact lb σ H1 A1 ρ S1 P Q E m1 (mt.mono u1) q1 (kq.mono u1) (kx.mono u1)
    | true => exact kq _ H1 _ A1 S1 u1 m1 (.bl true) q1
  | _ => exact q1.elim
theorem ae_not (h : AE X W a aa) : AE X W (.UnaryOp .Not a pos) (aNotV aa) := by
  obtain ⟨ta, pa, la⟩ := h
  refine ⟨_, pe_not pa, fun σ H A ρ S P Q E m mt h kq kx => la σ H A ρ S _ _ E m mt h (fun x H1 dx A1 S1 u1 m1 r1 q1 => ?_) kx⟩
  cases dx with
  | bl k => cases r1; exact ⟨k, rfl, kq _ H1 _ A1 S1 u1 m1 (.bl (!k)) q1⟩
  | _ => exact q1.elim
def aIf (t : ATT) (a b : ATE) : ATE := fun ρ S E Q => t ρ S E fun k S1 => match k with
  | true => a ρ S1 E Q
  | false => b ρ S1 E Q
theorem ae_if {e : Expr} (ht : AT X W e at1) (ha : AE X W a aa) (hb : AE X W b ab) : AE X W (.IfExp e a b pos) (aIf at1 aa ab) := by
  obtain ⟨tt, pt, lt⟩ := ht
  obtain ⟨ta, pa, la⟩ := ha
  obtain ⟨tb, pb, lb⟩ := hb
  refine ⟨_, pe_ifExp pt pa pb, fun σ H A ρ S P Q E m mt h kq kx => lt σ H A ρ S _ _ E m mt h (fun k H1 A1 S1 u1 m1 q1 => ?_) kx⟩
  cases k with
  | true => exact la σ H1 A1 ρ S1 P Q E m1 (mt.mono u1) q1 (kq.mono u1) (kx.mono u1)
  | false => exact lb σ H1 A1 ρ S1 P Q E m1 (mt.mono u1) q1 (kq.mono u1) (kx.mono u1)

/-! ### arguments, displays -/
def aNil : ATA := fun _ S _ Q => Q [] S
def aCons (a : ATE) (t : ATA) : ATA := fun ρ S E Q => a ρ S E fun x S1 => t ρ S1 E fun xs S2 => Q (x :: xs) S2
variable {es : List Expr} {ta' : ATA}
theorem aa_nil : AA X W [] aNil := ⟨_, pa_nil, fun σ H A ρ S P Q E m mt h kq _ => kq [] H [] A S Up.refl m .nil h⟩
theorem aa_cons (ha : AE X W a aa) (hs : AA X W es ta') (he : starEach (a :: es) X.env = (false, eval a X.env) :: starEach es X.env := by rfl) : AA X W (a :: es) (aCons aa ta') := by
  obtain ⟨ta, pa, la⟩ := ha
  obtain ⟨tr, pr, lr⟩ := hs
  exact ⟨_, pa_cons pa pr he, fun σ H A ρ S P Q E m mt h kq kx => la σ H A ρ S _ _ E m mt h (fun x H1 dx A1 S1 u1 m1 r1 q1 =>
    lr σ H1 A1 ρ S1 _ _ E m1 (mt.mono u1) q1 (fun xs H2 ds A2 S2 u2 m2 r2 q2 => kq _ H2 _ A2 S2 (u1.trans u2) m2 (.cons (r1.mono u2) r2) q2) (kx.mono u1)) kx⟩
end
end AL
/-! AL2: displays, operators, subscripts, calls of built-ins, fields. -/
namespace AL
open PySem PySem.Spec
open PyProof.Rows L2
section
variable {X : Cx} {W : WX} {a b c : Expr} {aa ab ac : ATE} {pos : Pos} {es : List Expr} {t' : ATA}

/-! ### displays -/
def aTup (t : ATA) : ATE := fun ρ S E Q => t ρ S E fun ds S1 => ds.length ≤ sizeLine ∧ Q (.tup ds) S1
def aLst (t : ATA) : ATE := fun ρ S E Q => t ρ S E fun ds S1 => ds.length ≤ sizeLine ∧ Q (.ref S1.length) (S1 ++ [.lst ds])
theorem kq_tup {K : PySem.W.Frag} {A : List Addr} {H : Hp} {S : Sto} {P : VK} {Q : VA} {vs : List V} {ds : List D} {p : Addr} (k : KQ K A H P Q) (m : MtS K A H S) (r : RpL K A H ds vs) (q : Q (.tup ds) S) (hp : H p = none) : P (.ref p) (upd H p (.tup vs)) :=
  k _ _ _ A S (Up.lay hp) (m.lay hp) (.tup (SqT.of upd_same) (r.mono (Up.lay hp))) q
theorem kq_lst {K : PySem.W.Frag} {A : List Addr} {H : Hp} {S : Sto} {P : VK} {Q : VA} {vs : List V} {ds : List D} {p : Addr} (k : KQ K A H P Q) (m : MtS K A H S) (r : RpL K A H ds vs) (q : Q (.ref S.length) (S ++ [.lst ds])) (hp : H p = none) : P (.ref p) (upd H p (.lst vs)) :=
  k _ _ _ (A ++ [p]) _ (Up.alloc m hp) (m.alloc (o := .lst ds) hp ⟨vs, upd_same, r.mono (Up.alloc m hp)⟩) (.ref (by rw [m.len]; exact alloc_at)) q
theorem ae_tup {x1} (h : AA X W es t') : AE X W (.Tuple es x1 pos) (aTup t') := by
  obtain ⟨t, p, l⟩ := h
  exact ⟨_, pe_tup p, fun σ H A ρ S P Q E m mt h kq kx => l σ H A ρ S _ _ E m mt h (fun vs H1 ds A1 S1 u1 m1 r1 q1 => ⟨by rw [← r1.length]; exact q1.1, fun p hp => kq_tup (kq.mono u1) m1 r1 q1.2 hp⟩) kx⟩
theorem ae_lst (h : AA X W es t') : AE X W (.List es pos) (aLst t') := by
  obtain ⟨t, p, l⟩ := h
  exact ⟨_, pe_lst p, fun σ H A ρ S P Q E m mt h kq kx => l σ H A ρ S _ _ E m mt h (fun vs H1 ds A1 S1 u1 m1 r1 q1 => ⟨by rw [← r1.length]; exact q1.1, fun p hp => kq_lst (kq.mono u1) m1 r1 q1.2 hp⟩) kx⟩

/-! ### ints and texts by operators -/
def oI (C : Int → Int → Prop) (g : Int → Int → D) : AR2 := fun x y S Q => match x, y with
  | .int i, .int j => C i j ∧ Q (g i j) S
  | _, _ => False
theorem ao_I {f : Value → Value → Sem Value} {C : Int → Int → Prop} {g : Int → Int → V} {g' : Int → Int → D} (h : OpR X f (rI C g)) (hg : ∀ i j A H, Rp X.K A H (g' i j) (g i j)) : AOp X f (oI C g') := by
  refine ⟨_, h, fun x y H A dx dy S P Q m rx ry q k => ?_⟩
  cases rx <;> cases ry <;> first | exact q.elim | skip
  exact ⟨_, _, rfl, rfl, q.1, k _ H _ A S Up.refl m (hg _ _ _ _) q.2⟩
theorem ao_I0 {f : Value → Value → Sem Value} {g : Int → Int → V} {g' : Int → Int → D} (h : OpR X f (rI0 g)) (hg : ∀ i j A H, Rp X.K A H (g' i j) (g i j)) : AOp X f (oI (fun _ _ => True) g') := by
  refine ⟨_, h, fun x y H A dx dy S P Q m rx ry q k => ?_⟩
  cases rx <;> cases ry <;> first | exact q.elim | skip
  exact ⟨_, _, rfl, rfl, k _ H _ A S Up.refl m (hg _ _ _ _) q.2⟩
def oS (C : Str → Str → Prop) (g : Str → Str → D) : AR2 := fun x y S Q => match x, y with
  | .str i, .str j => C i j ∧ Q (g i j) S
  | _, _ => False
theorem ao_S {f : Value → Value → Sem Value} {C : Str → Str → Prop} {g : Str → Str → D} {g' : Str → Str → V} {r : R2} (h : OpR X f r) (hr : ∀ i j H (P : VK), C i j → P (g' i j) H → r (.str i) (.str j) H P) (hg : ∀ i j A H, Rp X.K A H (g i j) (g' i j)) : AOp X f (oS C g) := by
  refine ⟨_, h, fun x y H A dx dy S P Q m rx ry q k => ?_⟩
  cases rx <;> cases ry <;> first | exact q.elim | skip
  exact hr _ _ H P q.1 (k _ H _ A S Up.refl m (hg _ _ _ _) q.2)
/-- the list that stands at a number -/
def lstOf (S : Sto) (i : Nat) : Option (List D) := match S[i]? with
  | some (.lst l) => some l
  | some (.rol l) => some l
  | _ => none
def oCat : AR2 := fun x y S Q => match x, y with
  | .ref i, .ref j => (match S[i]?, S[j]? with
    | some (.lst l), some (.lst n) => l.length + n.length ≤ sizeLine ∧ Q (.ref S.length) (S ++ [.lst (l ++ n)])
    | _, _ => False)
  | _, _ => False
theorem ao_cat : AOp X (binaryOp .Add) oCat := by
  refine ⟨_, op_cat, fun x y H A dx dy S P Q m rx ry q k => ?_⟩
  cases rx <;> cases ry <;> first | exact q.elim | skip
  rename_i i p e1 j p' e2
  simp only [oCat] at q
  split at q
  · rename_i l n h1 h2
    obtain ⟨vs, g1, r1⟩ := m.ok i _ p h1 e1
    obtain ⟨ws, g2, r2⟩ := m.ok j _ p' h2 e2
    refine ⟨p, p', vs, ws, rfl, rfl, g1, g2, by rw [← r1.length, ← r2.length]; exact q.1, fun pp hp => kq_lst k m (r1.append r2) q.2 hp⟩
  · exact q.elim
def oAdd : AR2 := fun x y S Q => match x, y with
  | .int i, .int j => Q (.int (i + j)) S
  | .str s, .str t => s.length + t.length ≤ sizeLine ∧ Q (.str (s ++ t)) S
  | .ref i, .ref j => (match S[i]?, S[j]? with
    | some (.lst l), some (.lst n) => l.length + n.length ≤ sizeLine ∧ Q (.ref S.length) (S ++ [.lst (l ++ n)])
    | _, _ => False)
  | _, _ => False
theorem ao_add : AOp X (binaryOp .Add) oAdd := by
  have h1 : AOp X (binaryOp .Add) (oI (fun _ _ => True) fun i j => .int (i + j)) := ao_I0 op_add fun _ _ _ _ => .int _
  have h2 : AOp X (binaryOp .Add) (oS (fun i j => i.length + j.length ≤ sizeLine) fun i j => .str (i ++ j)) := ao_S (g' := fun i j => .str (i ++ j)) op_add_str (fun i j H P c q => ⟨i, j, rfl, rfl, c, q⟩) fun _ _ _ _ => .str _
  refine (h1.or (h2.or ao_cat)).imp fun x y S Q q => ?_
  cases x <;> cases y <;> first | exact q.elim | skip
  · exact .inl ⟨trivial, q⟩
  · exact .inr (.inl q)
  · exact .inr (.inr q)
def oSub : AR2 := fun x y S Q => match x, y with
  | .int i, .int j => Q (.int (i - j)) S
  | _, _ => False
theorem ao_sub : AOp X (binaryOp .Sub) oSub := (ao_I0 (g' := fun i j => .int (i - j)) op_sub fun _ _ _ _ => .int _).imp fun x y S Q q => by
  cases x <;> cases y <;> first | exact q.elim | exact ⟨trivial, q⟩
def oMul : AR2 := fun x y S Q => match x, y with
  | .int i, .int j => CMul i j ∧ Q (.int (i * j)) S
  | _, _ => False
theorem ao_mul : AOp X (binaryOp .Mult) oMul := (ao_I (g' := fun i j => .int (i * j)) op_mul fun _ _ _ _ => .int _).imp fun x y S Q q => by
  cases x <;> cases y <;> first | exact q.elim | exact q
def oDiv : AR2 := fun x y S Q => match x, y with
  | .int i, .int j => CDiv i j ∧ Q (.int (i / j)) S
  | _, _ => False
theorem ao_div : AOp X (binaryOp .FloorDiv) oDiv := (ao_I (g' := fun i j => .int (i / j)) op_fdiv fun _ _ _ _ => .int _).imp fun x y S Q q => by
  cases x <;> cases y <;> first | exact q.elim | exact q
def oMod : AR2 := fun x y S Q => match x, y with
  | .int i, .int j => 0 < j ∧ Q (.int (i % j)) S
  | _, _ => False
theorem ao_mod : AOp X (binaryOp .Mod) oMod := (ao_I (g' := fun i j => .int (i % j)) op_mod fun _ _ _ _ => .int _).imp fun x y S Q q => by
  cases x <;> cases y <;> first | exact q.elim | exact q
/-! ### order -/
def sLt (s t : Str) : Bool := decide (s.cps.toList < t.cps.toList)
def oLt : AR2 := fun x y S Q => match x, y with
  | .int i, .int j => Q (.bl (decide (i < j))) S
  | .str s, .str t => Q (.bl (sLt s t)) S
  | _, _ => False
def oLe : AR2 := fun x y S Q => match x, y with
  | .int i, .int j => Q (.bl (decide (i ≤ j))) S
  | .str s, .str t => Q (.bl (!sLt t s)) S
  | _, _ => False
def oGt : AR2 := fun x y S Q => match x, y with
  | .int i, .int j => Q (.bl (decide (j < i))) S
  | .str s, .str t => Q (.bl (sLt t s)) S
  | _, _ => False
def oGe : AR2 := fun x y S Q => match x, y with
  | .int i, .int j => Q (.bl (decide (j ≤ i))) S
  | .str s, .str t => Q (.bl (!sLt s t)) S
  | _, _ => False
theorem ao_two {f : Value → Value → Sem Value} {gi : Int → Int → Bool} {gs : Str → Str → Bool} {ri : R2} {rs : R2} (hi : OpR X f ri) (hs : OpR X f rs) (ei : ∀ i j H (P : VK), P (.bl (gi i j)) H → ri (.int i) (.int j) H P) (es : ∀ i j H (P : VK), P (.bl (gs i j)) H → rs (.str i) (.str j) H P) :
    AOp X f (fun x y S Q => match x, y with
      | .int i, .int j => Q (.bl (gi i j)) S
      | .str s, .str t => Q (.bl (gs s t)) S
      | _, _ => False) := by
  refine ⟨_, hi.or hs, fun x y H A dx dy S P Q m rx ry q k => ?_⟩
  cases rx <;> cases ry <;> first | exact q.elim | skip
  · exact .inl (ei _ _ H P (k _ H _ A S Up.refl m (.bl _) q))
  · exact .inr (es _ _ H P (k _ H _ A S Up.refl m (.bl _) q))
theorem ao_lt : AOp X (compareOp .Lt) oLt := (ao_two op_lt op_lt_str (fun i j H P q => ⟨i, j, rfl, rfl, q⟩) (fun i j H P q => ⟨i, j, rfl, rfl, q⟩)).imp fun x y S Q q => by cases x <;> cases y <;> first | exact q.elim | exact q
theorem ao_le : AOp X (compareOp .LtE) oLe := (ao_two op_le op_le_str (fun i j H P q => ⟨i, j, rfl, rfl, q⟩) (fun i j H P q => ⟨i, j, rfl, rfl, q⟩)).imp fun x y S Q q => by cases x <;> cases y <;> first | exact q.elim | exact q
theorem ao_gt : AOp X (compareOp .Gt) oGt := (ao_two op_gt op_gt_str (fun i j H P q => ⟨i, j, rfl, rfl, q⟩) (fun i j H P q => ⟨i, j, rfl, rfl, q⟩)).imp fun x y S Q q => by cases x <;> cases y <;> first | exact q.elim | exact q
theorem ao_ge : AOp X (compareOp .GtE) oGe := (ao_two op_ge op_ge_str (fun i j H P q => ⟨i, j, rfl, rfl, q⟩) (fun i j H P q => ⟨i, j, rfl, rfl, q⟩)).imp fun x y S Q q => by cases x <;> cases y <;> first | exact q.elim | exact q

/-! ### == -/
/-! what is read of data: lists through the store -/
mutual
inductive Py (S : Sto) : D → PyData → Prop
  | non : Py S .non .none
  | bl (b : Bool) : Py S (.bl b) (.bool b)
  | int (i : Int) : Py S (.int i) (.int i)
  | str (x : Str) : Py S (.str x) (.str x)
  | tup {l : List D} {ds : List PyData} : PyL S l ds → Py S (.tup l) (.tuple ds)
  | lst {i : Nat} {l : List D} {ds : List PyData} : lstOf S i = some l → PyL S l ds → Py S (.ref i) (.list ds)
inductive PyL (S : Sto) : List D → List PyData → Prop
  | nil : PyL S [] []
  | cons {d : D} {l : List D} {p : PyData} {ds : List PyData} : Py S d p → PyL S l ds → PyL S (d :: l) (p :: ds)
end
theorem lst_at {K : PySem.W.Frag} {A : List Addr} {H : Hp} {S : Sto} {i : Nat} {l : List D} {a : Addr} (m : MtS K A H S) (e : A[i]? = some a) (h : lstOf S i = some l) : ∃ vs, SqL K H a vs ∧ RpL K A H l vs := by
  unfold lstOf at h
  split at h
  · rename_i l' q
    cases h
    obtain ⟨vs, g, r⟩ := m.ok i _ a q e
    exact ⟨vs, SqL.of g, r⟩
  · rename_i l' q
    cases h
    obtain ⟨vs, g, r⟩ := m.ok i _ a q e
    exact ⟨vs, .inl g, r⟩
  · cases h
mutual
theorem Py.dp {K : PySem.W.Frag} {A : List Addr} {H : Hp} {S : Sto} (m : MtS K A H S) : ∀ (p : PyData) (d : D) (v : V), Py S d p → Rp K A H d v → Dp K H v p
  | .none, _, _, h, r => by cases h; cases r; exact .non
  | .bool b, _, _, h, r => by cases h; cases r; exact .bl b
  | .int i, _, _, h, r => by cases h; cases r; exact .int i
  | .str x, _, _, h, r => by cases h; cases r; exact .str x
  | .tuple ds, _, _, h, r => by
    cases h; rename_i l q
    cases r; rename_i a vs hs rl
    exact .tup hs (PyL.dp m ds l vs q rl)
  | .list ds, _, _, h, r => by
    cases h; rename_i i l e q
    cases r; rename_i a ea
    obtain ⟨vs, hs, rl⟩ := lst_at m ea e
    exact .lst hs (PyL.dp m ds l vs q rl)
  | .dict kvs, _, _, h, _ => by cases h
theorem PyL.dp {K : PySem.W.Frag} {A : List Addr} {H : Hp} {S : Sto} (m : MtS K A H S) : ∀ (ps : List PyData) (l : List D) (vs : List V), PyL S l ps → RpL K A H l vs → DpAll K H vs ps
  | [], _, _, h, r => by cases h; cases r; exact .nil
  | p :: ps, _, _, h, r => by
    cases h; rename_i d l h1 h2
    cases r; rename_i v vs r1 r2
    exact .cons (Py.dp m p d v h1 r1) (PyL.dp m ps l vs h2 r2)
end
/-- == of atoms -/
def eqA : D → D → Option Bool
  | .str x, .str y => some (decide (x = y))
  | .int i, .int j => some (decide (i = j))
  | .bl i, .bl j => some (decide (i = j))
  | .non, .non => some true
  | .non, .int _ => some false
  | .int _, .non => some false
  | .non, .bl _ => some false
  | .bl _, .non => some false
  | .non, .str _ => some false
  | .str _, .non => some false
  | .int _, .str _ => some false
  | .str _, .int _ => some false
  | .bl _, .str _ => some false
  | .str _, .bl _ => some false
  | _, _ => none
theorem eqA_ok {K : PySem.W.Frag} {A : List Addr} {H : Hp} {x y : D} {b : Bool} {v w : V} (h : eqA x y = some b) (rx : Rp K A H x v) (ry : Rp K A H y w) : scal v w = true ∧ decide (v = w) = b := by
  cases rx <;> cases ry <;> simp [eqA] at h <;> subst h <;> first | exact ⟨rfl, rfl⟩ | (refine ⟨rfl, ?_⟩; simp)
/-- == of nested data -/
def eqN (x y : D) (S : Sto) (Q : Bool → Prop) : Prop := ∃ p q, Py S x p ∧ Py S y q ∧ SeqAt.shaped p = true ∧ SeqAt.shaped q = true ∧ Q (PyData.eqv p q)
def oEq : AR2 := fun x y S Q => match eqA x y with
  | some b => Q (.bl b) S
  | none => eqN x y S fun b => Q (.bl b) S
def oNe : AR2 := fun x y S Q => match eqA x y with
  | some b => Q (.bl (!b)) S
  | none => eqN x y S fun b => Q (.bl (!b)) S
theorem ao_eq (hu : X.A.units + 64 < cLine) : AOp X (compareOp .Eq) oEq := by
  refine ⟨_, op_eq.or (op_eqD hu), fun x y H A dx dy S P Q m rx ry q k => ?_⟩
  unfold oEq at q
  split at q
  · rename_i b h
    obtain ⟨h1, h2⟩ := eqA_ok h rx ry
    exact .inl ⟨h1, by rw [h2]; exact k _ H _ A S Up.refl m (.bl _) q⟩
  · obtain ⟨p, p', h1, h2, s1, s2, q⟩ := q
    exact .inr ⟨p, p', Py.dp m p dx x h1 rx, Py.dp m p' dy y h2 ry, s1, s2, k _ H _ A S Up.refl m (.bl _) q⟩
theorem ao_ne (hu : X.A.units + 64 < cLine) : AOp X (compareOp .NotEq) oNe := by
  refine ⟨_, op_ne.or (op_neD hu), fun x y H A dx dy S P Q m rx ry q k => ?_⟩
  unfold oNe at q
  split at q
  · rename_i b h
    obtain ⟨h1, h2⟩ := eqA_ok h rx ry
    exact .inl ⟨h1, by rw [h2]; exact k _ H _ A S Up.refl m (.bl _) q⟩
  · obtain ⟨p, p', h1, h2, s1, s2, q⟩ := q
    exact .inr ⟨p, p', Py.dp m p dx x h1 rx, Py.dp m p' dy y h2 ry, s1, s2, k _ H _ A S Up.refl m (.bl _) q⟩
/-! ### is -/
def isNon : D → Bool
  | .non => true
  | _ => false
def oIs : AR2 := fun x y S Q => match y with
  | .non => Q (.bl (isNon x)) S
  | .bl b => (match x with
    | .bl k => Q (.bl (decide (k = b))) S
    | _ => False)
  | _ => False
def oIsNot : AR2 := fun x y S Q => match y with
  | .non => Q (.bl (!isNon x)) S
  | .bl b => (match x with
    | .bl k => Q (.bl (!decide (k = b))) S
    | _ => False)
  | _ => False
theorem isNon_ok {K : PySem.W.Frag} {A : List Addr} {H : Hp} {x : D} {v : V} (r : Rp K A H x v) : decide (v = V.non) = isNon x := by
  cases r <;> simp [isNon]
theorem ao_is : AOp X (compareOp .Is) oIs := by
  refine ⟨_, op_isN.or op_isBl, fun x y H A dx dy S P Q m rx ry q k => ?_⟩
  cases ry <;> first | exact q.elim | skip
  · exact .inl ⟨rfl, by rw [isNon_ok rx]; exact k _ H _ A S Up.refl m (.bl _) q⟩
  · cases rx <;> first | exact q.elim | skip
    exact .inr ⟨_, _, rfl, rfl, k _ H _ A S Up.refl m (.bl _) q⟩
theorem ao_isnot : AOp X (compareOp .IsNot) oIsNot := by
  refine ⟨_, op_notN.or op_notBl, fun x y H A dx dy S P Q m rx ry q k => ?_⟩
  cases ry <;> first | exact q.elim | skip
  · exact .inl ⟨rfl, by rw [isNon_ok rx]; exact k _ H _ A S Up.refl m (.bl _) q⟩
  · cases rx <;> first | exact q.elim | skip
    exact .inr ⟨_, _, rfl, rfl, k _ H _ A S Up.refl m (.bl _) q⟩
/-! ### in -/
def flatD : D → Bool
  | .non => true
  | .bl _ => true
  | .int _ => true
  | .str _ => true
  | _ => false
def eqF : D → D → Bool
  | .non, .non => true
  | .bl a, .bl b => a == b
  | .bl k, .int i => (if k then 1 else 0) == i
  | .int i, .bl k => i == (if k then 1 else 0)
  | .int a, .int b => a == b
  | .str a, .str b => decide (a = b)
  | _, _ => false
def inF (x : D) (l : List D) : Bool := l.any fun y => eqF y x
theorem flat_ok {K : PySem.W.Frag} {A : List Addr} {H : Hp} {x : D} {v : V} (r : Rp K A H x v) : flatV v = flatD x := by
  cases r <;> rfl
theorem flats_ok {K : PySem.W.Frag} {A : List Addr} {H : Hp} : ∀ {l : List D} {vs : List V}, RpL K A H l vs → vs.all flatV = l.all flatD
  | [], _, h => by cases h; rfl
  | d :: l, _, h => by cases h; rename_i h1 h2; simp [flat_ok h1, flats_ok h2]
theorem eqF_ok {K : PySem.W.Frag} {A : List Addr} {H : Hp} {x y : D} {v w : V} (rx : Rp K A H x v) (ry : Rp K A H y w) (fx : flatD x = true) : eqV v w = eqF x y := by
  cases rx <;> cases ry <;> simp [flatD] at fx <;> first | rfl | (simp [eqV, eqF]; try exact Bool.beq_eq_decide_eq _ _)
theorem inF_ok {K : PySem.W.Frag} {A : List Addr} {H : Hp} {x : D} {v : V} (rx : Rp K A H x v) : ∀ {l : List D} {vs : List V}, RpL K A H l vs → l.all flatD = true → inV v vs = inF x l
  | [], _, h, _ => by cases h; rfl
  | d :: l, _, h, f => by
    cases h; rename_i h1 h2
    simp only [List.all_cons, Bool.and_eq_true] at f
    have ih := inF_ok rx h2 f.2
    unfold inV inF at ih ⊢
    simp only [List.any_cons, eqF_ok h1 rx f.1, ih]
def seqOf (S : Sto) : D → Option (List D)
  | .tup l => some l
  | .kl l => some l
  | .ref i => lstOf S i
  | _ => none
/-- x in s: a flat thing in flat things | data in a list of data -/
def oInB (neg : Bool) : AR2 := fun x y S Q => must (seqOf S y) fun l => (flatD x && l.all flatD) = true ∧ Q (.bl (if neg then !inF x l else inF x l)) S
theorem seq_at {K : PySem.W.Frag} {A : List Addr} {H : Hp} {S : Sto} {d : D} {l : List D} {v : V} (m : MtS K A H S) (r : Rp K A H d v) (h : seqOf S d = some l) : ∃ a vs, v = .ref a ∧ (SqL K H a vs ∨ SqT K H a vs) ∧ RpL K A H l vs := by
  cases r <;> simp [seqOf] at h
  · rename_i i a e
    obtain ⟨vs, hs, rl⟩ := lst_at m e h
    exact ⟨a, vs, rfl, .inl hs, rl⟩
  · rename_i a vs l' hs rl
    subst h
    exact ⟨a, vs, rfl, .inr hs, rl⟩
  · rename_i a vs l' hs rl
    subst h
    exact ⟨a, vs, rfl, .inl (.inr hs), rl⟩
theorem ao_inB : AOp X (compareOp .In) (oInB false) := by
  refine ⟨_, op_in_seq, fun x y H A dx dy S P Q m rx ry q k => ?_⟩
  obtain ⟨l, e, f, q⟩ := of_must q
  obtain ⟨a, vs, rfl, hs, rl⟩ := seq_at m ry e
  simp only [Bool.and_eq_true] at f
  exact ⟨a, vs, rfl, hs, (flat_ok rx).trans f.1, (flats_ok rl).trans f.2, by rw [inF_ok rx rl f.2]; exact k _ H _ A S Up.refl m (.bl _) q⟩
theorem ao_notinB : AOp X (compareOp .NotIn) (oInB true) := by
  refine ⟨_, op_notIn_seq, fun x y H A dx dy S P Q m rx ry q k => ?_⟩
  obtain ⟨l, e, f, q⟩ := of_must q
  obtain ⟨a, vs, rfl, hs, rl⟩ := seq_at m ry e
  simp only [Bool.and_eq_true] at f
  exact ⟨a, vs, rfl, hs, (flat_ok rx).trans f.1, (flats_ok rl).trans f.2, by rw [inF_ok rx rl f.2]; exact k _ H _ A S Up.refl m (.bl _) q⟩
end
end AL
/-! AL3: subscripts, slices, calls of built-ins and of defs, fields, dicts. -/
namespace AL
open PySem PySem.Spec
open PyProof.Rows L2
theorem PE.or {X : Cx} {e : Expr} {t u : TE} (h : PE X e t) (g : PE X e u) : PE X e (fun σ H Q => t σ H Q ∨ u σ H Q) :=
  ⟨fun pins s σ H Q I q => q.elim (h.run pins s σ H Q I) (g.run pins s σ H Q I)⟩
theorem PT.or {X : Cx} {e : Expr} {t u : TT} (h : PT X e t) (g : PT X e u) : PT X e (fun σ H Q => t σ H Q ∨ u σ H Q) :=
  ⟨fun pins s σ H Q I q => q.elim (h.run pins s σ H Q I) (g.run pins s σ H Q I)⟩
section
variable {X : Cx} {W : WX} {a b c : Expr} {aa ab ac : ATE} {pos : Pos} {es : List Expr} {t' : ATA}
/-! ### subscripts -/
def at' {α : Type} (l : List α) (i : Int) : Option α := if 0 ≤ i then l[i.toNat]? else if -(l.length : Int) ≤ i then l[(i + l.length).toNat]? else none
theorem at_ok {α : Type} {l : List α} {i : Int} {d : α} (h : at' l i = some d) : ∃ j, ixN l.length i = some j ∧ l[j]? = some d := by
  unfold at' at h
  split at h
  · rename_i h0
    have hl := (List.getElem?_eq_some_iff.mp h).1
    refine ⟨i.toNat, ?_, h⟩
    unfold ixN
    rw [if_pos h0, if_pos (by omega)]
  · rename_i h0
    split at h
    · rename_i h1
      refine ⟨(i + l.length).toNat, ?_, h⟩
      unfold ixN
      rw [if_neg h0, if_pos h1]
    · cases h
theorem at_vs {K : PySem.W.Frag} {A : List Addr} {H : Hp} {l : List D} {vs : List V} {i : Int} {d : D} (r : RpL K A H l vs) (h : at' l i = some d) : ∃ v, atI vs i = some v ∧ Rp K A H d v := by
  obtain ⟨j, e, g⟩ := at_ok h
  obtain ⟨v, e2, rv⟩ := r.get g
  refine ⟨v, ?_, rv⟩
  unfold atI
  rw [← r.length, e]
  exact e2
def keyD : D → Option Key
  | .int i => some (.inl i)
  | .str x => some (.inr x)
  | _ => none
theorem key_ok {K : PySem.W.Frag} {A : List Addr} {H : Hp} {d : D} {k : Key} {v : V} (h : keyD d = some k) (r : Rp K A H d v) : v = kV k := by
  cases r <;> simp [keyD] at h <;> subst h <;> rfl
def valD {κ : Type} [DecidableEq κ] (kvs : List (κ × D)) (k : κ) : Option D := match kvs with
  | [] => none
  | (q, d) :: r => if q = k then some d else valD r k
theorem valV_cons {κ : Type} [DecidableEq κ] (q : κ) (v : V) (r : List (κ × V)) (k : κ) : valV ((q, v) :: r) k = if q = k then some v else valV r k := by
  unfold valV
  by_cases h : q = k
  · simp [h]
  · simp [h]
theorem val_ok {K : PySem.W.Frag} {A : List Addr} {H : Hp} {κ : Type} [DecidableEq κ] {kvs : List (κ × D)} {ks : List (κ × V)} (r : RpK K A H κ kvs ks) (k : κ) :
    (valD kvs k = none ∧ valV ks k = none) ∨ ∃ d v, valD kvs k = some d ∧ valV ks k = some v ∧ Rp K A H d v := by
  induction r with
  | nil => exact Or.inl ⟨rfl, rfl⟩
  | cons h1 h2 ih =>
    rename_i p q l1 l2
    obtain ⟨p1, p2⟩ := p
    obtain ⟨q1, q2⟩ := q
    obtain ⟨e, rp⟩ := h1
    dsimp only at e rp
    subst e
    rw [valV_cons]
    show ((if p1 = k then some p2 else valD l1 k) = none ∧ _) ∨ ∃ d v, (if p1 = k then some p2 else valD l1 k) = some d ∧ _
    by_cases h : p1 = k
    · rw [if_pos h, if_pos h]; exact .inr ⟨_, _, rfl, rfl, rp⟩
    · rw [if_neg h, if_neg h]; exact ih
def getIx (x y : D) (S : Sto) (Q : VA) : Prop := match x, y with
  | .tup l, .int i => must (at' l i) fun d => Q d S
  | .kl l, .int i => must (at' l i) fun d => Q d S
  | .str s, .int i => s.length ≤ sizeLine ∧ must (at' s.cps.toList i) fun c => Q (.str ⟨#[c]⟩) S
  | .ref k, y => (match S[k]? with
    | some (.lst l) => (match y with
      | .int i => must (at' l i) fun d => Q d S
      | _ => False)
    | some (.rol l) => (match y with
      | .int i => must (at' l i) fun d => Q d S
      | _ => False)
    | some (.dK kvs) => must (keyD y) fun k => must (valD kvs k) fun d => Q d S
    | _ => False)
  | _, _ => False
def aIx (a b : ATE) : ATE := fun ρ S E Q => a ρ S E fun x S1 => b ρ S1 E fun y S2 => getIx x y S2 Q
def rIxD : R2 := fun x y H Q => ∃ a v, x = .ref a ∧ DGet H a y (some v) ∧ Q v H
theorem ix_dict (hu : X.A.units + 1 < cLine) : IxR X rIxD := by
  intro whole part pins s σ H x y v u Q I rx ry h hs
  obtain ⟨a, z, rfl, g, q⟩ := h
  cases rx
  have hT := dict_typeIs I g
  unfold subscriptTail
  refine wpAny_bind ?_
  rw [getitemInPython_of_ne (dict_typeIs I g).not_modules]
  refine wpAny_bind (wpAny_specialOf hT PySem.F.slot_dict_getitem.lookup ?_)
  have got : wpAny (model X.prog X.w) X.A (subscripted part false (.ref a) u) (fun r s₃ => wpAny (model X.prog X.w) X.A (letTemporaryGo whole (.ref a) r >>= fun _ => pure r) (EP X pins σ Q) X.xe s₃) X.xe s := by
    rw [hs]
    exact wpAny_operating (wpAny_mono (d_getItem hu I g ry fun w' s3 I3 rw' => (⟨z, H, I3, rw', q⟩ : EP X pins σ Q w' s3)) (fun r s₃ h₃ => wpAny_bind (wpAny_letTemporaryGo (wpAny_pure h₃))) fun _ _ x => x)
  first
    | exact wpAny_pure (wpAny_bind got)
    | exact wpAny_bind (wpAny_pure (wpAny_bind got))
    | exact wpAny_bind got
theorem getIx_ok {K : PySem.W.Frag} {A : List Addr} {H : Hp} {S : Sto} {x y : D} {v w : V} {P : VK} {Q : VA} (m : MtS K A H S) (rx : Rp K A H x v) (ry : Rp K A H y w) (q : getIx x y S Q) (k : KQ K A H P Q) : rIx K v w H P ∨ rIxD v w H P := by
  cases rx with
  | non => exact q.elim
  | bl b => exact q.elim
  | int i => exact q.elim
  | str z =>
    cases ry <;> first | exact q.elim | skip
    rename_i i
    obtain ⟨h1, q⟩ := q
    obtain ⟨c, e, q⟩ := of_must q
    obtain ⟨j, e1, e2⟩ := at_ok e
    refine .inl (.inr (.inr ⟨z, i, c, rfl, rfl, h1, ?_, k _ H _ A S Up.refl m (.str _) q⟩))
    unfold atI
    rw [e1]; exact e2
  | tup hs rl =>
    rename_i a vs l
    cases ry <;> first | exact q.elim | skip
    rename_i i
    obtain ⟨d, e, q⟩ := of_must q
    obtain ⟨z, e1, rz⟩ := at_vs rl e
    exact .inl (.inr (.inl ⟨a, vs, i, z, rfl, rfl, hs, e1, k _ H _ A S Up.refl m rz q⟩))
  | kl hs rl =>
    rename_i a vs l
    cases ry <;> first | exact q.elim | skip
    rename_i i
    obtain ⟨d, e, q⟩ := of_must q
    obtain ⟨z, e1, rz⟩ := at_vs rl e
    exact .inl (.inl ⟨a, vs, i, z, rfl, rfl, .inr hs, e1, k _ H _ A S Up.refl m rz q⟩)
  | ref ea =>
    rename_i j a
    simp only [getIx] at q
    split at q
    · rename_i l e
      obtain ⟨vs, g, rl⟩ := m.ok j _ a e ea
      cases ry <;> first | exact q.elim | skip
      rename_i i
      obtain ⟨d, e, q⟩ := of_must q
      obtain ⟨z, e1, rz⟩ := at_vs rl e
      exact .inl (.inl ⟨a, vs, i, z, rfl, rfl, SqL.of g, e1, k _ H _ A S Up.refl m rz q⟩)
    · rename_i l e
      obtain ⟨vs, g, rl⟩ := m.ok j _ a e ea
      cases ry <;> first | exact q.elim | skip
      rename_i i
      obtain ⟨d, e, q⟩ := of_must q
      obtain ⟨z, e1, rz⟩ := at_vs rl e
      exact .inl (.inl ⟨a, vs, i, z, rfl, rfl, .inl g, e1, k _ H _ A S Up.refl m rz q⟩)
    · rename_i kvs e
      obtain ⟨ks, g, rk⟩ := m.ok j _ a e ea
      obtain ⟨key, ek, q⟩ := of_must q
      obtain ⟨d, ed, q⟩ := of_must q
      have ev := key_ok ek ry
      subst ev
      rcases val_ok rk key with ⟨h1, _⟩ | ⟨d', z, h1, h2, rz⟩
      · rw [h1] at ed; cases ed
      · rw [h1] at ed; cases ed
        exact .inr ⟨a, z, rfl, by have := DGet.k (k := key) g; rw [h2] at this; exact this, k _ H _ A S Up.refl m rz q⟩
    · exact q.elim
theorem ae_ix (hu : X.A.units + 1 < cLine) (ha : AE X W a aa) (hb : AE X W b ab) (hs : PlainIx b := by intro _ _; rfl) : AE X W (.Subscript a b pos) (aIx aa ab) := by
  obtain ⟨ta, pa, la⟩ := ha
  obtain ⟨tb, pb, lb⟩ := hb
  exact ⟨_, pe_ix (ix_seq.or (ix_dict hu)) pa pb hs, fun σ H A ρ S P Q E m mt h kq kx => la σ H A ρ S _ _ E m mt h (fun x H1 dx A1 S1 u1 m1 r1 q1 => lb σ H1 A1 ρ S1 _ _ E m1 (mt.mono u1) q1 (fun y H2 dy A2 S2 u2 m2 r2 q2 =>
    getIx_ok m2 (r1.mono u2) r2 q2 (kq.mono (u1.trans u2))) (kx.mono u1)) kx⟩

/-! ### in: a sequence of flat things, data in data, a sign in a text, a key in a dict -/
def opInD : R2 := fun x y H Q => ∃ a o, y = .ref a ∧ DGet H a x o ∧ Q (.bl o.isSome) H
def opNotInD : R2 := fun x y H Q => ∃ a o, y = .ref a ∧ DGet H a x o ∧ Q (.bl (!o.isSome)) H
theorem op_inDict (hu : X.A.units + 1 < cLine) : OpR X (compareOp .In) opInD := by
  intro pins s σ H x y v u Q inv rx ry h
  obtain ⟨a, o, rfl, g, q⟩ := h
  cases ry
  exact d_in hu inv g rx fun s3 I3 => ⟨.bl o.isSome, H, I3, rfl, q⟩
theorem op_notinDict (hu : X.A.units + 1 < cLine) : OpR X (compareOp .NotIn) opNotInD := by
  intro pins s σ H x y v u Q inv rx ry h
  obtain ⟨a, o, rfl, g, q⟩ := h
  cases ry
  exact d_notIn hu inv g rx fun s3 I3 => ⟨.bl (!o.isSome), H, I3, rfl, q⟩
def isIn (x y : D) (S : Sto) (Q : Bool → Prop) : Prop := match y with
  | .str t => (match x with
    | .str s => (match s.cps.toList with
      | [c] => Q (decide (c ∈ t.cps.toList))
      | _ => False)
    | _ => False)
  | y => (match y with
    | .ref j => (match S[j]? with
      | some (.dK kvs) => must (keyD x) fun k => Q (valD kvs k).isSome
      | _ => must (lstOf S j) fun l => if (flatD x && l.all flatD) = true then Q (inF x l) else ∃ p ps, Py S x p ∧ PyL S l ps ∧ SeqAt.shaped p = true ∧ SeqAt.shaped (.list ps) = true ∧ Q (ps.any fun z => PyData.eqv z p))
    | .tup l => (flatD x && l.all flatD) = true ∧ Q (inF x l)
    | _ => False)
def oIn : AR2 := fun x y S Q => isIn x y S fun b => Q (.bl b) S
def oNotIn : AR2 := fun x y S Q => isIn x y S fun b => Q (.bl (!b)) S
theorem isIn_ok {K : PySem.W.Frag} {A : List Addr} {H : Hp} {S : Sto} {x y : D} {v w : V} {Q : Bool → Prop} (m : MtS K A H S) (rx : Rp K A H x v) (ry : Rp K A H y w) (q : isIn x y S Q) {G : Prop}
    (g1 : ∀ (p : Addr) (vs : List V), w = .ref p → (SqL K H p vs ∨ SqT K H p vs) → flatV v = true → vs.all flatV = true → Q (inV v vs) → G)
    (g2 : ∀ d ds, Dp K H v d → Dp K H w (.list ds) → SeqAt.shaped d = true → SeqAt.shaped (.list ds) = true → Q (ds.any fun z => PyData.eqv z d) → G)
    (g3 : ∀ (c : Nat) (z : Str), v = .str ⟨#[c]⟩ → w = .str z → Q (decide (c ∈ z.cps.toList)) → G)
    (g4 : ∀ a o, w = .ref a → DGet H a v o → Q o.isSome → G) : G := by
  cases ry with
  | non => exact q.elim
  | bl b => exact q.elim
  | int i => exact q.elim
  | str t =>
    cases rx <;> first | exact q.elim | skip
    rename_i s
    simp only [isIn] at q
    split at q
    · rename_i c e
      refine g3 c t ?_ rfl q
      obtain ⟨⟨l⟩⟩ := s
      simp at e; subst e; rfl
    · exact q.elim
  | tup hs rl =>
    simp only [isIn, Bool.and_eq_true] at q
    obtain ⟨⟨f1, f2⟩, q⟩ := q
    exact g1 _ _ rfl (.inr hs) ((flat_ok rx).trans f1) ((flats_ok rl).trans f2) (by rw [inF_ok rx rl f2]; exact q)
  | kl hs rl => exact q.elim
  | ref ea =>
    rename_i j a
    simp only [isIn] at q
    split at q
    · rename_i kvs e
      obtain ⟨ks, g, rk⟩ := m.ok j _ a e ea
      obtain ⟨k, ek, q⟩ := of_must q
      have ev := key_ok ek rx
      subst ev
      rcases val_ok rk k with ⟨h1, h2⟩ | ⟨d', z, h1, h2, rz⟩
      · rw [h1] at q
        exact g4 a none rfl (by have := DGet.k (k := k) g; rw [h2] at this; exact this) q
      · rw [h1] at q
        exact g4 a (some z) rfl (by have := DGet.k (k := k) g; rw [h2] at this; exact this) q
    · obtain ⟨l, e, q⟩ := of_must q
      obtain ⟨vs, hs, rl⟩ := lst_at m ea e
      by_cases f : (flatD x && l.all flatD) = true
      · rw [if_pos f] at q
        simp only [Bool.and_eq_true] at f
        exact g1 a vs rfl (.inl hs) ((flat_ok rx).trans f.1) ((flats_ok rl).trans f.2) (by rw [inF_ok rx rl f.2]; exact q)
      · rw [if_neg f] at q
        obtain ⟨p, ps, h1, h2, s1, s2, q⟩ := q
        exact g2 p ps (Py.dp m p x v h1 rx) (.lst hs (PyL.dp m ps l vs h2 rl)) s1 s2 q
theorem ao_in (hu : X.A.units + 65 < cLine) : AOp X (compareOp .In) oIn := by
  refine ⟨_, (op_in_seq (X := X)).or ((op_inD hu).or (op_in_sign.or (op_inDict (by omega)))), fun x y H A dx dy S P Q m rx ry q k => ?_⟩
  refine isIn_ok m rx ry q (fun p vs e h f1 f2 z => .inl ⟨p, vs, e, h, f1, f2, ?_⟩) (fun d ds h1 h2 s1 s2 z => .inr (.inl ⟨d, ds, h1, h2, s1, s2, ?_⟩)) (fun c z e1 e2 q => .inr (.inr (.inl ⟨c, z, e1, e2, ?_⟩))) (fun a o e g q => .inr (.inr (.inr ⟨a, o, e, g, ?_⟩)))
  all_goals exact k _ H _ A S Up.refl m (.bl _) (by assumption)
theorem ao_notin (hu : X.A.units + 65 < cLine) : AOp X (compareOp .NotIn) oNotIn := by
  refine ⟨_, (op_notIn_seq (X := X)).or ((op_notInD hu).or (op_notIn_sign.or (op_notinDict (by omega)))), fun x y H A dx dy S P Q m rx ry q k => ?_⟩
  refine isIn_ok m rx ry q (fun p vs e h f1 f2 z => .inl ⟨p, vs, e, h, f1, f2, ?_⟩) (fun d ds h1 h2 s1 s2 z => .inr (.inl ⟨d, ds, h1, h2, s1, s2, ?_⟩)) (fun c z e1 e2 q => .inr (.inr (.inl ⟨c, z, e1, e2, ?_⟩))) (fun a o e g q => .inr (.inr (.inr ⟨a, o, e, g, ?_⟩)))
  all_goals exact k _ H _ A S Up.refl m (.bl _) (by assumption)
end
end AL
/-! AL4: slices, calls of built-ins, of defs, methods, makers; fields. -/
namespace AL
open PySem PySem.Spec
open PyProof.Rows L2
section
variable {X : Cx} {W : WX} {a b c : Expr} {aa ab ac : ATE} {pos : Pos} {es : List Expr} {t' : ATA}
/-! ### slices -/
abbrev ATO := Rho → Sto → XA → (Option Int → Sto → Prop) → Prop
def KO (K : PySem.W.Frag) (A : List Addr) (H : Hp) (P : Option Int → Hp → Prop) (Q : Option Int → Sto → Prop) : Prop := ∀ v H' A' S', Up K A H A' H' → MtS K A' H' S' → Q v S' → P v H'
def LPo (K : PySem.W.Frag) (W : WX) (t : TO) (a : ATO) : Prop := ∀ σ H A ρ S (P : Option Int → Hp → Prop) (Q : Option Int → Sto → Prop) (E : XA), MtS K A H S → Mt K A H ρ σ → a ρ S E Q → KO K A H P Q → KX K A H (WE' W σ) E → t σ H P
def AO (X : Cx) (W : WX) (e : Option Expr) (a : ATO) : Prop := ∃ t, PO X e t ∧ LPo X.K W t a
def aNoPart : ATO := fun _ S _ Q => Q none S
def aPart (a : ATE) : ATO := fun ρ S E Q => a ρ S E fun x S1 => match x with
  | .int i => Q (some i) S1
  | _ => False
theorem ao_none : AO X W none aNoPart := ⟨_, po_none, fun σ H A ρ S P Q E m mt h kq _ => kq none H A S Up.refl m h⟩
theorem ao_some (h : AE X W a aa) : AO X W (some a) (aPart aa) := by
  obtain ⟨t, p, l⟩ := h
  refine ⟨_, po_some p, fun σ H A ρ S P Q E m mt h kq kx => l σ H A ρ S _ _ E m mt h (fun x H1 dx A1 S1 u1 m1 r1 q1 => ?_) kx⟩
  cases r1 <;> first | exact q1.elim | exact ⟨_, rfl, kq _ H1 A1 S1 u1 m1 q1⟩
def cutL {α : Type} (xs : List α) (lo hi : Option Int) : List α := (xs.drop (HT.sIx xs.length 0 lo)).take (HT.sIx xs.length xs.length hi - HT.sIx xs.length 0 lo)
def getSl (x : D) (lo hi : Option Int) (S : Sto) (Q : VA) : Prop := match x with
  | .str s => s.length ≤ sizeLine ∧ Q (.str (cutS s lo hi)) S
  | .ref i => must (lstOf S i) fun l => Q (.ref S.length) (S ++ [.lst (cutL l lo hi)])
  | _ => False
variable {lo hi : Option Expr} {tl th : ATO} {p2 : Pos}
def aSl (a : ATE) (lo hi : ATO) : ATE := fun ρ S E Q => a ρ S E fun x S1 => lo ρ S1 E fun l S2 => hi ρ S2 E fun h S3 => getSl x l h S3 Q
theorem ae_slice (ha : AE X W a aa) (hl : AO X W lo tl) (hu : AO X W hi th) : AE X W (.Subscript a (.Slice lo hi none p2) pos) (aSl aa tl th) := by
  obtain ⟨ta, pa, la⟩ := ha
  obtain ⟨t1, p1, l1⟩ := hl
  obtain ⟨t2, q2, l2⟩ := hu
  refine ⟨_, pe_slice ((sl_str (X := X)).or sl_list) pa p1 q2, fun σ H A ρ S P Q E m mt h kq kx => la σ H A ρ S _ _ E m mt h (fun x H1 dx A1 S1 u1 m1 r1 q1 => l1 σ H1 A1 ρ S1 _ _ E m1 (mt.mono u1) q1 (fun l H2 A2 S2 u2 m2 q2 =>
    l2 σ H2 A2 ρ S2 _ _ E m2 ((mt.mono u1).mono u2) q2 (fun u H3 A3 S3 u3 m3 q3 => ?_) (kx.mono (u1.trans u2))) (kx.mono u1)) kx⟩
  have uu := (u1.trans u2).trans u3
  have r3 := (r1.mono u2).mono u3
  cases r3 <;> first | exact q3.elim | skip
  · rename_i s
    exact .inl ⟨s, rfl, q3.1, kq _ H3 _ A3 S3 uu m3 (.str _) q3.2⟩
  · rename_i i ad e
    obtain ⟨ls, e1, q⟩ := of_must q3
    obtain ⟨vs, hs, rl⟩ := lst_at m3 e e1
    refine .inr ⟨ad, vs, rfl, hs, fun pp hp => ?_⟩
    refine kq_lst (kq.mono uu) m3 ?_ q hp
    unfold cutV cutL
    rw [← rl.length]
    exact (rl.drop _).take _

/-! ### built-ins -/
def LC (K : PySem.W.Frag) (r' : List V → Hp → VK → Prop) (r : List D → Sto → VA → Prop) : Prop := ∀ vs H A ds S (P : VK) (Q : VA), MtS K A H S → RpL K A H ds vs → r ds S Q → KQ K A H P Q → r' vs H P
def ACall (X : Cx) (f : Value) (r : List D → Sto → VA → Prop) : Prop := ∃ r', CallR X f r' ∧ LC X.K r' r
theorem CallR.or {f : Value} {r r' : List V → Hp → VK → Prop} (h : CallR X f r) (h' : CallR X f r') : CallR X f (fun xs H Q => r xs H Q ∨ r' xs H Q) := fun pins s σ H xs us Q I rv q =>
  q.elim (h pins s σ H xs us Q I rv) (h' pins s σ H xs us Q I rv)
def aCB (r : List D → Sto → VA → Prop) (t : ATA) : ATE := fun ρ S E Q => t ρ S E fun ds S1 => r ds S1 Q
theorem le_cb {K : PySem.W.Frag} {r' : List V → Hp → VK → Prop} {r : List D → Sto → VA → Prop} {t : TA} (lc : LC K r' r) (l : LA K W t t') : LE K W (tCB r' t) (aCB r t') := fun σ H A ρ S P Q E m mt h kq kx =>
  l σ H A ρ S _ _ E m mt h (fun vs H1 ds A1 S1 u1 m1 r1 q1 => lc vs H1 A1 ds S1 P Q m1 r1 q1 (kq.mono u1)) kx
variable {x : Str} {e : Expr} {p : Pos} {r : List D → Sto → VA → Prop} {id T : String}
theorem ae_callB (hc : ACall X (.builtin id) r) (hm : X.mg x = none) (ha : AA X W (e :: es) t') (hv : bootBuiltins x = some (.builtin id) := by decide +kernel) (hg : Gl X x := by rfl) (hn : x ≠ "__name__" := by decide) (hdb : (x == ("__debug__" : Str)) = false := by decide)
    (he : starEach (e :: es) X.env = (false, eval e X.env) :: starEach es X.env := by rfl) (hpl : (backTo pos (starEach es X.env)).any (·.1) = false := by rfl) : AE X W (.Call (.Name x p) (e :: es) [] pos) (aCB r t') := by
  obtain ⟨r', o, lc⟩ := hc
  obtain ⟨t, pa, l⟩ := ha
  exact ⟨_, pe_callB o hg hm hv pa hn hdb he hpl, le_cb lc l⟩
theorem ae_callTy (hc : ACall X (.type T) r) (hm : X.mg x = none) (ha : AA X W (e :: es) t') (hv : bootBuiltins x = some (.type T) := by decide +kernel) (hg : Gl X x := by rfl) (hn : x ≠ "__name__" := by decide) (hdb : (x == ("__debug__" : Str)) = false := by decide)
    (he : starEach (e :: es) X.env = (false, eval e X.env) :: starEach es X.env := by rfl) (hpl : (backTo pos (starEach es X.env)).any (·.1) = false := by rfl) : AE X W (.Call (.Name x p) (e :: es) [] pos) (aCB r t') := by
  obtain ⟨r', o, lc⟩ := hc
  obtain ⟨t, pa, l⟩ := ha
  exact ⟨_, pe_callTy o hg hm hv pa hn hdb he hpl, le_cb lc l⟩
theorem rp1 {K : PySem.W.Frag} {A : List Addr} {H : Hp} {d : D} {vs : List V} (h : RpL K A H [d] vs) : ∃ v, vs = [v] ∧ Rp K A H d v := by
  cases h; rename_i h1 h2; cases h2; exact ⟨_, rfl, h1⟩
theorem rp2 {K : PySem.W.Frag} {A : List Addr} {H : Hp} {d d' : D} {vs : List V} (h : RpL K A H [d, d'] vs) : ∃ v w, vs = [v, w] ∧ Rp K A H d v ∧ Rp K A H d' w := by
  cases h; rename_i h1 h2; obtain ⟨w, rfl, h3⟩ := rp1 h2; exact ⟨_, _, rfl, h1, h3⟩
def cLen : List D → Sto → VA → Prop := fun ds S Q => match ds with
  | [.str s] => s.length ≤ sizeLine ∧ Q (.int (s.length : Int)) S
  | [.tup l] => Q (.int (l.length : Int)) S
  | [.kl l] => Q (.int (l.length : Int)) S
  | [.ref i] => (match S[i]? with
    | some (.lst l) => Q (.int (l.length : Int)) S
    | some (.rol l) => Q (.int (l.length : Int)) S
    | some (.dK kvs) => Q (.int (kvs.length : Int)) S
    | _ => False)
  | _ => False
theorem RpK.length {K : PySem.W.Frag} {A : List Addr} {H : Hp} {κ : Type} {kvs : List (κ × D)} {ks : List (κ × V)} (h : RpK K A H κ kvs ks) : kvs.length = ks.length := Paired.length h
theorem ac_len : ACall X (.builtin "len") cLen := by
  refine ⟨_, CallR.or call_len_str (CallR.or call_len_seq call_lenD), fun vs H A ds S P Q m r q k => ?_⟩
  match ds, q with
  | [.str s], q =>
    obtain ⟨v, rfl, rv⟩ := rp1 r
    cases rv
    exact .inl ⟨s, rfl, q.1, k _ H _ A S Up.refl m (.int _) q.2⟩
  | [.tup l], q =>
    obtain ⟨v, rfl, rv⟩ := rp1 r
    cases rv; rename_i ad ws hs rl
    refine .inr (.inl ⟨ad, ws, rfl, .inr hs, ?_⟩)
    rw [← rl.length]; exact k _ H _ A S Up.refl m (.int _) q
  | [.kl l], q =>
    obtain ⟨v, rfl, rv⟩ := rp1 r
    cases rv; rename_i ad ws hs rl
    refine .inr (.inl ⟨ad, ws, rfl, .inl (.inr hs), ?_⟩)
    rw [← rl.length]; exact k _ H _ A S Up.refl m (.int _) q
  | [.ref i], q =>
    obtain ⟨v, rfl, rv⟩ := rp1 r
    cases rv; rename_i ad e
    simp only [cLen] at q
    split at q
    · rename_i l h
      obtain ⟨ws, g, rl⟩ := m.ok i _ ad h e
      refine .inr (.inl ⟨ad, ws, rfl, .inl (SqL.of g), ?_⟩)
      rw [← rl.length]; exact k _ H _ A S Up.refl m (.int _) q
    · rename_i l h
      obtain ⟨ws, g, rl⟩ := m.ok i _ ad h e
      refine .inr (.inl ⟨ad, ws, rfl, .inl (.inl g), ?_⟩)
      rw [← rl.length]; exact k _ H _ A S Up.refl m (.int _) q
    · rename_i l h
      obtain ⟨ks, g, rl⟩ := m.ok i _ ad h e
      refine .inr (.inr ⟨ad, ks, rfl, g, ?_⟩)
      rw [← RpK.length rl]; exact k _ H _ A S Up.refl m (.int _) q
    · exact q.elim
def cInt : List D → Sto → VA → Prop := fun ds S Q => match ds with
  | [.int i] => Q (.int i) S
  | [.bl k] => Q (.int (if k then 1 else 0)) S
  | [.str s] => s.length ≤ 640 ∧ must (PySem.intText? s) fun n => Q (.int n) S
  | _ => False
theorem ac_int : ACall X (.type "int") cInt := by
  refine ⟨_, CallR.or call_int1 call_int_str, fun vs H A ds S P Q m r q k => ?_⟩
  match ds, q with
  | [.int i], q => obtain ⟨v, rfl, rv⟩ := rp1 r; cases rv; exact .inl (.inl ⟨i, rfl, k _ H _ A S Up.refl m (.int _) q⟩)
  | [.bl b], q => obtain ⟨v, rfl, rv⟩ := rp1 r; cases rv; exact .inl (.inr ⟨b, rfl, k _ H _ A S Up.refl m (.int _) q⟩)
  | [.str s], q =>
    obtain ⟨v, rfl, rv⟩ := rp1 r; cases rv
    obtain ⟨n, e, q2⟩ := of_must q.2
    exact .inr ⟨s, n, rfl, e, q.1, k _ H _ A S Up.refl m (.int _) q2⟩
def cStr : List D → Sto → VA → Prop := fun ds S Q => match ds with
  | [.int i] => i.natAbs.log2 < 1920 ∧ Q (.str (toString i)) S
  | _ => False
theorem ac_str : ACall X (.type "str") cStr := by
  refine ⟨_, call_str_int, fun vs H A ds S P Q m r q k => ?_⟩
  match ds, q with
  | [.int i], q => obtain ⟨v, rfl, rv⟩ := rp1 r; cases rv; exact ⟨i, rfl, q.1, k _ H _ A S Up.refl m (.str _) q.2⟩
def cAbs : List D → Sto → VA → Prop := fun ds S Q => match ds with
  | [.int i] => Q (.int (if i < 0 then -i else i)) S
  | _ => False
theorem ac_abs : ACall X (.builtin "abs") cAbs := by
  refine ⟨_, call_abs, fun vs H A ds S P Q m r q k => ?_⟩
  match ds, q with
  | [.int i], q => obtain ⟨v, rfl, rv⟩ := rp1 r; cases rv; exact ⟨i, rfl, k _ H _ A S Up.refl m (.int _) q⟩
def cMin : List D → Sto → VA → Prop := fun ds S Q => match ds with
  | [.int i, .int j] => Q (.int (if j < i then j else i)) S
  | _ => False
theorem ac_min (hc : X.calm = true) : ACall X (.builtin "min") cMin := by
  refine ⟨_, call_min2 hc, fun vs H A ds S P Q m r q k => ?_⟩
  match ds, q with
  | [.int i, .int j], q => obtain ⟨v, w, rfl, rv, rw'⟩ := rp2 r; cases rv; cases rw'; exact ⟨i, j, rfl, k _ H _ A S Up.refl m (.int _) q⟩
theorem map_int {K : PySem.W.Frag} {A : List Addr} {H : Hp} : ∀ {ns : List Int} {vs : List V}, RpL K A H (ns.map D.int) vs → vs = ns.map V.int
  | [], _, h => by cases h; rfl
  | n :: ns, _, h => by cases h; rename_i h1 h2; cases h1; rw [map_int h2]; rfl
theorem map_bl {K : PySem.W.Frag} {A : List Addr} {H : Hp} : ∀ {ns : List Bool} {vs : List V}, RpL K A H (ns.map D.bl) vs → vs = ns.map V.bl
  | [], _, h => by cases h; rfl
  | n :: ns, _, h => by cases h; rename_i h1 h2; cases h1; rw [map_bl h2]; rfl
theorem map_str {K : PySem.W.Frag} {A : List Addr} {H : Hp} : ∀ {ns : List Str} {vs : List V}, RpL K A H (ns.map D.str) vs → vs = ns.map V.str
  | [], _, h => by cases h; rfl
  | n :: ns, _, h => by cases h; rename_i h1 h2; cases h1; rw [map_str h2]; rfl
/-- max: of two ints, of a list of ints -/
def cMax : List D → Sto → VA → Prop := fun ds S Q => match ds with
  | [.int i, .int j] => Q (.int (if j > i then j else i)) S
  | [.ref a] => must (lstOf S a) fun l => ∃ ns : List Int, l = ns.map .int ∧ 0 < ns.length ∧ ∀ m, m ∈ ns → (∀ y, y ∈ ns → y ≤ m) → Q (.int m) S
  | _ => False
theorem ac_max (hc : X.calm = true) : ACall X (.builtin "max") cMax := by
  refine ⟨_, CallR.or (call_max2 hc) (cr_max hc), fun vs H A ds S P Q m r q k => ?_⟩
  match ds, q with
  | [.int i, .int j], q => obtain ⟨v, w, rfl, rv, rw'⟩ := rp2 r; cases rv; cases rw'; exact .inl ⟨i, j, rfl, k _ H _ A S Up.refl m (.int _) q⟩
  | [.ref i], q =>
    obtain ⟨v, rfl, rv⟩ := rp1 r
    cases rv; rename_i ad e
    obtain ⟨l, h, ns, rfl, h0, q⟩ := of_must q
    obtain ⟨ws, hs, rl⟩ := lst_at m e h
    have ew := map_int rl
    subst ew
    exact .inr ⟨ad, ns, rfl, hs, h0, fun y hy hle => k _ H _ A S Up.refl m (.int _) (q y hy hle)⟩
def cAll : List D → Sto → VA → Prop := fun ds S Q => match ds with
  | [.ref a] => must (lstOf S a) fun l => ∃ bs : List Bool, l = bs.map .bl ∧ Q (.bl (bs.all _root_.id)) S
  | _ => False
theorem ac_all (hc : X.calm = true) : ACall X (.builtin "all") cAll := by
  refine ⟨_, cr_all hc, fun vs H A ds S P Q m r q k => ?_⟩
  match ds, q with
  | [.ref i], q =>
    obtain ⟨v, rfl, rv⟩ := rp1 r
    cases rv; rename_i ad e
    obtain ⟨l, h, ns, rfl, q⟩ := of_must q
    obtain ⟨ws, hs, rl⟩ := lst_at m e h
    have ew := map_bl rl
    subst ew
    exact ⟨ad, ns, rfl, hs, k _ H _ A S Up.refl m (.bl _) q⟩
def cAny : List D → Sto → VA → Prop := fun ds S Q => match ds with
  | [.ref a] => must (lstOf S a) fun l => ∃ bs : List Bool, l = bs.map .bl ∧ Q (.bl (bs.any _root_.id)) S
  | _ => False
theorem ac_any (hc : X.calm = true) : ACall X (.builtin "any") cAny := by
  refine ⟨_, cr_any hc, fun vs H A ds S P Q m r q k => ?_⟩
  match ds, q with
  | [.ref i], q =>
    obtain ⟨v, rfl, rv⟩ := rp1 r
    cases rv; rename_i ad e
    obtain ⟨l, h, ns, rfl, q⟩ := of_must q
    obtain ⟨ws, hs, rl⟩ := lst_at m e h
    have ew := map_bl rl
    subst ew
    exact ⟨ad, ns, rfl, hs, k _ H _ A S Up.refl m (.bl _) q⟩
def cTuple : List D → Sto → VA → Prop := fun ds S Q => match ds with
  | [d] => must (seqOf S d) fun l => Q (.tup l) S
  | _ => False
theorem ac_tuple : ACall X (.type "tuple") cTuple := by
  refine ⟨_, call_tuple_of, fun vs H A ds S P Q m r q k => ?_⟩
  match ds, q with
  | [d], q =>
    obtain ⟨v, rfl, rv⟩ := rp1 r
    obtain ⟨l, h, q2⟩ := of_must q
    cases rv <;> simp [seqOf] at h
    · rename_i i ad e
      obtain ⟨ws, hs, rl⟩ := lst_at m e h
      exact ⟨ad, ws, rfl, .inl ⟨hs, fun pp hp => kq_tup k m rl q2 hp⟩⟩
    · rename_i ad ws l' hs rl
      subst h
      exact ⟨ad, ws, rfl, .inr ⟨hs, k _ H _ A S Up.refl m (.tup hs rl) q2⟩⟩
    · rename_i ad ws l' hs rl
      subst h
      exact ⟨ad, ws, rfl, .inl ⟨.inr hs, fun pp hp => kq_tup k m rl q2 hp⟩⟩
def cList : List D → Sto → VA → Prop := fun ds S Q => match ds with
  | [d] => must (seqOf S d) fun l => Q (.ref S.length) (S ++ [.lst l])
  | _ => False
theorem ac_list : ACall X (.type "list") cList := by
  refine ⟨_, call_list_of, fun vs H A ds S P Q m r q k => ?_⟩
  match ds, q with
  | [d], q =>
    obtain ⟨v, rfl, rv⟩ := rp1 r
    obtain ⟨l, h, q2⟩ := of_must q
    cases rv <;> simp [seqOf] at h
    · rename_i i ad e
      obtain ⟨ws, hs, rl⟩ := lst_at m e h
      exact ⟨ad, ws, rfl, .inl hs, fun pp hp => kq_lst k m rl q2 hp⟩
    · rename_i ad ws l' hs rl
      subst h
      exact ⟨ad, ws, rfl, .inr hs, fun pp hp => kq_lst k m rl q2 hp⟩
    · rename_i ad ws l' hs rl
      subst h
      exact ⟨ad, ws, rfl, .inl (.inr hs), fun pp hp => kq_lst k m rl q2 hp⟩

/-! ### defs -/
/-- room, and no repr under way -/
structure RG (k : Nat) (A : Around) : Prop where
  rm : Room k A
  gs : A.guards = some []
theorem RG.mono {j k : Nat} {A : Around} (r : RG k A) (h : j ≤ k) : RG j A := ⟨r.rm.mono h, r.gs⟩
theorem RG.deeper {k : Nat} {A : Around} (r : RG (k + 1) A) (env : Env) : RG k (A.deeper env) := ⟨r.rm.deeper env, r.gs⟩
theorem RG.make {k : Nat} {A : Around} (r : RG (k + 1) A) (C : Addr) (us : List Value) (kw : List (Str × Value)) : RG k (A.under (.builtin "type.__call__" ⟨.ref C :: us, kw⟩)) := ⟨r.rm.make C us kw, r.gs⟩
/-- a def's promise, wherever no repr is under way -/
structure FnG (P : Program) (w : World) (K : PySem.W.Frag) (mg : Str → Option Value) (base : Heap) (CX : CXT) (k : Nat) (f : Addr) (fd : FuncData) (ps : List Str) (sp : Sp) : Prop where
  few : ∀ vs H Q E, sp vs H Q E → vs.length = ps.length
  go : ∀ (A : Around) (outer : List Env) (s : Shared) (H : Hp) (args : Args) (us : List Value) (vs : List V) (Q : VK) (E : XK), RG k A → Env0 P w K mg base A outer s H →
    BindsTo s fd args (ps.zip us) → Vals vs us → sp vs H Q E → codeAny (model P w) A (.call (.ref f) args) (CR CX outer P w H s Q E) s
section
variable {P : Program} {w : World} {K : PySem.W.Frag} {mg : Str → Option Value} {base : Heap} {CX : CXT} {j k : Nat} {f : Addr} {fd : FuncData} {ps : List Str} {sp sp' : Sp}
theorem FnG.mono (o : FnG P w K mg base CX j f fd ps sp) (h : j ≤ k) : FnG P w K mg base CX k f fd ps sp := ⟨o.few, fun A outer s H args us vs Q E r => o.go A outer s H args us vs Q E (r.mono h)⟩
theorem FnG.imp (o : FnG P w K mg base CX k f fd ps sp) (h : ∀ vs H Q E, sp' vs H Q E → sp vs H Q E) : FnG P w K mg base CX k f fd ps sp' :=
  ⟨fun vs H Q E q => o.few vs H Q E (h _ _ _ _ q), fun A outer s H args us vs Q E r e0 b rv q => o.go A outer s H args us vs Q E r e0 b rv (h _ _ _ _ q)⟩
end
theorem run_fnG {CX : CXT} {k : Nat} {f : Addr} {fd : FuncData} {ps : List Str} {sp : Sp} {ex : XK} {pins : List (Addr × Obj)} {σ : L2.St} {H : Hp} {s : Shared} {Q : VK} {us : List Value} {vs : List V} (o : FnG X.prog X.w X.K X.mg X.base CX k f fd ps sp) (hr : RG k X.A) (hb : Binds X.K fd ps [])
    (hx : PassesAt CX X σ ex) (I : Inv X pins σ H s) (rv : Vals vs us) (q : sp vs H Q ex) : wpAny (model X.prog X.w) X.A (call (.ref f) us) (EP X pins σ Q) X.xe s := by
  have many : us.length = ps.length := rv.length.symm.trans (o.few _ _ _ _ q)
  have bnd := hb s us I.kIn (by simpa using many)
  simp only [List.append_nil] at bnd
  have main := o.go X.A X.stack s H ⟨us, []⟩ us vs Q ex hr I.env0 bnd rv q
  refine wpAny_call (codeAny_mono main fun res s2 got => ?_)
  match res, got with
  | .error e, got => exact hx pins H s e s2 I got
  | .ok (.ret u), got => exact I.after got
theorem pe_callG {CX : CXT} {k : Nat} {f : Addr} {fd : FuncData} {ps : List Str} {sp : Sp} {ex : L2.St → XK} {t : TA} (o : FnG X.prog X.w X.K X.mg X.base CX k f fd ps sp) (hr : RG k X.A) (hg : Gl X x) (hm : X.mg x = some (.ref f)) (hk : PySem.W.keepIn X.K (.ref f) = true) (hb : Binds X.K fd ps [])
    (hx : ∀ σ, PassesAt CX X σ (ex σ)) (ha : PA X (e :: es) t) (hdb : (x == ("__debug__" : Str)) = false) (he : starEach (e :: es) X.env = (false, eval e X.env) :: starEach es X.env) (hpl : (backTo pos (starEach es X.env)).any (·.1) = false) :
    PE X (.Call (.Name x p) (e :: es) [] pos) (tCallS sp ex t) := by
  refine ⟨fun pins s σ H Q inv h => wpAny_Call_Name_kw (ld_glob inv hg hm ?_ hdb)⟩
  have args := ha.run pos pins s σ H _ inv h
  exact PySem.W.callWith_K (h₀ := X.base) inv.ok.mod.kin hk (thn args fun us s1 ⟨vs, H1, inv1, rv, q⟩ => ⟨inv1.kIn, run_fnG o hr hb (hx σ) inv1 rv q⟩) he hpl
abbrev AFn := List D → Sto → XA → VA → Prop
def spOf (K : PySem.W.Frag) (F : AFn) : Sp := fun vs H Q E => ∃ (A : List Addr) (S : Sto) (ds : List D) (Qa : VA) (Ea : XA), MtS K A H S ∧ RpL K A H ds vs ∧ F ds S Ea Qa ∧ KQ K A H Q Qa ∧ KX K A H E Ea
/-- a def of the module keeps F -/
def FD (P : Program) (w : World) (K : PySem.W.Frag) (mg : Str → Option Value) (base : Heap) (x : Str) (k : Nat) (F : AFn) : Prop :=
  ∃ (f : Addr) (fd : FuncData) (ps : List Str), FnG P w K mg base (L2.CX P w) k f fd ps (spOf K F) ∧ mg x = some (.ref f) ∧ PySem.W.keepIn K (.ref f) = true ∧ Binds K fd ps []
/-- a method of a class -/
def MD (P : Program) (w : World) (K : PySem.W.Frag) (mg : Str → Option Value) (base : Heap) (cl mt : Str) (k : Nat) (F : AFn) : Prop :=
  ∃ (f : Addr) (fd : FuncData) (ps : List Str), FnG P w K mg base (L2.CX P w) k f fd ps (spOf K F) ∧ Cls K (He.ga K cl) ∧ Meth K (He.ga K cl) mt f ∧ Binds K fd ps []
/-- a class that is made by its __init__ -/
def CD (P : Program) (w : World) (K : PySem.W.Frag) (mg : Str → Option Value) (base : Heap) (cl : Str) (k : Nat) (F : AFn) : Prop :=
  ∃ (f : Addr) (fd : FuncData) (ps : List Str), FnG P w K mg base (L2.CX P w) k f fd ps (spOf K F) ∧ mg cl = some (.ref (He.ga K cl)) ∧ Mk K (He.ga K cl) f ∧ Binds K fd ps []
theorem FD.mono {P : Program} {w : World} {K : PySem.W.Frag} {mg : Str → Option Value} {base : Heap} {x : Str} {j k : Nat} {F : AFn} (h : FD P w K mg base x j F) (hj : j ≤ k) : FD P w K mg base x k F := let ⟨f, fd, ps, o, r⟩ := h; ⟨f, fd, ps, o.mono hj, r⟩
theorem MD.mono {P : Program} {w : World} {K : PySem.W.Frag} {mg : Str → Option Value} {base : Heap} {cl x : Str} {j k : Nat} {F : AFn} (h : MD P w K mg base cl x j F) (hj : j ≤ k) : MD P w K mg base cl x k F := let ⟨f, fd, ps, o, r⟩ := h; ⟨f, fd, ps, o.mono hj, r⟩
theorem FD.imp {P : Program} {w : World} {K : PySem.W.Frag} {mg : Str → Option Value} {base : Heap} {x : Str} {k : Nat} {F G : AFn} (h : FD P w K mg base x k F) (hg : ∀ ds S E Q, G ds S E Q → F ds S E Q) : FD P w K mg base x k G := by
  obtain ⟨f, fd, ps, o, r⟩ := h
  exact ⟨f, fd, ps, o.imp fun vs H Q E ⟨A, S, ds, Qa, Ea, m, rl, g, k1, k2⟩ => ⟨A, S, ds, Qa, Ea, m, rl, hg _ _ _ _ g, k1, k2⟩, r⟩
theorem MD.imp {P : Program} {w : World} {K : PySem.W.Frag} {mg : Str → Option Value} {base : Heap} {cl x : Str} {k : Nat} {F G : AFn} (h : MD P w K mg base cl x k F) (hg : ∀ ds S E Q, G ds S E Q → F ds S E Q) : MD P w K mg base cl x k G := by
  obtain ⟨f, fd, ps, o, r⟩ := h
  exact ⟨f, fd, ps, o.imp fun vs H Q E ⟨A, S, ds, Qa, Ea, m, rl, g, k1, k2⟩ => ⟨A, S, ds, Qa, Ea, m, rl, hg _ _ _ _ g, k1, k2⟩, r⟩
def aCall (F : AFn) (t : ATA) : ATE := fun ρ S E Q => t ρ S E fun ds S1 => F ds S1 E Q
theorem sp_mk {K : PySem.W.Frag} {A : List Addr} {H : Hp} {S : Sto} {ds : List D} {vs : List V} {F : AFn} {P : VK} {Q : VA} {E : XA} {W' : XK} (m : MtS K A H S) (r : RpL K A H ds vs) (h : F ds S E Q) (kq : KQ K A H P Q) (kx : KX K A H W' E) : spOf K F vs H P W' := ⟨A, S, ds, Q, E, m, r, h, kq, kx⟩
variable {k : Nat} {F : AFn} {m cl : Str} {apos : Pos} {o : Expr} {ao : ATE}
theorem ae_call (h : FD X.prog X.w X.K X.mg X.base x k F) (hr : RG k X.A) (tk : Takes X W) (ha : AA X W (e :: es) t') (hg : Gl X x := by rfl) (hdb : (x == ("__debug__" : Str)) = false := by decide)
    (he : starEach (e :: es) X.env = (false, eval e X.env) :: starEach es X.env := by rfl) (hpl : (backTo pos (starEach es X.env)).any (·.1) = false := by rfl) : AE X W (.Call (.Name x p) (e :: es) [] pos) (aCall F t') := by
  obtain ⟨f, fd, ps, ok, hm, hk, hb⟩ := h
  obtain ⟨t, pa, l⟩ := ha
  exact ⟨_, pe_callG ok hr hg hm hk hb (fun σ => passAt tk σ) pa hdb he hpl, fun σ H A ρ S P Q E mm mt h kq kx => l σ H A ρ S _ _ E mm mt h (fun vs H1 ds A1 S1 u1 m1 r1 q1 => sp_mk m1 r1 q1 (kq.mono u1) (kx.mono u1)) kx⟩
theorem ae_call0 (h : FD X.prog X.w X.K X.mg X.base x k F) (hr : RG k X.A) (tk : Takes X W) (hg : Gl X x := by rfl) (hdb : (x == ("__debug__" : Str)) = false := by decide) : AE X W (.Call (.Name x p) [] [] pos) (aCall F aNil) := by
  obtain ⟨f, fd, ps, ok, hm, hk, hb⟩ := h
  refine ⟨tCallS (spOf X.K F) (WE W) tNil, ⟨fun pins s σ H Q inv h => ?_⟩, fun σ H A ρ S P Q E mm mt h kq kx => sp_mk mm .nil h kq kx⟩
  exact wpAny_Call_Name_kw (ld_glob inv hg hm (PySem.W.callWith_K0 inv.kIn hk (run_fnG (us := []) ok hr hb (passAt tk σ) inv .nil h)) hdb)
def tMethS (C : Addr) (m : Str) (sp : Sp) (E : L2.St → XK) (ta : TE) (t : TA) : TE := fun σ H Q => ta σ H fun x H1 => ∃ a dx fs, x = .ref a ∧ H1 a = some (.ins C dx fs) ∧ fs.lookup m = none ∧
  t σ H1 fun vs H2 => sp (x :: vs) H2 Q (E σ)
theorem pe_methS {CX : CXT} {C f : Addr} {fd : FuncData} {ps : List Str} {sp : Sp} {E : L2.St → XK} {ta : TE} {t : TA} {pl : Sem Bool} (he : PE X o ta) (c : Cls X.K C) (hm : Meth X.K C m f) (F : FnG X.prog X.w X.K X.mg X.base CX k f fd ps sp) (hr : RG k X.A) (hb : Binds X.K fd ps []) (hx : ∀ σ, PassesAt CX X σ (E σ)) (ha : PA X (e :: es) t) (hst : starEach (e :: es) X.env = (false, eval e X.env) :: starEach es X.env := by rfl) (hpl : (backTo pos (starEach es X.env)).any (·.1) = false := by rfl) (ht : eval (.Call (.Attribute o m apos) (e :: es) [] pos) X.env = (do let ov ← eval o X.env; standAt apos.atName; let (f, first) ← holding [ov] (getMethod ov m pl); callWith pos f first (backTo pos (starEach (e :: es) X.env)) (backToKw pos (keywordEach [] X.env))) := by rfl) :
    PE X (.Call (.Attribute o m apos) (e :: es) [] pos) (tMethS C m sp E ta t) := ⟨fun pins s σ H Q inv h => by
  refine PySem.W.methodCall_KW (pl := pl) (thn (he.run pins s σ H _ inv h) fun u s1 ⟨x, H1, J, rx, a, dx, fs, ex, ea, l, q⟩ => ?_) ht
  subst ex
  have eu : u = Value.ref a := rx
  subst eu
  refine getmeth_ok J ea c hm l (PySem.W.callWith_K (first := [.ref a]) (h₀ := X.base) inv.ok.mod.kin hm.kp (thn (ha.run pos pins s1 σ H1 _ J q) fun us s2 ⟨vs, H2, I2, r, q2⟩ => ⟨I2.kIn, ?_⟩) hst hpl)
  exact run_fnG (us := .ref a :: us) (vs := .ref a :: vs) F hr hb (hx σ) I2 (.cons rfl r) q2⟩
theorem pe_meth0S {CX : CXT} {C f : Addr} {fd : FuncData} {ps : List Str} {sp : Sp} {E : L2.St → XK} {ta : TE} {pl : Sem Bool} (he : PE X o ta) (c : Cls X.K C) (hm : Meth X.K C m f) (F : FnG X.prog X.w X.K X.mg X.base CX k f fd ps sp) (hr : RG k X.A) (hb : Binds X.K fd ps []) (hx : ∀ σ, PassesAt CX X σ (E σ)) (ht : eval (.Call (.Attribute o m apos) [] [] pos) X.env = (do let ov ← eval o X.env; standAt apos.atName; let (f, first) ← holding [ov] (getMethod ov m pl); callWith pos f first (backTo pos (starEach [] X.env)) (backToKw pos (keywordEach [] X.env))) := by rfl) :
    PE X (.Call (.Attribute o m apos) [] [] pos) (tMethS C m sp E ta tNil) := ⟨fun pins s σ H Q inv h => by
  refine PySem.W.methodCall_KW (pl := pl) (thn (he.run pins s σ H _ inv h) fun u s1 ⟨x, H1, J, rx, a, dx, fs, ex, ea, l, q⟩ => ?_) ht
  subst ex
  have eu : u = Value.ref a := rx
  subst eu
  exact getmeth_ok J ea c hm l (PySem.W.callWith_K0 (first := [.ref a]) J.kIn hm.kp (run_fnG (us := [.ref a]) (vs := [.ref a]) F hr hb (hx σ) J (.cons rfl .nil) q))⟩
/-- the instance of the class cl at d, its fields -/
def insOf (S : Sto) (cl : Str) (d : D) : Option (List (Str × D)) := match d with
  | .ref i => (match S[i]? with
    | some (.ins c fs) => if c = cl then some fs else none
    | _ => none)
  | _ => none
theorem ins_at {K : PySem.W.Frag} {A : List Addr} {H : Hp} {S : Sto} {d : D} {v : V} {fs : List (Str × D)} (m : MtS K A H S) (r : Rp K A H d v) (h : insOf S cl d = some fs) : ∃ a dx gs i, d = .ref i ∧ A[i]? = some a ∧ S[i]? = some (.ins cl fs) ∧ v = .ref a ∧ H a = some (.ins (He.ga K cl) dx gs) ∧ RpK K A H Str fs gs := by
  cases r <;> simp [insOf] at h
  rename_i i a e
  split at h
  · rename_i c fs' es'
    split at h
    · rename_i ec
      cases h
      subst ec
      obtain ⟨dx, gs, g, rk⟩ := m.ok i _ a es' e
      exact ⟨a, dx, gs, i, rfl, e, es', rfl, g, rk⟩
    · cases h
  · cases h
def lookF (f : Str) : List (Str × D) → Option D
  | [] => none
  | (g, d) :: r => if f = g then some d else lookF f r
theorem look_ok {K : PySem.W.Frag} {A : List Addr} {H : Hp} {f : Str} {fs : List (Str × D)} {gs : List (Str × V)} (r : RpK K A H Str fs gs) : (lookF f fs = none ∧ gs.lookup f = none) ∨ ∃ d v, lookF f fs = some d ∧ gs.lookup f = some v ∧ Rp K A H d v := by
  induction r with
  | nil => exact Or.inl ⟨rfl, rfl⟩
  | cons h1 h2 ih =>
    rename_i p q l1 l2
    obtain ⟨p1, p2⟩ := p
    obtain ⟨q1, q2⟩ := q
    obtain ⟨e, rp⟩ := h1
    dsimp only at e rp
    subst e
    show ((if f = p1 then some p2 else lookF f l1) = none ∧ (match f == p1 with | true => some q2 | false => l2.lookup f) = none) ∨ ∃ d v, (if f = p1 then some p2 else lookF f l1) = some d ∧ (match f == p1 with | true => some q2 | false => l2.lookup f) = some v ∧ Rp K A H d v
    by_cases h : f = p1
    · have hb : (f == p1) = true := by simpa using h
      rw [if_pos h, hb]; exact .inr ⟨_, _, rfl, rfl, rp⟩
    · have hb : (f == p1) = false := by simpa using h
      rw [if_neg h, hb]; exact ih
def aMeth (cl m : Str) (F : AFn) (a : ATE) (t : ATA) : ATE := fun ρ S E Q => a ρ S E fun x S1 => must (insOf S1 cl x) fun fs => lookF m fs = none ∧ t ρ S1 E fun ds S2 => F (x :: ds) S2 E Q
theorem le_meth {K : PySem.W.Frag} {ta : TE} {t : TA} (la : LE K W ta ao) (l : LA K W t t') : LE K W (tMethS (He.ga K cl) m (spOf K F) (WE W) ta t) (aMeth cl m F ao t') := fun σ H A ρ S P Q E mm mt h kq kx =>
  la σ H A ρ S _ _ E mm mt h (fun x H1 dx A1 S1 u1 m1 r1 q1 => by
    obtain ⟨fs, e, hl, q⟩ := of_must q1
    obtain ⟨a, dxx, gs, i, ed, ea, es', ev, g, rk⟩ := ins_at m1 r1 e
    subst ev
    refine ⟨a, dxx, gs, rfl, g, ?_, ?_⟩
    · rcases look_ok (f := m) rk with ⟨_, h2⟩ | ⟨d, v, h1, _, _⟩
      · exact h2
      · rw [hl] at h1; cases h1
    · exact l σ H1 A1 ρ S1 _ _ E m1 (mt.mono u1) q (fun vs H2 ds A2 S2 u2 m2 r2 q2 => sp_mk m2 (.cons (r1.mono u2) r2) q2 (kq.mono (u1.trans u2)) (kx.mono (u1.trans u2))) (kx.mono u1)) kx
theorem ae_meth {pl : Sem Bool} (h : MD X.prog X.w X.K X.mg X.base cl m k F) (hr : RG k X.A) (tk : Takes X W) (ho : AE X W o ao) (ha : AA X W (e :: es) t') (hst : starEach (e :: es) X.env = (false, eval e X.env) :: starEach es X.env := by rfl) (hpl : (backTo pos (starEach es X.env)).any (·.1) = false := by rfl) (ht : eval (.Call (.Attribute o m apos) (e :: es) [] pos) X.env = (do let ov ← eval o X.env; standAt apos.atName; let (f, first) ← holding [ov] (getMethod ov m pl); callWith pos f first (backTo pos (starEach (e :: es) X.env)) (backToKw pos (keywordEach [] X.env))) := by rfl) : AE X W (.Call (.Attribute o m apos) (e :: es) [] pos) (aMeth cl m F ao t') := by
  obtain ⟨f, fd, ps, ok, hc, hm, hb⟩ := h
  obtain ⟨ta, po, la⟩ := ho
  obtain ⟨t, pa, l⟩ := ha
  exact ⟨_, pe_methS (pl := pl) po hc hm ok hr hb (fun σ => passAt tk σ) pa hst hpl ht, le_meth la l⟩
theorem ae_meth0 {pl : Sem Bool} (h : MD X.prog X.w X.K X.mg X.base cl m k F) (hr : RG k X.A) (tk : Takes X W) (ho : AE X W o ao) (ht : eval (.Call (.Attribute o m apos) [] [] pos) X.env = (do let ov ← eval o X.env; standAt apos.atName; let (f, first) ← holding [ov] (getMethod ov m pl); callWith pos f first (backTo pos (starEach [] X.env)) (backToKw pos (keywordEach [] X.env))) := by rfl) : AE X W (.Call (.Attribute o m apos) [] [] pos) (aMeth cl m F ao aNil) := by
  obtain ⟨f, fd, ps, ok, hc, hm, hb⟩ := h
  obtain ⟨ta, po, la⟩ := ho
  exact ⟨_, pe_meth0S (pl := pl) po hc hm ok hr hb (fun σ => passAt tk σ) ht, le_meth la (fun σ H A ρ S P Q E m mt h kq _ => kq [] H [] A S Up.refl m .nil h)⟩
/-! ### fields -/
/-- the class keeps the field in its instances -/
def FieldOk (K : PySem.W.Frag) (cl f : Str) : Prop := Cls K (He.ga K cl) ∧ NoAttr K (He.ga K cl) f
/-- o.f, o of the class cl -/
def aFld (cl f : Str) (a : ATE) : ATE := fun ρ S E Q => a ρ S E fun x S1 => must (insOf S1 cl x) fun fs => must (lookF f fs) fun d => Q d S1
theorem ae_fld {f : Str} (hf : FieldOk X.K cl f) (ho : AE X W o ao) (hb : attributeBase o f X.env (eval o X.env) = eval o X.env := by rfl) : AE X W (.Attribute o f pos) (aFld cl f ao) := by
  obtain ⟨ta, po, la⟩ := ho
  refine ⟨_, pe_fld po hb, fun σ H A ρ S P Q E mm mt h kq kx => la σ H A ρ S _ _ E mm mt h (fun x H1 dx A1 S1 u1 m1 r1 q1 => ?_) kx⟩
  obtain ⟨fs, e, q⟩ := of_must q1
  obtain ⟨d, el, q⟩ := of_must q
  obtain ⟨a, dxx, gs, i, ed, ea, es', ev, g, rk⟩ := ins_at m1 r1 e
  subst ev
  rcases look_ok (f := f) rk with ⟨h1, _⟩ | ⟨d', v, h1, h2, rv⟩
  · rw [el] at h1; cases h1
  · rw [el] at h1; cases h1
    exact ⟨a, _, dxx, gs, v, rfl, g, hf.1, hf.2, h2, kq _ H1 _ A1 S1 u1 m1 rv q⟩
/-! ### dict displays (empty) -/
def aDNew : ATE := fun _ S _ Q => Q (.ref S.length) (S ++ [.dK []])
theorem ae_dnew : AE X W (.Dict [] [] pos) aDNew := ⟨_, pe_dnewK, fun σ H A ρ S P Q E m mt h kq kx pp hp => kq _ _ _ (A ++ [pp]) _ (Up.alloc m hp) (m.alloc (o := .dK []) hp ⟨[], upd_same, .nil⟩) (.ref (by rw [m.len]; exact alloc_at)) h⟩
end
end AL
/-! AL5: statements. -/
namespace AL
open PySem PySem.Spec
open PyProof.Rows L2
structure AEnds where
  nx : Rho → Sto → Prop
  rt : VA
  ex : Exn → Rho → Sto → Prop
  bk : Rho → Sto → Prop := fun _ _ => False
  ct : Rho → Sto → Prop := fun _ _ => False
abbrev ATS := AEnds → Rho → Sto → Prop
section
variable (K : PySem.W.Frag) (A : List Addr) (H : Hp)
def KN (P : L2.St → Hp → Prop) (Q : Rho → Sto → Prop) : Prop := ∀ σ' H' ρ' A' S', Up K A H A' H' → MtS K A' H' S' → Mt K A' H' ρ' σ' → Q ρ' S' → P σ' H'
def KXS (W : WX) (Q : Exn → Rho → Sto → Prop) : Prop := ∀ x c d σ' H' ρ' A' S', Up K A H A' H' → MtS K A' H' S' → Mt K A' H' ρ' σ' → ExR K A' H' x c d → Q x ρ' S' → W c d σ' H'
structure KS (W : WX) (D : Ends) (AD : AEnds) : Prop where
  nx : KN K A H D.nx AD.nx
  rt : KQ K A H D.rt AD.rt
  bk : KN K A H D.bk AD.bk
  ct : KN K A H D.ct AD.ct
  ex : KXS K A H W AD.ex
end
section
variable {K : PySem.W.Frag} {A A' : List Addr} {H H' : Hp} {W : WX}
theorem KN.mono {P : L2.St → Hp → Prop} {Q : Rho → Sto → Prop} (k : KN K A H P Q) (u : Up K A H A' H') : KN K A' H' P Q := fun s h r a t w m mt q => k s h r a t (u.trans w) m mt q
theorem KXS.mono {Q : Exn → Rho → Sto → Prop} (k : KXS K A H W Q) (u : Up K A H A' H') : KXS K A' H' W Q := fun x c d s h r a t w m mt e q => k x c d s h r a t (u.trans w) m mt e q
theorem KXS.at {Q : Exn → Rho → Sto → Prop} {ρ : Rho} {σ : L2.St} (k : KXS K A H W Q) (mt : Mt K A H ρ σ) : KX K A H (WE' W σ) (fun x S => Q x ρ S) := fun x c d H' A' S' u m r q => k x c d σ H' ρ A' S' u m (mt.mono u) r q
theorem KS.mono {D : Ends} {AD : AEnds} (k : KS K A H W D AD) (u : Up K A H A' H') : KS K A' H' W D AD := ⟨k.nx.mono u, k.rt.mono u, k.bk.mono u, k.ct.mono u, k.ex.mono u⟩
end
def LS (K : PySem.W.Frag) (W : WX) (t : TS) (a : ATS) : Prop := ∀ σ H A ρ S (D : Ends) (AD : AEnds), MtS K A H S → Mt K A H ρ σ → a AD ρ S → KS K A H W D AD → t D σ H
def AS (X : Cx) (W : WX) (st : Stmt) (a : ATS) : Prop := ∃ t, PS X st t ∧ LS X.K W t a
def ASs (X : Cx) (W : WX) (st : List Stmt) (a : ATS) : Prop := ∃ t, PSs X st t ∧ LS X.K W t a

section
variable {X : Cx} {W : WX} {a b c e : Expr} {aa ab ac : ATE} {pos pos' : Pos} {es : List Expr} {t' : ATA} {st : Stmt} {rest sts sts' : List Stmt} {as1 as2 : ATS} {at1 : ATT}
def aNext : ATS := fun D ρ S => D.nx ρ S
def aSeq (t u : ATS) : ATS := fun D ρ S => t { D with nx := u D } ρ S
theorem ass_nil : ASs X W [] aNext := ⟨_, pss_nil, fun σ H A ρ S D AD m mt h k => k.nx σ H ρ A S Up.refl m mt h⟩
theorem ass_one (h : AS X W st as1) : ASs X W [st] as1 := let ⟨_, p, l⟩ := h; ⟨_, pss_one p, l⟩
theorem ls_seq {K : PySem.W.Frag} {t u : TS} (l1 : LS K W t as1) (l2 : LS K W u as2) : LS K W (tSeq t u) (aSeq as1 as2) := fun σ H A ρ S D AD m mt h k =>
  l1 σ H A ρ S _ _ m mt h ⟨fun σ' H' ρ' A' S' u m' mt' q => l2 σ' H' A' ρ' S' D AD m' mt' q (k.mono u), k.rt, k.bk, k.ct, k.ex⟩
theorem ass_cons (h : AS X W st as1) (g : ASs X W rest as2) : ASs X W (st :: rest) (aSeq as1 as2) := let ⟨_, p, l⟩ := h; let ⟨_, q, l'⟩ := g; ⟨_, pss_cons p q, ls_seq l l'⟩
theorem as_pass : AS X W (.Pass pos) aNext := ⟨_, ps_pass, fun σ H A ρ S D AD m mt h k => k.nx σ H ρ A S Up.refl m mt h⟩
def aBreak : ATS := fun D ρ S => D.bk ρ S
def aCont : ATS := fun D ρ S => D.ct ρ S
theorem as_break : AS X W (.Break pos) aBreak := ⟨_, ps_break, fun σ H A ρ S D AD m mt h k => k.bk σ H ρ A S Up.refl m mt h⟩
theorem as_continue : AS X W (.Continue pos) aCont := ⟨_, ps_continue, fun σ H A ρ S D AD m mt h k => k.ct σ H ρ A S Up.refl m mt h⟩
theorem as_doc {x j} : AS X W (.Expr (.Constant (.str x) j pos) pos') aNext := ⟨_, ps_doc, fun σ H A ρ S D AD m mt h k => k.nx σ H ρ A S Up.refl m mt h⟩
def aDrop (a : ATE) : ATS := fun D ρ S => a ρ S (fun x S1 => D.ex x ρ S1) fun _ S1 => D.nx ρ S1
theorem as_expr (h : AE X W e aa) (hs : swapsWith e none pos.line X.env = pure false := by rfl) : AS X W (.Expr e pos) (aDrop aa) := by
  obtain ⟨t, p, l⟩ := h
  exact ⟨_, ps_expr p hs, fun σ H A ρ S D AD m mt h k => l σ H A ρ S _ _ _ m mt h (fun v H1 d A1 S1 u m1 r q => k.nx σ H1 ρ A1 S1 u m1 (mt.mono u) q) (k.ex.at mt)⟩
def aRet (a : ATE) : ATS := fun D ρ S => a ρ S (fun x S1 => D.ex x ρ S1) D.rt
theorem as_ret (h : AE X W e aa) : AS X W (.Return (some e) pos) (aRet aa) := by
  obtain ⟨t, p, l⟩ := h
  exact ⟨_, ps_ret p, fun σ H A ρ S D AD m mt h k => l σ H A ρ S _ _ _ m mt h k.rt (k.ex.at mt)⟩
def aRetN : ATS := fun D _ S => D.rt .non S
theorem as_retN : AS X W (.Return none pos) aRetN := ⟨_, ps_retN, fun σ H A ρ S D AD m mt h k => k.rt _ H _ A S Up.refl m .non h⟩
def aIfS (t : ATT) (a b : ATS) : ATS := fun D ρ S => t ρ S (fun x S1 => D.ex x ρ S1) fun k S1 => match k with
  | true => a D ρ S1
  | false => b D ρ S1
theorem as_if (h : AT X W c at1) (h1 : ASs X W sts as1) (h2 : ASs X W sts' as2) : AS X W (.If c sts sts' pos) (aIfS at1 as1 as2) := by
  obtain ⟨t, p, l⟩ := h
  obtain ⟨t1, p1, l1⟩ := h1
  obtain ⟨t2, p2, l2⟩ := h2
  refine ⟨_, ps_if p p1 p2, fun σ H A ρ S D AD m mt h k => l σ H A ρ S _ _ _ m mt h (fun b H1 A1 S1 u m1 q => ?_) (k.ex.at mt)⟩
  cases b with
  | true => exact l1 σ H1 A1 ρ S1 D AD m1 (mt.mono u) q (k.mono u)
  | false => exact l2 σ H1 A1 ρ S1 D AD m1 (mt.mono u) q (k.mono u)
/-! ### targets -/
abbrev ATG := D → Rho → Sto → (Rho → Sto → Prop) → Prop
def LG (K : PySem.W.Frag) (g : TG) (ag : ATG) : Prop := ∀ σ H A ρ S d v (P : L2.St → Hp → Prop) (Q : Rho → Sto → Prop), MtS K A H S → Mt K A H ρ σ → Rp K A H d v → ag d ρ S Q → KN K A H P Q → g v σ H P
def AG (X : Cx) (tg : Expr) (ag : ATG) : Prop := ∃ g, PG X tg g ∧ LG X.K g ag
abbrev ATGs := List D → Rho → Sto → (Rho → Sto → Prop) → Prop
def LGs (K : PySem.W.Frag) (g : TGs) (ag : ATGs) : Prop := ∀ σ H A ρ S ds vs (P : L2.St → Hp → Prop) (Q : Rho → Sto → Prop), MtS K A H S → Mt K A H ρ σ → RpL K A H ds vs → ag ds ρ S Q → KN K A H P Q → g vs σ H P
def AGs (X : Cx) (tgs : List Expr) (ag : ATGs) : Prop := ∃ g, PGs X tgs g ∧ LGs X.K g ag
def sset (ρ : Rho) (i : Nat) (d : D) : Rho := ρ.set i (some d)
def agName (i : Nat) : ATG := fun d ρ S Q => Q (sset ρ i d) S
theorem lg_name {K : PySem.W.Frag} {i : Nat} : LG K (gName i) (agName i) := fun σ H A ρ S d v P Q m mt r q k => k _ H _ A S Up.refl m (mt.set r) q
theorem ag_name {i : Nat} {x : Str} (hN : X.N.Nodup) (hi : X.N[i]? = some x := by rfl) (hx : Loc X.env.scope x := by first | exact Or.inl rfl | exact Or.inr rfl) (hf : X.fn x = true ∨ X.env.scope.names.lookup x = some .local := by first | exact .inl rfl | exact .inr rfl | assumption) : AG X (.Name x pos) (agName i) :=
  ⟨_, pg_name hN hi hx hf, lg_name⟩
def agNil : ATGs := fun ds ρ S Q => match ds with
  | [] => Q ρ S
  | _ => False
def agCons (t : ATG) (u : ATGs) : ATGs := fun ds ρ S Q => match ds with
  | d :: r => t d ρ S fun ρ1 S1 => u r ρ1 S1 Q
  | _ => False
theorem ags_nil : AGs X [] agNil := ⟨_, pgs_nil, fun σ H A ρ S ds vs P Q m mt r q k => by
  cases r with
  | nil => exact ⟨rfl, k σ H ρ A S Up.refl m mt q⟩
  | cons _ _ => exact q.elim⟩
theorem ags_cons {tg : Expr} {tgs : List Expr} {g1 : ATG} {g2 : ATGs} (h : AG X tg g1) (h2 : AGs X tgs g2) (hs : (assignEach (tg :: tgs) X.env).map (·.2) = assign tg X.env :: (assignEach tgs X.env).map (·.2) := by rfl) : AGs X (tg :: tgs) (agCons g1 g2) := by
  obtain ⟨t1, p1, l1⟩ := h
  obtain ⟨t2, p2, l2⟩ := h2
  refine ⟨_, pgs_cons p1 p2 hs, fun σ H A ρ S ds vs P Q m mt r q k => ?_⟩
  cases r with
  | nil => exact q.elim
  | cons r1 r2 => exact ⟨_, _, rfl, l1 σ H A ρ S _ _ _ _ m mt r1 q fun σ' H' ρ' A' S' u m' mt' q' => l2 σ' H' A' ρ' S' _ _ P Q m' mt' (r2.mono u) q' (k.mono u)⟩
/-- a tuple or a list is unpacked -/
def agTup (n : Nat) (u : ATGs) : ATG := fun d ρ S Q => must (seqOf S d) fun l => l.length = n ∧ u l ρ S Q
theorem ag_tup {tgs : List Expr} {k : Nat} {n : Nat} {g2 : ATGs} (hc : X.calm = true) (h : AGs X tgs g2) (hn : (assignEach tgs X.env).length = n := by rfl) (hst : (assignEach tgs X.env).findIdx? (·.1) = none := by rfl) : AG X (.Tuple tgs k pos) (agTup n g2) := by
  obtain ⟨t2, p2, l2⟩ := h
  have p : PG X (.Tuple tgs k pos) (fun v σ H Q => gTup X.K n t2 v σ H Q ∨ gUnl X.K n t2 v σ H Q) := ⟨fun pins s σ H v u Q I r q => q.elim ((pg_tup hc p2 hn hst).run pins s σ H v u Q I r) ((pg_unl hc p2 hn hst).run pins s σ H v u Q I r)⟩
  refine ⟨_, p, fun σ H A ρ S d v P Q m mt r q k => ?_⟩
  obtain ⟨l, h, hl, q2⟩ := of_must q
  cases r <;> simp [seqOf] at h
  · rename_i i ad e'
    obtain ⟨ws, hs, rl⟩ := lst_at m e' h
    exact .inr ⟨ad, ws, rfl, hs, by rw [← rl.length]; exact hl, l2 σ H A ρ S l ws P Q m mt rl q2 k⟩
  · rename_i ad ws l' hs rl
    subst h
    exact .inl ⟨ad, ws, rfl, hs, by rw [← rl.length]; exact hl, l2 σ H A ρ S _ ws P Q m mt rl q2 k⟩
  · rename_i ad ws l' hs rl
    subst h
    exact .inr ⟨ad, ws, rfl, .inr hs, by rw [← rl.length]; exact hl, l2 σ H A ρ S _ ws P Q m mt rl q2 k⟩
def aAsg (a : ATE) (g : ATG) : ATS := fun D ρ S => a ρ S (fun x S1 => D.ex x ρ S1) fun d S1 => g d ρ S1 D.nx
theorem ls_asg {K : PySem.W.Frag} {t : TE} {g : TG} {ag : ATG} (l : LE K W t aa) (lg : LG K g ag) : LS K W (tAsg t g) (aAsg aa ag) := fun σ H A ρ S D AD m mt h k =>
  l σ H A ρ S _ _ _ m mt h (fun v H1 d A1 S1 u m1 r q => lg σ H1 A1 ρ S1 d v _ _ m1 (mt.mono u) r q (k.nx.mono u)) (k.ex.at mt)
theorem as_asg {tg : Expr} {ag : ATG} (h : AE X W e aa) (hg : AG X tg ag) (hs : swapsWithSole [tg] e pos.line X.env = pure false := by rfl) (hw : swappedStores [tg] e X.env = pure none := by rfl)
    (h1 : (assignEach [tg] X.env).map (·.2) = [assign tg X.env] := by rfl) : AS X W (.Assign [tg] e pos) (aAsg aa ag) := by
  obtain ⟨t, p, l⟩ := h
  obtain ⟨g, pg, lg⟩ := hg
  exact ⟨_, ps_asg p pg hs hw h1, ls_asg l lg⟩
theorem as_set {i : Nat} {x : Str} (hN : X.N.Nodup) (h : AE X W e aa) (hi : X.N[i]? = some x := by rfl) (hx : Loc X.env.scope x := by first | exact Or.inl rfl | exact Or.inr rfl) (hs : swapsWith e (some (.Name x pos')) pos.line X.env = pure false := by rfl)
    (hf : X.fn x = true ∨ X.env.scope.names.lookup x = some .local := by first | exact .inl rfl | exact .inr rfl | assumption) : AS X W (.Assign [.Name x pos'] e pos) (aAsg aa (agName i)) := by
  obtain ⟨t, p, l⟩ := h
  exact ⟨_, ps_set hN hi hx p hs hf, ls_asg l lg_name⟩
/-! ### xs.append(e), xs.extend(ys) -/
def mAppend (o d : D) (S : Sto) (Q : Sto → Prop) : Prop := match o with
  | .ref i => (match S[i]? with
    | some (.lst l) => l.length < sizeLine ∧ Q (S.set i (.lst (l ++ [d])))
    | _ => False)
  | _ => False
/-- what is known to be a list when the method is looked up -/
def isLst (S : Sto) (o : D) : Bool := match o with
  | .ref i => (lstOf S i).isSome
  | _ => false
def aAppend (ao a : ATE) : ATE := fun ρ S E Q => ao ρ S E fun o S1 => isLst S1 o = true ∧ a ρ S1 E fun d S2 => mAppend o d S2 fun S3 => Q .non S3
theorem tyl_ok {K : PySem.W.Frag} {A : List Addr} {H : Hp} {S : Sto} {o : D} {v : V} (m : MtS K A H S) (r : Rp K A H o v) (h : isLst S o = true) : tyV K "list" v H := by
  cases r <;> simp [isLst] at h
  rename_i i a e
  obtain ⟨l, hl⟩ := Option.isSome_iff_exists.mp h
  obtain ⟨vs, hs, _⟩ := lst_at m e hl
  exact Or.inl ⟨rfl, vs, hs⟩
theorem ae_append {o : Expr} {ao : ATE} {apos cpos : Pos} (ho : AE X W o ao) (ha : AE X W e aa)
    (hbase : attributeBase o "append" X.env (eval o X.env) = eval o X.env := by rfl) (hfew : ((backTo cpos (starEach [e] X.env)).all (fun x => !x.1) && (backToKw cpos (keywordEach [] X.env)).all (fun x => x.1.isSome) && decide ([e].length + ([] : List Keyword).length + (if ([] : List Keyword).isEmpty then 0 else 1) < 30)) = true := by rfl) (hline : (apos.endLine == cpos.line) = true := by rfl) (hs : starEach [e] X.env = (false, eval e X.env) :: starEach [] X.env := by rfl) (hplain : (backTo cpos (starEach [] X.env)).any (·.1) = false := by rfl) :
    AE X W (.Call (.Attribute o "append" apos) [e] [] cpos) (aAppend ao aa) := by
  obtain ⟨to, po, lo⟩ := ho
  obtain ⟨ta, pa, la⟩ := ha
  refine ⟨_, pe_bm PySem.F.plainAttrs_list PySem.F.slot_list_append PySem.F.type_list_append mt_append po (pa_cons pa pa_nil hs) hbase hfew hline hs hplain, fun σ H A ρ S P Q E m mt h kq kx => lo σ H A ρ S _ _ E m mt h (fun x H1 dx A1 S1 u1 m1 r1 q1 => ?_) kx⟩
  refine ⟨tyl_ok m1 r1 q1.1, la σ H1 A1 ρ S1 _ _ E m1 (mt.mono u1) q1.2 (fun y H2 dy A2 S2 u2 m2 r2 q2 => ?_) (kx.mono u1)⟩
  have r1' := r1.mono u2
  cases r1' <;> first | exact q2.elim | skip
  rename_i i ad e'
  simp only [mAppend] at q2
  split at q2
  · rename_i l es'
    obtain ⟨vs, g, rl⟩ := m2.ok i _ ad es' e'
    have uw : Up X.K A2 H2 A2 (upd H2 ad (.lst (vs ++ [y]))) := Up.write m2 e'
    refine ⟨ad, vs, y, rfl, rfl, g, by rw [← rl.length]; exact q2.1, ?_⟩
    exact kq _ _ .non A2 _ ((u1.trans u2).trans uw) (m2.write (o := .lst (l ++ [dy])) e' ⟨_, upd_same, (rl.append (RpL.one r2)).mono uw⟩) .non q2.2
  · exact q2.elim
/-! ### o.f = e -/
def setF (f : Str) (d : D) : List (Str × D) → List (Str × D)
  | [] => [(f, d)]
  | (g, x) :: r => if g = f then (g, d) :: r else (g, x) :: setF f d r
theorem setF_ok {K : PySem.W.Frag} {A : List Addr} {H : Hp} {f : Str} {d : D} {v : V} (r : Rp K A H d v) : ∀ {fs : List (Str × D)} {gs : List (Str × V)}, RpK K A H Str fs gs → RpK K A H Str (setF f d fs) (putF f v gs) := by
  intro fs gs h
  induction h with
  | nil => exact .cons ⟨rfl, r⟩ .nil
  | cons h1 h2 ih =>
    rename_i p q l1 l2
    obtain ⟨p1, p2⟩ := p
    obtain ⟨q1, q2⟩ := q
    obtain ⟨e, rp⟩ := h1
    dsimp only at e rp
    subst e
    show RpK K A H Str (if p1 = f then (p1, d) :: l1 else (p1, p2) :: setF f d l1) (if p1 = f then (p1, v) :: l2 else (p1, q2) :: putF f v l2)
    by_cases hh : p1 = f
    · rw [if_pos hh, if_pos hh]; exact .cons ⟨rfl, r⟩ h2
    · rw [if_neg hh, if_neg hh]; exact .cons ⟨rfl, rp⟩ ih
/-- o.f = e, o an instance of cl -/
def aFldSet (cl f : Str) (ao a : ATE) : ATS := fun D ρ S => a ρ S (fun x S1 => D.ex x ρ S1) fun d S1 => ao ρ S1 (fun x S2 => D.ex x ρ S2) fun o S2 => must (insOf S2 cl o) fun fs => fs.length < 1000 ∧ (match o with
  | .ref i => D.nx ρ (S2.set i (.ins cl (setF f d fs)))
  | _ => False)
theorem as_fld {cl f : Str} {o : Expr} {ao : ATE} (hf : FieldOk X.K cl f) (ho : AE X W o ao) (hv : AE X W e aa) (hs : swapsWith e (some (.Attribute o f pos')) pos.line X.env = pure false := by rfl) : AS X W (.Assign [.Attribute o f pos'] e pos) (aFldSet cl f ao aa) := by
  obtain ⟨to, po, lo⟩ := ho
  obtain ⟨tv, pv, lv⟩ := hv
  refine ⟨_, ps_fld po pv hs, fun σ H A ρ S D AD m mt h k => lv σ H A ρ S _ _ _ m mt h (fun v H1 d A1 S1 u1 m1 r1 q1 => lo σ H1 A1 ρ S1 _ _ _ m1 (mt.mono u1) q1 (fun x H2 dx A2 S2 u2 m2 r2 q2 => ?_) ((k.ex.mono u1).at (mt.mono u1))) (k.ex.at mt)⟩
  obtain ⟨fs, ei, hl, q⟩ := of_must q2
  obtain ⟨ad, dxx, gs, i, ed, ea, es', ev, g, rk⟩ := ins_at m2 r2 ei
  subst ev; subst ed
  have uw : Up X.K A2 H2 A2 (upd H2 ad (.ins (He.ga X.K cl) dxx (putF f v gs))) := Up.write m2 ea
  refine ⟨ad, _, dxx, gs, rfl, g, hf.1, hf.2, by rw [← RpK.length rk]; exact hl, ?_⟩
  exact k.nx _ _ ρ A2 _ ((u1.trans u2).trans uw) (m2.write (o := .ins cl (setF f d fs)) ea ⟨dxx, _, upd_same, (setF_ok (r1.mono u2) rk).mono uw⟩) ((mt.mono (u1.trans u2)).mono uw) q
/-! ### d[k] = e -/
def setK {κ : Type} [DecidableEq κ] (k : κ) (d : D) : List (κ × D) → List (κ × D)
  | [] => [(k, d)]
  | (g, x) :: r => if g = k then (g, d) :: setMore k d r else (g, x) :: setK k d r
where
  setMore (k : κ) (d : D) : List (κ × D) → List (κ × D)
    | [] => []
    | (g, x) :: r => if g = k then (g, d) :: setMore k d r else (g, x) :: setMore k d r
theorem putK_cons {κ : Type} [DecidableEq κ] (k g : κ) (x v : V) (r : List (κ × V)) : putK ((g, x) :: r) k v = if g = k then (g, v) :: r.map (fun kv => if kv.1 = k then (kv.1, v) else kv) else (g, x) :: putK r k v := by
  unfold putK
  by_cases h : g = k
  · simp [h]
  · simp only [List.any_cons, h, decide_false, Bool.false_or, if_false, List.map_cons, List.cons_append]
    split <;> simp [h]
theorem setMore_ok {K : PySem.W.Frag} {A : List Addr} {H : Hp} {κ : Type} [DecidableEq κ] {k : κ} {d : D} {v : V} (r : Rp K A H d v) {kvs : List (κ × D)} {ks : List (κ × V)} (h : RpK K A H κ kvs ks) : RpK K A H κ (setK.setMore k d kvs) (ks.map fun kv => if kv.1 = k then (kv.1, v) else kv) := by
  induction h with
  | nil => exact .nil
  | cons h1 h2 ih =>
    rename_i p q l1 l2
    obtain ⟨p1, p2⟩ := p
    obtain ⟨q1, q2⟩ := q
    obtain ⟨e, rp⟩ := h1
    dsimp only at e rp
    subst e
    rw [List.map_cons]
    show RpK K A H κ (if p1 = k then (p1, d) :: setK.setMore k d l1 else (p1, p2) :: setK.setMore k d l1) ((if p1 = k then (p1, v) else (p1, q2)) :: _)
    by_cases hh : p1 = k
    · rw [if_pos hh, if_pos hh]; exact .cons ⟨rfl, r⟩ ih
    · rw [if_neg hh, if_neg hh]; exact .cons ⟨rfl, rp⟩ ih
theorem setK_ok {K : PySem.W.Frag} {A : List Addr} {H : Hp} {κ : Type} [DecidableEq κ] {k : κ} {d : D} {v : V} (r : Rp K A H d v) {kvs : List (κ × D)} {ks : List (κ × V)} (h : RpK K A H κ kvs ks) : RpK K A H κ (setK k d kvs) (putK ks k v) := by
  induction h with
  | nil =>
    show RpK K A H κ [(k, d)] (putK [] k v)
    exact .cons ⟨rfl, r⟩ .nil
  | cons h1 h2 ih =>
    rename_i p q l1 l2
    obtain ⟨p1, p2⟩ := p
    obtain ⟨q1, q2⟩ := q
    obtain ⟨e, rp⟩ := h1
    dsimp only at e rp
    subst e
    rw [putK_cons]
    show RpK K A H κ (if p1 = k then (p1, d) :: setK.setMore k d l1 else (p1, p2) :: setK k d l1) _
    by_cases hh : p1 = k
    · rw [if_pos hh, if_pos hh]; exact .cons ⟨rfl, r⟩ (setMore_ok r h2)
    · rw [if_neg hh, if_neg hh]; exact .cons ⟨rfl, rp⟩ ih
def mPut (o k d : D) (S : Sto) (Q : Sto → Prop) : Prop := match o with
  | .ref i => (match S[i]? with
    | some (.dK kvs) => must (keyD k) fun key => kvs.length < sizeLine ∧ Q (S.set i (.dK (setK key d kvs)))
    | _ => False)
  | _ => False
def aDPut (ao ak a : ATE) : ATS := fun D ρ S => a ρ S (fun x S1 => D.ex x ρ S1) fun d S1 => ao ρ S1 (fun x S2 => D.ex x ρ S2) fun o S2 => ak ρ S2 (fun x S3 => D.ex x ρ S3) fun k S3 => mPut o k d S3 (D.nx ρ)
theorem as_dput {o i : Expr} {ao ai : ATE} (hu : X.A.units + 1 < cLine) (ho : AE X W o ao) (hi : AE X W i ai) (hv : AE X W e aa) (hs : swapsWith e (some (.Subscript o i pos')) pos.line X.env = pure false := by rfl) : AS X W (.Assign [.Subscript o i pos'] e pos) (aDPut ao ai aa) := by
  obtain ⟨to, po, lo⟩ := ho
  obtain ⟨ti, pi', li⟩ := hi
  obtain ⟨tv, pv, lv⟩ := hv
  refine ⟨_, ps_dput hu po pi' pv hs, fun σ H A ρ S D AD m mt h k => lv σ H A ρ S _ _ _ m mt h (fun v H1 d A1 S1 u1 m1 r1 q1 => lo σ H1 A1 ρ S1 _ _ _ m1 (mt.mono u1) q1 (fun x H2 dx A2 S2 u2 m2 r2 q2 =>
    li σ H2 A2 ρ S2 _ _ _ m2 ((mt.mono u1).mono u2) q2 (fun y H3 dy A3 S3 u3 m3 r3 q3 => ?_) ((k.ex.mono (u1.trans u2)).at ((mt.mono u1).mono u2))) ((k.ex.mono u1).at (mt.mono u1))) (k.ex.at mt)⟩
  have r2' := r2.mono u3
  cases r2' <;> first | exact q3.elim | skip
  rename_i j ad ea
  simp only [mPut] at q3
  split at q3
  · rename_i kvs es'
    obtain ⟨key, ek, hl, q⟩ := of_must q3
    have ev := key_ok ek r3
    subst ev
    obtain ⟨ks, g, rk⟩ := m3.ok j _ ad es' ea
    have uw : Up X.K A3 H3 A3 (upd H3 ad (.dK (putK ks key v))) := Up.write m3 ea
    refine ⟨ad, _, rfl, DPut.k g (by rw [← RpK.length rk]; exact hl), ?_⟩
    exact k.nx _ _ ρ A3 _ (((u1.trans u2).trans u3).trans uw) (m3.write (o := .dK (setK key d kvs)) ea ⟨_, upd_same, (setK_ok ((r1.mono u2).mono u3) rk).mono uw⟩) ((mt.mono ((u1.trans u2).trans u3)).mono uw) q
  · exact q3.elim
end
end AL
/-! AL6: loops, comprehensions. -/
namespace AL
open PySem PySem.Spec
open PyProof.Rows L2
/-- what is walked -/
inductive Src where
  | fix (l : List D)
  | lst (i : Nat) (l : List D)
  | rvl (i : Nat) (l : List D)
  | rng (lo : Int) (n : Nat)
def Src.items : Src → List D
  | .fix l => l
  | .lst _ l => l
  | .rvl _ l => l.reverse
  | .rng lo n => (List.range n).map fun (k : Nat) => D.int (lo + (k : Int))
def Src.ok (S : Sto) : Src → Prop
  | .fix _ => True
  | .lst i l => lstOf S i = some l
  | .rvl i l => lstOf S i = some l
  | .rng _ _ => True
structure JOk (K : PySem.W.Frag) (A : List Addr) (H : Hp) (src : Src) (J : It) : Prop where
  stop : ∀ k A' H' S', Up K A H A' H' → MtS K A' H' S' → src.ok S' → src.items.length ≤ k → J.stop k H'
  go : ∀ k A' H' S', Up K A H A' H' → MtS K A' H' S' → src.ok S' → k < src.items.length → J.go k H'
  yld : ∀ k A' H' S' x H2, Up K A H A' H' → MtS K A' H' S' → src.ok S' → k < src.items.length → J.yld k H' x H2 → H2 = H' ∧ ∃ d, src.items[k]? = some d ∧ Rp K A' H' d x
theorem JOk.mono {K : PySem.W.Frag} {A A' : List Addr} {H H' : Hp} {src : Src} {J : It} (j : JOk K A H src J) (u : Up K A H A' H') : JOk K A' H' src J :=
  ⟨fun k A2 H2 S2 w => j.stop k A2 H2 S2 (u.trans w), fun k A2 H2 S2 w => j.go k A2 H2 S2 (u.trans w), fun k A2 H2 S2 x H3 w => j.yld k A2 H2 S2 x H3 (u.trans w)⟩
abbrev ATI := Rho → Sto → XA → (Src → Sto → Prop) → Prop
def LI (K : PySem.W.Frag) (W : WX) (wi : TI) (ai : ATI) : Prop := ∀ σ H A ρ S (R : It → Hp → Prop) (Q : Src → Sto → Prop) (E : XA), MtS K A H S → Mt K A H ρ σ → ai ρ S E Q →
  (∀ J H' src A' S', Up K A H A' H' → MtS K A' H' S' → JOk K A' H' src J → src.ok S' → Q src S' → R J H') → KX K A H (WE' W σ) E → wi σ H R
def AI (X : Cx) (W : WX) (tg iter : Expr) (ai : ATI) : Prop := ∃ wi, PI X tg iter wi ∧ LI X.K W wi ai
section
variable {K : PySem.W.Frag} {A : List Addr} {H : Hp} {S : Sto}
theorem jok_tup {a : Addr} {vs : List V} {l : List D} (hs : SqT K H a vs) (rl : RpL K A H l vs) : JOk K A H (.fix l) (Itt K a) := by
  refine ⟨fun k A' H' S' u m ok hk => ⟨vs, u.tup _ _ hs, by rw [← rl.length]; exact hk⟩, fun k A' H' S' u m ok hk => ?_, fun k A' H' S' x H2 u m ok hk y => ?_⟩
  · have hk' : k < l.length := hk
    obtain ⟨v, e, _⟩ := rl.get (List.getElem?_eq_getElem hk')
    exact ⟨vs, v, u.tup _ _ hs, e⟩
  · have hk' : k < l.length := hk
    obtain ⟨v, e, r⟩ := rl.get (List.getElem?_eq_getElem hk')
    obtain ⟨e1, e2⟩ := y
    have := e2 vs (u.tup _ _ hs)
    rw [e] at this
    cases this
    exact ⟨e1, _, List.getElem?_eq_getElem hk', r.mono u⟩
theorem jok_str {x : Str} : JOk K A H (.fix (x.cps.toList.map fun c => D.str ⟨#[c]⟩)) (Its x) := by
  refine ⟨fun k A' H' S' u m ok hk => ?_, fun k A' H' S' u m ok hk => ?_, fun k A' H' S' v H2 u m ok hk y => ?_⟩
  · show x.cps.size ≤ k
    simpa [Src.items] using hk
  · show k < x.cps.size
    simpa [Src.items] using hk
  · obtain ⟨e1, c, e2, rfl⟩ := y
    refine ⟨e1, _, ?_, .str _⟩
    show (x.cps.toList.map fun c => D.str ⟨#[c]⟩)[k]? = _
    rw [List.getElem?_map, Array.getElem?_toList, e2]; rfl
theorem jok_lst {i : Nat} {a : Addr} {l : List D} (e : A[i]? = some a) : JOk K A H (.lst i l) (Itl K a) := by
  refine ⟨fun k A' H' S' u m ok hk => ?_, fun k A' H' S' u m ok hk => ?_, fun k A' H' S' x H2 u m ok hk y => ?_⟩
  · obtain ⟨vs, hs, rl⟩ := lst_at m (pre_get u.pre e) ok
    exact ⟨vs, hs, by rw [← rl.length]; exact hk⟩
  · obtain ⟨vs, hs, rl⟩ := lst_at m (pre_get u.pre e) ok
    have hk' : k < l.length := hk
    obtain ⟨v, e', _⟩ := rl.get (List.getElem?_eq_getElem hk')
    exact ⟨vs, v, hs, e'⟩
  · obtain ⟨vs, hs, rl⟩ := lst_at m (pre_get u.pre e) ok
    have hk' : k < l.length := hk
    obtain ⟨v, e', r⟩ := rl.get (List.getElem?_eq_getElem hk')
    obtain ⟨e1, e2⟩ := y
    have := e2 vs hs
    rw [e'] at this
    cases this
    exact ⟨e1, _, List.getElem?_eq_getElem hk', r⟩
theorem jok_rng {lo : Int} {n : Nat} : JOk K A H (.rng lo n) (Itr lo n) := by
  refine ⟨fun k A' H' S' u m ok hk => ?_, fun k A' H' S' u m ok hk => ?_, fun k A' H' S' x H2 u m ok hk y => ?_⟩
  · show n ≤ k
    simpa [Src.items] using hk
  · show k < n
    simpa [Src.items] using hk
  · obtain ⟨e1, rfl⟩ := y
    have hk' : k < n := by simpa [Src.items] using hk
    refine ⟨e1, _, ?_, .int _⟩
    show ((List.range n).map fun (k : Nat) => D.int (lo + (k : Int)))[k]? = _
    rw [List.getElem?_map, List.getElem?_range hk']; rfl
end
section
variable {X : Cx} {W : WX} {a b c e tg iter : Expr} {aa ab ac : ATE} {pos : Pos} {es : List Expr} {t' : ATA} {sts : List Stmt} {as1 : ATS} {at1 : ATT} {ai : ATI} {ag : ATG}
/-- what a value gives to walk -/
def srcOf (S : Sto) : D → Option Src
  | .tup l => some (.fix l)
  | .str x => some (.fix (x.cps.toList.map fun c => D.str ⟨#[c]⟩))
  | .ref i => (lstOf S i).map (Src.lst i)
  | _ => none
def aiAny (a : ATE) : ATI := fun ρ S E Q => a ρ S E fun d S1 => must (srcOf S1 d) fun src => Q src S1
theorem ai_any (ha : AE X W iter aa) : AI X W tg iter (aiAny aa) := by
  obtain ⟨t, pa, la⟩ := ha
  have h1 : PI X tg iter (iList X.K t) := pi_list pa
  refine ⟨fun σ H R => t σ H fun x H1 => (∃ a, x = .ref a ∧ (∃ xs, SqL X.K H1 a xs) ∧ R (Itl X.K a) H1) ∨ (∃ a, x = .ref a ∧ (∃ xs, SqT X.K H1 a xs) ∧ R (Itt X.K a) H1) ∨ ∃ z, x = .str z ∧ R (Its z) H1, ⟨fun pins s σ H R I h => ?_⟩, fun σ H A ρ S R Q E m mt h hR kx => ?_⟩
  · refine thn (pa.run pins s σ H _ I h) fun v s1 ⟨x, H1, J, r1, q1⟩ => ?_
    rcases q1 with ⟨a, ex, ⟨xs, hq⟩, q⟩ | ⟨a, ex, ⟨xs, hq⟩, q⟩ | ⟨z, ex, q⟩
    · subst ex
      cases r1
      obtain ⟨its, rv, pl, hz⟩ := J.list hq
      refine wpAny_pyIter_list pl.isList ?_
      refine ⟨s1.heap.objs.size, [s1.heap.objs.size], _, _, H1, rfl, J.kept (t' := s1.toks) fun b o e => Heap.get?_push_of_some _ e, turn_list a _, ⟨_, Heap.get?_push_size _ rfl, rfl, rfl⟩, fun b hb => ?_, q⟩
      have eb : b = s1.heap.objs.size := by simpa using hb
      subst eb
      exact J.fpOk (Nat.le_refl _) (J.hok.fresh (Nat.le_refl _))
    · subst ex
      cases r1
      obtain ⟨its, rv, pl, hz⟩ := J.tuple hq
      refine wpAny_pyIter_tuple (show s1.heap.IsTuple a its.toArray from pl) ?_
      refine ⟨s1.heap.objs.size, [s1.heap.objs.size], _, _, H1, rfl, J.kept (t' := s1.toks) fun b o e => Heap.get?_push_of_some _ e, turn_tuple a _, ⟨_, Heap.get?_push_size _ rfl, rfl, rfl⟩, fun b hb => ?_, q⟩
      have eb : b = s1.heap.objs.size := by simpa using hb
      subst eb
      exact J.fpOk (Nat.le_refl _) (J.hok.fresh (Nat.le_refl _))
    · subst ex
      obtain ⟨t, rfl⟩ := r1
      cases ha : z.cps.all (· < 128)
      · exact wpAny_pyIter_wide ha (pi_one (tk := s1.toks) J _ (turn_str _ z t "str_iterator" (.inr rfl)) ⟨_, Heap.get?_push_size _ rfl, rfl, rfl⟩ q)
      · exact wpAny_pyIter_ascii ha (pi_one (tk := s1.toks) J _ (turn_str _ z t "str_ascii_iterator" (.inl rfl)) ⟨_, Heap.get?_push_size _ rfl, rfl, rfl⟩ q)
  · refine la σ H A ρ S _ _ E m mt h (fun x H1 dx A1 S1 u1 m1 r1 q1 => ?_) kx
    obtain ⟨src, es', q⟩ := of_must q1
    cases r1 <;> simp [srcOf] at es'
    · rename_i z
      subst es'
      exact .inr (.inr ⟨z, rfl, hR _ H1 _ A1 S1 u1 m1 jok_str trivial q⟩)
    · rename_i i ad ea
      obtain ⟨l, hl, rfl⟩ := es'
      obtain ⟨vs, hs, rl⟩ := lst_at m1 ea hl
      exact .inl ⟨ad, rfl, ⟨vs, hs⟩, hR _ H1 _ A1 S1 u1 m1 (jok_lst ea) hl q⟩
    · rename_i ad vs l hs rl
      subst es'
      exact .inr (.inl ⟨ad, rfl, ⟨vs, hs⟩, hR _ H1 _ A1 S1 u1 m1 (jok_tup hs rl) trivial q⟩)
def aiRng1 (t : ATA) : ATI := fun ρ S E Q => t ρ S E fun ds S1 => match ds with
  | [.int j] => (-(2 ^ 62) ≤ j ∧ j < 2 ^ 62) ∧ Q (.rng 0 j.toNat) S1
  | _ => False
theorem ai_range1 {p : Pos} (hm : X.mg "range" = none) (ha : AA X W [a] t') (hg : Gl X "range" := by rfl) (hs : starEach [a] X.env = [(false, eval a X.env)] := by rfl) : AI X W tg (.Call (.Name "range" p) [a] [] pos) (aiRng1 t') := by
  obtain ⟨t, pa, la⟩ := ha
  refine ⟨_, pi_range1 hg hm pa hs, fun σ H A ρ S R Q E m mt h hR kx => la σ H A ρ S _ _ E m mt h (fun vs H1 ds A1 S1 u1 m1 r1 q1 => ?_) kx⟩
  match ds, q1 with
  | [.int j], q1 =>
    obtain ⟨v, rfl, rv⟩ := rp1 r1
    cases rv
    exact ⟨j, rfl, q1.1.1, q1.1.2, hR _ H1 _ A1 S1 u1 m1 jok_rng trivial q1.2⟩
def aiRng2 (t : ATA) : ATI := fun ρ S E Q => t ρ S E fun ds S1 => match ds with
  | [.int i, .int j] => (-(2 ^ 62) ≤ i ∧ i < 2 ^ 62 ∧ -(2 ^ 62) ≤ j ∧ j < 2 ^ 62) ∧ Q (.rng i (j - i).toNat) S1
  | _ => False
theorem ai_range2 {p : Pos} (hm : X.mg "range" = none) (ha : AA X W [a, b] t') (hg : Gl X "range" := by rfl) (hs : starEach [a, b] X.env = [(false, eval a X.env), (false, eval b X.env)] := by rfl) (hs2 : starEach [b] X.env = [(false, eval b X.env)] := by rfl) : AI X W tg (.Call (.Name "range" p) [a, b] [] pos) (aiRng2 t') := by
  obtain ⟨t, pa, la⟩ := ha
  refine ⟨_, pi_range2 hg hm pa hs hs2, fun σ H A ρ S R Q E m mt h hR kx => la σ H A ρ S _ _ E m mt h (fun vs H1 ds A1 S1 u1 m1 r1 q1 => ?_) kx⟩
  match ds, q1 with
  | [.int i, .int j], q1 =>
    obtain ⟨v, w, rfl, rv, rw'⟩ := rp2 r1
    cases rv; cases rw'
    exact ⟨i, j, rfl, q1.1, hR _ H1 _ A1 S1 u1 m1 jok_rng trivial q1.2⟩

/-! ### while -/
def aWhile (t : ATT) (body : ATS) : ATS := fun D ρ S => ∃ Wv : Nat → Rho → Sto → Prop, (∃ m, Wv m ρ S) ∧ ∀ m ρ S, Wv m ρ S → t ρ S (fun x S1 => D.ex x ρ S1) fun k S1 => match k with
  | true => body { D with nx := fun ρ' S' => ∃ m', m' < m ∧ Wv m' ρ' S', ct := fun ρ' S' => ∃ m', m' < m ∧ Wv m' ρ' S', bk := D.nx } ρ S1
  | false => D.nx ρ S1
theorem as_while (hp : PassesOwn (model X.prog X.w) X.A X.env X.xe) (hc : AT X W c at1) (hb : ASs X W sts as1) : AS X W (.While c sts [] pos) (aWhile at1 as1) := by
  obtain ⟨t, p, l⟩ := hc
  obtain ⟨t1, p1, l1⟩ := hb
  refine ⟨_, ps_while hp p p1, fun σ H A ρ S D AD m mt h k => ?_⟩
  obtain ⟨Wv, ⟨m0, w0⟩, turn⟩ := h
  refine ⟨fun n σ' H' => ∃ A' ρ' S', Up X.K A H A' H' ∧ MtS X.K A' H' S' ∧ Mt X.K A' H' ρ' σ' ∧ Wv n ρ' S', ⟨m0, A, ρ, S, Up.refl, m, mt, w0⟩, ?_⟩
  rintro n σ1 H1 ⟨A1, ρ1, S1, u1, m1, mt1, w1⟩
  have k1 := k.mono u1
  refine l σ1 H1 A1 ρ1 S1 _ _ _ m1 mt1 (turn n ρ1 S1 w1) (fun bb H2 A2 S2 u2 m2 q2 => ?_) (k1.ex.at mt1)
  have k2 := k1.mono u2
  have mt2 := mt1.mono u2
  cases bb with
  | true =>
    refine ⟨_, fun _ _ z => z, l1 σ1 H2 A2 ρ1 S2 _ _ m2 mt2 q2 ⟨?_, k2.rt, k2.nx, ?_, k2.ex⟩⟩
    · rintro σ' H' ρ' A' S' u m' mt' ⟨j, hj, wj⟩
      exact ⟨j, hj, A', ρ', S', (u1.trans u2).trans u, m', mt', wj⟩
    · rintro σ' H' ρ' A' S' u m' mt' ⟨j, hj, wj⟩
      exact ⟨j, hj, A', ρ', S', (u1.trans u2).trans u, m', mt', wj⟩
  | false => exact k2.nx σ1 H2 ρ1 A2 S2 Up.refl m2 mt2 q2
/-! ### for -/
def aFor (ai : ATI) (ag : ATG) (body : ATS) : ATS := fun D ρ S => ai ρ S (fun x S1 => D.ex x ρ S1) fun src S1 => ∃ Wv : Nat → Rho → Sto → Prop, Wv 0 ρ S1 ∧ (∀ k ρ S, k ≤ src.items.length → Wv k ρ S → src.ok S) ∧
  (∀ k d ρ S, src.items[k]? = some d → Wv k ρ S → ag d ρ S fun ρ2 S2 => body { D with nx := Wv (k + 1), ct := Wv (k + 1), bk := D.nx } ρ2 S2) ∧ ∀ ρ S, Wv src.items.length ρ S → D.nx ρ S
theorem as_for (hp : PassesOwn (model X.prog X.w) X.A X.env X.xe) (hc : X.calm = true) (hi : AI X W tg iter ai) (hg : AG X tg ag) (hb : ASs X W sts as1) (hs : ∀ x, foldedSetIterable iter X.env x = pure x := by intro _; rfl) : AS X W (.For tg iter sts [] pos) (aFor ai ag as1) := by
  obtain ⟨wi, pi', li⟩ := hi
  obtain ⟨g, pg, lg⟩ := hg
  obtain ⟨t1, p1, l1⟩ := hb
  refine ⟨_, ps_for hp hc pi' pg p1 hs, fun σ H A ρ S D AD m mt h k => li σ H A ρ S _ _ _ m mt h (fun J H1 src A1 S1 u1 m1 jok ok1 q1 => ?_) (k.ex.at mt)⟩
  obtain ⟨Wv, w0, stays, turn, done⟩ := q1
  have k1 := k.mono u1
  have mt1 := mt.mono u1
  refine ⟨fun i n σ' H' => i ≤ src.items.length ∧ n = src.items.length - i ∧ ∃ A' ρ' S', Up X.K A1 H1 A' H' ∧ MtS X.K A' H' S' ∧ Mt X.K A' H' ρ' σ' ∧ Wv i ρ' S', ⟨_, Nat.zero_le _, rfl, A1, ρ, S1, Up.refl, m1, mt1, w0⟩, ?_⟩
  rintro i n σ2 H2 ⟨hi, hn, A2, ρ2, S2, u2, m2, mt2, w2⟩
  have ok2 := stays i ρ2 S2 hi w2
  have k2 := k1.mono u2
  by_cases hlt : i < src.items.length
  · refine .inr ⟨jok.go i A2 H2 S2 u2 m2 ok2 hlt, fun σ' H' => i + 1 ≤ src.items.length ∧ ∃ A' ρ' S', Up X.K A1 H1 A' H' ∧ MtS X.K A' H' S' ∧ Mt X.K A' H' ρ' σ' ∧ Wv (i + 1) ρ' S', ?_, ?_⟩
    · rintro σ' H' ⟨h1, h2⟩
      exact ⟨src.items.length - (i + 1), by omega, h1, rfl, h2⟩
    · intro x H3 y
      obtain ⟨rfl, d, ed, rx⟩ := jok.yld i A2 H2 S2 x H3 u2 m2 ok2 hlt y
      refine lg σ2 H3 A2 ρ2 S2 d x _ _ m2 mt2 rx (turn i d ρ2 S2 ed w2) fun σ4 H4 ρ4 A4 S4 u4 m4 mt4 q4 => ?_
      have k4 := k2.mono u4
      refine l1 σ4 H4 A4 ρ4 S4 _ _ m4 mt4 q4 ⟨?_, k4.rt, k4.nx, ?_, k4.ex⟩
      · intro σ' H' ρ' A' S' u m' mt' wj
        exact ⟨hlt, A', ρ', S', (u2.trans u4).trans u, m', mt', wj⟩
      · intro σ' H' ρ' A' S' u m' mt' wj
        exact ⟨hlt, A', ρ', S', (u2.trans u4).trans u, m', mt', wj⟩
  · have hi' : i = src.items.length := by omega
    exact .inl ⟨jok.stop i A2 H2 S2 u2 m2 ok2 (by omega), k2.nx σ2 H2 ρ2 A2 S2 Up.refl m2 mt2 (done ρ2 S2 (hi' ▸ w2))⟩

/-! ### comprehensions -/
/-- the reading that the abstract one gives -/
def cE (K : PySem.W.Frag) (W : WX) (a : ATE) : TE := fun σ H P => ∃ A ρ S Q E, MtS K A H S ∧ Mt K A H ρ σ ∧ a ρ S E Q ∧ KQ K A H P Q ∧ KX K A H (WE' W σ) E
def cT (K : PySem.W.Frag) (W : WX) (a : ATT) : TT := fun σ H P => ∃ A ρ S Q E, MtS K A H S ∧ Mt K A H ρ σ ∧ a ρ S E Q ∧ KT K A H P Q ∧ KX K A H (WE' W σ) E
theorem AE.can (h : AE X W e aa) : PE X e (cE X.K W aa) := by
  obtain ⟨t, p, l⟩ := h
  exact ⟨fun pins s σ H P I ⟨A, ρ, S, Q, E, m, mt, q, kq, kx⟩ => p.run pins s σ H P I (l σ H A ρ S P Q E m mt q kq kx)⟩
theorem AT.can (h : AT X W e at1) : PT X e (cT X.K W at1) := by
  obtain ⟨t, p, l⟩ := h
  exact ⟨fun pins s σ H P I ⟨A, ρ, S, Q, E, m, mt, q, kq, kx⟩ => p.run pins s σ H P I (l σ H A ρ S P Q E m mt q kq kx)⟩
theorem LE.can {K : PySem.W.Frag} : LE K W (cE K W aa) aa := fun σ H A ρ S P Q E m mt h kq kx => ⟨A, ρ, S, Q, E, m, mt, h, kq, kx⟩
theorem LT.can {K : PySem.W.Frag} : LT K W (cT K W at1) at1 := fun σ H A ρ S P Q E m mt h kq kx => ⟨A, ρ, S, Q, E, m, mt, h, kq, kx⟩
abbrev W0 : WX := fun _ _ _ _ => False
/-- tests of a comprehension -/
def AIfs (X : Cx) (ifs : List Expr) (a : ATT) : Prop := PTs X ifs (cT X.K W0 a)
def aYes : ATT := fun _ S _ Q => Q true S
theorem aifs_nil : AIfs X [] aYes := ⟨fun pins s σ H P I ⟨A, ρ, S, Q, E, m, mt, q, kq, _⟩ => (pts_nil (X := X)).run pins s σ H P I (kq true H A S Up.refl m q)⟩
theorem aifs_one (h : AT X W0 c at1) : AIfs X [c] at1 := pts_one h.can
/-- a comprehension's own targets -/
def LGc (g : TG) (vs : List Nat) : Prop := ∀ v σ H (P : L2.St → Hp → Prop), g v (wipe σ vs) H P → g v (wipe σ vs) H fun σ2 H2 => wipe σ2 vs = wipe σ vs ∧ P σ2 H2
theorem wipe_set {σ : L2.St} {j : Nat} {x : Option V} : ∀ {vs : List Nat}, j ∈ vs → wipe (σ.set j x) vs = wipe σ vs
  | v :: vs, h => by
    unfold wipe
    by_cases hj : j ∈ vs
    · rw [wipe_set hj]
    · have e : j = v := by
        obtain z | z := List.mem_cons.mp h
        · exact z
        · exact absurd z hj
      subst e
      exact aux hj
where
  aux {σ : L2.St} {j : Nat} {x : Option V} : ∀ {vs : List Nat}, j ∉ vs → (wipe (σ.set j x) vs).set j none = (wipe σ vs).set j none
    | [], _ => by unfold wipe; rw [List.set_set]
    | v :: vs, h => by
      unfold wipe
      have hne : v ≠ j := fun e => h (by rw [e]; exact List.mem_cons_self)
      rw [List.set_comm _ _ hne, aux fun z => h (List.mem_cons_of_mem _ z), List.set_comm _ _ hne.symm]
theorem wipe_wipe {σ : L2.St} : ∀ {vs : List Nat}, wipe (wipe σ vs) vs = wipe σ vs := by
  have key : ∀ (ws vs : List Nat), (∀ w ∈ ws, w ∈ vs) → wipe (wipe σ ws) vs = wipe σ vs := by
    intro ws
    induction ws with
    | nil => intro vs _; rfl
    | cons w ws ih =>
      intro vs h
      show wipe ((wipe σ ws).set w none) vs = _
      rw [wipe_set (h w List.mem_cons_self), ih vs fun z hz => h z (List.mem_cons_of_mem _ hz)]
  intro vs
  exact key vs vs fun _ h => h
theorem lgc_name {j : Nat} {vs : List Nat} (h : j ∈ vs) : LGc (gName j) vs := fun v σ H P q => ⟨by rw [wipe_set h, wipe_wipe], q⟩
/-- .. several names -/
def Wip (g : TGs) (vs : List Nat) : Prop := ∀ us σ σ0 H (P : L2.St → Hp → Prop), wipe σ vs = wipe σ0 vs → g us σ H P → g us σ H fun σ2 H2 => wipe σ2 vs = wipe σ0 vs ∧ P σ2 H2
theorem wip_nil {vs : List Nat} : Wip gNil vs := fun us σ σ0 H P e ⟨h1, h2⟩ => ⟨h1, e, h2⟩
theorem wip_cons {j : Nat} {vs : List Nat} {u : TGs} (h : j ∈ vs) (hu : Wip u vs) : Wip (gCons (gName j) u) vs := fun us σ σ0 H P e ⟨v, r, eu, q⟩ => ⟨v, r, eu, hu r _ σ0 H P (by rw [wipe_set h, e]) q⟩
structure AGc (X : Cx) (scope : Scope) (tg : Expr) (vs : List Nat) (ag : ATG) : Prop where
  ex : ∃ g, (∀ (s : Shared) (H : Hp) (C : Addr) (cl : List (Str × Addr)) (fp : List Addr), PG (X.blk s H scope (compEnvC scope cl C X.env) fp) tg g) ∧ LG X.K g ag ∧ LGc g vs
theorem agc_name {scope : Scope} {i : Nat} {x : Str} {vs : List Nat} (hv : i ∈ vs) (hN : X.N.Nodup) (hi : X.N[i]? = some x := by rfl) (hx : ∀ cl C, (compEnvC scope cl C X.env).scope.names.lookup x = some .local := by intro _ _; rfl) : AGc X scope (.Name x pos) vs (agName i) :=
  ⟨_, fun s H C cl fp => pg_name (X := X.blk s H scope (compEnvC scope cl C X.env) fp) hN hi (.inl (hx cl C)) (.inr (hx cl C)), lg_name, lgc_name hv⟩
structure AGcs (X : Cx) (scope : Scope) (tgs : List Expr) (vs : List Nat) (ag : ATGs) : Prop where
  ex : ∃ g, (∀ (s : Shared) (H : Hp) (C : Addr) (cl : List (Str × Addr)) (fp : List Addr), PGs (X.blk s H scope (compEnvC scope cl C X.env) fp) tgs g) ∧ LGs X.K g ag ∧ Wip g vs
theorem agcs_nil {scope : Scope} {vs : List Nat} : AGcs X scope [] vs agNil := by
  refine ⟨_, fun s H C cl fp => pgs_nil, fun σ H A ρ S ds vs P Q m mt r q k => ?_, wip_nil⟩
  cases r with
  | nil => exact ⟨rfl, k σ H ρ A S Up.refl m mt q⟩
  | cons _ _ => exact q.elim
theorem agcs_cons {scope : Scope} {i : Nat} {x : Str} {vs : List Nat} {tgs : List Expr} {g2 : ATGs} (hv : i ∈ vs) (hN : X.N.Nodup) (h2 : AGcs X scope tgs vs g2) (hi : X.N[i]? = some x := by rfl) (hx : ∀ cl C, (compEnvC scope cl C X.env).scope.names.lookup x = some .local := by intro _ _; rfl)
    (hs : ∀ cl C, (assignEach (.Name x pos :: tgs) (compEnvC scope cl C X.env)).map (·.2) = assign (.Name x pos) (compEnvC scope cl C X.env) :: (assignEach tgs (compEnvC scope cl C X.env)).map (·.2) := by intro _ _; rfl) : AGcs X scope (.Name x pos :: tgs) vs (agCons (agName i) g2) := by
  obtain ⟨t2, p2, l2, w2⟩ := h2.ex
  refine ⟨gCons (gName i) t2, fun s H C cl fp => pgs_cons (pg_name (X := X.blk s H scope (compEnvC scope cl C X.env) fp) hN hi (.inl (hx cl C)) (.inr (hx cl C))) (p2 s H C cl fp) (hs cl C), fun σ H A ρ S ds vs P Q m mt r q k => ?_, wip_cons hv w2⟩
  cases r with
  | nil => exact q.elim
  | cons r1 r2 => exact ⟨_, _, rfl, lg_name σ H A ρ S _ _ _ (fun ρ1 S1 => g2 _ ρ1 S1 Q) m mt r1 q fun σ' H' ρ' A' S' u m' mt' q' => l2 σ' H' A' ρ' S' _ _ P Q m' mt' (r2.mono u) q' (k.mono u)⟩
theorem agc_tup {scope : Scope} {tgs : List Expr} {vs : List Nat} {k : Nat} {n : Nat} {g2 : ATGs} (hc : X.calm = true) (h : AGcs X scope tgs vs g2) (hn : ∀ cl C, (assignEach tgs (compEnvC scope cl C X.env)).length = n := by intro _ _; rfl)
    (hst : ∀ cl C, (assignEach tgs (compEnvC scope cl C X.env)).findIdx? (·.1) = none := by intro _ _; rfl) : AGc X scope (.Tuple tgs k pos) vs (agTup n g2) := by
  obtain ⟨t2, p2, l2, w2⟩ := h.ex
  refine ⟨fun v σ H Q => gTup X.K n t2 v σ H Q ∨ gUnl X.K n t2 v σ H Q, fun s H C cl fp => ⟨fun pins s1 σ H v u Q I r q => q.elim ((pg_tup (X := X.blk s _ scope (compEnvC scope cl C X.env) fp) hc (p2 s _ C cl fp) (hn cl C) (hst cl C)).run pins s1 σ H v u Q I r) ((pg_unl (X := X.blk s _ scope (compEnvC scope cl C X.env) fp) hc (p2 s _ C cl fp) (hn cl C) (hst cl C)).run pins s1 σ H v u Q I r)⟩, fun σ H A ρ S d v P Q m mt r q k => ?_, ?_⟩
  · obtain ⟨l, h, hl, q2⟩ := of_must q
    cases r <;> simp [seqOf] at h
    · rename_i i ad e'
      obtain ⟨ws, hs, rl⟩ := lst_at m e' h
      exact .inr ⟨ad, ws, rfl, hs, by rw [← rl.length]; exact hl, l2 σ H A ρ S l ws P Q m mt rl q2 k⟩
    · rename_i ad ws l' hs rl
      subst h
      exact .inl ⟨ad, ws, rfl, hs, by rw [← rl.length]; exact hl, l2 σ H A ρ S _ ws P Q m mt rl q2 k⟩
    · rename_i ad ws l' hs rl
      subst h
      exact .inr ⟨ad, ws, rfl, .inr hs, by rw [← rl.length]; exact hl, l2 σ H A ρ S _ ws P Q m mt rl q2 k⟩
  · rintro v σ H P (⟨a1, xs, e1, e2, e3, q⟩ | ⟨a1, xs, e1, e2, e3, q⟩)
    · exact .inl ⟨a1, xs, e1, e2, e3, w2 xs _ σ H P wipe_wipe q⟩
    · exact .inr ⟨a1, xs, e1, e2, e3, w2 xs _ σ H P wipe_wipe q⟩
def wipeA (ρ : Rho) : List Nat → Rho
  | [] => ρ
  | v :: vs => (wipeA ρ vs).set v none
theorem Mt.wipe {K : PySem.W.Frag} {A : List Addr} {H : Hp} {ρ : Rho} {σ : L2.St} (h : Mt K A H ρ σ) : ∀ vs : List Nat, Mt K A H (wipeA ρ vs) (L2.wipe σ vs)
  | [] => h
  | v :: vs => (Mt.wipe h vs).unset
/-- [elt for target in iter if test]: Wv says what is made so far (places, the items made, the store) -/
def aLc (ai : ATI) (ag : ATG) (t : ATT) (elt : ATE) (vs : List Nat) : ATE := fun ρ S E Q => ai ρ S E fun src S1 => ∃ Wv : Nat → List D → Sto → Prop, Wv 0 [] S1 ∧ (∀ k acc S, k ≤ src.items.length → Wv k acc S → src.ok S ∧ acc.length ≤ k) ∧ src.items.length < sizeLine ∧
  (∀ k d acc S, src.items[k]? = some d → Wv k acc S → ag d (wipeA ρ vs) S fun ρ2 S2 => t ρ2 S2 (fun _ _ => False) fun b S3 => match b with
    | true => elt ρ2 S3 (fun _ _ => False) fun y S4 => Wv (k + 1) (acc ++ [y]) S4
    | false => Wv (k + 1) acc S3) ∧ ∀ acc S, Wv src.items.length acc S → Q (.ref S.length) (S ++ [.lst acc])
theorem kx0 {K : PySem.W.Frag} {A : List Addr} {H : Hp} {σ : L2.St} : KX K A H (WE' W0 σ) (fun _ _ => False) := fun _ _ _ _ _ _ _ _ _ q => q.elim
theorem le_lc {K : PySem.W.Frag} {wi : TI} {g : TG} {vs : List Nat} (li : LI K W wi ai) (lg : LG K g ag) (lw : LGc g vs) : LE K W (tLc wi g (cT K W0 at1) (cE K W0 aa) vs) (aLc ai ag at1 aa vs) := fun σ H A ρ S P Q E m mt h kq kx => by
  refine li σ H A ρ S _ _ E m mt h (fun J H1 src A1 S1 u1 m1 jok ok1 q1 => ?_) kx
  obtain ⟨Wv, w0, stays, hlen, turn, done⟩ := q1
  intro Dl hD
  have uD : Up K A1 H1 A1 (upd H1 Dl (.lst [])) := Up.lay hD
  have nDA : Dl ∉ A1 := m1.notin hD
  -- the list that is made stands at Dl, unknown to the store
  refine ⟨fun i n H' => i ≤ src.items.length ∧ n = src.items.length - i ∧ ∃ A' S' acc ws, Up K A1 H1 A' H' ∧ MtS K A' H' S' ∧ Dl ∉ A' ∧ H' Dl = some (.lst ws) ∧ RpL K A' H' acc ws ∧ Wv i acc S', ⟨_, Nat.zero_le _, rfl, A1, S1, [], [], uD, m1.lay hD, nDA, upd_same, .nil, w0⟩, ?_⟩
  rintro i n H2 ⟨hi, hn, A2, S2, acc, ws, uu, m2, nD2, e2, r2, w2⟩
  obtain ⟨ok2, hacc⟩ := stays i acc S2 hi w2
  by_cases hlt : i < src.items.length
  · refine .inr ⟨jok.go i A2 H2 S2 uu m2 ok2 hlt, fun H' => i + 1 ≤ src.items.length ∧ ∃ A' S' acc ws, Up K A1 H1 A' H' ∧ MtS K A' H' S' ∧ Dl ∉ A' ∧ H' Dl = some (.lst ws) ∧ RpL K A' H' acc ws ∧ Wv (i + 1) acc S', ?_, ?_⟩
    · rintro H' ⟨h1, h2⟩
      exact ⟨src.items.length - (i + 1), by omega, h1, rfl, h2⟩
    · intro x H3 y
      obtain ⟨rfl, d, ed, rx⟩ := jok.yld i A2 H2 S2 x H3 uu m2 ok2 hlt y
      have mt2 : Mt K A2 H3 (wipeA ρ vs) (wipe σ vs) := ((mt.mono u1).mono uu).wipe vs
      refine lw x σ H3 _ (lg (wipe σ vs) H3 A2 (wipeA ρ vs) S2 d x _ _ m2 mt2 rx (turn i d acc S2 ed w2) fun σ4 H4 ρ4 A4 S4 u4 m4 mt4 q4 => ?_)
      refine ⟨A4, ρ4, S4, _, _, m4, mt4, q4, fun b H5 A5 S5 u5 m5 q5 => ?_, kx0⟩
      have keepD : ∀ {A' : List Addr} {H' : Hp}, Up K A2 H3 A' H' → Dl ∉ A' ∧ H' Dl = some (.lst ws) := fun {A' H'} u => by
        refine ⟨fun z => ?_, u.fr Dl _ e2 nD2⟩
        have := u.new Dl z nD2
        rw [e2] at this; cases this
      have u25 := u4.trans u5
      cases b with
      | true =>
        refine ⟨A5, ρ4, S5, _, _, m5, mt4.mono u5, q5, fun y H6 dy A6 S6 u6 m6 ry q6 => ?_, kx0⟩
        have u26 := u25.trans u6
        obtain ⟨nD6, e6⟩ := keepD u26
        have hz : ws.length < sizeLine := by rw [← r2.length]; omega
        have uw : Uw K A6 H6 A6 (upd H6 Dl (.lst (ws ++ [y]))) := Uw.hid e6
        have u16 := uu.trans u26
        refine ⟨ws, e6, hz, hlt, A6, S6, acc ++ [dy], ws ++ [y], ⟨⟨u16.pre, fun a us hh => uw.tup a us (u16.tup a us hh)⟩, fun b o hb nb => ?_, u16.new⟩, m6.hid e6 nD6, nD6, upd_same, ((r2.mono u26).append (RpL.one ry)).monow uw, q6⟩
        rw [upd_ne (ne_of_none hb hD)]
        exact u16.fr b o hb nb
      | false =>
        obtain ⟨nD5, e5⟩ := keepD u25
        exact ⟨hlt, A5, S5, acc, ws, uu.trans u25, m5, nD5, e5, r2.mono u25, q5⟩
  · have hi' : i = src.items.length := by omega
    refine .inl ⟨jok.stop i A2 H2 S2 uu m2 ok2 (by omega), ?_⟩
    have u3 : Up K A1 H1 (A2 ++ [Dl]) H2 := ⟨⟨uu.pre.trans (List.prefix_append _ _), uu.tup⟩, uu.fr, fun b hb nb => by
      obtain hb | hb := List.mem_append.mp hb
      · exact uu.new b hb nb
      · rw [List.mem_singleton.mp hb]; exact hD⟩
    exact kq _ _ (.ref S2.length) (A2 ++ [Dl]) (S2 ++ [.lst acc]) (u1.trans u3) (m2.show e2 nD2 r2) (.ref (by rw [m2.len]; exact alloc_at)) (done acc S2 (hi' ▸ w2))
variable {elt : Expr} {ifs : List Expr} {scope : Scope} {own : List (Str × Nat)} {k : Nat}
theorem ae_lc (hc : X.calm = true) (hN : X.N.Nodup) (own : List (Str × Nat)) (hi : AI X W tg iter ai) (hg : AGc X scope tg (own.map (·.2)) ag)
    (ht : ∀ (s : Shared) (H : Hp) (C : Addr) (cl : List (Str × Addr)) (fp : List Addr), AIfs (X.blk s H scope (compEnvC scope cl C X.env) fp) ifs at1)
    (he : ∀ (s : Shared) (H : Hp) (C : Addr) (cl : List (Str × Addr)) (fp : List Addr), AE (X.blk s H scope (compEnvC scope cl C X.env) fp) W0 elt aa) (ok : BlkOk X.N X.env.scope scope own := by exact blkOk_by (by first | (with_unfolding_all exact Eq.refl true) | decide +kernel)) (hs : ∀ x, foldedSetIterable iter X.env x = pure x := by intro _; rfl) :
    AE X W (.ListComp elt [⟨tg, iter, ifs, 0⟩] scope pos) (aLc ai ag at1 aa (own.map (·.2))) := by
  obtain ⟨wi, pi', li⟩ := hi
  obtain ⟨g, pg, lg, lw⟩ := hg.ex
  exact ⟨_, pe_lc (tt := cT X.K W0 at1) (te := cE X.K W0 aa) hc hN pi' ok pg (fun s H C cl fp => ht s H C cl fp) (fun s H C cl fp => (he s H C cl fp).can) hs, le_lc li lg lw⟩
theorem as_setLc {i : Nat} {y : Str} {py spos : Pos} (hc : X.calm = true) (hN : X.N.Nodup) (own : List (Str × Nat)) (hi : AI X W tg iter ai) (hg : AGc X scope tg (own.map (·.2)) ag)
    (ht : ∀ (s : Shared) (H : Hp) (C : Addr) (cl : List (Str × Addr)) (fp : List Addr), AIfs (X.blk s H scope (compEnvC scope cl C X.env) fp) ifs at1)
    (he : ∀ (s : Shared) (H : Hp) (C : Addr) (cl : List (Str × Addr)) (fp : List Addr), AE (X.blk s H scope (compEnvC scope cl C X.env) fp) W0 elt aa) (hy : X.N[i]? = some y := by rfl) (hyl : X.env.scope.names.lookup y = some .local := by rfl)
    (hsw : swapsWith (.ListComp elt [⟨tg, iter, ifs, 0⟩] scope pos) (some (.Name y py)) spos.line X.env = pure true := by exact sw_true rfl rfl rfl (by decide +kernel))
    (ok : BlkOk X.N X.env.scope scope own := by exact blkOk_by (by first | (with_unfolding_all exact Eq.refl true) | decide +kernel)) (hs : ∀ x, foldedSetIterable iter X.env x = pure x := by intro _; rfl) :
    AS X W (.Assign [.Name y py] (.ListComp elt [⟨tg, iter, ifs, 0⟩] scope pos) spos) (aAsg (aLc ai ag at1 aa (own.map (·.2))) (agName i)) := by
  obtain ⟨wi, pi', li⟩ := hi
  obtain ⟨g, pg, lg, lw⟩ := hg.ex
  exact ⟨_, ps_setLc (tt := cT X.K W0 at1) (te := cE X.K W0 aa) hc hN hy hyl hsw pi' ok pg (fun s H C cl fp => ht s H C cl fp) (fun s H C cl fp => (he s H C cl fp).can) hs, ls_asg (le_lc li lg lw) lg_name⟩
theorem takesB {s : Shared} {H : Hp} {scope : Scope} {cenv : Env} {fp : List Addr} : Takes (X.blk s H scope cenv fp) W0 := takes0
end
end AL
/-! AL7: defs by their bodies; the law's end. -/
namespace AL
open PySem PySem.Spec
open PyProof.Rows L2
def startA (n : Nat) (ds : List D) : Rho := ds.map some ++ List.replicate (n - ds.length) none
theorem mt_start {K : PySem.W.Frag} {A : List Addr} {H : Hp} {N : List Str} {ds : List D} {vs : List V} (r : RpL K A H ds vs) : Mt K A H (startA N.length ds) (L2.start N vs) := by
  have hl := r.length
  refine ⟨by unfold startA L2.start; simp [hl], fun i d e => ?_⟩
  unfold startA at e
  have hi : i < ds.length := by
    by_cases hi : i < ds.length
    · exact hi
    · rw [List.getElem?_append_right (by simpa using hi), List.getElem?_replicate] at e
      split at e <;> cases e
  rw [List.getElem?_append_left (by simpa using hi), List.getElem?_map, List.getElem?_eq_getElem hi] at e
  cases e
  obtain ⟨v, e2, rv⟩ := r.get (List.getElem?_eq_getElem hi)
  refine ⟨v, ?_, rv⟩
  unfold L2.start
  rw [List.getElem?_append_left (by simpa using (List.getElem?_eq_some_iff.mp e2).1), List.getElem?_map, e2]; rfl
/-- what a body must do -/
def bodyEnds (Qa : VA) (Ea : XA) : AEnds := { nx := fun _ S => Qa .non S, rt := Qa, ex := fun x _ S => Ea x S }
section
variable {P : Program} {w : World} {K : PySem.W.Frag} {mg : Str → Option Value} {base : Heap} {x qual : Str} {params : Arguments} {body : List Stmt} {scope : Scope} {f : Addr} {fd : FuncData}
theorem run_body {N : List Str} {t : TS} {a : ATS} {W : WX} {E : XK} (l : LS K W t a) (hW : ∀ c d σ H, E c d H → W c d σ H) {A : List Addr} {H : Hp} {S : Sto} {ds : List D} {vs : List V} {Q : VK} {Qa : VA} {Ea : XA}
    (m : MtS K A H S) (r : RpL K A H ds vs) (q : a (bodyEnds Qa Ea) (startA N.length ds) S) (kq : KQ K A H Q Qa) (kx : KX K A H E Ea) : t { nx := fun _ H' => Q .non H', rt := Q } (L2.start N vs) H :=
  l _ H A _ S _ _ m (mt_start r) q ⟨fun σ' H' ρ' A' S' u m' mt' q' => kq _ H' .non A' S' u m' .non q', kq, fun _ _ _ _ _ _ _ _ z => z.elim, fun _ _ _ _ _ _ _ _ z => z.elim, fun x c d σ' H' ρ' A' S' u m' mt' e q' => hW _ _ _ _ (kx x c d H' A' S' u m' e q')⟩
/-- THE RULE: a def of the module or a method, by its body -/
theorem fn_ok {N ps : List Str} {k : Nat} {Fs : AFn} (F : FunD K x qual params body scope [] [] f fd) (Sc : FnScope N ps scope) (len : ∀ ds S E Q, Fs ds S E Q → ds.length = ps.length)
    (hb : ∀ (cdv : Value) (A : Around) (outer : List Env) (s : Shared) (H : Hp) (E : XK), RG k (A.deeper (envOfC qual scope s.heap.objs.size f cdv)) →
      ∃ a, ASs (cxOf (L2.CX P w) P w K mg base N qual scope f cdv A outer s H E) (fun c d _ H => E c d H) body a ∧ ∀ ds S Ea Qa, Fs ds S Ea Qa → a (bodyEnds Qa Ea) (startA N.length ds) S) :
    FnG P w K mg base (L2.CX P w) (k + 1) f fd ps (spOf K Fs) := by
  obtain ⟨oc, od, dV, kV, doc, pm, an, cdv, ct, osl, efd, found, isCode, _, _⟩ := F.ex
  subst efd
  refine ⟨fun vs H Q E ⟨A, S, ds, Qa, Ea, m, r, h, _⟩ => by rw [← r.length]; exact len _ _ _ _ h, fun A outer s H args us vs Q E room e0 bnd rv want => ?_⟩
  have want' := want
  obtain ⟨A0, S0, ds, Qa, Ea, m0, r0, h0, kq, kx⟩ := want'
  have many : vs.length = ps.length := by rw [← r0.length]; exact len _ _ _ _ h0
  have inH : K.In s.heap := e0.mod.kin.keeps fun b o e => (e0.bs b o e).1
  have noLim : s.heap.NoLimit := e0.mod.nolimit.keeps fun b o e => (e0.bs b o e).1
  have kinds : ∀ y ∈ ps.zip us, scope.names.lookup y.1 = some .local ∨ (scope.names.lookup y.1 = some .cell ∧ ((cellsFrom (s.heap.objs.size + 1) scope.names []).lookup y.1).isSome = true) := by
    intro y hy
    obtain ⟨n, v⟩ := y
    cases Sc.par n (List.of_mem_zip hy).1 with
    | inl q => exact .inl q
    | inr q => exact .inr ⟨q, PySem.W.cellsFrom_some _ _ _ (.inl q)⟩
  refine codeAny_call_function room.rm.depth (inH _ _ found) rfl Sc.co Sc.gen rfl (PySem.W.codeRec_of inH isCode) (bnd _ _ _ _ ?_)
  refine wpAny_newFunctionEnv_cells Sc.kind kinds fun env he s1 inCall => ?_
  subst he
  refine ⟨noLim.keeps inCall.toInCall.keep, codeAny_func ?_⟩
  obtain ⟨a, ⟨t, walk, lift⟩, body⟩ := hb cdv A outer s H E (room.deeper _)
  have inv0 : Inv (cxOf (L2.CX P w) P w K mg base N qual scope f cdv A outer s H E) [] (L2.start N vs) H s1 := inv_start Sc room.rm.hd e0 many rv inCall
  refine wpAny_mono (walk.run [] s1 (L2.start N vs) H _ inv0 (run_body lift (fun _ _ _ _ z => z) m0 r0 (body ds S0 Ea Qa h0) kq kx)) (fun fl s2 got => ?_) fun _ _ got => got
  cases fl with
  | ret u =>
    obtain ⟨v, σ', H2, J, ru, q⟩ := got
    exact ⟨v, H2, J.os, J.bare, J.base, J.hok, ru, q⟩
  | next =>
    obtain ⟨σ', H2, J, q⟩ := got
    exact ⟨V.non, H2, J.os, J.bare, J.base, J.hok, rfl, q⟩
  | brk => exact let ⟨_, _, _, z⟩ := got; (z : False).elim
  | cont => exact let ⟨_, _, _, z⟩ := got; (z : False).elim
theorem never_ok {CX : CXT} {k : Nat} {ps : List Str} : FnG P w K mg base CX k f fd ps (spOf K fun _ _ _ _ => False) :=
  ⟨fun vs H Q E ⟨_, _, _, _, _, _, _, z, _⟩ => z.elim, fun A outer s H args us vs Q E _ _ _ _ ⟨_, _, _, _, _, _, _, z, _⟩ => z.elim⟩
theorem takesE {N : List Str} {cdv : Value} {A : Around} {outer : List Env} {s : Shared} {H : Hp} {E : XK} : Takes (cxOf (L2.CX P w) P w K mg base N qual scope f cdv A outer s H E) (fun c d _ H => E c d H) := takes_of rfl rfl rfl rfl
theorem passesE {N : List Str} {cdv : Value} {A : Around} {outer : List Env} {s : Shared} {H : Hp} {E : XK} :
    PassesOwn (model P w) (A.deeper (envOfC qual scope s.heap.objs.size f cdv)) (envOfC qual scope s.heap.objs.size f cdv) (cxOf (L2.CX P w) P w K mg base N qual scope f cdv A outer s H E).xe := passes_of (X := cxOf (L2.CX P w) P w K mg base N qual scope f cdv A outer s H E) rfl
end
theorem ru1 {k : Nat} {A : Around} (hr : RG k A) : A.units + 1 < cLine := by have := hr.rm.un; omega
theorem ru64 {k : Nat} {A : Around} (hr : RG k A) : A.units + 64 < cLine := by have := hr.rm.un; omega
theorem ru65 {k : Nat} {A : Around} (hr : RG k A) : A.units + 65 < cLine := by have := hr.rm.un; omega
theorem ru66 {k : Nat} {A : Around} (hr : RG k A) : A.units + 66 < cLine := by have := hr.rm.un; omega
/-- the script: a read-only list of the store, or a list of the written part -/
def IsScript (d : D) (S : Sto) (ns : List Int) : Prop := (d = .ref 0 ∧ S = [.rol (ns.map .int)]) ∨ (d = .kl (ns.map .int) ∧ S = [])
/-- the law's spec: a list of ints is handed in, True comes out -/
def lawF : AFn := fun ds S E Q => ∃ (d : D) (ns : List Int), ns.length ≤ 63 ∧ ds = [d] ∧ IsScript d S ns ∧ ∀ S', Q (.bl true) S'
theorem rp_ints {K : PySem.W.Frag} {H : Hp} (A : List Addr) : ∀ ns : List Int, RpL K A H (ns.map D.int) (ns.map V.int)
    | [] => .nil
    | n :: ns => .cons (.int n) (rp_ints A ns)
theorem law_sp {K : PySem.W.Frag} {H : Hp} {a : Addr} {ns : List Int} (hl : ns.length ≤ 63) (hS : SqL K H a (ns.map V.int)) : spOf K lawF [.ref a] H (fun v _ => v = .bl true) fun _ _ _ => False := by
  rcases hS with hS | hS
  · refine ⟨[a], [.rol (ns.map .int)], [.ref 0], fun d _ => d = .bl true, fun _ _ => False, ⟨rfl, by simp, fun i o b e1 e2 => ?_⟩, .cons (.ref rfl) .nil, ⟨_, ns, hl, rfl, .inl ⟨rfl, rfl⟩, fun _ => rfl⟩, fun v H' d A' S' _ _ rp q => ?_, fun _ _ _ _ _ _ _ _ _ q => q⟩
    · match i, e1, e2 with
      | 0, e1, e2 =>
        cases e1; cases e2
        exact ⟨_, hS, rp_ints _ ns⟩
    · subst q; cases rp; rfl
  · refine ⟨[], [], [.kl (ns.map .int)], fun d _ => d = .bl true, fun _ _ => False, ⟨rfl, by simp, fun i o b e1 e2 => ?_⟩, .cons (.kl hS (rp_ints _ ns)) .nil, ⟨_, ns, hl, rfl, .inr ⟨rfl, rfl⟩, fun _ => rfl⟩, fun v H' d A' S' _ _ rp q => ?_, fun _ _ _ _ _ _ _ _ _ q => q⟩
    · simp at e1
    · subst q; cases rp; rfl
/-! ### the law's end -/
/-- the law's def is called at the top; nothing but the script may be tracked there -/
theorem law_top {P : Program} {w : World} {K : PySem.W.Frag} {mg mb : Str → Option Value} {k : Nat} {fa a : Addr} {x : Str} {s₁ : Shared} {ns : List Int} {H : Hp}
    (kin : K.In s₁.heap) (hns : s₁.heap.Ns mainGlobals mg) (hb : s₁.heap.Ns builtinsNs mb) (hbb : ∀ x : Str, x ≠ "__name__" → mb x = bootBuiltins x) (lim : s₁.heap.NoLimit) (nogen : s₁.gens = #[]) (room : RG k callerA)
    (F : ∀ base : Heap, FD P w K mg base x k lawF) (hmg : mg x = some (.ref fa)) (few : ns.length ≤ 63)
    (script : SqL K H a (ns.map V.int)) (hok : HOk P w H s₁.heap) (only : Only H) (hK : ∀ b o, K.lookup b = some o → H b = none) (hD : ∀ b o es ep, s₁.heap.get? b = some o → o.data = .dict es ep → H b = none) : codeAny (model P w) callerA (.call (.ref fa) ⟨[.ref a], []⟩) (fun r s' => r = .ok (.ret (.bool true)) ∧ OldK s₁.heap s'.heap ∧ s'.os = s₁.os ∧ AllBare s'.gens) s₁ := by
  have ns' : ∀ {b : Addr} {m : Str → Option Value}, s₁.heap.Ns b m → (hidT s₁.heap H).Ns b m := by
    intro b m ⟨o, es, ep, e, d, r⟩
    exact ⟨o, es, ep, hidT_get e (hD b o es ep e d), d, r⟩
  have kin' : K.In (hidT s₁.heap H) := fun b o e => hidT_get (kin b o e) (hK b o e)
  have env : Env0 P w K mg (hidT s₁.heap H) callerA [] s₁ H := by
    obtain ⟨ml, l1, l2⟩ := lim
    exact ⟨rfl, ⟨kin', ns' hns, ⟨mb, ns' hb, hbb⟩, ⟨ml, ns' l1, l2⟩⟩, fun b o e => of_hidT e, Nat.le_of_eq (hidT_size _ _), trivial, fun b z => absurd (show b ∈ ([] : List Addr) from z) List.not_mem_nil, hok, .of_eq nogen⟩
  obtain ⟨f, fd, ps, rule, hf, _, bind⟩ := F (hidT s₁.heap H)
  rw [hmg] at hf
  cases hf
  have want := law_sp few script
  have many := rule.few _ _ _ _ want
  have bnd := bind s₁ [.ref a] kin (by simpa using many)
  simp only [List.append_nil] at bnd
  refine codeAny_mono (rule.go callerA [] s₁ H ⟨[.ref a], []⟩ [.ref a] [.ref a] _ _ room env bnd (.cons rfl .nil) want) fun r s2 got => ?_
  match r, got with
  | .error e, ⟨_, _, _, _, _, _, _, _, _, _, _, _, z⟩ => exact z.elim
  | .ok (.ret u), ⟨v, H2, sameOs, noGens, un, hok2, rv, ev⟩ =>
    have ev : v = .bl true := ev
    subst ev
    obtain rfl : u = Value.bool true := rv
    refine ⟨rfl, OldK.of_keep fun b o e => ?_, sameOs, noGens⟩
    rcases only b with z | ⟨ob, xs, z⟩
    · exact un.keep b o e z (fun y => absurd (show b ∈ ([] : List Addr) from y) List.not_mem_nil) (by simp)
    · obtain ⟨e1, _⟩ := hok b _ z
      obtain ⟨e2, _⟩ := hok2 b _ (un.frzs b ob _ z)
      rw [e] at e1
      cases e1
      exact e2
theorem law_end {P : Program} {w : World} {K : PySem.W.Frag} {mg mb : Str → Option Value} {k : Nat} {fa a : Addr} {x : Str} {s₁ : Shared} {vs : List Value} {ns : List Int}
    (kin : K.In s₁.heap) (hns : s₁.heap.Ns mainGlobals mg) (hb : s₁.heap.Ns builtinsNs mb) (hbb : ∀ x : Str, x ≠ "__name__" → mb x = bootBuiltins x) (lim : s₁.heap.NoLimit) (nogen : s₁.gens = #[]) (room : RG k callerA)
    (F : ∀ base : Heap, FD P w K mg base x k lawF) (hmg : mg x = some (.ref fa)) (few : ns.length ≤ 63)
    (at_a : s₁.heap.get? a = some { cls := .type "list", data := .seq vs.toArray }) (isInts : IntsAre vs ns) : codeAny (model P w) callerA (.call (.ref fa) ⟨[.ref a], []⟩) (fun r s' => r = .ok (.ret (.bool true)) ∧ OldK s₁.heap s'.heap ∧ s'.os = s₁.os ∧ AllBare s'.gens) s₁ := by
  have small : ns.length ≤ sizeLine := Nat.le_trans few (by decide)
  have rv := vals_ints isInts
  match hk : K.lookup a with
  | some o =>
    have same := (kin a o hk).symm.trans at_a
    cases same
    refine law_top (H := fun _ => none) kin hns hb hbb lim nogen room F hmg few (.inr ⟨_, vs.toArray, _, hk, rfl, rfl, rfl, by rw [List.size_toArray, isInts.length]; exact small, by simpa using rv⟩) (fun _ _ z => by cases z) (fun _ => .inl rfl) (fun _ _ _ => rfl) fun _ _ _ _ _ _ => rfl
  | none =>
    have off : ∀ b, b ≠ a → (fun b => if b = a then some (HO.frz { cls := .type "list", data := .seq vs.toArray } (.lst (ns.map V.int))) else none : Hp) b = none := fun b hb => if_neg hb
    have on : (fun b => if b = a then some (HO.frz { cls := .type "list", data := .seq vs.toArray } (.lst (ns.map V.int))) else none : Hp) a = some _ := if_pos rfl
    refine law_top (H := fun b => if b = a then some (.frz { cls := .type "list", data := .seq vs.toArray } (.lst (ns.map V.int))) else none) kin hns hb hbb lim nogen room F hmg few (.inl (.inr ⟨_, on⟩)) (fun b u z => ?_) (fun b => ?_) (fun b o e => off b fun z => ?_) fun b o es ep e d => off b fun z => ?_
    · by_cases h : b = a
      · subst h
        have z' := on.symm.trans z
        cases z'
        exact ⟨at_a, by rw [List.length_map]; exact small, vs, _, rv, at_a⟩
      · rw [off b h] at z; cases z
    · by_cases h : b = a
      · exact .inr ⟨_, _, by rw [h]; exact on⟩
      · exact .inl (off b h)
    · subst z; rw [hk] at e; cases e
    · subst z
      rw [at_a] at e
      cases e
      cases (d : Data.seq vs.toArray _ = Data.dict es ep)
/-- a law over a head: F gives the written part and the law's def -/
theorem law_walk {l : PySem.W.OpenLaw} {k : Nat} {q : Program} {loose : List Str} {XP : (Str → Option Value) → Heap → Prop} {YP : World → Heap → Prop} {d : DefRec}
    (hn : l.most = some 63) (hdf : d.params.defaults = []) (room : RG k callerA) (F : ∀ (w : World) (mg : Str → Option Value) (fa : Addr) (h : Heap), YP w h → h.Ns mainGlobals mg → mg d.name = some (.ref fa) →
      ∃ (K : PySem.W.Frag), K.In h ∧ ∀ base : Heap, FD l.prog w K mg base d.name k lawF) : PySem.W.WalkO q loose XP YP l.row.toRowW d [] (fun f vs => PySem.call f vs) := by
  refine Att.attach_call hn hdf fun w s₀ s₁ mg mb fa o pm cd doc a vs ns top Y ho hd hcd hmg hobj hints hlen hg => ?_
  obtain ⟨K, kin, rules⟩ := F w mg fa _ Y top.T.g hmg
  exact law_end kin top.T.g top.T.b top.T.builtins top.T.nolimit hg room rules hmg hlen hobj hints
end AL
/-! AL8: dict displays, makers, repr, the law's own end. -/
namespace AL
open PySem PySem.Spec
open PyProof.Rows L2
section
variable {X : Cx} {W : WX} {a b c e : Expr} {aa ab ac : ATE} {pos : Pos} {es : List Expr} {t' : ATA}
/-! ### {k: v, ..} -/
def aPairs : List (ATE × ATE) → Rho → Sto → XA → (List (D × D) → Sto → Prop) → Prop
  | [], _, S, _, Q => Q [] S
  | (k, v) :: r, ρ, S, E, Q => k ρ S E fun x S1 => v ρ S1 E fun y S2 => aPairs r ρ S2 E fun ps S3 => Q ((x, y) :: ps) S3
def keysD : List (D × D) → Option (List (Key × D))
  | [] => some []
  | (k, v) :: r => (keyD k).bind fun q => (keysD r).map fun l => (q, v) :: l
def mergeD (kvs more : List (Key × D)) : List (Key × D) := more.foldl (fun acc kv => setK kv.1 kv.2 acc) kvs
def aDisp (ps : List (ATE × ATE)) : ATE := fun ρ S E Q => aPairs ps ρ S E fun l S1 => must (keysD l) fun kvs => kvs.length ≤ 15 ∧ Q (.ref S1.length) (S1 ++ [.dK (mergeD [] kvs)])
inductive APs (X : Cx) (W : WX) (pos : Pos) : List (Option Expr) → List Expr → List (TE × TE) → List (ATE × ATE) → Prop
  | nil : APs X W pos [] [] [] []
  | cons {k v : Expr} {ks : List (Option Expr)} {vs : List Expr} {tk tv : TE} {trs : List (TE × TE)} {ak av : ATE} {ars : List (ATE × ATE)} : PE X k tk → LE X.K W tk ak → PE X v tv → LE X.K W tv av → APs X W pos ks vs trs ars → APs X W pos (some k :: ks) (v :: vs) ((tk, tv) :: trs) ((ak, av) :: ars)
theorem APs.pps {ks : List (Option Expr)} {vs : List Expr} {trs : List (TE × TE)} {ars : List (ATE × ATE)} (h : APs X W pos ks vs trs ars) : PPs X pos ks vs trs := by
  induction h with
  | nil => exact pps_nil
  | cons p1 _ p2 _ _ ih => exact pps_cons p1 p2 ih
def APx (X : Cx) (W : WX) (pos : Pos) (ks : List (Option Expr)) (vs : List Expr) (ars : List (ATE × ATE)) : Prop := ∃ trs, APs X W pos ks vs trs ars
theorem apx_nil : APx X W pos [] [] [] := ⟨[], .nil⟩
theorem apx_cons {k v : Expr} {ks : List (Option Expr)} {vs : List Expr} {ak av : ATE} {ars : List (ATE × ATE)} (hk : AE X W k ak) (hv : AE X W v av) (hr : APx X W pos ks vs ars) : APx X W pos (some k :: ks) (v :: vs) ((ak, av) :: ars) := by
  obtain ⟨t1, p1, l1⟩ := hk
  obtain ⟨t2, p2, l2⟩ := hv
  obtain ⟨trs, h⟩ := hr
  exact ⟨_, .cons p1 l1 p2 l2 h⟩
def RpP (K : PySem.W.Frag) (A : List Addr) (H : Hp) : List (D × D) → List (V × V) → Prop := Paired fun p q => Rp K A H p.1 q.1 ∧ Rp K A H p.2 q.2
theorem RpP.mono {K : PySem.W.Frag} {A A' : List Addr} {H H' : Hp} {l : List (D × D)} {vs : List (V × V)} (h : RpP K A H l vs) (u : Uw K A H A' H') : RpP K A' H' l vs := Paired.mapP h fun _ _ z => ⟨z.1.monow u, z.2.monow u⟩
theorem APs.lift {ks : List (Option Expr)} {vs : List Expr} {trs : List (TE × TE)} {ars : List (ATE × ATE)} (h : APs X W pos ks vs trs ars) : ∀ (σ : L2.St) (H : Hp) (A : List Addr) (ρ : Rho) (S : Sto) (P : List (V × V) → Hp → Prop) (Q : List (D × D) → Sto → Prop) (E : XA), MtS X.K A H S → Mt X.K A H ρ σ → aPairs ars ρ S E Q →
    (∀ ws H' l A' S', Up X.K A H A' H' → MtS X.K A' H' S' → RpP X.K A' H' l ws → Q l S' → P ws H') → KX X.K A H (WE' W σ) E → tPairs trs σ H P := by
  induction h with
  | nil => exact fun σ H A ρ S P Q E m mt h k _ => k [] H [] A S Up.refl m .nil h
  | cons p1 l1 p2 l2 _ ih =>
    intro σ H A ρ S P Q E m mt h k kx
    refine l1 σ H A ρ S _ _ E m mt h (fun x H1 dx A1 S1 u1 m1 r1 q1 => l2 σ H1 A1 ρ S1 _ _ E m1 (mt.mono u1) q1 (fun y H2 dy A2 S2 u2 m2 r2 q2 => ?_) (kx.mono u1)) kx
    refine ih σ H2 A2 ρ S2 _ _ E m2 (mt.mono (u1.trans u2)) q2 (fun ws H3 l A3 S3 u3 m3 r3 q3 => ?_) (kx.mono (u1.trans u2))
    exact k _ H3 _ A3 S3 ((u1.trans u2).trans u3) m3 (.cons ⟨(r1.mono u2).mono u3, r2.mono u3⟩ r3) q3
theorem keys_ok {K : PySem.W.Frag} {A : List Addr} {H : Hp} {l : List (D × D)} {ws : List (V × V)} (r : RpP K A H l ws) : ∀ {kvs : List (Key × D)}, keysD l = some kvs → ∃ ks : List (Key × V), ws = ks.map (fun kv => (kV kv.1, kv.2)) ∧ RpK K A H Key kvs ks ∧ kvs.length = l.length := by
  induction r with
  | nil => intro kvs h; cases h; exact ⟨[], rfl, .nil, rfl⟩
  | cons h1 h2 ih =>
    rename_i p q l1 l2
    obtain ⟨p1, p2⟩ := p
    obtain ⟨q1, q2⟩ := q
    intro kvs h
    simp only [keysD, Option.bind_eq_some_iff, Option.map_eq_some_iff] at h
    obtain ⟨k, ek, l, el, rfl⟩ := h
    obtain ⟨ks, e1, r2, e3⟩ := ih el
    have ev := key_ok ek h1.1
    dsimp only at ev
    exact ⟨(k, q2) :: ks, by rw [e1, ev]; rfl, .cons ⟨rfl, h1.2⟩ r2, by simp [e3]⟩
theorem merge_ok {K : PySem.W.Frag} {A : List Addr} {H : Hp} {more : List (Key × D)} {ms : List (Key × V)} (r : RpK K A H Key more ms) : ∀ {kvs : List (Key × D)} {ks : List (Key × V)}, RpK K A H Key kvs ks → RpK K A H Key (mergeD kvs more) (mergeK ks ms) := by
  induction r with
  | nil => exact fun h => h
  | cons h1 h2 ih =>
    rename_i p q l1 l2
    obtain ⟨p1, p2⟩ := p
    obtain ⟨q1, q2⟩ := q
    obtain ⟨e, rp⟩ := h1
    dsimp only at e rp
    subst e
    intro kvs ks h
    exact ih (setK_ok rp h)
/-- a hidden object, filled, becomes a number -/
theorem MtS.showW {K : PySem.W.Frag} {A : List Addr} {H : Hp} {S : Sto} (m : MtS K A H S) {p : Addr} {ho : HO} {o : O} (n : p ∉ A) (u : Uw K A H (A ++ [p]) (upd H p ho)) (ok : OR K (A ++ [p]) (upd H p ho) o p) : MtS K (A ++ [p]) (upd H p ho) (S ++ [o]) := by
  refine ⟨by simp [m.len], ?_, fun i ob x e1 e2 => ?_⟩
  · rw [List.nodup_append]
    refine ⟨m.nd, by simp, fun x hx y hy z => ?_⟩
    rw [List.mem_singleton.mp hy] at z
    exact n (z ▸ hx)
  · by_cases hi : i < A.length
    · rw [List.getElem?_append_left hi] at e2
      rw [List.getElem?_append_left (by rw [m.len]; exact hi)] at e1
      exact (m.ok i ob x e1 e2).keep (upd_ne fun z => n (z ▸ List.mem_of_getElem? e2)) u
    · have hi' : i = A.length := by
        have := (List.getElem?_eq_some_iff.mp e2).1
        simp at this; omega
      subst hi'
      rw [List.getElem?_append_right (Nat.le_refl _)] at e2
      rw [List.getElem?_append_right (by rw [m.len]; exact Nat.le_refl _), m.len] at e1
      simp at e1 e2
      subst e1; subst e2
      exact ok
theorem ae_disp {keys : List (Option Expr)} {values : List Expr} {ars : List (ATE × ATE)} (h : APx X W pos keys values ars) (hall : keys.all (·.isSome) = true := by rfl) (hl : keys.length = values.length := by rfl) (h0 : keys ≠ [] := by intro z; cases z) (h15 : keys.length ≤ 15 := by decide) :
    AE X W (.Dict keys values pos) (aDisp ars) := by
  obtain ⟨trs, hp⟩ := h
  refine ⟨_, pe_disp hp.pps hall hl h0 h15, fun σ H A ρ S P Q E m mt h kq kx p0 hp0 => ?_⟩
  have u0 : Up X.K A H A (upd H p0 (.dK [])) := Up.lay hp0
  refine hp.lift σ _ A ρ S _ _ E (m.lay hp0) (mt.mono u0) h (fun ws H2 l A2 S2 u2 m2 r2 q2 => ?_) (kx.mono u0)
  have nA : p0 ∉ A := m.notin hp0
  have e2 : H2 p0 = some (.dK []) := u2.fr p0 _ upd_same nA
  have n2 : p0 ∉ A2 := fun z => by
    have := u2.new p0 z nA
    rw [upd_same] at this; cases this
  obtain ⟨kvs, ek, hz, q⟩ := of_must q2
  obtain ⟨ks, ew, rk, el⟩ := keys_ok r2 ek
  refine ⟨e2, ks, ew, by rw [← RpK.length rk]; exact hz, ?_⟩
  have un : Uw X.K A2 H2 (A2 ++ [p0]) (upd H2 p0 (.dK (mergeK [] ks))) := by
    refine ⟨List.prefix_append _ _, fun x vs hh => ?_⟩
    rcases hh with (hh | ⟨ob, hh⟩) | hh
    · exact .inl (.inl (by rw [upd_ne (fun z => by subst z; rw [e2] at hh; cases hh)]; exact hh))
    · exact .inl (.inr ⟨ob, by rw [upd_ne (fun z => by subst z; rw [e2] at hh; cases hh)]; exact hh⟩)
    · exact .inr hh
  have uu := u0.trans u2
  have u3 : Up X.K A H (A2 ++ [p0]) (upd H2 p0 (.dK (mergeK [] ks))) := by
    refine ⟨⟨uu.pre.trans un.pre, fun x vs hh => un.tup x vs (uu.tup x vs hh)⟩, fun b o hb nb => ?_, fun b hb nb => ?_⟩
    · rw [upd_ne (ne_of_none hb hp0)]; exact uu.fr b o hb nb
    · obtain hb | hb := List.mem_append.mp hb
      · exact uu.new b hb nb
      · rw [List.mem_singleton.mp hb]; exact hp0
  exact kq _ _ (.ref S2.length) (A2 ++ [p0]) (S2 ++ [.dK (mergeD [] kvs)]) u3 (m2.showW (o := .dK (mergeD [] kvs)) n2 un ⟨_, upd_same, (merge_ok rk .nil).monow un⟩) (.ref (by rw [m2.len]; exact alloc_at)) q
/-! ### C(e, ..) -/
variable {x cl : Str} {p : Pos} {k : Nat} {F : AFn}
theorem run_makeS {CX : CXT} {C f : Addr} {fd : FuncData} {ps : List Str} {sp : Sp} {E : XK} {pins : List (Addr × Obj)} {σ : L2.St} {H : Hp} {s : Shared} {Q : VK} {us : List Value} {vs : List V} (M : Mk X.K C f) (Fk : FnG X.prog X.w X.K X.mg X.base CX k f fd ps sp) (hr : RG (k + 1) X.A) (hb : Binds X.K fd ps [])
    (hx : ∀ (pins : List (Addr × Obj)) (H : Hp) (s : Shared) (e : Value) (s' : Shared), Inv X pins σ H s → CX X.stack H s E e s' → X.xe e s') (I : Inv X pins σ H s) (r : Vals vs us)
    (h : ∀ x dx, H x = none → H dx = none → dx ≠ x → sp (.ref x :: vs) (upd (upd H dx (.own x)) x (.ins C dx [])) (fun v H2 => v = .non ∧ Q (.ref x) H2) E) : wpAny (model X.prog X.w) X.A (call (.ref C) us) (EP X pins σ Q) X.xe s := by
  have new1 : H (s.heap.objs.size + 1) = none := I.hok.fresh (Nat.le_succ _)
  have new0 : H s.heap.objs.size = none := I.hok.fresh (Nat.le_refl _)
  have want := h (s.heap.objs.size + 1) s.heap.objs.size new1 new0 (Nat.ne_of_lt (Nat.lt_succ_self _))
  have J := Inv.made (C := C) I
  have rs : Vals (V.ref (s.heap.objs.size + 1) :: vs) (Value.ref (s.heap.objs.size + 1) :: us) := .cons rfl r
  have hl : (Value.ref (s.heap.objs.size + 1) :: us).length = ps.length := rs.length.symm.trans (Fk.few _ _ _ _ want)
  have bnd := hb _ (Value.ref (s.heap.objs.size + 1) :: us) J.kIn (by rw [List.append_nil]; exact hl)
  rw [List.append_nil] at bnd
  refine wpAny_call (make_map (f := f) I.kIn M.makes M.init (beq_iff_eq.mp M.fn) (codeAny_mono (Fk.go _ X.stack _ _ _ _ _ _ E (hr.make C us []) (J.env0.make C us []) bnd rs want) fun res s2 got => ?_))
  cases res with
  | error e => exact hx pins _ _ e s2 J got
  | ok fl =>
    cases fl with
    | ret u =>
      obtain ⟨v, H3, I3, rv, ev, q3⟩ := J.after got
      subst ev
      exact ⟨rv, ⟨V.ref (s.heap.objs.size + 1), H3, I3, rfl, q3⟩⟩
    | next => exact got.elim
    | brk => exact got.elim
    | cont => exact got.elim
def tMakeS (C : Addr) (sp : Sp) (E : L2.St → XK) (t : TA) : TE := fun σ H Q => t σ H fun vs H1 => ∀ x dx, H1 x = none → H1 dx = none → dx ≠ x →
  sp (.ref x :: vs) (upd (upd H1 dx (.own x)) x (.ins C dx [])) (fun v H2 => v = .non ∧ Q (.ref x) H2) (E σ)
/-- a new instance of cl, then its __init__ -/
def aMake (cl : Str) (F : AFn) (t : ATA) : ATE := fun ρ S E Q => t ρ S E fun ds S1 => F (.ref S1.length :: ds) (S1 ++ [.ins cl []]) E fun v S2 => v = .non ∧ Q (.ref S1.length) S2
theorem make_sp {K : PySem.W.Frag} {A : List Addr} {H : Hp} {S : Sto} {ds : List D} {vs : List V} {P : VK} {Q : VA} {E : XA} {W' : XK} (m : MtS K A H S) (r : RpL K A H ds vs) (h : F (.ref S.length :: ds) (S ++ [.ins cl []]) E fun v S2 => v = .non ∧ Q (.ref S.length) S2) (kq : KQ K A H P Q) (kx : KX K A H W' E)
    {x dx : Addr} (hx : H x = none) (hd : H dx = none) (hne : dx ≠ x) : spOf K F (.ref x :: vs) (upd (upd H dx (.own x)) x (.ins (He.ga K cl) dx [])) (fun v H2 => v = .non ∧ P (.ref x) H2) W' := by
  have u1 : Up K A H A (upd H dx (.own x)) := Up.lay hd
  have m1 := m.lay (o := .own x) hd
  have hx1 : upd H dx (.own x) x = none := by rw [upd_ne (Ne.symm hne)]; exact hx
  have u2 := u1.trans (Up.alloc (o := .ins (He.ga K cl) dx []) m1 hx1)
  have m2 : MtS K (A ++ [x]) (upd (upd H dx (.own x)) x (.ins (He.ga K cl) dx [])) (S ++ [.ins cl []]) := m1.alloc hx1 ⟨dx, [], upd_same, .nil⟩
  have rx : A.length = S.length := m.len.symm
  refine ⟨A ++ [x], S ++ [.ins cl []], .ref S.length :: ds, _, E, m2, .cons (.ref (by rw [← rx]; exact alloc_at)) (r.mono u2), h, fun v H' d A' S' u mm rv q => ?_, kx.mono u2⟩
  obtain ⟨rfl, q⟩ := q
  cases rv
  exact ⟨rfl, kq _ _ _ A' S' (u2.trans u) mm (.ref (pre_get u.pre (by rw [← rx]; exact alloc_at))) q⟩
theorem ae_make (h : CD X.prog X.w X.K X.mg X.base cl k F) (hr : RG (k + 1) X.A) (tk : Takes X W) (ha : AA X W (e :: es) t') (hg : Gl X cl := by rfl) (hdb : (cl == ("__debug__" : Str)) = false := by decide)
    (he : starEach (e :: es) X.env = (false, eval e X.env) :: starEach es X.env := by rfl) (hpl : (backTo pos (starEach es X.env)).any (·.1) = false := by rfl) : AE X W (.Call (.Name cl p) (e :: es) [] pos) (aMake cl F t') := by
  obtain ⟨f, fd, ps, ok, hm, M, hb⟩ := h
  obtain ⟨t, pa, l⟩ := ha
  refine ⟨tMakeS (He.ga X.K cl) (spOf X.K F) (WE W) t, ⟨fun pins s σ H Q inv h => ?_⟩, fun σ H A ρ S P Q E mm mt h kq kx => l σ H A ρ S _ _ E mm mt h (fun vs H1 ds A1 S1 u1 m1 r1 q1 x dx hx hd hne => make_sp m1 r1 q1 (kq.mono u1) (kx.mono u1) hx hd hne) kx⟩
  refine wpAny_Call_Name_kw (ld_glob inv hg hm ?_ hdb)
  refine PySem.W.callWith_K (h₀ := X.base) inv.ok.mod.kin M.kp (thn (pa.run pos pins s σ H _ inv h) fun us s1 ⟨vs, H1, I1, r, q⟩ => ⟨I1.kIn, ?_⟩) he hpl
  exact run_makeS M ok hr hb (passAt tk σ) I1 r q
/-! ### repr -/
def cRepr : List D → Sto → VA → Prop := fun ds S Q => match ds with
  | [d] => ∃ pd, Py S d pd ∧ pd.showable = true ∧ pd.canLay0 = true ∧ pd.depth ≤ 64 ∧ pd.shown.length ≤ sizeLine ∧ Q (.str pd.shown) S
  | _ => False
theorem ac_repr (hg : X.A.guards = some []) (hu : X.A.units + 66 < cLine) : ACall X (.builtin "repr") cRepr := by
  refine ⟨fun vs H P => ∃ v pd, vs = [v] ∧ Dp X.K H v pd ∧ pd.showable = true ∧ pd.canLay0 = true ∧ pd.depth ≤ 64 ∧ pd.shown.length ≤ sizeLine ∧ P (.str pd.shown) H, fun pins s σ H xs us Q I r h => ?_, fun vs H A ds S P Q m r q k => ?_⟩
  · obtain ⟨v, pd, rfl, hd, h1, h2, h3, h4, q⟩ := h
    obtain ⟨u, eu, ru⟩ := vals1 r
    subst eu
    obtain ⟨as, rd⟩ := Dp.reads I pd v u hd ru
    cases rd with
    | none => exact PySem.P.repr_of_none ⟨.str _, H, I.tok _, ⟨_, rfl⟩, by simpa [PyData.shown] using q⟩
    | bool b => exact PySem.P.repr_of_bool ⟨.str _, H, I.tok _, ⟨_, rfl⟩, by simpa [PyData.shown] using q⟩
    | int i t => exact PySem.P.repr_of_int (by simpa [PyData.showable] using h1) ⟨.str _, H, I.tok _, ⟨_, rfl⟩, by simpa [PyData.shown] using q⟩
    | str z t => exact PySem.P.repr_of_str ⟨.str _, H, I.tok _, ⟨_, rfl⟩, by simpa [PyData.shown] using q⟩ (by simpa [PyData.shown] using h4)
    | list e1 e2 e3 e4 => exact PySem.repr_of_reads' (.list e1 e2 e3 e4) h1 (PyData.noDict_hsm (PyData.hasDict_of_canLay _ h2)) hg (by omega) (fun _ _ z => z) (fun h' t tk hk => ⟨.str _, H, I.kept hk, ⟨_, rfl⟩, q⟩) h4
    | tuple e1 e2 e3 e4 => exact PySem.repr_of_reads' (.tuple e1 e2 e3 e4) h1 (PyData.noDict_hsm (PyData.hasDict_of_canLay _ h2)) hg (by omega) (fun _ _ z => z) (fun h' t tk hk => ⟨.str _, H, I.kept hk, ⟨_, rfl⟩, q⟩) h4
    | dict _ _ _ _ _ => simp [PyData.canLay0] at h2
  · match ds, q with
    | [d], ⟨pd, h0, h1, h2, h3, h4, q⟩ =>
      obtain ⟨v, rfl, rv⟩ := rp1 r
      exact ⟨v, pd, rfl, Py.dp m pd d v h0 rv, h1, h2, h3, h4, k _ H _ A S Up.refl m (.str _) q⟩
end
end AL
/-! AL9: the head: constants by a Bool, a Hook of its own. -/
namespace AL
open PySem PySem.Spec
open PyProof.Rows L2
mutual
/-- the value u is the datum d (constants of the module: no object is changed) -/
def dB (K : PySem.W.Frag) : D → Value → Bool
  | .non, u => (match u with
    | .none => true
    | _ => false)
  | .bl b, u => (match u with
    | .bool c => decide (b = c)
    | _ => false)
  | .int i, u => (match u with
    | .int j _ => decide (i = j)
    | _ => false)
  | .str x, u => (match u with
    | .str y _ => decide (x = y)
    | _ => false)
  | .tup l, u => (match u with
    | .ref p => (match K.lookup p with
      | some ⟨.type c, _, .seq its _, _⟩ => decide (c = "tuple") && (decide (its.size ≤ sizeLine) && dsB K l its.toList)
      | _ => false)
    | _ => false)
  | .kl l, u => (match u with
    | .ref p => (match K.lookup p with
      | some ⟨.type c, none, .seq its _, _⟩ => decide (c = "list") && (decide (its.size ≤ sizeLine) && dsB K l its.toList)
      | _ => false)
    | _ => false)
  | .ref _, _ => false
def dsB (K : PySem.W.Frag) : List D → List Value → Bool
  | [], us => us.isEmpty
  | d :: l, us => (match us with
    | u :: r => dB K d u && dsB K l r
    | [] => false)
end
mutual
theorem dB_ok {K : PySem.W.Frag} : ∀ (d : D) (u : Value), dB K d u = true → ∃ v, RelV v u ∧ ∀ A H, Rp K A H d v
  | .non, u, h => by
    cases u <;> simp [dB] at h
    exact ⟨.non, rfl, fun _ _ => .non⟩
  | .bl b, u, h => by
    cases u <;> simp [dB] at h
    subst h
    exact ⟨.bl _, rfl, fun _ _ => .bl _⟩
  | .int i, u, h => by
    cases u <;> simp [dB] at h
    subst h
    exact ⟨.int _, ⟨_, rfl⟩, fun _ _ => .int _⟩
  | .str x, u, h => by
    cases u <;> simp [dB] at h
    subst h
    exact ⟨.str _, ⟨_, rfl⟩, fun _ _ => .str _⟩
  | .ref _, u, h => by simp [dB] at h
  | .tup l, u, h => by
    cases u <;> simp [dB] at h
    rename_i a
    split at h
    · rename_i c od its n osl e
      simp only [decide_eq_true_eq, Bool.and_eq_true] at h
      obtain ⟨h1, h2, h3⟩ := h
      subst h1
      obtain ⟨vs, rv, rp⟩ := dsB_ok l its.toList h3
      exact ⟨.ref a, rfl, fun A H => .tup (.inr ⟨_, its, n, e, rfl, rfl, h2, rv⟩) (rp A H)⟩
    · cases h
  | .kl l, u, h => by
    cases u <;> simp [dB] at h
    rename_i a
    split at h
    · rename_i c its n osl e
      simp only [decide_eq_true_eq, Bool.and_eq_true] at h
      obtain ⟨h1, h2, h3⟩ := h
      subst h1
      obtain ⟨vs, rv, rp⟩ := dsB_ok l its.toList h3
      exact ⟨.ref a, rfl, fun A H => .kl ⟨_, its, n, e, rfl, rfl, rfl, h2, rv⟩ (rp A H)⟩
    · cases h
theorem dsB_ok {K : PySem.W.Frag} : ∀ (l : List D) (us : List Value), dsB K l us = true → ∃ vs, Vals vs us ∧ ∀ A H, RpL K A H l vs
  | [], us, h => by
    cases us <;> simp [dsB] at h
    exact ⟨[], .nil, fun _ _ => .nil⟩
  | d :: l, us, h => by
    cases us <;> simp [dsB] at h
    rename_i u r
    obtain ⟨v, rv, rp⟩ := dB_ok d u h.1
    obtain ⟨vs, rvs, rps⟩ := dsB_ok l r h.2
    exact ⟨v :: vs, .cons rv rvs, fun A H => .cons (rp A H) (rps A H)⟩
end
/-- the module's constants -/
def csB (K : PySem.W.Frag) : List (Str × D) → Bool
  | [] => true
  | (x, d) :: r => (match PySem.W.nsIn K mainGlobals x with
    | some (some u) => dB K d u
    | _ => false) && csB K r
theorem csB_ok {K : PySem.W.Frag} {h : Heap} {mg : Str → Option Value} (X : K.In h) (G : h.Ns mainGlobals mg) : ∀ {l : List (Str × D)} (_ : csB K l = true) (i : Nat) {x : Str} {d : D} (_ : l[i]? = some (x, d)), GlD K mg x d
  | [], _, _, _, _, e => by simp at e
  | (y, c) :: r, hb, i, x, d, e => by
    simp only [csB, Bool.and_eq_true] at hb
    cases i with
    | succ i => exact csB_ok X G hb.2 i (by simpa using e)
    | zero =>
      simp at e
      obtain ⟨rfl, rfl⟩ := e
      have h1 := hb.1
      split at h1
      · rename_i u en
        obtain ⟨v, rv, rp⟩ := dB_ok _ _ h1
        exact ⟨v, u, PySem.W.mg_of X G en, rv, rp⟩
      · cases h1
/-! ### the Hook -/
structure SaysC (fa : List He.Fa) (fn : List He.DefD) (cs : List (Str × D)) (K : PySem.W.Frag) : Prop where
  t : He.SaysD fa fn K
  c : csB K cs = true
def obsC (n : Nat) (fa : List He.Fa) (fn : List He.DefD) (cs : List (Str × D)) (g : Addr → Option Obj) : He.AlD × Bool := (He.obsD fa fn (He.frG g (He.asD g n)), csB (He.frG g (He.asD g n)) cs)
def hookC (n : Nat) (fa : List He.Fa) (fn : List He.DefD) (cs : List (Str × D)) : PySem.W.Hook where
  α := He.AlD × Bool
  obs := fun s => obsC n fa fn cs s.heap.get?
  val := fun _ => (He.valD fn, true)
  says := fun _ h => ∃ K : PySem.W.Frag, K.In h ∧ SaysC fa fn cs K
  of := fun _ _ e => ⟨_, He.frG_in, ⟨congrArg (fun z : He.AlD × Bool => z.1) e, congrArg (fun z : He.AlD × Bool => z.2) e⟩⟩
  keeps := fun _ _ _ ⟨K0, kin, c⟩ k => ⟨K0, PySem.W.Frag.In.keeps kin k, c⟩
theorem obsC_eq {n : Nat} {fa : List He.Fa} {fn : List He.DefD} {cs : List (Str × D)} {g : Addr → Option Obj} {s : Shared} (h : ∀ a, g a = s.heap.get? a) : obsC n fa fn cs g = (hookC n fa fn cs).obs s := by
  have eg : g = s.heap.get? := funext h
  subst eg
  rfl
theorem field_ok {K : PySem.W.Frag} {cl f : Str} (h1 : (He.Fa.cls cl).ok K = true) (h2 : (He.Fa.noat cl f).ok K = true) : FieldOk K cl f := ⟨He.cls_ok h1, He.noat_ok h2⟩
end AL
/-! AL10: reading abstract programs: equations for simp; plain data. -/
namespace AL
open PySem PySem.Spec
open PyProof.Rows L2
theorem ofS_inj {a b : String} : (Str.ofString a = Str.ofString b) ↔ a = b := by
  constructor
  · intro h
    rw [Str.ofString_eq_toList, Str.ofString_eq_toList] at h
    have h1 : (a.toList.map Char.toNat) = b.toList.map Char.toNat := by simpa using h
    have h2 : a.toList = b.toList := by
      have inj : Function.Injective Char.toNat := fun x y e => by
        have := congrArg Char.ofNat e
        simpa [Char.ofNat_toNat] using this
      generalize a.toList = la at h1 ⊢
      generalize b.toList = lb at h1 ⊢
      induction la generalizing lb with
      | nil => cases lb <;> simp_all
      | cons x la ih =>
        cases lb with
        | nil => simp at h1
        | cons y lb =>
          simp only [List.map_cons, List.cons.injEq] at h1
          rw [inj h1.1, ih lb h1.2]
    exact String.toList_inj.mp h2
  · intro h; rw [h]
section
variable {S : Sto} {Q : VA} {E : XA} {ρ : Rho} {D0 : AEnds} {a b : ATE} {t u : ATT} {ta : ATA} {s1 s2 : ATS} {g : ATG} {r : AR2} {F : AFn} {ds : List D} {o : O}
theorem at_end : (S ++ [o])[S.length]? = some o := by simp
/-- reading statements and expressions -/
theorem ev : (∀ D0 ρ S, aNext D0 ρ S = D0.nx ρ S) ∧ (∀ t u D0 ρ S, aSeq t u D0 ρ S = t { D0 with nx := u D0 } ρ S) ∧ (∀ a D0 ρ S, aDrop a D0 ρ S = a ρ S (fun x S1 => D0.ex x ρ S1) fun _ S1 => D0.nx ρ S1) ∧
    (∀ a D0 ρ S, aRet a D0 ρ S = a ρ S (fun x S1 => D0.ex x ρ S1) D0.rt) ∧ (∀ D0 ρ S, aRetN D0 ρ S = D0.rt .non S) ∧
    (∀ t a b D0 ρ S, aIfS t a b D0 ρ S = t ρ S (fun x S1 => D0.ex x ρ S1) fun k S1 => match k with | true => a D0 ρ S1 | false => b D0 ρ S1) ∧
    (∀ a g D0 ρ S, aAsg a g D0 ρ S = a ρ S (fun x S1 => D0.ex x ρ S1) fun d S1 => g d ρ S1 D0.nx) ∧ (∀ i d ρ S Q, agName i d ρ S Q = Q (sset ρ i d) S) ∧
    (∀ i ρ S E Q, aVar i ρ S E Q = must (gt ρ i) fun d => Q d S) ∧ (∀ d ρ S E Q, aC d ρ S E Q = Q d S) ∧ (∀ r a b ρ S E Q, aOp r a b ρ S E Q = a ρ S E fun x S1 => b ρ S1 E fun y S2 => r x y S2 Q) ∧
    (∀ a ρ S E Q, aB a ρ S E Q = a ρ S E fun d S1 => match d with | .bl k => Q k S1 | _ => False) ∧
    (∀ t u ρ S E Q, aAnd t u ρ S E Q = t ρ S E fun k S1 => match k with | true => u ρ S1 E Q | false => Q false S1) ∧
    (∀ t u ρ S E Q, aOr t u ρ S E Q = t ρ S E fun k S1 => match k with | true => Q true S1 | false => u ρ S1 E Q) ∧ (∀ t ρ S E Q, aNot t ρ S E Q = t ρ S E fun k S1 => Q (!k) S1) ∧
    (∀ a b ρ S E Q, aAndV a b ρ S E Q = a ρ S E fun x S1 => match x with | .bl true => b ρ S1 E Q | .bl false => Q (.bl false) S1 | _ => False) ∧
    (∀ a b ρ S E Q, aOrV a b ρ S E Q = a ρ S E fun x S1 => match x with | .bl true => Q (.bl true) S1 | .bl false => b ρ S1 E Q | _ => False) ∧
    (∀ a ρ S E Q, aNotV a ρ S E Q = a ρ S E fun x S1 => match x with | .bl k => Q (.bl (!k)) S1 | _ => False) ∧
    (∀ t a b ρ S E Q, aIf t a b ρ S E Q = t ρ S E fun k S1 => match k with | true => a ρ S1 E Q | false => b ρ S1 E Q) ∧
    (∀ ρ S E Q, aNil ρ S E Q = Q [] S) ∧ (∀ a t ρ S E Q, aCons a t ρ S E Q = a ρ S E fun x S1 => t ρ S1 E fun xs S2 => Q (x :: xs) S2) ∧
    (∀ t ρ S E Q, aTup t ρ S E Q = t ρ S E fun ds S1 => ds.length ≤ sizeLine ∧ Q (.tup ds) S1) ∧ (∀ t ρ S E Q, aLst t ρ S E Q = t ρ S E fun ds S1 => ds.length ≤ sizeLine ∧ Q (.ref S1.length) (S1 ++ [.lst ds])) ∧
    (∀ a b ρ S E Q, aIx a b ρ S E Q = a ρ S E fun x S1 => b ρ S1 E fun y S2 => getIx x y S2 Q) ∧ (∀ F t ρ S E Q, aCall F t ρ S E Q = t ρ S E fun ds S1 => F ds S1 E Q) ∧
    (∀ r t ρ S E Q, aCB r t ρ S E Q = t ρ S E fun ds S1 => r ds S1 Q) ∧
    (∀ ao a ρ S E Q, aAppend ao a ρ S E Q = ao ρ S E fun o S1 => isLst S1 o = true ∧ a ρ S1 E fun d S2 => mAppend o d S2 fun S3 => Q .non S3) ∧
    (∀ a ρ S E Q, aiAny a ρ S E Q = a ρ S E fun d S1 => must (srcOf S1 d) fun src => Q src S1) := by
  refine ⟨?_, ?_, ?_, ?_, ?_, ?_, ?_, ?_, ?_, ?_, ?_, ?_, ?_, ?_, ?_, ?_, ?_, ?_, ?_, ?_, ?_, ?_, ?_, ?_, ?_, ?_, ?_, ?_⟩ <;> intros <;> rfl
/-- slots, positions -/
theorem ev2 : (∀ {α : Type} (x : α) f, must (some x) f = f x) ∧ (∀ {α : Type} f, must (none : Option α) f = False) ∧ (∀ x (r : Rho), gt (x :: r) 0 = x) ∧ (∀ x (r : Rho) i, gt (x :: r) (i + 1) = gt r i) ∧
    (∀ x (r : Rho) d, sset (x :: r) 0 d = some d :: r) ∧ (∀ x (r : Rho) i d, sset (x :: r) (i + 1) d = x :: sset r i d) ∧
    (∀ l i S Q, getIx (.tup l) (.int i) S Q = must (at' l i) fun d => Q d S) ∧ (∀ l i S Q, getIx (.kl l) (.int i) S Q = must (at' l i) fun d => Q d S) ∧
    (∀ (d : D) l, at' (d :: l) 0 = some d) ∧ (∀ (d e : D) l, at' (d :: e :: l) 1 = some e) ∧ (∀ (d e f : D) l, at' (d :: e :: f :: l) 2 = some f) ∧ (∀ (d e f g : D) l, at' (d :: e :: f :: g :: l) 3 = some g) ∧
    (∀ (d e f g h : D) l, at' (d :: e :: f :: g :: h :: l) 4 = some h) ∧ (∀ (d e f g h i : D) l, at' (d :: e :: f :: g :: h :: i :: l) 5 = some i) ∧ (∀ (d e f g h i j : D) l, at' (d :: e :: f :: g :: h :: i :: j :: l) 6 = some j) := by
  refine ⟨fun _ _ => rfl, fun _ => rfl, fun _ _ => rfl, fun _ _ _ => rfl, fun _ _ _ => rfl, fun _ _ _ _ => rfl, fun _ _ _ _ => rfl, fun _ _ _ _ => rfl, ?_, ?_, ?_, ?_, ?_, ?_, ?_⟩ <;> intros <;> simp [at']
/-- comparisons of atoms -/
theorem ev3 : (∀ x y S Q, oEq (.str x) (.str y) S Q = Q (.bl (decide (x = y))) S) ∧ (∀ x y S Q, oEq (.int x) (.int y) S Q = Q (.bl (decide (x = y))) S) ∧ (∀ x y S Q, oEq (.bl x) (.bl y) S Q = Q (.bl (decide (x = y))) S) ∧
    (∀ x y S Q, oNe (.str x) (.str y) S Q = Q (.bl (!decide (x = y))) S) ∧ (∀ x y S Q, oNe (.int x) (.int y) S Q = Q (.bl (!decide (x = y))) S) ∧ (∀ x y S Q, oNe (.bl x) (.bl y) S Q = Q (.bl (!decide (x = y))) S) ∧
    (∀ x y S Q, oLt (.int x) (.int y) S Q = Q (.bl (decide (x < y))) S) ∧ (∀ x y S Q, oLe (.int x) (.int y) S Q = Q (.bl (decide (x ≤ y))) S) ∧ (∀ x y S Q, oGt (.int x) (.int y) S Q = Q (.bl (decide (y < x))) S) ∧ (∀ x y S Q, oGe (.int x) (.int y) S Q = Q (.bl (decide (y ≤ x))) S) ∧
    (∀ x y S Q, oAdd (.int x) (.int y) S Q = Q (.int (x + y)) S) ∧ (∀ x y S Q, oSub (.int x) (.int y) S Q = Q (.int (x - y)) S) ∧ (∀ x y S Q, oMul (.int x) (.int y) S Q = (CMul x y ∧ Q (.int (x * y)) S)) ∧
    (∀ x y S Q, oMod (.int x) (.int y) S Q = (0 < y ∧ Q (.int (x % y)) S)) ∧ (∀ x l S Q, oIn x (.tup l) S Q = ((flatD x && l.all flatD) = true ∧ Q (.bl (inF x l)) S)) := by
  refine ⟨?_, ?_, ?_, ?_, ?_, ?_, ?_, ?_, ?_, ?_, ?_, ?_, ?_, ?_, ?_⟩ <;> intros <;> rfl
end
end AL
/-! AL11: plain data as PyData: ==, repr. -/
namespace AL
open PySem PySem.Spec
open PyProof.Rows L2
mutual
def pyD : D → PyData
  | .non => .none
  | .bl b => .bool b
  | .int i => .int i
  | .str x => .str x
  | .tup l => .tuple (pyL l)
  | .ref _ => .none
  | .kl _ => .none
def pyL : List D → List PyData
  | [] => []
  | d :: l => pyD d :: pyL l
end
mutual
/-- plain: no object, short ints -/
def okD : D → Bool
  | .non => true
  | .bl _ => true
  | .int i => decide (i.natAbs < 10 ^ 6)
  | .str x => PyData.strOk x
  | .tup l => okL l
  | .ref _ => false
  | .kl _ => false
def okL : List D → Bool
  | [] => true
  | d :: l => okD d && okL l
end
mutual
def dpD : D → Nat
  | .tup l => dpL l + 1
  | _ => 0
def dpL : List D → Nat
  | [] => 0
  | d :: l => max (dpD d) (dpL l)
end
mutual
def wtD : D → Nat
  | .str x => x.cps.size
  | .tup l => wtL l
  | .int _ => 20
  | _ => 0
def wtL : List D → Nat
  | [] => 0
  | d :: l => wtD d + 1 + wtL l
end
mutual
theorem py_ok {S : Sto} : ∀ d : D, okD d = true → Py S d (pyD d)
  | .non, _ => .non
  | .bl b, _ => .bl b
  | .int i, _ => .int i
  | .str x, _ => .str x
  | .tup l, h => .tup (pyL_ok l (by simpa [okD] using h))
  | .ref _, h => by simp [okD] at h
  | .kl _, h => by simp [okD] at h
theorem pyL_ok {S : Sto} : ∀ l : List D, okL l = true → PyL S l (pyL l)
  | [], _ => .nil
  | d :: l, h => by
    simp only [okL, Bool.and_eq_true] at h
    exact .cons (py_ok d h.1) (pyL_ok l h.2)
end
mutual
theorem lay_ok : ∀ d : D, okD d = true → (pyD d).canLay0 = true ∧ (pyD d).showable = true ∧ (pyD d).intsShort 13 = true
  | .non, _ => by simp [pyD, PyData.canLay0, PyData.showable, PyData.intsShort]
  | .bl b, _ => by simp [pyD, PyData.canLay0, PyData.showable, PyData.intsShort]
  | .int i, h => by
    have h1 : i.natAbs < 10 ^ 6 := by simpa [okD] using h
    have h2 : (toString i).length ≤ 7 := int_text_length_le10 (by decide) h1
    refine ⟨by simp [pyD, PyData.canLay0], ?_, ?_⟩
    · simp only [pyD, PyData.showable, decide_eq_true_eq]
      have : i.natAbs.log2 ≤ i.natAbs := Nat.log2_le_self _
      by_cases z : i.natAbs = 0
      · rw [z]; decide
      · have : i.natAbs.log2 < 20 := (Nat.log2_lt z).mpr (by omega)
        omega
    · simp only [pyD, PyData.intsShort, PyData.shown, decide_eq_true_eq]
      have : (Str.ofString (toString i)).length = (toString i).length := by
        rw [Str.ofString_eq_toList]
        show ((toString i).toList.map Char.toNat).toArray.size = _
        rw [List.size_toArray, List.length_map, String.length_toList]
      exact decide_eq_true (Nat.le_trans (Nat.le_of_eq this) (Nat.le_trans h2 (show 7 ≤ 13 by decide)))
  | .str x, h => by
    refine ⟨by simpa [pyD, PyData.canLay0, okD] using h, by simp [pyD, PyData.showable], by simp [pyD, PyData.intsShort]⟩
  | .tup l, h => by
    have := layL_ok l (by simpa [okD] using h)
    simpa [pyD, PyData.canLay0, PyData.showable, PyData.intsShort] using this
  | .ref _, h => by simp [okD] at h
  | .kl _, h => by simp [okD] at h
theorem layL_ok : ∀ l : List D, okL l = true → PyData.canLayAll0 (pyL l) = true ∧ PyData.showableAll (pyL l) = true ∧ PyData.intsShortAll 13 (pyL l) = true
  | [], _ => by simp [pyL, PyData.canLayAll0, PyData.showableAll, PyData.intsShortAll]
  | d :: l, h => by
    simp only [okL, Bool.and_eq_true] at h
    obtain ⟨a1, a2, a3⟩ := lay_ok d h.1
    obtain ⟨b1, b2, b3⟩ := layL_ok l h.2
    simp [pyL, PyData.canLayAll0, PyData.showableAll, PyData.intsShortAll, a1, a2, a3, b1, b2, b3]
end
mutual
theorem dp_eq : ∀ d : D, (pyD d).depth ≤ dpD d
  | .non => by simp [pyD, PyData.depth]
  | .bl b => by simp [pyD, PyData.depth]
  | .int i => by simp [pyD, PyData.depth]
  | .str x => by simp [pyD, PyData.depth]
  | .tup l => by
    have := dpL_eq l
    simp only [pyD, dpD, PyData.depth]
    omega
  | .ref _ => by simp [pyD, PyData.depth]
  | .kl _ => by simp [pyD, PyData.depth]
theorem dpL_eq : ∀ l : List D, PyData.depthAll (pyL l) ≤ dpL l
  | [] => by simp [pyL, PyData.depthAll]
  | d :: l => by
    have h1 := dp_eq d
    have h2 := dpL_eq l
    simp only [pyL, dpL, PyData.depthAll]
    omega
end
mutual
theorem wt_le : ∀ d : D, okD d = true → (pyD d).weight ≤ wtD d
  | .non, _ => by simp [pyD, PyData.weight]
  | .bl b, _ => by simp [pyD, PyData.weight]
  | .int i, h => by
    have h1 : i.natAbs < 10 ^ 6 := by simpa [okD] using h
    simp only [pyD, PyData.weight, wtD]
    split
    · omega
    · rename_i z
      have z' : i.natAbs ≠ 0 := by simpa using z
      have : i.natAbs.log2 < 20 := (Nat.log2_lt z').mpr (by omega)
      omega
  | .str x, _ => by simp [pyD, PyData.weight, wtD]
  | .tup l, h => by
    have := wtL_le l (by simpa [okD] using h)
    simpa [pyD, PyData.weight, wtD] using this
  | .ref _, h => by simp [okD] at h
  | .kl _, h => by simp [okD] at h
theorem wtL_le : ∀ l : List D, okL l = true → PyData.weightAll (pyL l) ≤ wtL l
  | [], _ => by simp [pyL, PyData.weightAll]
  | d :: l, h => by
    simp only [okL, Bool.and_eq_true] at h
    have h1 := wt_le d h.1
    have h2 := wtL_le l h.2
    simp only [pyL, wtL, PyData.weightAll]
    omega
end
/-- a datum that can be shown -/
structure Fine (d : D) : Prop where
  ok : okD d = true
  dp : dpD d ≤ 60
  wt : wtD d ≤ 1000000
theorem Fine.shaped {d : D} (f : Fine d) : SeqAt.shaped (pyD d) = true := by
  have h1 := (lay_ok d f.ok).1
  have h2 := dp_eq d
  have h3 := f.dp
  unfold SeqAt.shaped
  simp only [h1, Bool.true_and, decide_eq_true_eq]
  omega
theorem shown_le {p : PyData} (h1 : p.canLay0 = true) (h2 : p.intsShort 13 = true) (h3 : p.depth ≤ 64) (h4 : p.weight ≤ 2 ^ 20) : p.shown.length ≤ sizeLine :=
  Nat.le_trans (shown_le13 (by unfold PyData.layable0; simp only [h1, Bool.true_and, Bool.and_eq_true, decide_eq_true_eq]; exact ⟨h3, h4⟩) h2) (by decide)
theorem repr_fine {d : D} (f : Fine d) {S : Sto} {Q : VA} (q : Q (.str (pyD d).shown) S) : cRepr [d] S Q := by
  obtain ⟨h1, h2, h3⟩ := lay_ok d f.ok
  have h4 := dp_eq d
  have h5 := wt_le d f.ok
  have h6 := f.dp
  have h7 := f.wt
  exact ⟨pyD d, py_ok d f.ok, h2, h1, by omega, shown_le h1 h3 (by omega) (by omega), q⟩
/-- a list of such in the store -/
theorem repr_list {l : List D} {i : Nat} {S : Sto} {Q : VA} (e : lstOf S i = some l) (ok : okL l = true) (dp : dpL l ≤ 60) (wt : wtL l ≤ 1000000) (q : Q (.str (PyData.list (pyL l)).shown) S) : cRepr [.ref i] S Q := by
  obtain ⟨h1, h2, h3⟩ := layL_ok l ok
  have h4 := dpL_eq l
  have h5 := wtL_le l ok
  have c1 : (PyData.list (pyL l)).canLay0 = true := by simpa [PyData.canLay0] using h1
  have c2 : (PyData.list (pyL l)).showable = true := by simpa [PyData.showable] using h2
  have c3 : (PyData.list (pyL l)).intsShort 13 = true := by simpa [PyData.intsShort] using h3
  have c4 : (PyData.list (pyL l)).depth ≤ 64 := by simp only [PyData.depth]; omega
  have c5 : (PyData.list (pyL l)).weight ≤ 2 ^ 20 := by simp only [PyData.weight]; omega
  exact ⟨_, .lst e (pyL_ok l ok), c2, c1, c4, shown_le c1 c3 c4 c5, q⟩
/-- == of plain data that no atom is -/
theorem eqN_fine {x y : D} (fx : Fine x) (fy : Fine y) {S : Sto} {Q : Bool → Prop} (q : Q (PyData.eqv (pyD x) (pyD y))) : eqN x y S Q := ⟨_, _, py_ok x fx.ok, py_ok y fy.ok, fx.shaped, fy.shaped, q⟩
theorem eq_tups {l l' : List D} (fx : Fine (.tup l)) (fy : Fine (.tup l')) {S : Sto} {Q : VA} (q : Q (.bl (PyData.eqvAll (pyL l) (pyL l'))) S) : oEq (.tup l) (.tup l') S Q := by
  show eqN (.tup l) (.tup l') S fun b => Q (.bl b) S
  refine eqN_fine fx fy ?_
  simpa only [pyD, PyData.eqv] using q
end AL
/-! AL12: comprehensions and loops over what only lets the store grow. -/
namespace AL
open PySem PySem.Spec
open PyProof.Rows L2
theorem pre_refl {S : Sto} : S <+: S := List.prefix_refl _
theorem pre_app {S : Sto} {o : O} : S <+: S ++ [o] := List.prefix_append _ _
theorem Src.ok_mono {src : Src} {S S' : Sto} (h : src.ok S) (p : S <+: S') : src.ok S' := by
  have key : ∀ i l, lstOf S i = some l → lstOf S' i = some l := fun i l e => by
    unfold lstOf at e ⊢
    cases q : S[i]? with
    | none => rw [q] at e; exact nomatch e
    | some o => rw [pre_get p q]; rw [q] at e; exact e
  cases src with
  | fix l => trivial
  | lst i l => exact key _ _ h
  | rvl i l => exact key _ _ h
  | rng a n => trivial
section
variable {ai : ATI} {ag : ATG} {elt : ATE} {vs : List Nat} {ρ : Rho} {S S0 : Sto} {E : XA} {Q : VA} {src : Src} {out : List D}
/-- [elt for target in iter], each item made by what lets the store grow -/
theorem lc_map (hai : ∀ Q' : Src → Sto → Prop, Q' src S0 → ai ρ S E Q') (ok : src.ok S0) (few : src.items.length < sizeLine) (len : out.length = src.items.length)
    (he : ∀ (k : Nat) (d : D), src.items[k]? = some d → ∃ y : D, out[k]? = some y ∧ ∀ S1 (Q1 : VA), S0 <+: S1 → (∀ S2, S1 <+: S2 → Q1 y S2) → ag d (wipeA ρ vs) S1 fun ρ2 S2 => elt ρ2 S2 (fun _ _ => False) Q1)
    (q : ∀ S1, S0 <+: S1 → Q (.ref S1.length) (S1 ++ [.lst out])) : aLc ai ag aYes elt vs ρ S E Q := by
  refine hai _ ⟨fun k acc S1 => S0 <+: S1 ∧ acc = out.take k, ⟨pre_refl, by simp⟩, ?_, few, ?_, ?_⟩
  · rintro k acc S1 hk ⟨p, rfl⟩
    exact ⟨Src.ok_mono ok p, by rw [List.length_take]; omega⟩
  · rintro k d acc S1 hd ⟨p, rfl⟩
    obtain ⟨y, hy, body⟩ := he k d hd
    refine body S1 _ p fun S2 p2 => ?_
    refine ⟨p.trans p2, ?_⟩
    rw [List.take_add_one, hy]; rfl
  · rintro acc S1 ⟨p, rfl⟩
    rw [← len, List.take_length]
    exact q S1 p
end
end AL
namespace Ab
open PySem PySem.Spec
open PyProof.Rows L2 AL
abbrev C_SIZE : D := (D.int 65536)
abbrev C_TURNS : D := (D.int 8)
abbrev C_CONSTANTS : D := (D.tup [(D.str "int"), (D.str "bool"), (D.str "none")])
abbrev C_TRUTHS : D := (D.tup [(D.str "bool"), (D.str "lt"), (D.str "eq"), (D.str "not"), (D.str "and"), (D.str "or")])
def a_fold_two : ATS :=
    (aSeq (aIfS (aOr (aB (aOp oEq (aVar 0) (aC (.str "and")))) (aB (aOp oEq (aVar 0) (aC (.str "or"))))) (aSeq (aIfS (aAnd (aB (aOp oEq (aIx (aVar 1) (aC (.int 0))) (aC (.str "bool")))) (aB (aOp oEq (aIx (aVar 1) (aC (.int 1))) (aOp oEq (aVar 0) (aC (.str "or")))))) (aRet (aVar 1)) aNext)
    (aSeq (aIfS (aAnd (aB (aOp oEq (aIx (aVar 1) (aC (.int 0))) (aC (.str "bool")))) (aB (aOp oIn (aIx (aVar 2) (aC (.int 0))) (aC C_TRUTHS)))) (aRet (aVar 2)) aNext)
    (aRet (aTup (aCons (aVar 0) (aCons (aVar 1) (aCons (aVar 2) aNil))))))) aNext)
    (aSeq (aIfS (aAnd (aB (aOp oEq (aIx (aVar 1) (aC (.int 0))) (aC (.str "int")))) (aB (aOp oEq (aIx (aVar 2) (aC (.int 0))) (aC (.str "int"))))) (aSeq (aIfS (aB (aOp oEq (aVar 0) (aC (.str "add")))) (aRet (aTup (aCons (aC (.str "int")) (aCons (aOp oMod (aOp oAdd (aIx (aVar 1) (aC (.int 1))) (aIx (aVar 2) (aC (.int 1)))) (aC C_SIZE)) aNil)))) aNext)
    (aSeq (aIfS (aB (aOp oEq (aVar 0) (aC (.str "sub")))) (aRet (aTup (aCons (aC (.str "int")) (aCons (aOp oMod (aOp oSub (aIx (aVar 1) (aC (.int 1))) (aIx (aVar 2) (aC (.int 1)))) (aC C_SIZE)) aNil)))) aNext)
    (aSeq (aIfS (aB (aOp oEq (aVar 0) (aC (.str "mul")))) (aRet (aTup (aCons (aC (.str "int")) (aCons (aOp oMod (aOp oMul (aIx (aVar 1) (aC (.int 1))) (aIx (aVar 2) (aC (.int 1)))) (aC C_SIZE)) aNil)))) aNext)
    (aIfS (aB (aOp oEq (aVar 0) (aC (.str "lt")))) (aRet (aTup (aCons (aC (.str "bool")) (aCons (aOp oLt (aIx (aVar 1) (aC (.int 1))) (aIx (aVar 2) (aC (.int 1)))) aNil)))) aNext)))) aNext)
    (aSeq (aIfS (aAnd (aB (aOp oEq (aVar 0) (aC (.str "eq")))) (aAnd (aB (aOp oIn (aIx (aVar 1) (aC (.int 0))) (aC C_CONSTANTS))) (aB (aOp oIn (aIx (aVar 2) (aC (.int 0))) (aC C_CONSTANTS))))) (aRet (aTup (aCons (aC (.str "bool")) (aCons (aOp oEq (aVar 1) (aVar 2)) aNil)))) aNext)
    (aRet (aTup (aCons (aVar 0) (aCons (aVar 1) (aCons (aVar 2) aNil))))))))
abbrev n_fold_two : Nat := 3
def a_fold_expression (F_fold_block F_fold_expression F_fold_two : AFn) : ATS :=
    (aSeq (aAsg (aIx (aVar 0) (aC (.int 0))) (agName 1))
    (aSeq (aIfS (aOr (aB (aOp oIn (aVar 1) (aC C_CONSTANTS))) (aB (aOp oEq (aVar 1) (aC (.str "var"))))) (aRet (aVar 0)) aNext)
    (aSeq (aIfS (aB (aOp oEq (aVar 1) (aC (.str "lambda")))) (aRet (aTup (aCons (aC (.str "lambda")) (aCons (aIx (aVar 0) (aC (.int 1))) (aCons (aCall F_fold_block (aCons (aIx (aVar 0) (aC (.int 2))) aNil)) aNil))))) aNext)
    (aSeq (aIfS (aB (aOp oEq (aVar 1) (aC (.str "call")))) (aRet (aTup (aCons (aC (.str "call")) (aCons (aCall F_fold_expression (aCons (aIx (aVar 0) (aC (.int 1))) aNil)) (aCons (aCB cTuple (aCons (aLc (aiAny (aIx (aVar 0) (aC (.int 2)))) (agName 2) aYes (aCall F_fold_expression (aCons (aVar 2) aNil)) [2]) aNil)) aNil))))) aNext)
    (aSeq (aIfS (aB (aOp oEq (aVar 1) (aC (.str "ask")))) (aRet (aTup (aCons (aC (.str "ask")) (aCons (aCall F_fold_expression (aCons (aIx (aVar 0) (aC (.int 1))) aNil)) (aCons (aIx (aVar 0) (aC (.int 2))) aNil))))) aNext)
    (aSeq (aIfS (aB (aOp oEq (aVar 1) (aC (.str "not")))) (aSeq (aAsg (aCall F_fold_expression (aCons (aIx (aVar 0) (aC (.int 1))) aNil)) (agName 3))
    (aSeq (aIfS (aB (aOp oEq (aIx (aVar 3) (aC (.int 0))) (aC (.str "bool")))) (aRet (aTup (aCons (aC (.str "bool")) (aCons (aNotV (aIx (aVar 3) (aC (.int 1)))) aNil)))) aNext)
    (aRet (aTup (aCons (aC (.str "not")) (aCons (aVar 3) aNil)))))) aNext)
    (aRet (aCall F_fold_two (aCons (aVar 1) (aCons (aCall F_fold_expression (aCons (aIx (aVar 0) (aC (.int 1))) aNil)) (aCons (aCall F_fold_expression (aCons (aIx (aVar 0) (aC (.int 2))) aNil)) aNil)))))))))))
abbrev n_fold_expression : Nat := 4
def a_fold_block (F_fold_statement : AFn) : ATS :=
    (aRet (aCB cTuple (aCons (aLc (aiAny (aVar 0)) (agName 1) aYes (aCall F_fold_statement (aCons (aVar 1) aNil)) [1]) aNil)))
abbrev n_fold_block : Nat := 2
def a_fold_statement (F_fold_expression F_fold_block : AFn) : ATS :=
    (aSeq (aAsg (aIx (aVar 0) (aC (.int 0))) (agName 1))
    (aSeq (aIfS (aOr (aB (aOp oEq (aVar 1) (aC (.str "let")))) (aB (aOp oEq (aVar 1) (aC (.str "set"))))) (aRet (aTup (aCons (aVar 1) (aCons (aIx (aVar 0) (aC (.int 1))) (aCons (aCall F_fold_expression (aCons (aIx (aVar 0) (aC (.int 2))) aNil)) (aCons (aIx (aVar 0) (aC (.int 3))) aNil)))))) aNext)
    (aSeq (aIfS (aB (aOp oEq (aVar 1) (aC (.str "fun")))) (aRet (aTup (aCons (aC (.str "fun")) (aCons (aIx (aVar 0) (aC (.int 1))) (aCons (aIx (aVar 0) (aC (.int 2))) (aCons (aCall F_fold_block (aCons (aIx (aVar 0) (aC (.int 3))) aNil)) (aCons (aIx (aVar 0) (aC (.int 4))) aNil))))))) aNext)
    (aSeq (aIfS (aB (aOp oIn (aVar 1) (aTup (aCons (aC (.str "do")) (aCons (aC (.str "tell")) (aCons (aC (.str "return")) (aCons (aC (.str "throw")) aNil))))))) (aRet (aTup (aCons (aVar 1) (aCons (aCall F_fold_expression (aCons (aIx (aVar 0) (aC (.int 1))) aNil)) (aCons (aIx (aVar 0) (aC (.int 2))) aNil))))) aNext)
    (aSeq (aIfS (aB (aOp oEq (aVar 1) (aC (.str "if")))) (aSeq (aAsg (aCall F_fold_expression (aCons (aIx (aVar 0) (aC (.int 1))) aNil)) (agName 2))
    (aSeq (aAsg (aCall F_fold_block (aCons (aIx (aVar 0) (aC (.int 2))) aNil)) (agName 3))
    (aSeq (aAsg (aCall F_fold_block (aCons (aIx (aVar 0) (aC (.int 3))) aNil)) (agName 4))
    (aSeq (aIfS (aAnd (aB (aOp oEq (aIx (aVar 2) (aC (.int 0))) (aC (.str "bool")))) (aB (aIx (aVar 2) (aC (.int 1))))) (aRet (aTup (aCons (aC (.str "block")) (aCons (aVar 3) (aCons (aIx (aVar 0) (aC (.int 4))) aNil))))) aNext)
    (aSeq (aIfS (aB (aOp oEq (aIx (aVar 2) (aC (.int 0))) (aC (.str "bool")))) (aRet (aTup (aCons (aC (.str "block")) (aCons (aVar 4) (aCons (aIx (aVar 0) (aC (.int 4))) aNil))))) aNext)
    (aRet (aTup (aCons (aC (.str "if")) (aCons (aVar 2) (aCons (aVar 3) (aCons (aVar 4) (aCons (aIx (aVar 0) (aC (.int 4))) aNil)))))))))))) aNext)
    (aSeq (aIfS (aB (aOp oEq (aVar 1) (aC (.str "repeat")))) (aSeq (aAsg (aCall F_fold_expression (aCons (aIx (aVar 0) (aC (.int 1))) aNil)) (agName 5))
    (aSeq (aIfS (aAnd (aB (aOp oEq (aIx (aVar 5) (aC (.int 0))) (aC (.str "int")))) (aB (aOp oEq (aOp oMod (aIx (aVar 5) (aC (.int 1))) (aC C_TURNS)) (aC (.int 0))))) (aRet (aTup (aCons (aC (.str "block")) (aCons (aTup aNil) (aCons (aIx (aVar 0) (aC (.int 3))) aNil))))) aNext)
    (aRet (aTup (aCons (aC (.str "repeat")) (aCons (aVar 5) (aCons (aCall F_fold_block (aCons (aIx (aVar 0) (aC (.int 2))) aNil)) (aCons (aIx (aVar 0) (aC (.int 3))) aNil)))))))) aNext)
    (aSeq (aIfS (aB (aOp oEq (aVar 1) (aC (.str "block")))) (aRet (aTup (aCons (aC (.str "block")) (aCons (aCall F_fold_block (aCons (aIx (aVar 0) (aC (.int 1))) aNil)) (aCons (aIx (aVar 0) (aC (.int 2))) aNil))))) aNext)
    (aRet (aTup (aCons (aC (.str "try")) (aCons (aCall F_fold_block (aCons (aIx (aVar 0) (aC (.int 1))) aNil)) (aCons (aIx (aVar 0) (aC (.int 2))) (aCons (aCall F_fold_block (aCons (aIx (aVar 0) (aC (.int 3))) aNil)) (aCons (aIx (aVar 0) (aC (.int 4))) aNil))))))))))))))
abbrev n_fold_statement : Nat := 6
def a_fold (F_Linked_with_statements F_Linked_statements F_fold_statement : AFn) : ATS :=
    (aRet (aMeth "Linked" "with_statements" F_Linked_with_statements (aVar 0) (aCons (aLc (aiAny (aMeth "Linked" "statements" F_Linked_statements (aVar 0) aNil)) (agTup 2 (agCons (agName 1) (agCons (agName 2) agNil))) aYes (aTup (aCons (aVar 1) (aCons (aCall F_fold_statement (aCons (aVar 2) aNil)) aNil))) [1, 2]) aNil)))
abbrev n_fold : Nat := 3
def a_dead_expression (F_dead_block F_dead_expression : AFn) : ATS :=
    (aSeq (aAsg (aIx (aVar 0) (aC (.int 0))) (agName 1))
    (aSeq (aIfS (aB (aOp oIn (aVar 1) (aTup (aCons (aC (.str "int")) (aCons (aC (.str "bool")) (aCons (aC (.str "none")) (aCons (aC (.str "var")) aNil))))))) (aRet (aVar 0)) aNext)
    (aSeq (aIfS (aB (aOp oEq (aVar 1) (aC (.str "lambda")))) (aRet (aTup (aCons (aC (.str "lambda")) (aCons (aIx (aVar 0) (aC (.int 1))) (aCons (aCall F_dead_block (aCons (aIx (aVar 0) (aC (.int 2))) aNil)) aNil))))) aNext)
    (aSeq (aIfS (aB (aOp oEq (aVar 1) (aC (.str "call")))) (aRet (aTup (aCons (aC (.str "call")) (aCons (aCall F_dead_expression (aCons (aIx (aVar 0) (aC (.int 1))) aNil)) (aCons (aCB cTuple (aCons (aLc (aiAny (aIx (aVar 0) (aC (.int 2)))) (agName 2) aYes (aCall F_dead_expression (aCons (aVar 2) aNil)) [2]) aNil)) aNil))))) aNext)
    (aSeq (aIfS (aB (aOp oEq (aVar 1) (aC (.str "ask")))) (aRet (aTup (aCons (aC (.str "ask")) (aCons (aCall F_dead_expression (aCons (aIx (aVar 0) (aC (.int 1))) aNil)) (aCons (aIx (aVar 0) (aC (.int 2))) aNil))))) aNext)
    (aSeq (aIfS (aB (aOp oEq (aVar 1) (aC (.str "not")))) (aRet (aTup (aCons (aC (.str "not")) (aCons (aCall F_dead_expression (aCons (aIx (aVar 0) (aC (.int 1))) aNil)) aNil)))) aNext)
    (aRet (aTup (aCons (aVar 1) (aCons (aCall F_dead_expression (aCons (aIx (aVar 0) (aC (.int 1))) aNil)) (aCons (aCall F_dead_expression (aCons (aIx (aVar 0) (aC (.int 2))) aNil)) aNil)))))))))))
abbrev n_dead_expression : Nat := 3
def a_always_ends (F_always_ends : AFn) : ATS :=
    (aSeq (aAsg (aIx (aVar 0) (aC (.int 0))) (agName 1))
    (aSeq (aIfS (aOr (aB (aOp oEq (aVar 1) (aC (.str "return")))) (aB (aOp oEq (aVar 1) (aC (.str "throw"))))) (aRet (aC (.bl true))) aNext)
    (aSeq (aIfS (aB (aOp oEq (aVar 1) (aC (.str "block")))) (aRet (aCB cAny (aCons (aLc (aiAny (aIx (aVar 0) (aC (.int 1)))) (agName 2) aYes (aCall F_always_ends (aCons (aVar 2) aNil)) [2]) aNil))) aNext)
    (aSeq (aIfS (aB (aOp oEq (aVar 1) (aC (.str "if")))) (aRet (aAndV (aCB cAny (aCons (aLc (aiAny (aIx (aVar 0) (aC (.int 2)))) (agName 2) aYes (aCall F_always_ends (aCons (aVar 2) aNil)) [2]) aNil)) (aCB cAny (aCons (aLc (aiAny (aIx (aVar 0) (aC (.int 3)))) (agName 3) aYes (aCall F_always_ends (aCons (aVar 3) aNil)) [3]) aNil)))) aNext)
    (aRet (aC (.bl false)))))))
abbrev n_always_ends : Nat := 4
def a_dead_block (F_dead_statement F_always_ends : AFn) : ATS :=
    (aSeq (aAsg (aLst aNil) (agName 1))
    (aSeq (aAsg (aC (.bl false)) (agName 2))
    (aSeq (aFor (aiAny (aVar 0)) (agName 3) (aSeq (aIfS (aOr (aNot (aB (aVar 2))) (aOr (aB (aOp oEq (aIx (aVar 3) (aC (.int 0))) (aC (.str "let")))) (aB (aOp oEq (aIx (aVar 3) (aC (.int 0))) (aC (.str "fun")))))) (aDrop (aAppend (aVar 1) (aCall F_dead_statement (aCons (aVar 3) aNil)))) aNext)
    (aAsg (aOrV (aVar 2) (aCall F_always_ends (aCons (aVar 3) aNil))) (agName 2))))
    (aRet (aCB cTuple (aCons (aVar 1) aNil))))))
abbrev n_dead_block : Nat := 4
def a_dead_statement (F_dead_expression F_dead_block : AFn) : ATS :=
    (aSeq (aAsg (aIx (aVar 0) (aC (.int 0))) (agName 1))
    (aSeq (aIfS (aOr (aB (aOp oEq (aVar 1) (aC (.str "let")))) (aB (aOp oEq (aVar 1) (aC (.str "set"))))) (aRet (aTup (aCons (aVar 1) (aCons (aIx (aVar 0) (aC (.int 1))) (aCons (aCall F_dead_expression (aCons (aIx (aVar 0) (aC (.int 2))) aNil)) (aCons (aIx (aVar 0) (aC (.int 3))) aNil)))))) aNext)
    (aSeq (aIfS (aB (aOp oEq (aVar 1) (aC (.str "fun")))) (aRet (aTup (aCons (aC (.str "fun")) (aCons (aIx (aVar 0) (aC (.int 1))) (aCons (aIx (aVar 0) (aC (.int 2))) (aCons (aCall F_dead_block (aCons (aIx (aVar 0) (aC (.int 3))) aNil)) (aCons (aIx (aVar 0) (aC (.int 4))) aNil))))))) aNext)
    (aSeq (aIfS (aB (aOp oIn (aVar 1) (aTup (aCons (aC (.str "do")) (aCons (aC (.str "tell")) (aCons (aC (.str "return")) (aCons (aC (.str "throw")) aNil))))))) (aRet (aTup (aCons (aVar 1) (aCons (aCall F_dead_expression (aCons (aIx (aVar 0) (aC (.int 1))) aNil)) (aCons (aIx (aVar 0) (aC (.int 2))) aNil))))) aNext)
    (aSeq (aIfS (aB (aOp oEq (aVar 1) (aC (.str "if")))) (aSeq (aAsg (aCall F_dead_expression (aCons (aIx (aVar 0) (aC (.int 1))) aNil)) (agName 2))
    (aRet (aTup (aCons (aC (.str "if")) (aCons (aVar 2) (aCons (aCall F_dead_block (aCons (aIx (aVar 0) (aC (.int 2))) aNil)) (aCons (aCall F_dead_block (aCons (aIx (aVar 0) (aC (.int 3))) aNil)) (aCons (aIx (aVar 0) (aC (.int 4))) aNil)))))))) aNext)
    (aSeq (aIfS (aB (aOp oEq (aVar 1) (aC (.str "repeat")))) (aRet (aTup (aCons (aC (.str "repeat")) (aCons (aCall F_dead_expression (aCons (aIx (aVar 0) (aC (.int 1))) aNil)) (aCons (aCall F_dead_block (aCons (aIx (aVar 0) (aC (.int 2))) aNil)) (aCons (aIx (aVar 0) (aC (.int 3))) aNil)))))) aNext)
    (aSeq (aIfS (aB (aOp oEq (aVar 1) (aC (.str "block")))) (aRet (aTup (aCons (aC (.str "block")) (aCons (aCall F_dead_block (aCons (aIx (aVar 0) (aC (.int 1))) aNil)) (aCons (aIx (aVar 0) (aC (.int 2))) aNil))))) aNext)
    (aRet (aTup (aCons (aC (.str "try")) (aCons (aCall F_dead_block (aCons (aIx (aVar 0) (aC (.int 1))) aNil)) (aCons (aIx (aVar 0) (aC (.int 2))) (aCons (aCall F_dead_block (aCons (aIx (aVar 0) (aC (.int 3))) aNil)) (aCons (aIx (aVar 0) (aC (.int 4))) aNil))))))))))))))
abbrev n_dead_statement : Nat := 3
def a_dead (F_Linked_with_statements F_Linked_statements F_dead_statement : AFn) : ATS :=
    (aRet (aMeth "Linked" "with_statements" F_Linked_with_statements (aVar 0) (aCons (aLc (aiAny (aMeth "Linked" "statements" F_Linked_statements (aVar 0) aNil)) (agTup 2 (agCons (agName 1) (agCons (agName 2) agNil))) aYes (aTup (aCons (aVar 1) (aCons (aCall F_dead_statement (aCons (aVar 2) aNil)) aNil))) [1, 2]) aNil)))
abbrev n_dead : Nat := 3
def a_Linked_init : ATS :=
    (aSeq (aFldSet "Linked" "_statements" (aVar 0) (aCB cList (aCons (aVar 1) aNil)))
    (aSeq (aFldSet "Linked" "_exports" (aVar 0) (aCB cList (aCons (aVar 2) aNil)))
    (aFldSet "Linked" "_variables" (aVar 0) (aCB cList (aCons (aVar 3) aNil)))))
abbrev n_Linked_init : Nat := 4
def a_Linked_statements : ATS :=
    (aRet (aCB cList (aCons (aFld "Linked" "_statements" (aVar 0)) aNil)))
abbrev n_Linked_statements : Nat := 1
def a_Linked_exports : ATS :=
    (aRet (aCB cList (aCons (aFld "Linked" "_exports" (aVar 0)) aNil)))
abbrev n_Linked_exports : Nat := 1
def a_Linked_variables : ATS :=
    (aRet (aCB cList (aCons (aFld "Linked" "_variables" (aVar 0)) aNil)))
abbrev n_Linked_variables : Nat := 1
def a_Linked_with_statements (F_Linked : AFn) : ATS :=
    (aRet (aMake "Linked" F_Linked (aCons (aVar 1) (aCons (aFld "Linked" "_exports" (aVar 0)) (aCons (aFld "Linked" "_variables" (aVar 0)) aNil)))))
abbrev n_Linked_with_statements : Nat := 2
def a__law_cell : ATS :=
    (aSeq (aIfS (aB (aOp oLt (aVar 1) (aCB cLen (aCons (aVar 0) aNil)))) (aRet (aCB cInt (aCons (aIx (aVar 0) (aVar 1)) aNil))) aNext)
    (aRet (aC (.int 0))))
abbrev n__law_cell : Nat := 2
def a__law_numbers : ATS :=
    (aSeq (aAsg (aLst aNil) (agName 2))
    (aSeq (aAsg (aCB cAbs (aCons (aVar 0) aNil)) (agName 3))
    (aSeq (aIfS (aB (aOp oGe (aVar 3) (aC (.int 1000000000000000000)))) (aSeq (aFor (aiRng1 (aCons (aVar 1) aNil)) (agName 4) (aSeq (aDrop (aAppend (aVar 2) (aOp oMod (aCB cInt (aCons (aVar 3) aNil)) (aC (.int 1048576)))))
    (aAsg (aOp oDiv (aVar 3) (aC (.int 1048576))) (agName 3))))
    (aRet (aVar 2))) aNext)
    (aSeq (aFor (aiRng1 (aCons (aVar 1) aNil)) (agName 4) (aSeq (aAsg (aOp oMod (aCB cInt (aCons (aOp oAdd (aOp oAdd (aOp oMul (aVar 3) (aC (.int 48271))) (aOp oMul (aVar 4) (aC (.int 7919)))) (aC (.int 11))) aNil)) (aC (.int 2147483647))) (agName 3))
    (aDrop (aAppend (aVar 2) (aOp oMod (aOp oMod (aCB cInt (aCons (aOp oMul (aVar 3) (aC (.int 69621))) aNil)) (aC (.int 2147483629))) (aC (.int 1048576)))))))
    (aRet (aVar 2))))))
abbrev n__law_numbers : Nat := 5
def a__law_feed (F__law_numbers : AFn) : ATS :=
    (aRet (aDisp [((aC (.str "at")), (aC (.int 0))), ((aC (.str "numbers")), (aCall F__law_numbers (aCons (aVar 0) (aCons (aVar 1) aNil))))]))
abbrev n__law_feed : Nat := 2
def a__law_take : ATS :=
    (aSeq (aAsg (aIx (aVar 0) (aC (.str "numbers"))) (agName 2))
    (aSeq (aAsg (aIx (aVar 0) (aC (.str "at"))) (agName 3))
    (aSeq (aDPut (aVar 0) (aC (.str "at")) (aOp oAdd (aVar 3) (aC (.int 1))))
    (aRet (aOp oMod (aCB cInt (aCons (aOp oDiv (aIx (aVar 2) (aOp oMod (aVar 3) (aCB cLen (aCons (aVar 2) aNil)))) (aOp oAdd (aC (.int 1)) (aOp oMul (aOp oDiv (aVar 3) (aCB cLen (aCons (aVar 2) aNil))) (aC (.int 7))))) aNil)) (aVar 1))))))
abbrev n__law_take : Nat := 4
def a__law_expr (F__law_take F__law_expr : AFn) : ATS :=
    (aSeq (aAsg (aCall F__law_take (aCons (aVar 0) (aCons (aC (.int 14)) aNil))) (agName 2))
    (aSeq (aIfS (aOr (aB (aOp oEq (aVar 1) (aC (.int 0)))) (aB (aOp oLt (aVar 2) (aC (.int 3))))) (aRet (aIx (aLst (aCons (aTup (aCons (aC (.str "int")) (aCons (aCall F__law_take (aCons (aVar 0) (aCons (aC (.int 65536)) aNil))) aNil))) (aCons (aTup (aCons (aC (.str "int")) (aCons (aIx (aLst (aCons (aC (.int 0)) (aCons (aC (.int 1)) (aCons (aC (.int 8)) (aCons (aC (.int 65535)) aNil))))) (aCall F__law_take (aCons (aVar 0) (aCons (aC (.int 4)) aNil)))) aNil))) (aCons (aTup (aCons (aC (.str "bool")) (aCons (aC (.bl true)) aNil))) (aCons (aTup (aCons (aC (.str "bool")) (aCons (aC (.bl false)) aNil))) (aCons (aTup (aCons (aC (.str "none")) aNil)) (aCons (aTup (aCons (aC (.str "var")) (aCons (aC (.int 0)) aNil))) (aCons (aTup (aCons (aC (.str "var")) (aCons (aC (.int 1)) aNil))) aNil)))))))) (aCall F__law_take (aCons (aVar 0) (aCons (aC (.int 7)) aNil))))) aNext)
    (aSeq (aIfS (aB (aOp oLt (aVar 2) (aC (.int 11)))) (aSeq (aAsg (aIx (aLst (aCons (aC (.str "add")) (aCons (aC (.str "sub")) (aCons (aC (.str "mul")) (aCons (aC (.str "lt")) (aCons (aC (.str "eq")) (aCons (aC (.str "and")) (aCons (aC (.str "or")) (aCons (aC (.str "and")) aNil))))))))) (aOp oSub (aVar 2) (aC (.int 3)))) (agName 3))
    (aRet (aTup (aCons (aVar 3) (aCons (aCall F__law_expr (aCons (aVar 0) (aCons (aOp oSub (aVar 1) (aC (.int 1))) aNil))) (aCons (aCall F__law_expr (aCons (aVar 0) (aCons (aOp oSub (aVar 1) (aC (.int 1))) aNil))) aNil)))))) aNext)
    (aSeq (aIfS (aB (aOp oEq (aVar 2) (aC (.int 11)))) (aRet (aTup (aCons (aC (.str "not")) (aCons (aCall F__law_expr (aCons (aVar 0) (aCons (aOp oSub (aVar 1) (aC (.int 1))) aNil))) aNil)))) aNext)
    (aSeq (aIfS (aB (aOp oEq (aVar 2) (aC (.int 12)))) (aRet (aTup (aCons (aC (.str "call")) (aCons (aCall F__law_expr (aCons (aVar 0) (aCons (aOp oSub (aVar 1) (aC (.int 1))) aNil))) (aCons (aTup (aCons (aCall F__law_expr (aCons (aVar 0) (aCons (aOp oSub (aVar 1) (aC (.int 1))) aNil))) aNil)) aNil))))) aNext)
    (aRet (aIx (aLst (aCons (aTup (aCons (aC (.str "ask")) (aCons (aCall F__law_expr (aCons (aVar 0) (aCons (aOp oSub (aVar 1) (aC (.int 1))) aNil))) (aCons (aC (.int 5)) aNil)))) (aCons (aTup (aCons (aC (.str "lambda")) (aCons (aTup (aCons (aC (.int 7)) aNil)) (aCons (aTup (aCons (aTup (aCons (aC (.str "tell")) (aCons (aCall F__law_expr (aCons (aVar 0) (aCons (aOp oSub (aVar 1) (aC (.int 1))) aNil))) (aCons (aC (.int 9)) aNil)))) aNil)) aNil)))) aNil))) (aCall F__law_take (aCons (aVar 0) (aCons (aC (.int 2)) aNil))))))))))
abbrev n__law_expr : Nat := 4
def a__law_fold (F__law_fold_b F__law_fold : AFn) : ATS :=
    (aSeq (aAsg (aIx (aVar 0) (aC (.int 0))) (agName 1))
    (aSeq (aIfS (aB (aOp oIn (aVar 1) (aLst (aCons (aC (.str "int")) (aCons (aC (.str "bool")) (aCons (aC (.str "none")) (aCons (aC (.str "var")) aNil))))))) (aRet (aVar 0)) aNext)
    (aSeq (aIfS (aB (aOp oEq (aVar 1) (aC (.str "lambda")))) (aRet (aTup (aCons (aC (.str "lambda")) (aCons (aIx (aVar 0) (aC (.int 1))) (aCons (aCall F__law_fold_b (aCons (aIx (aVar 0) (aC (.int 2))) aNil)) aNil))))) aNext)
    (aSeq (aIfS (aB (aOp oEq (aVar 1) (aC (.str "call")))) (aRet (aTup (aCons (aC (.str "call")) (aCons (aCall F__law_fold (aCons (aIx (aVar 0) (aC (.int 1))) aNil)) (aCons (aCB cTuple (aCons (aLc (aiAny (aIx (aVar 0) (aC (.int 2)))) (agName 2) aYes (aCall F__law_fold (aCons (aVar 2) aNil)) [2]) aNil)) aNil))))) aNext)
    (aSeq (aAsg (aCall F__law_fold (aCons (aIx (aVar 0) (aC (.int 1))) aNil)) (agName 2))
    (aSeq (aIfS (aB (aOp oEq (aVar 1) (aC (.str "ask")))) (aRet (aTup (aCons (aC (.str "ask")) (aCons (aVar 2) (aCons (aIx (aVar 0) (aC (.int 2))) aNil))))) aNext)
    (aSeq (aIfS (aB (aOp oEq (aVar 1) (aC (.str "not")))) (aSeq (aIfS (aB (aOp oEq (aIx (aVar 2) (aC (.int 0))) (aC (.str "bool")))) (aRet (aTup (aCons (aC (.str "bool")) (aCons (aNotV (aIx (aVar 2) (aC (.int 1)))) aNil)))) aNext)
    (aRet (aTup (aCons (aC (.str "not")) (aCons (aVar 2) aNil))))) aNext)
    (aSeq (aAsg (aCall F__law_fold (aCons (aIx (aVar 0) (aC (.int 2))) aNil)) (agName 3))
    (aSeq (aIfS (aB (aOp oIn (aVar 1) (aLst (aCons (aC (.str "and")) (aCons (aC (.str "or")) aNil))))) (aSeq (aIfS (aB (aOp oEq (aVar 2) (aTup (aCons (aC (.str "bool")) (aCons (aOp oEq (aVar 1) (aC (.str "or"))) aNil))))) (aRet (aVar 2)) aNext)
    (aSeq (aIfS (aAnd (aB (aOp oEq (aIx (aVar 2) (aC (.int 0))) (aC (.str "bool")))) (aB (aOp oIn (aIx (aVar 3) (aC (.int 0))) (aLst (aCons (aC (.str "bool")) (aCons (aC (.str "lt")) (aCons (aC (.str "eq")) (aCons (aC (.str "not")) (aCons (aC (.str "and")) (aCons (aC (.str "or")) aNil)))))))))) (aRet (aVar 3)) aNext)
    (aRet (aTup (aCons (aVar 1) (aCons (aVar 2) (aCons (aVar 3) aNil))))))) aNext)
    (aSeq (aAsg (aLst (aCons (aC (.str "int")) (aCons (aC (.str "bool")) (aCons (aC (.str "none")) aNil)))) (agName 4))
    (aSeq (aIfS (aAnd (aB (aOp oEq (aVar 1) (aC (.str "eq")))) (aAnd (aB (aOp oIn (aIx (aVar 2) (aC (.int 0))) (aVar 4))) (aB (aOp oIn (aIx (aVar 3) (aC (.int 0))) (aVar 4))))) (aRet (aTup (aCons (aC (.str "bool")) (aCons (aOp oEq (aCB cRepr (aCons (aVar 2) aNil)) (aCB cRepr (aCons (aVar 3) aNil))) aNil)))) aNext)
    (aSeq (aIfS (aAnd (aB (aOp oEq (aIx (aVar 2) (aC (.int 0))) (aC (.str "int")))) (aB (aOp oEq (aIx (aVar 3) (aC (.int 0))) (aC (.str "int"))))) (aSeq (aIfS (aB (aOp oEq (aVar 1) (aC (.str "lt")))) (aRet (aTup (aCons (aC (.str "bool")) (aCons (aOp oLt (aIx (aVar 2) (aC (.int 1))) (aIx (aVar 3) (aC (.int 1)))) aNil)))) aNext)
    (aSeq (aAsg (aDisp [((aC (.str "add")), (aOp oAdd (aIx (aVar 2) (aC (.int 1))) (aIx (aVar 3) (aC (.int 1))))), ((aC (.str "sub")), (aOp oSub (aIx (aVar 2) (aC (.int 1))) (aIx (aVar 3) (aC (.int 1))))), ((aC (.str "mul")), (aOp oMul (aIx (aVar 2) (aC (.int 1))) (aIx (aVar 3) (aC (.int 1)))))]) (agName 5))
    (aRet (aTup (aCons (aC (.str "int")) (aCons (aOp oMod (aCB cInt (aCons (aIx (aVar 5) (aVar 1)) aNil)) (aC (.int 65536))) aNil)))))) aNext)
    (aRet (aTup (aCons (aVar 1) (aCons (aVar 2) (aCons (aVar 3) aNil)))))))))))))))))
abbrev n__law_fold : Nat := 6
def a__law_fold_b (F__law_fold_s : AFn) : ATS :=
    (aRet (aCB cTuple (aCons (aLc (aiAny (aVar 0)) (agName 1) aYes (aCall F__law_fold_s (aCons (aVar 1) aNil)) [1]) aNil)))
abbrev n__law_fold_b : Nat := 2
def a__law_fold_s (F__law_fold F__law_fold_b : AFn) : ATS :=
    (aSeq (aAsg (aIx (aVar 0) (aC (.int 0))) (agName 1))
    (aSeq (aIfS (aB (aOp oIn (aVar 1) (aLst (aCons (aC (.str "let")) (aCons (aC (.str "set")) aNil))))) (aRet (aTup (aCons (aVar 1) (aCons (aIx (aVar 0) (aC (.int 1))) (aCons (aCall F__law_fold (aCons (aIx (aVar 0) (aC (.int 2))) aNil)) (aCons (aIx (aVar 0) (aC (.int 3))) aNil)))))) aNext)
    (aSeq (aIfS (aB (aOp oIn (aVar 1) (aLst (aCons (aC (.str "do")) (aCons (aC (.str "tell")) (aCons (aC (.str "throw")) (aCons (aC (.str "return")) aNil))))))) (aRet (aTup (aCons (aVar 1) (aCons (aCall F__law_fold (aCons (aIx (aVar 0) (aC (.int 1))) aNil)) (aCons (aIx (aVar 0) (aC (.int 2))) aNil))))) aNext)
    (aSeq (aIfS (aB (aOp oEq (aVar 1) (aC (.str "fun")))) (aRet (aTup (aCons (aC (.str "fun")) (aCons (aIx (aVar 0) (aC (.int 1))) (aCons (aIx (aVar 0) (aC (.int 2))) (aCons (aCall F__law_fold_b (aCons (aIx (aVar 0) (aC (.int 3))) aNil)) (aCons (aIx (aVar 0) (aC (.int 4))) aNil))))))) aNext)
    (aSeq (aIfS (aB (aOp oEq (aVar 1) (aC (.str "block")))) (aRet (aTup (aCons (aC (.str "block")) (aCons (aCall F__law_fold_b (aCons (aIx (aVar 0) (aC (.int 1))) aNil)) (aCons (aIx (aVar 0) (aC (.int 2))) aNil))))) aNext)
    (aSeq (aIfS (aB (aOp oEq (aVar 1) (aC (.str "try")))) (aRet (aTup (aCons (aC (.str "try")) (aCons (aCall F__law_fold_b (aCons (aIx (aVar 0) (aC (.int 1))) aNil)) (aCons (aIx (aVar 0) (aC (.int 2))) (aCons (aCall F__law_fold_b (aCons (aIx (aVar 0) (aC (.int 3))) aNil)) (aCons (aIx (aVar 0) (aC (.int 4))) aNil))))))) aNext)
    (aSeq (aAsg (aCall F__law_fold (aCons (aIx (aVar 0) (aC (.int 1))) aNil)) (agName 2))
    (aSeq (aIfS (aB (aOp oEq (aVar 1) (aC (.str "repeat")))) (aSeq (aIfS (aAnd (aB (aOp oEq (aIx (aVar 2) (aC (.int 0))) (aC (.str "int")))) (aB (aOp oEq (aOp oMod (aCB cInt (aCons (aIx (aVar 2) (aC (.int 1))) aNil)) (aC (.int 8))) (aC (.int 0))))) (aRet (aTup (aCons (aC (.str "block")) (aCons (aTup aNil) (aCons (aIx (aVar 0) (aC (.int 3))) aNil))))) aNext)
    (aRet (aTup (aCons (aC (.str "repeat")) (aCons (aVar 2) (aCons (aCall F__law_fold_b (aCons (aIx (aVar 0) (aC (.int 2))) aNil)) (aCons (aIx (aVar 0) (aC (.int 3))) aNil))))))) aNext)
    (aSeq (aIfS (aB (aOp oEq (aVar 2) (aTup (aCons (aC (.str "bool")) (aCons (aC (.bl true)) aNil))))) (aRet (aTup (aCons (aC (.str "block")) (aCons (aCall F__law_fold_b (aCons (aIx (aVar 0) (aC (.int 2))) aNil)) (aCons (aIx (aVar 0) (aC (.int 4))) aNil))))) aNext)
    (aSeq (aIfS (aB (aOp oEq (aVar 2) (aTup (aCons (aC (.str "bool")) (aCons (aC (.bl false)) aNil))))) (aRet (aTup (aCons (aC (.str "block")) (aCons (aCall F__law_fold_b (aCons (aIx (aVar 0) (aC (.int 3))) aNil)) (aCons (aIx (aVar 0) (aC (.int 4))) aNil))))) aNext)
    (aRet (aTup (aCons (aC (.str "if")) (aCons (aVar 2) (aCons (aCall F__law_fold_b (aCons (aIx (aVar 0) (aC (.int 2))) aNil)) (aCons (aCall F__law_fold_b (aCons (aIx (aVar 0) (aC (.int 3))) aNil)) (aCons (aIx (aVar 0) (aC (.int 4))) aNil)))))))))))))))))
abbrev n__law_fold_s : Nat := 3
def a__law_ends (F__law_ends : AFn) : ATS :=
    (aSeq (aAsg (aIx (aVar 0) (aC (.int 0))) (agName 1))
    (aSeq (aIfS (aB (aOp oIn (aVar 1) (aLst (aCons (aC (.str "return")) (aCons (aC (.str "throw")) aNil))))) (aRet (aC (.bl true))) aNext)
    (aSeq (aIfS (aB (aOp oEq (aVar 1) (aC (.str "block")))) (aRet (aOp oIn (aC (.bl true)) (aLc (aiAny (aIx (aVar 0) (aC (.int 1)))) (agName 2) aYes (aCall F__law_ends (aCons (aVar 2) aNil)) [2]))) aNext)
    (aSeq (aIfS (aB (aOp oEq (aVar 1) (aC (.str "if")))) (aSeq (aAsg (aOp oIn (aC (.bl true)) (aLc (aiAny (aIx (aVar 0) (aC (.int 2)))) (agName 2) aYes (aCall F__law_ends (aCons (aVar 2) aNil)) [2])) (agName 3))
    (aRet (aAndV (aVar 3) (aOp oIn (aC (.bl true)) (aLc (aiAny (aIx (aVar 0) (aC (.int 3)))) (agName 2) aYes (aCall F__law_ends (aCons (aVar 2) aNil)) [2]))))) aNext)
    (aRet (aC (.bl false)))))))
abbrev n__law_ends : Nat := 4
def a__law_rows (F__law_take F__law_expr F__law_rows : AFn) : ATS :=
    (aSeq (aAsg (aLst aNil) (agName 2))
    (aSeq (aFor (aiRng1 (aCons (aCall F__law_take (aCons (aVar 0) (aCons (aC (.int 5)) aNil))) aNil)) (agName 3) (aSeq (aAsg (aCall F__law_take (aCons (aVar 0) (aCons (aC (.int 9)) aNil))) (agName 4))
    (aIfS (aB (aOp oEq (aVar 4) (aC (.int 0)))) (aDrop (aAppend (aVar 2) (aTup (aCons (aC (.str "return")) (aCons (aCall F__law_expr (aCons (aVar 0) (aCons (aC (.int 2)) aNil))) (aCons (aVar 3) aNil)))))) (aIfS (aB (aOp oEq (aVar 4) (aC (.int 1)))) (aDrop (aAppend (aVar 2) (aTup (aCons (aIx (aLst (aCons (aC (.str "throw")) (aCons (aC (.str "do")) aNil))) (aCall F__law_take (aCons (aVar 0) (aCons (aC (.int 2)) aNil)))) (aCons (aCall F__law_expr (aCons (aVar 0) (aCons (aC (.int 2)) aNil))) (aCons (aVar 3) aNil)))))) (aIfS (aB (aOp oEq (aVar 4) (aC (.int 2)))) (aDrop (aAppend (aVar 2) (aTup (aCons (aIx (aLst (aCons (aC (.str "let")) (aCons (aC (.str "set")) aNil))) (aCall F__law_take (aCons (aVar 0) (aCons (aC (.int 2)) aNil)))) (aCons (aOp oAdd (aC (.int 3)) (aVar 3)) (aCons (aCall F__law_expr (aCons (aVar 0) (aCons (aC (.int 2)) aNil))) (aCons (aVar 3) aNil))))))) (aIfS (aAnd (aB (aOp oEq (aVar 4) (aC (.int 3)))) (aB (aOp oGt (aVar 1) (aC (.int 0))))) (aDrop (aAppend (aVar 2) (aTup (aCons (aC (.str "block")) (aCons (aCall F__law_rows (aCons (aVar 0) (aCons (aOp oSub (aVar 1) (aC (.int 1))) aNil))) (aCons (aVar 3) aNil)))))) (aIfS (aAnd (aB (aOp oEq (aVar 4) (aC (.int 4)))) (aB (aOp oGt (aVar 1) (aC (.int 0))))) (aDrop (aAppend (aVar 2) (aTup (aCons (aC (.str "if")) (aCons (aCall F__law_expr (aCons (aVar 0) (aCons (aC (.int 2)) aNil))) (aCons (aCall F__law_rows (aCons (aVar 0) (aCons (aOp oSub (aVar 1) (aC (.int 1))) aNil))) (aCons (aCall F__law_rows (aCons (aVar 0) (aCons (aOp oSub (aVar 1) (aC (.int 1))) aNil))) (aCons (aVar 3) aNil)))))))) (aIfS (aAnd (aB (aOp oEq (aVar 4) (aC (.int 5)))) (aB (aOp oGt (aVar 1) (aC (.int 0))))) (aDrop (aAppend (aVar 2) (aTup (aCons (aC (.str "try")) (aCons (aCall F__law_rows (aCons (aVar 0) (aCons (aOp oSub (aVar 1) (aC (.int 1))) aNil))) (aCons (aC (.int 40)) (aCons (aCall F__law_rows (aCons (aVar 0) (aCons (aOp oSub (aVar 1) (aC (.int 1))) aNil))) (aCons (aVar 3) aNil)))))))) (aIfS (aAnd (aB (aOp oEq (aVar 4) (aC (.int 6)))) (aB (aOp oGt (aVar 1) (aC (.int 0))))) (aDrop (aAppend (aVar 2) (aTup (aCons (aC (.str "fun")) (aCons (aOp oAdd (aC (.int 50)) (aVar 3)) (aCons (aTup aNil) (aCons (aCall F__law_rows (aCons (aVar 0) (aCons (aOp oSub (aVar 1) (aC (.int 1))) aNil))) (aCons (aVar 3) aNil)))))))) (aIfS (aAnd (aB (aOp oEq (aVar 4) (aC (.int 7)))) (aB (aOp oGt (aVar 1) (aC (.int 0))))) (aDrop (aAppend (aVar 2) (aTup (aCons (aC (.str "repeat")) (aCons (aCall F__law_expr (aCons (aVar 0) (aCons (aC (.int 1)) aNil))) (aCons (aCall F__law_rows (aCons (aVar 0) (aCons (aOp oSub (aVar 1) (aC (.int 1))) aNil))) (aCons (aVar 3) aNil))))))) (aDrop (aAppend (aVar 2) (aTup (aCons (aC (.str "tell")) (aCons (aCall F__law_expr (aCons (aVar 0) (aCons (aC (.int 2)) aNil))) (aCons (aVar 3) aNil))))))))))))))))
    (aRet (aCB cTuple (aCons (aVar 2) aNil)))))
abbrev n__law_rows : Nat := 5
def a__law_alive (F__law_alive_row F__law_ends : AFn) : ATS :=
    (aSeq (aAsg (aLst aNil) (agName 1))
    (aSeq (aAsg (aC (.bl false)) (agName 2))
    (aSeq (aFor (aiAny (aVar 0)) (agName 3) (aSeq (aIfS (aOr (aNot (aB (aVar 2))) (aB (aOp oIn (aIx (aVar 3) (aC (.int 0))) (aLst (aCons (aC (.str "let")) (aCons (aC (.str "fun")) aNil)))))) (aDrop (aAppend (aVar 1) (aCall F__law_alive_row (aCons (aVar 3) aNil)))) aNext)
    (aAsg (aOrV (aVar 2) (aCall F__law_ends (aCons (aVar 3) aNil))) (agName 2))))
    (aRet (aCB cTuple (aCons (aVar 1) aNil))))))
abbrev n__law_alive : Nat := 4
def a__law_alive_row (F__law_alive F__law_alive_e : AFn) : ATS :=
    (aSeq (aIfS (aB (aOp oEq (aIx (aVar 0) (aC (.int 0))) (aC (.str "block")))) (aRet (aTup (aCons (aC (.str "block")) (aCons (aCall F__law_alive (aCons (aIx (aVar 0) (aC (.int 1))) aNil)) (aCons (aIx (aVar 0) (aC (.int 2))) aNil))))) aNext)
    (aSeq (aIfS (aB (aOp oEq (aIx (aVar 0) (aC (.int 0))) (aC (.str "if")))) (aRet (aTup (aCons (aC (.str "if")) (aCons (aCall F__law_alive_e (aCons (aIx (aVar 0) (aC (.int 1))) aNil)) (aCons (aCall F__law_alive (aCons (aIx (aVar 0) (aC (.int 2))) aNil)) (aCons (aCall F__law_alive (aCons (aIx (aVar 0) (aC (.int 3))) aNil)) (aCons (aIx (aVar 0) (aC (.int 4))) aNil))))))) aNext)
    (aSeq (aIfS (aB (aOp oEq (aIx (aVar 0) (aC (.int 0))) (aC (.str "try")))) (aRet (aTup (aCons (aC (.str "try")) (aCons (aCall F__law_alive (aCons (aIx (aVar 0) (aC (.int 1))) aNil)) (aCons (aIx (aVar 0) (aC (.int 2))) (aCons (aCall F__law_alive (aCons (aIx (aVar 0) (aC (.int 3))) aNil)) (aCons (aIx (aVar 0) (aC (.int 4))) aNil))))))) aNext)
    (aSeq (aIfS (aB (aOp oEq (aIx (aVar 0) (aC (.int 0))) (aC (.str "fun")))) (aRet (aTup (aCons (aC (.str "fun")) (aCons (aIx (aVar 0) (aC (.int 1))) (aCons (aIx (aVar 0) (aC (.int 2))) (aCons (aCall F__law_alive (aCons (aIx (aVar 0) (aC (.int 3))) aNil)) (aCons (aIx (aVar 0) (aC (.int 4))) aNil))))))) aNext)
    (aSeq (aIfS (aB (aOp oEq (aIx (aVar 0) (aC (.int 0))) (aC (.str "repeat")))) (aRet (aTup (aCons (aC (.str "repeat")) (aCons (aCall F__law_alive_e (aCons (aIx (aVar 0) (aC (.int 1))) aNil)) (aCons (aCall F__law_alive (aCons (aIx (aVar 0) (aC (.int 2))) aNil)) (aCons (aIx (aVar 0) (aC (.int 3))) aNil)))))) aNext)
    (aSeq (aIfS (aB (aOp oIn (aIx (aVar 0) (aC (.int 0))) (aLst (aCons (aC (.str "let")) (aCons (aC (.str "set")) aNil))))) (aRet (aTup (aCons (aIx (aVar 0) (aC (.int 0))) (aCons (aIx (aVar 0) (aC (.int 1))) (aCons (aCall F__law_alive_e (aCons (aIx (aVar 0) (aC (.int 2))) aNil)) (aCons (aIx (aVar 0) (aC (.int 3))) aNil)))))) aNext)
    (aRet (aTup (aCons (aIx (aVar 0) (aC (.int 0))) (aCons (aCall F__law_alive_e (aCons (aIx (aVar 0) (aC (.int 1))) aNil)) (aCons (aIx (aVar 0) (aC (.int 2))) aNil)))))))))))
abbrev n__law_alive_row : Nat := 1
def a__law_alive_e (F__law_alive F__law_alive_e : AFn) : ATS :=
    (aSeq (aAsg (aIx (aVar 0) (aC (.int 0))) (agName 1))
    (aSeq (aIfS (aB (aOp oIn (aVar 1) (aLst (aCons (aC (.str "int")) (aCons (aC (.str "bool")) (aCons (aC (.str "none")) (aCons (aC (.str "var")) aNil))))))) (aRet (aVar 0)) aNext)
    (aSeq (aIfS (aB (aOp oEq (aVar 1) (aC (.str "lambda")))) (aRet (aTup (aCons (aC (.str "lambda")) (aCons (aIx (aVar 0) (aC (.int 1))) (aCons (aCall F__law_alive (aCons (aIx (aVar 0) (aC (.int 2))) aNil)) aNil))))) aNext)
    (aSeq (aIfS (aB (aOp oEq (aVar 1) (aC (.str "call")))) (aRet (aTup (aCons (aC (.str "call")) (aCons (aCall F__law_alive_e (aCons (aIx (aVar 0) (aC (.int 1))) aNil)) (aCons (aCB cTuple (aCons (aLc (aiAny (aIx (aVar 0) (aC (.int 2)))) (agName 2) aYes (aCall F__law_alive_e (aCons (aVar 2) aNil)) [2]) aNil)) aNil))))) aNext)
    (aSeq (aIfS (aB (aOp oEq (aVar 1) (aC (.str "ask")))) (aRet (aTup (aCons (aC (.str "ask")) (aCons (aCall F__law_alive_e (aCons (aIx (aVar 0) (aC (.int 1))) aNil)) (aCons (aIx (aVar 0) (aC (.int 2))) aNil))))) aNext)
    (aSeq (aIfS (aB (aOp oEq (aVar 1) (aC (.str "not")))) (aRet (aTup (aCons (aC (.str "not")) (aCons (aCall F__law_alive_e (aCons (aIx (aVar 0) (aC (.int 1))) aNil)) aNil)))) aNext)
    (aRet (aTup (aCons (aVar 1) (aCons (aCall F__law_alive_e (aCons (aIx (aVar 0) (aC (.int 1))) aNil)) (aCons (aCall F__law_alive_e (aCons (aIx (aVar 0) (aC (.int 2))) aNil)) aNil)))))))))))
abbrev n__law_alive_e : Nat := 3
def a_law (F__law_cell F__law_feed F__law_expr F__law_fold F_fold_expression F_fold_statement F__law_rows F_always_ends F__law_ends F_Linked F_fold F_Linked_statements F__law_fold_s F_Linked_exports F_Linked_variables F_dead F__law_alive : AFn) : ATS :=
    (aSeq (aAsg (aCall F__law_feed (aCons (aCall F__law_cell (aCons (aVar 0) (aCons (aC (.int 0)) aNil))) (aCons (aC (.int 40)) aNil))) (agName 1))
    (aSeq (aFor (aiRng1 (aCons (aC (.int 4)) aNil)) (agName 2) (aSeq (aAsg (aCall F__law_expr (aCons (aVar 1) (aCons (aC (.int 4)) aNil))) (agName 3))
    (aSeq (aAsg (aCall F__law_fold (aCons (aVar 3) aNil)) (agName 4))
    (aSeq (aIfS (aOr (aB (aOp oNe (aCB cRepr (aCons (aCall F_fold_expression (aCons (aVar 3) aNil)) aNil)) (aCB cRepr (aCons (aVar 4) aNil)))) (aB (aOp oNe (aCB cRepr (aCons (aCall F_fold_expression (aCons (aVar 4) aNil)) aNil)) (aCB cRepr (aCons (aVar 4) aNil))))) (aRet (aC (.bl false))) aNext)
    (aSeq (aAsg (aTup (aCons (aTup (aCons (aC (.str "tell")) (aCons (aVar 3) (aCons (aC (.int 1)) aNil)))) aNil)) (agName 5))
    (aSeq (aAsg (aTup (aCons (aTup (aCons (aC (.str "throw")) (aCons (aVar 4) (aCons (aC (.int 2)) aNil)))) aNil)) (agName 6))
    (aSeq (aAsg (aTup (aCons (aTup (aCons (aC (.str "tell")) (aCons (aVar 4) (aCons (aC (.int 1)) aNil)))) aNil)) (agName 7))
    (aSeq (aAsg (aTup (aCons (aC (.str "if")) (aCons (aVar 4) (aCons (aVar 7) (aCons (aVar 6) (aCons (aC (.int 3)) aNil)))))) (agName 8))
    (aSeq (aIfS (aB (aOp oEq (aVar 4) (aTup (aCons (aC (.str "bool")) (aCons (aC (.bl true)) aNil))))) (aAsg (aTup (aCons (aC (.str "block")) (aCons (aVar 7) (aCons (aC (.int 3)) aNil)))) (agName 8)) aNext)
    (aSeq (aIfS (aB (aOp oEq (aVar 4) (aTup (aCons (aC (.str "bool")) (aCons (aC (.bl false)) aNil))))) (aAsg (aTup (aCons (aC (.str "block")) (aCons (aVar 6) (aCons (aC (.int 3)) aNil)))) (agName 8)) aNext)
    (aSeq (aIfS (aB (aOp oNe (aCB cRepr (aCons (aCall F_fold_statement (aCons (aTup (aCons (aC (.str "if")) (aCons (aVar 3) (aCons (aVar 5) (aCons (aVar 6) (aCons (aC (.int 3)) aNil)))))) aNil)) aNil)) (aCB cRepr (aCons (aVar 8) aNil)))) (aRet (aC (.bl false))) aNext)
    (aSeq (aAsg (aTup (aCons (aC (.str "repeat")) (aCons (aVar 4) (aCons (aVar 7) (aCons (aC (.int 4)) aNil))))) (agName 8))
    (aSeq (aIfS (aAnd (aB (aOp oEq (aIx (aVar 4) (aC (.int 0))) (aC (.str "int")))) (aB (aOp oEq (aOp oMod (aIx (aVar 4) (aC (.int 1))) (aC (.int 8))) (aC (.int 0))))) (aAsg (aTup (aCons (aC (.str "block")) (aCons (aTup aNil) (aCons (aC (.int 4)) aNil)))) (agName 8)) aNext)
    (aIfS (aB (aOp oNe (aCB cRepr (aCons (aCall F_fold_statement (aCons (aTup (aCons (aC (.str "repeat")) (aCons (aVar 3) (aCons (aVar 5) (aCons (aC (.int 4)) aNil))))) aNil)) aNil)) (aCB cRepr (aCons (aVar 8) aNil)))) (aRet (aC (.bl false))) aNext))))))))))))))
    (aSeq (aAsg (aCall F__law_rows (aCons (aCall F__law_feed (aCons (aCall F__law_cell (aCons (aVar 0) (aCons (aC (.int 1)) aNil))) (aCons (aC (.int 40)) aNil))) (aCons (aC (.int 3)) aNil))) (agName 9))
    (aSeq (aFor (aiAny (aVar 9)) (agName 10) (aIfS (aB (aOp oNe (aCall F_always_ends (aCons (aVar 10) aNil)) (aCall F__law_ends (aCons (aVar 10) aNil)))) (aRet (aC (.bl false))) aNext))
    (aSeq (aAsg (aCall F_fold (aCons (aMake "Linked" F_Linked (aCons (aLc (aiAny (aVar 9)) (agName 10) aYes (aTup (aCons (aC (.str "m")) (aCons (aVar 10) aNil))) [10]) (aCons (aLst (aCons (aTup (aCons (aC (.str "a")) (aCons (aC (.int 1)) aNil))) aNil)) (aCons (aLst (aCons (aTup (aCons (aC (.str "let")) (aCons (aC (.str "a")) (aCons (aC (.str "m")) aNil)))) aNil)) aNil)))) aNil)) (agName 8))
    (aSeq (aIfS (aB (aOp oNe (aCB cRepr (aCons (aMeth "Linked" "statements" F_Linked_statements (aVar 8) aNil) aNil)) (aCB cRepr (aCons (aLc (aiAny (aVar 9)) (agName 10) aYes (aTup (aCons (aC (.str "m")) (aCons (aCall F__law_fold_s (aCons (aVar 10) aNil)) aNil))) [10]) aNil)))) (aRet (aC (.bl false))) aNext)
    (aSeq (aIfS (aOr (aB (aOp oNe (aMeth "Linked" "exports" F_Linked_exports (aVar 8) aNil) (aLst (aCons (aTup (aCons (aC (.str "a")) (aCons (aC (.int 1)) aNil))) aNil)))) (aB (aOp oNe (aMeth "Linked" "variables" F_Linked_variables (aVar 8) aNil) (aLst (aCons (aTup (aCons (aC (.str "let")) (aCons (aC (.str "a")) (aCons (aC (.str "m")) aNil)))) aNil))))) (aRet (aC (.bl false))) aNext)
    (aSeq (aAsg (aCall F_dead (aCons (aMake "Linked" F_Linked (aCons (aLst (aCons (aTup (aCons (aC (.str "m")) (aCons (aTup (aCons (aC (.str "block")) (aCons (aVar 9) (aCons (aC (.int 7)) aNil)))) aNil))) (aCons (aTup (aCons (aC (.str "m")) (aCons (aTup (aCons (aC (.str "throw")) (aCons (aTup (aCons (aC (.str "int")) (aCons (aC (.int 1)) aNil))) (aCons (aC (.int 8)) aNil)))) aNil))) (aCons (aTup (aCons (aC (.str "m")) (aCons (aTup (aCons (aC (.str "tell")) (aCons (aTup (aCons (aC (.str "int")) (aCons (aC (.int 2)) aNil))) (aCons (aC (.int 9)) aNil)))) aNil))) aNil)))) (aCons (aLst aNil) (aCons (aLst aNil) aNil)))) aNil)) (agName 11))
    (aSeq (aAsg (aLst (aCons (aTup (aCons (aC (.str "m")) (aCons (aTup (aCons (aC (.str "block")) (aCons (aCall F__law_alive (aCons (aVar 9) aNil)) (aCons (aC (.int 7)) aNil)))) aNil))) (aCons (aTup (aCons (aC (.str "m")) (aCons (aTup (aCons (aC (.str "throw")) (aCons (aTup (aCons (aC (.str "int")) (aCons (aC (.int 1)) aNil))) (aCons (aC (.int 8)) aNil)))) aNil))) (aCons (aTup (aCons (aC (.str "m")) (aCons (aTup (aCons (aC (.str "tell")) (aCons (aTup (aCons (aC (.str "int")) (aCons (aC (.int 2)) aNil))) (aCons (aC (.int 9)) aNil)))) aNil))) aNil)))) (agName 4))
    (aRet (aOp oEq (aCB cRepr (aCons (aMeth "Linked" "statements" F_Linked_statements (aVar 11) aNil) aNil)) (aCB cRepr (aCons (aVar 4) aNil)))))))))))))
abbrev n_law : Nat := 12
end Ab
namespace Rw
open PySem PySem.Spec
open PyProof.Rows L2 AL Ab
def top (i : Nat) : Stmt := PySem.Challenge.pw_fascicle_k21_folded_expressions.main.body.getD i (.Pass ⟨0, 0, 0, 0⟩)
abbrev s_fold_two : Stmt := top 5
abbrev s_fold_expression : Stmt := top 6
abbrev s_fold_block : Stmt := top 7
abbrev s_fold_statement : Stmt := top 8
abbrev s_fold : Stmt := top 9
abbrev s_dead_expression : Stmt := top 11
abbrev s_always_ends : Stmt := top 12
abbrev s_dead_block : Stmt := top 13
abbrev s_dead_statement : Stmt := top 14
abbrev s_dead : Stmt := top 15
abbrev s_Linked_init : Stmt := inClass (top 17) 0
abbrev s_Linked_statements : Stmt := inClass (top 17) 1
abbrev s_Linked_exports : Stmt := inClass (top 17) 2
abbrev s_Linked_variables : Stmt := inClass (top 17) 3
abbrev s_Linked_with_statements : Stmt := inClass (top 17) 4
abbrev s__law_cell : Stmt := top 19
abbrev s__law_numbers : Stmt := top 20
abbrev s__law_feed : Stmt := top 21
abbrev s__law_take : Stmt := top 22
abbrev s__law_expr : Stmt := top 23
abbrev s__law_fold : Stmt := top 24
abbrev s__law_fold_b : Stmt := top 25
abbrev s__law_fold_s : Stmt := top 26
abbrev s__law_ends : Stmt := top 27
abbrev s__law_rows : Stmt := top 28
abbrev s__law_alive : Stmt := top 29
abbrev s__law_alive_row : Stmt := top 30
abbrev s__law_alive_e : Stmt := top 31
abbrev s_law : Stmt := top 32
structure Facts (K : PySem.W.Frag) (mg : Str → Option Value) : Prop where
  no_abs : mg "abs" = none
  no_any : mg "any" = none
  no_int : mg "int" = none
  no_len : mg "len" = none
  no_list : mg "list" = none
  no_range : mg "range" = none
  no_repr : mg "repr" = none
  no_tuple : mg "tuple" = none
  c_SIZE : GlD K mg "SIZE" C_SIZE
  c_TURNS : GlD K mg "TURNS" C_TURNS
  c_CONSTANTS : GlD K mg "CONSTANTS" C_CONSTANTS
  c_TRUTHS : GlD K mg "TRUTHS" C_TRUTHS
  f_Linked__exports : FieldOk K "Linked" "_exports"
  f_Linked__statements : FieldOk K "Linked" "_statements"
  f_Linked__variables : FieldOk K "Linked" "_variables"
  d_fold_two : ∃ fd, FunD K "fold_two" "fold_two" (defArgs s_fold_two) (defBody s_fold_two) (defScope s_fold_two) [] [] (He.fAd K ("fold_two", none)) fd
  g_fold_two : mg "fold_two" = some (.ref (He.fAd K ("fold_two", none)))
  d_fold_expression : ∃ fd, FunD K "fold_expression" "fold_expression" (defArgs s_fold_expression) (defBody s_fold_expression) (defScope s_fold_expression) [] [] (He.fAd K ("fold_expression", none)) fd
  g_fold_expression : mg "fold_expression" = some (.ref (He.fAd K ("fold_expression", none)))
  d_fold_block : ∃ fd, FunD K "fold_block" "fold_block" (defArgs s_fold_block) (defBody s_fold_block) (defScope s_fold_block) [] [] (He.fAd K ("fold_block", none)) fd
  g_fold_block : mg "fold_block" = some (.ref (He.fAd K ("fold_block", none)))
  d_fold_statement : ∃ fd, FunD K "fold_statement" "fold_statement" (defArgs s_fold_statement) (defBody s_fold_statement) (defScope s_fold_statement) [] [] (He.fAd K ("fold_statement", none)) fd
  g_fold_statement : mg "fold_statement" = some (.ref (He.fAd K ("fold_statement", none)))
  d_fold : ∃ fd, FunD K "fold" "fold" (defArgs s_fold) (defBody s_fold) (defScope s_fold) [] [] (He.fAd K ("fold", none)) fd
  g_fold : mg "fold" = some (.ref (He.fAd K ("fold", none)))
  d_dead_expression : ∃ fd, FunD K "dead_expression" "dead_expression" (defArgs s_dead_expression) (defBody s_dead_expression) (defScope s_dead_expression) [] [] (He.fAd K ("dead_expression", none)) fd
  g_dead_expression : mg "dead_expression" = some (.ref (He.fAd K ("dead_expression", none)))
  d_always_ends : ∃ fd, FunD K "always_ends" "always_ends" (defArgs s_always_ends) (defBody s_always_ends) (defScope s_always_ends) [] [] (He.fAd K ("always_ends", none)) fd
  g_always_ends : mg "always_ends" = some (.ref (He.fAd K ("always_ends", none)))
  d_dead_block : ∃ fd, FunD K "dead_block" "dead_block" (defArgs s_dead_block) (defBody s_dead_block) (defScope s_dead_block) [] [] (He.fAd K ("dead_block", none)) fd
  g_dead_block : mg "dead_block" = some (.ref (He.fAd K ("dead_block", none)))
  d_dead_statement : ∃ fd, FunD K "dead_statement" "dead_statement" (defArgs s_dead_statement) (defBody s_dead_statement) (defScope s_dead_statement) [] [] (He.fAd K ("dead_statement", none)) fd
  g_dead_statement : mg "dead_statement" = some (.ref (He.fAd K ("dead_statement", none)))
  d_dead : ∃ fd, FunD K "dead" "dead" (defArgs s_dead) (defBody s_dead) (defScope s_dead) [] [] (He.fAd K ("dead", none)) fd
  g_dead : mg "dead" = some (.ref (He.fAd K ("dead", none)))
  d_Linked_init : ∃ fd, FunD K "__init__" "Linked.__init__" (defArgs s_Linked_init) (defBody s_Linked_init) (defScope s_Linked_init) [] [] (He.fAd K ("Linked", some "__init__")) fd
  d_Linked_statements : ∃ fd, FunD K "statements" "Linked.statements" (defArgs s_Linked_statements) (defBody s_Linked_statements) (defScope s_Linked_statements) [] [] (He.fAd K ("Linked", some "statements")) fd
  m_Linked_statements : Meth K (He.ga K "Linked") "statements" (He.fAd K ("Linked", some "statements"))
  d_Linked_exports : ∃ fd, FunD K "exports" "Linked.exports" (defArgs s_Linked_exports) (defBody s_Linked_exports) (defScope s_Linked_exports) [] [] (He.fAd K ("Linked", some "exports")) fd
  m_Linked_exports : Meth K (He.ga K "Linked") "exports" (He.fAd K ("Linked", some "exports"))
  d_Linked_variables : ∃ fd, FunD K "variables" "Linked.variables" (defArgs s_Linked_variables) (defBody s_Linked_variables) (defScope s_Linked_variables) [] [] (He.fAd K ("Linked", some "variables")) fd
  m_Linked_variables : Meth K (He.ga K "Linked") "variables" (He.fAd K ("Linked", some "variables"))
  d_Linked_with_statements : ∃ fd, FunD K "with_statements" "Linked.with_statements" (defArgs s_Linked_with_statements) (defBody s_Linked_with_statements) (defScope s_Linked_with_statements) [] [] (He.fAd K ("Linked", some "with_statements")) fd
  m_Linked_with_statements : Meth K (He.ga K "Linked") "with_statements" (He.fAd K ("Linked", some "with_statements"))
  d__law_cell : ∃ fd, FunD K "_law_cell" "_law_cell" (defArgs s__law_cell) (defBody s__law_cell) (defScope s__law_cell) [] [] (He.fAd K ("_law_cell", none)) fd
  g__law_cell : mg "_law_cell" = some (.ref (He.fAd K ("_law_cell", none)))
  d__law_numbers : ∃ fd, FunD K "_law_numbers" "_law_numbers" (defArgs s__law_numbers) (defBody s__law_numbers) (defScope s__law_numbers) [] [] (He.fAd K ("_law_numbers", none)) fd
  g__law_numbers : mg "_law_numbers" = some (.ref (He.fAd K ("_law_numbers", none)))
  d__law_feed : ∃ fd, FunD K "_law_feed" "_law_feed" (defArgs s__law_feed) (defBody s__law_feed) (defScope s__law_feed) [] [] (He.fAd K ("_law_feed", none)) fd
  g__law_feed : mg "_law_feed" = some (.ref (He.fAd K ("_law_feed", none)))
  d__law_take : ∃ fd, FunD K "_law_take" "_law_take" (defArgs s__law_take) (defBody s__law_take) (defScope s__law_take) [] [] (He.fAd K ("_law_take", none)) fd
  g__law_take : mg "_law_take" = some (.ref (He.fAd K ("_law_take", none)))
  d__law_expr : ∃ fd, FunD K "_law_expr" "_law_expr" (defArgs s__law_expr) (defBody s__law_expr) (defScope s__law_expr) [] [] (He.fAd K ("_law_expr", none)) fd
  g__law_expr : mg "_law_expr" = some (.ref (He.fAd K ("_law_expr", none)))
  d__law_fold : ∃ fd, FunD K "_law_fold" "_law_fold" (defArgs s__law_fold) (defBody s__law_fold) (defScope s__law_fold) [] [] (He.fAd K ("_law_fold", none)) fd
  g__law_fold : mg "_law_fold" = some (.ref (He.fAd K ("_law_fold", none)))
  d__law_fold_b : ∃ fd, FunD K "_law_fold_b" "_law_fold_b" (defArgs s__law_fold_b) (defBody s__law_fold_b) (defScope s__law_fold_b) [] [] (He.fAd K ("_law_fold_b", none)) fd
  g__law_fold_b : mg "_law_fold_b" = some (.ref (He.fAd K ("_law_fold_b", none)))
  d__law_fold_s : ∃ fd, FunD K "_law_fold_s" "_law_fold_s" (defArgs s__law_fold_s) (defBody s__law_fold_s) (defScope s__law_fold_s) [] [] (He.fAd K ("_law_fold_s", none)) fd
  g__law_fold_s : mg "_law_fold_s" = some (.ref (He.fAd K ("_law_fold_s", none)))
  d__law_ends : ∃ fd, FunD K "_law_ends" "_law_ends" (defArgs s__law_ends) (defBody s__law_ends) (defScope s__law_ends) [] [] (He.fAd K ("_law_ends", none)) fd
  g__law_ends : mg "_law_ends" = some (.ref (He.fAd K ("_law_ends", none)))
  d__law_rows : ∃ fd, FunD K "_law_rows" "_law_rows" (defArgs s__law_rows) (defBody s__law_rows) (defScope s__law_rows) [] [] (He.fAd K ("_law_rows", none)) fd
  g__law_rows : mg "_law_rows" = some (.ref (He.fAd K ("_law_rows", none)))
  d__law_alive : ∃ fd, FunD K "_law_alive" "_law_alive" (defArgs s__law_alive) (defBody s__law_alive) (defScope s__law_alive) [] [] (He.fAd K ("_law_alive", none)) fd
  g__law_alive : mg "_law_alive" = some (.ref (He.fAd K ("_law_alive", none)))
  d__law_alive_row : ∃ fd, FunD K "_law_alive_row" "_law_alive_row" (defArgs s__law_alive_row) (defBody s__law_alive_row) (defScope s__law_alive_row) [] [] (He.fAd K ("_law_alive_row", none)) fd
  g__law_alive_row : mg "_law_alive_row" = some (.ref (He.fAd K ("_law_alive_row", none)))
  d__law_alive_e : ∃ fd, FunD K "_law_alive_e" "_law_alive_e" (defArgs s__law_alive_e) (defBody s__law_alive_e) (defScope s__law_alive_e) [] [] (He.fAd K ("_law_alive_e", none)) fd
  g__law_alive_e : mg "_law_alive_e" = some (.ref (He.fAd K ("_law_alive_e", none)))
  d_law : ∃ fd, FunD K "law" "law" (defArgs s_law) (defBody s_law) (defScope s_law) [] [] (He.fAd K ("law", none)) fd
  g_law : mg "law" = some (.ref (He.fAd K ("law", none)))
  k_Linked : Cls K (He.ga K "Linked")
  mk_Linked : mg "Linked" = some (.ref (He.ga K "Linked")) ∧ Mk K (He.ga K "Linked") (He.fAd K ("Linked", some "__init__"))
theorem sc_fold_two : FnScope ["head", "one", "two"] ["head", "one", "two"] (defScope s_fold_two) := ⟨rfl, rfl, rfl, by decide +kernel, rfl, by decide +kernel, by decide +kernel⟩
theorem ok_fold_two {P : Program} {w : World} {K : PySem.W.Frag} {mg : Str → Option Value} {base : Heap} (T : Facts K mg) {k : Nat} {G : AFn} 
    (sp : ∀ ds S E Q, G ds S E Q → ds.length = 3 ∧ (a_fold_two) (bodyEnds Q E) (startA 3 ds) S) : FD P w K mg base "fold_two" (k + 1) G := by
  obtain ⟨fd, F⟩ := T.d_fold_two
  exact ⟨_, fd, ["head", "one", "two"], fn_ok F sc_fold_two (fun ds S E Q h => (sp ds S E Q h).1) (fun cdv A outer s H E hr => ⟨a_fold_two, (ass_cons (as_if (AW.at (aw_or (at_cmp (ao_eq (ru64 hr)) (av 0) ae_str) (aw_or1 (at_cmp (ao_eq (ru64 hr)) (av 0) ae_str)))) (ass_cons (as_if (AW.at (aw_and (at_cmp (ao_eq (ru64 hr)) (ae_ix (ru1 hr) (av 1) ae_int) ae_str) (aw_and1 (at_cmp (ao_eq (ru64 hr)) (ae_ix (ru1 hr) (av 1) ae_int) (ae_cmp (ao_eq (ru64 hr)) (av 0) ae_str))))) (ass_one (as_ret (av 1))) ass_nil)
      (ass_cons (as_if (AW.at (aw_and (at_cmp (ao_eq (ru64 hr)) (ae_ix (ru1 hr) (av 1) ae_int) ae_str) (aw_and1 (at_cmp (ao_in (ru65 hr)) (ae_ix (ru1 hr) (av 2) ae_int) (ae_glob T.c_TRUTHS))))) (ass_one (as_ret (av 2))) ass_nil)
      (ass_one (as_ret (ae_tup (aa_cons (av 0) (aa_cons (av 1) (aa_cons (av 2) aa_nil)))))))) ass_nil)
      (ass_cons (as_if (AW.at (aw_and (at_cmp (ao_eq (ru64 hr)) (ae_ix (ru1 hr) (av 1) ae_int) ae_str) (aw_and1 (at_cmp (ao_eq (ru64 hr)) (ae_ix (ru1 hr) (av 2) ae_int) ae_str)))) (ass_cons (as_if (at_cmp (ao_eq (ru64 hr)) (av 0) ae_str) (ass_one (as_ret (ae_tup (aa_cons ae_str (aa_cons (ae_op ao_mod (ae_op ao_add (ae_ix (ru1 hr) (av 1) ae_int) (ae_ix (ru1 hr) (av 2) ae_int)) (ae_glob T.c_SIZE)) aa_nil))))) ass_nil)
      (ass_cons (as_if (at_cmp (ao_eq (ru64 hr)) (av 0) ae_str) (ass_one (as_ret (ae_tup (aa_cons ae_str (aa_cons (ae_op ao_mod (ae_op ao_sub (ae_ix (ru1 hr) (av 1) ae_int) (ae_ix (ru1 hr) (av 2) ae_int)) (ae_glob T.c_SIZE)) aa_nil))))) ass_nil)
      (ass_cons (as_if (at_cmp (ao_eq (ru64 hr)) (av 0) ae_str) (ass_one (as_ret (ae_tup (aa_cons ae_str (aa_cons (ae_op ao_mod (ae_op ao_mul (ae_ix (ru1 hr) (av 1) ae_int) (ae_ix (ru1 hr) (av 2) ae_int)) (ae_glob T.c_SIZE)) aa_nil))))) ass_nil)
      (ass_one (as_if (at_cmp (ao_eq (ru64 hr)) (av 0) ae_str) (ass_one (as_ret (ae_tup (aa_cons ae_str (aa_cons (ae_cmp ao_lt (ae_ix (ru1 hr) (av 1) ae_int) (ae_ix (ru1 hr) (av 2) ae_int)) aa_nil))))) ass_nil))))) ass_nil)
      (ass_cons (as_if (AW.at (aw_and (at_cmp (ao_eq (ru64 hr)) (av 0) ae_str) (aw_and (at_cmp (ao_in (ru65 hr)) (ae_ix (ru1 hr) (av 1) ae_int) (ae_glob T.c_CONSTANTS)) (aw_and1 (at_cmp (ao_in (ru65 hr)) (ae_ix (ru1 hr) (av 2) ae_int) (ae_glob T.c_CONSTANTS)))))) (ass_one (as_ret (ae_tup (aa_cons ae_str (aa_cons (ae_cmp (ao_eq (ru64 hr)) (av 1) (av 2)) aa_nil))))) ass_nil)
      (ass_one (as_ret (ae_tup (aa_cons (av 0) (aa_cons (av 1) (aa_cons (av 2) aa_nil))))))))), fun ds S Ea Qa h => (sp ds S Ea Qa h).2⟩), T.g_fold_two, F.kp, F.bindsN (fun _ _ _ _ _ _ us hl => match us, hl with | [_, _, _], _ => rfl)⟩
theorem z_fold_two {P : Program} {w : World} {K : PySem.W.Frag} {mg : Str → Option Value} {base : Heap} (T : Facts K mg) {k : Nat} : FD P w K mg base "fold_two" k fun _ _ _ _ => False := by
  obtain ⟨fd, F⟩ := T.d_fold_two
  exact ⟨_, fd, ["head", "one", "two"], never_ok, T.g_fold_two, F.kp, F.bindsN (fun _ _ _ _ _ _ us hl => match us, hl with | [_, _, _], _ => rfl)⟩
theorem sc_fold_expression : FnScope ["e", "head", "argument", "inner"] ["e"] (defScope s_fold_expression) := ⟨rfl, rfl, rfl, by decide +kernel, rfl, by decide +kernel, by decide +kernel⟩
theorem ok_fold_expression {P : Program} {w : World} {K : PySem.W.Frag} {mg : Str → Option Value} {base : Heap} (T : Facts K mg) {k : Nat} {G : AFn} {F_fold_block F_fold_expression F_fold_two : AFn} (h_fold_block : FD P w K mg base "fold_block" k F_fold_block) (h_fold_expression : FD P w K mg base "fold_expression" k F_fold_expression) (h_fold_two : FD P w K mg base "fold_two" k F_fold_two)
    (sp : ∀ ds S E Q, G ds S E Q → ds.length = 1 ∧ (a_fold_expression F_fold_block F_fold_expression F_fold_two) (bodyEnds Q E) (startA 4 ds) S) : FD P w K mg base "fold_expression" (k + 1) G := by
  obtain ⟨fd, F⟩ := T.d_fold_expression
  exact ⟨_, fd, ["e"], fn_ok F sc_fold_expression (fun ds S E Q h => (sp ds S E Q h).1) (fun cdv A outer s H E hr => ⟨a_fold_expression F_fold_block F_fold_expression F_fold_two, (ass_cons (as_set sc_fold_expression.nd (ae_ix (ru1 hr) (av 0) ae_int))
      (ass_cons (as_if (AW.at (aw_or (at_cmp (ao_in (ru65 hr)) (av 1) (ae_glob T.c_CONSTANTS)) (aw_or1 (at_cmp (ao_eq (ru64 hr)) (av 1) ae_str)))) (ass_one (as_ret (av 0))) ass_nil)
      (ass_cons (as_if (at_cmp (ao_eq (ru64 hr)) (av 1) ae_str) (ass_one (as_ret (ae_tup (aa_cons ae_str (aa_cons (ae_ix (ru1 hr) (av 0) ae_int) (aa_cons (ae_call h_fold_block hr takesE (aa_cons (ae_ix (ru1 hr) (av 0) ae_int) aa_nil)) aa_nil)))))) ass_nil)
      (ass_cons (as_if (at_cmp (ao_eq (ru64 hr)) (av 1) ae_str) (ass_one (as_ret (ae_tup (aa_cons ae_str (aa_cons (ae_call h_fold_expression hr takesE (aa_cons (ae_ix (ru1 hr) (av 0) ae_int) aa_nil)) (aa_cons (ae_callTy ac_tuple T.no_tuple (aa_cons (ae_lc rfl sc_fold_expression.nd [("argument", 2)] (ai_any (ae_ix (ru1 hr) (av 0) ae_int)) (agc_name (by decide) sc_fold_expression.nd) (fun _ _ _ _ _ => aifs_nil) (fun _ _ _ _ _ => (ae_call h_fold_expression hr takesB (aa_cons (av 2) aa_nil)))) aa_nil)) aa_nil)))))) ass_nil)
      (ass_cons (as_if (at_cmp (ao_eq (ru64 hr)) (av 1) ae_str) (ass_one (as_ret (ae_tup (aa_cons ae_str (aa_cons (ae_call h_fold_expression hr takesE (aa_cons (ae_ix (ru1 hr) (av 0) ae_int) aa_nil)) (aa_cons (ae_ix (ru1 hr) (av 0) ae_int) aa_nil)))))) ass_nil)
      (ass_cons (as_if (at_cmp (ao_eq (ru64 hr)) (av 1) ae_str) (ass_cons (as_set sc_fold_expression.nd (ae_call h_fold_expression hr takesE (aa_cons (ae_ix (ru1 hr) (av 0) ae_int) aa_nil)))
      (ass_cons (as_if (at_cmp (ao_eq (ru64 hr)) (ae_ix (ru1 hr) (av 3) ae_int) ae_str) (ass_one (as_ret (ae_tup (aa_cons ae_str (aa_cons (ae_not (ae_ix (ru1 hr) (av 3) ae_int)) aa_nil))))) ass_nil)
      (ass_one (as_ret (ae_tup (aa_cons ae_str (aa_cons (av 3) aa_nil))))))) ass_nil)
      (ass_one (as_ret (ae_call h_fold_two hr takesE (aa_cons (av 1) (aa_cons (ae_call h_fold_expression hr takesE (aa_cons (ae_ix (ru1 hr) (av 0) ae_int) aa_nil)) (aa_cons (ae_call h_fold_expression hr takesE (aa_cons (ae_ix (ru1 hr) (av 0) ae_int) aa_nil)) aa_nil)))))))))))), fun ds S Ea Qa h => (sp ds S Ea Qa h).2⟩), T.g_fold_expression, F.kp, F.bindsN (fun _ _ _ _ _ _ us hl => match us, hl with | [_], _ => rfl)⟩
theorem z_fold_expression {P : Program} {w : World} {K : PySem.W.Frag} {mg : Str → Option Value} {base : Heap} (T : Facts K mg) {k : Nat} : FD P w K mg base "fold_expression" k fun _ _ _ _ => False := by
  obtain ⟨fd, F⟩ := T.d_fold_expression
  exact ⟨_, fd, ["e"], never_ok, T.g_fold_expression, F.kp, F.bindsN (fun _ _ _ _ _ _ us hl => match us, hl with | [_], _ => rfl)⟩
theorem sc_fold_block : FnScope ["block", "statement"] ["block"] (defScope s_fold_block) := ⟨rfl, rfl, rfl, by decide +kernel, rfl, by decide +kernel, by decide +kernel⟩
theorem ok_fold_block {P : Program} {w : World} {K : PySem.W.Frag} {mg : Str → Option Value} {base : Heap} (T : Facts K mg) {k : Nat} {G : AFn} {F_fold_statement : AFn} (h_fold_statement : FD P w K mg base "fold_statement" k F_fold_statement)
    (sp : ∀ ds S E Q, G ds S E Q → ds.length = 1 ∧ (a_fold_block F_fold_statement) (bodyEnds Q E) (startA 2 ds) S) : FD P w K mg base "fold_block" (k + 1) G := by
  obtain ⟨fd, F⟩ := T.d_fold_block
  exact ⟨_, fd, ["block"], fn_ok F sc_fold_block (fun ds S E Q h => (sp ds S E Q h).1) (fun cdv A outer s H E hr => ⟨a_fold_block F_fold_statement, (ass_one (as_ret (ae_callTy ac_tuple T.no_tuple (aa_cons (ae_lc rfl sc_fold_block.nd [("statement", 1)] (ai_any (av 0)) (agc_name (by decide) sc_fold_block.nd) (fun _ _ _ _ _ => aifs_nil) (fun _ _ _ _ _ => (ae_call h_fold_statement hr takesB (aa_cons (av 1) aa_nil)))) aa_nil)))), fun ds S Ea Qa h => (sp ds S Ea Qa h).2⟩), T.g_fold_block, F.kp, F.bindsN (fun _ _ _ _ _ _ us hl => match us, hl with | [_], _ => rfl)⟩
theorem z_fold_block {P : Program} {w : World} {K : PySem.W.Frag} {mg : Str → Option Value} {base : Heap} (T : Facts K mg) {k : Nat} : FD P w K mg base "fold_block" k fun _ _ _ _ => False := by
  obtain ⟨fd, F⟩ := T.d_fold_block
  exact ⟨_, fd, ["block"], never_ok, T.g_fold_block, F.kp, F.bindsN (fun _ _ _ _ _ _ us hl => match us, hl with | [_], _ => rfl)⟩
theorem sc_fold_statement : FnScope ["statement", "head", "test", "first", "second", "count"] ["statement"] (defScope s_fold_statement) := ⟨rfl, rfl, rfl, by decide +kernel, rfl, by decide +kernel, by decide +kernel⟩
theorem ok_fold_statement {P : Program} {w : World} {K : PySem.W.Frag} {mg : Str → Option Value} {base : Heap} (T : Facts K mg) {k : Nat} {G : AFn} {F_fold_expression F_fold_block : AFn} (h_fold_expression : FD P w K mg base "fold_expression" k F_fold_expression) (h_fold_block : FD P w K mg base "fold_block" k F_fold_block)
    (sp : ∀ ds S E Q, G ds S E Q → ds.length = 1 ∧ (a_fold_statement F_fold_expression F_fold_block) (bodyEnds Q E) (startA 6 ds) S) : FD P w K mg base "fold_statement" (k + 1) G := by
  obtain ⟨fd, F⟩ := T.d_fold_statement
  exact ⟨_, fd, ["statement"], fn_ok F sc_fold_statement (fun ds S E Q h => (sp ds S E Q h).1) (fun cdv A outer s H E hr => ⟨a_fold_statement F_fold_expression F_fold_block, (ass_cons (as_set sc_fold_statement.nd (ae_ix (ru1 hr) (av 0) ae_int))
      (ass_cons (as_if (AW.at (aw_or (at_cmp (ao_eq (ru64 hr)) (av 1) ae_str) (aw_or1 (at_cmp (ao_eq (ru64 hr)) (av 1) ae_str)))) (ass_one (as_ret (ae_tup (aa_cons (av 1) (aa_cons (ae_ix (ru1 hr) (av 0) ae_int) (aa_cons (ae_call h_fold_expression hr takesE (aa_cons (ae_ix (ru1 hr) (av 0) ae_int) aa_nil)) (aa_cons (ae_ix (ru1 hr) (av 0) ae_int) aa_nil))))))) ass_nil)
      (ass_cons (as_if (at_cmp (ao_eq (ru64 hr)) (av 1) ae_str) (ass_one (as_ret (ae_tup (aa_cons ae_str (aa_cons (ae_ix (ru1 hr) (av 0) ae_int) (aa_cons (ae_ix (ru1 hr) (av 0) ae_int) (aa_cons (ae_call h_fold_block hr takesE (aa_cons (ae_ix (ru1 hr) (av 0) ae_int) aa_nil)) (aa_cons (ae_ix (ru1 hr) (av 0) ae_int) aa_nil)))))))) ass_nil)
      (ass_cons (as_if (at_cmp (ao_in (ru65 hr)) (av 1) (ae_tup (aa_cons ae_str (aa_cons ae_str (aa_cons ae_str (aa_cons ae_str aa_nil)))))) (ass_one (as_ret (ae_tup (aa_cons (av 1) (aa_cons (ae_call h_fold_expression hr takesE (aa_cons (ae_ix (ru1 hr) (av 0) ae_int) aa_nil)) (aa_cons (ae_ix (ru1 hr) (av 0) ae_int) aa_nil)))))) ass_nil)
      (ass_cons (as_if (at_cmp (ao_eq (ru64 hr)) (av 1) ae_str) (ass_cons (as_set sc_fold_statement.nd (ae_call h_fold_expression hr takesE (aa_cons (ae_ix (ru1 hr) (av 0) ae_int) aa_nil)))
      (ass_cons (as_set sc_fold_statement.nd (ae_call h_fold_block hr takesE (aa_cons (ae_ix (ru1 hr) (av 0) ae_int) aa_nil)))
      (ass_cons (as_set sc_fold_statement.nd (ae_call h_fold_block hr takesE (aa_cons (ae_ix (ru1 hr) (av 0) ae_int) aa_nil)))
      (ass_cons (as_if (AW.at (aw_and (at_cmp (ao_eq (ru64 hr)) (ae_ix (ru1 hr) (av 2) ae_int) ae_str) (aw_and1 (at_val (ae_ix (ru1 hr) (av 2) ae_int))))) (ass_one (as_ret (ae_tup (aa_cons ae_str (aa_cons (av 3) (aa_cons (ae_ix (ru1 hr) (av 0) ae_int) aa_nil)))))) ass_nil)
      (ass_cons (as_if (at_cmp (ao_eq (ru64 hr)) (ae_ix (ru1 hr) (av 2) ae_int) ae_str) (ass_one (as_ret (ae_tup (aa_cons ae_str (aa_cons (av 4) (aa_cons (ae_ix (ru1 hr) (av 0) ae_int) aa_nil)))))) ass_nil)
      (ass_one (as_ret (ae_tup (aa_cons ae_str (aa_cons (av 2) (aa_cons (av 3) (aa_cons (av 4) (aa_cons (ae_ix (ru1 hr) (av 0) ae_int) aa_nil))))))))))))) ass_nil)
      (ass_cons (as_if (at_cmp (ao_eq (ru64 hr)) (av 1) ae_str) (ass_cons (as_set sc_fold_statement.nd (ae_call h_fold_expression hr takesE (aa_cons (ae_ix (ru1 hr) (av 0) ae_int) aa_nil)))
      (ass_cons (as_if (AW.at (aw_and (at_cmp (ao_eq (ru64 hr)) (ae_ix (ru1 hr) (av 5) ae_int) ae_str) (aw_and1 (at_cmp (ao_eq (ru64 hr)) (ae_op ao_mod (ae_ix (ru1 hr) (av 5) ae_int) (ae_glob T.c_TURNS)) ae_int)))) (ass_one (as_ret (ae_tup (aa_cons ae_str (aa_cons (ae_tup aa_nil) (aa_cons (ae_ix (ru1 hr) (av 0) ae_int) aa_nil)))))) ass_nil)
      (ass_one (as_ret (ae_tup (aa_cons ae_str (aa_cons (av 5) (aa_cons (ae_call h_fold_block hr takesE (aa_cons (ae_ix (ru1 hr) (av 0) ae_int) aa_nil)) (aa_cons (ae_ix (ru1 hr) (av 0) ae_int) aa_nil))))))))) ass_nil)
      (ass_cons (as_if (at_cmp (ao_eq (ru64 hr)) (av 1) ae_str) (ass_one (as_ret (ae_tup (aa_cons ae_str (aa_cons (ae_call h_fold_block hr takesE (aa_cons (ae_ix (ru1 hr) (av 0) ae_int) aa_nil)) (aa_cons (ae_ix (ru1 hr) (av 0) ae_int) aa_nil)))))) ass_nil)
      (ass_one (as_ret (ae_tup (aa_cons ae_str (aa_cons (ae_call h_fold_block hr takesE (aa_cons (ae_ix (ru1 hr) (av 0) ae_int) aa_nil)) (aa_cons (ae_ix (ru1 hr) (av 0) ae_int) (aa_cons (ae_call h_fold_block hr takesE (aa_cons (ae_ix (ru1 hr) (av 0) ae_int) aa_nil)) (aa_cons (ae_ix (ru1 hr) (av 0) ae_int) aa_nil))))))))))))))), fun ds S Ea Qa h => (sp ds S Ea Qa h).2⟩), T.g_fold_statement, F.kp, F.bindsN (fun _ _ _ _ _ _ us hl => match us, hl with | [_], _ => rfl)⟩
theorem z_fold_statement {P : Program} {w : World} {K : PySem.W.Frag} {mg : Str → Option Value} {base : Heap} (T : Facts K mg) {k : Nat} : FD P w K mg base "fold_statement" k fun _ _ _ _ => False := by
  obtain ⟨fd, F⟩ := T.d_fold_statement
  exact ⟨_, fd, ["statement"], never_ok, T.g_fold_statement, F.kp, F.bindsN (fun _ _ _ _ _ _ us hl => match us, hl with | [_], _ => rfl)⟩
theorem sc_fold : FnScope ["linked", "module", "one"] ["linked"] (defScope s_fold) := ⟨rfl, rfl, rfl, by decide +kernel, rfl, by decide +kernel, by decide +kernel⟩
theorem ok_fold {P : Program} {w : World} {K : PySem.W.Frag} {mg : Str → Option Value} {base : Heap} (T : Facts K mg) {k : Nat} {G : AFn} {F_Linked_with_statements F_Linked_statements F_fold_statement : AFn} (h_Linked_with_statements : MD P w K mg base "Linked" "with_statements" k F_Linked_with_statements) (h_Linked_statements : MD P w K mg base "Linked" "statements" k F_Linked_statements) (h_fold_statement : FD P w K mg base "fold_statement" k F_fold_statement)
    (sp : ∀ ds S E Q, G ds S E Q → ds.length = 1 ∧ (a_fold F_Linked_with_statements F_Linked_statements F_fold_statement) (bodyEnds Q E) (startA 3 ds) S) : FD P w K mg base "fold" (k + 1) G := by
  obtain ⟨fd, F⟩ := T.d_fold
  exact ⟨_, fd, ["linked"], fn_ok F sc_fold (fun ds S E Q h => (sp ds S E Q h).1) (fun cdv A outer s H E hr => ⟨a_fold F_Linked_with_statements F_Linked_statements F_fold_statement, (ass_one (as_ret (ae_meth h_Linked_with_statements hr takesE (av 0) (aa_cons (ae_lc rfl sc_fold.nd [("module", 1), ("one", 2)] (ai_any (ae_meth0 h_Linked_statements hr takesE (av 0))) (agc_tup rfl (agcs_cons (by decide) sc_fold.nd (agcs_cons (by decide) sc_fold.nd agcs_nil))) (fun _ _ _ _ _ => aifs_nil) (fun _ _ _ _ _ => (ae_tup (aa_cons (av 1) (aa_cons (ae_call h_fold_statement hr takesB (aa_cons (av 2) aa_nil)) aa_nil))))) aa_nil)))), fun ds S Ea Qa h => (sp ds S Ea Qa h).2⟩), T.g_fold, F.kp, F.bindsN (fun _ _ _ _ _ _ us hl => match us, hl with | [_], _ => rfl)⟩
theorem z_fold {P : Program} {w : World} {K : PySem.W.Frag} {mg : Str → Option Value} {base : Heap} (T : Facts K mg) {k : Nat} : FD P w K mg base "fold" k fun _ _ _ _ => False := by
  obtain ⟨fd, F⟩ := T.d_fold
  exact ⟨_, fd, ["linked"], never_ok, T.g_fold, F.kp, F.bindsN (fun _ _ _ _ _ _ us hl => match us, hl with | [_], _ => rfl)⟩
theorem sc_dead_expression : FnScope ["e", "head", "argument"] ["e"] (defScope s_dead_expression) := ⟨rfl, rfl, rfl, by decide +kernel, rfl, by decide +kernel, by decide +kernel⟩
theorem ok_dead_expression {P : Program} {w : World} {K : PySem.W.Frag} {mg : Str → Option Value} {base : Heap} (T : Facts K mg) {k : Nat} {G : AFn} {F_dead_block F_dead_expression : AFn} (h_dead_block : FD P w K mg base "dead_block" k F_dead_block) (h_dead_expression : FD P w K mg base "dead_expression" k F_dead_expression)
    (sp : ∀ ds S E Q, G ds S E Q → ds.length = 1 ∧ (a_dead_expression F_dead_block F_dead_expression) (bodyEnds Q E) (startA 3 ds) S) : FD P w K mg base "dead_expression" (k + 1) G := by
  obtain ⟨fd, F⟩ := T.d_dead_expression
  exact ⟨_, fd, ["e"], fn_ok F sc_dead_expression (fun ds S E Q h => (sp ds S E Q h).1) (fun cdv A outer s H E hr => ⟨a_dead_expression F_dead_block F_dead_expression, (ass_cons (as_set sc_dead_expression.nd (ae_ix (ru1 hr) (av 0) ae_int))
      (ass_cons (as_if (at_cmp (ao_in (ru65 hr)) (av 1) (ae_tup (aa_cons ae_str (aa_cons ae_str (aa_cons ae_str (aa_cons ae_str aa_nil)))))) (ass_one (as_ret (av 0))) ass_nil)
      (ass_cons (as_if (at_cmp (ao_eq (ru64 hr)) (av 1) ae_str) (ass_one (as_ret (ae_tup (aa_cons ae_str (aa_cons (ae_ix (ru1 hr) (av 0) ae_int) (aa_cons (ae_call h_dead_block hr takesE (aa_cons (ae_ix (ru1 hr) (av 0) ae_int) aa_nil)) aa_nil)))))) ass_nil)
      (ass_cons (as_if (at_cmp (ao_eq (ru64 hr)) (av 1) ae_str) (ass_one (as_ret (ae_tup (aa_cons ae_str (aa_cons (ae_call h_dead_expression hr takesE (aa_cons (ae_ix (ru1 hr) (av 0) ae_int) aa_nil)) (aa_cons (ae_callTy ac_tuple T.no_tuple (aa_cons (ae_lc rfl sc_dead_expression.nd [("argument", 2)] (ai_any (ae_ix (ru1 hr) (av 0) ae_int)) (agc_name (by decide) sc_dead_expression.nd) (fun _ _ _ _ _ => aifs_nil) (fun _ _ _ _ _ => (ae_call h_dead_expression hr takesB (aa_cons (av 2) aa_nil)))) aa_nil)) aa_nil)))))) ass_nil)
      (ass_cons (as_if (at_cmp (ao_eq (ru64 hr)) (av 1) ae_str) (ass_one (as_ret (ae_tup (aa_cons ae_str (aa_cons (ae_call h_dead_expression hr takesE (aa_cons (ae_ix (ru1 hr) (av 0) ae_int) aa_nil)) (aa_cons (ae_ix (ru1 hr) (av 0) ae_int) aa_nil)))))) ass_nil)
      (ass_cons (as_if (at_cmp (ao_eq (ru64 hr)) (av 1) ae_str) (ass_one (as_ret (ae_tup (aa_cons ae_str (aa_cons (ae_call h_dead_expression hr takesE (aa_cons (ae_ix (ru1 hr) (av 0) ae_int) aa_nil)) aa_nil))))) ass_nil)
      (ass_one (as_ret (ae_tup (aa_cons (av 1) (aa_cons (ae_call h_dead_expression hr takesE (aa_cons (ae_ix (ru1 hr) (av 0) ae_int) aa_nil)) (aa_cons (ae_call h_dead_expression hr takesE (aa_cons (ae_ix (ru1 hr) (av 0) ae_int) aa_nil)) aa_nil)))))))))))), fun ds S Ea Qa h => (sp ds S Ea Qa h).2⟩), T.g_dead_expression, F.kp, F.bindsN (fun _ _ _ _ _ _ us hl => match us, hl with | [_], _ => rfl)⟩
theorem z_dead_expression {P : Program} {w : World} {K : PySem.W.Frag} {mg : Str → Option Value} {base : Heap} (T : Facts K mg) {k : Nat} : FD P w K mg base "dead_expression" k fun _ _ _ _ => False := by
  obtain ⟨fd, F⟩ := T.d_dead_expression
  exact ⟨_, fd, ["e"], never_ok, T.g_dead_expression, F.kp, F.bindsN (fun _ _ _ _ _ _ us hl => match us, hl with | [_], _ => rfl)⟩
theorem sc_always_ends : FnScope ["statement", "head", "inner", "one"] ["statement"] (defScope s_always_ends) := ⟨rfl, rfl, rfl, by decide +kernel, rfl, by decide +kernel, by decide +kernel⟩
theorem ok_always_ends {P : Program} {w : World} {K : PySem.W.Frag} {mg : Str → Option Value} {base : Heap} (T : Facts K mg) {k : Nat} {G : AFn} {F_always_ends : AFn} (h_always_ends : FD P w K mg base "always_ends" k F_always_ends)
    (sp : ∀ ds S E Q, G ds S E Q → ds.length = 1 ∧ (a_always_ends F_always_ends) (bodyEnds Q E) (startA 4 ds) S) : FD P w K mg base "always_ends" (k + 1) G := by
  obtain ⟨fd, F⟩ := T.d_always_ends
  exact ⟨_, fd, ["statement"], fn_ok F sc_always_ends (fun ds S E Q h => (sp ds S E Q h).1) (fun cdv A outer s H E hr => ⟨a_always_ends F_always_ends, (ass_cons (as_set sc_always_ends.nd (ae_ix (ru1 hr) (av 0) ae_int))
      (ass_cons (as_if (AW.at (aw_or (at_cmp (ao_eq (ru64 hr)) (av 1) ae_str) (aw_or1 (at_cmp (ao_eq (ru64 hr)) (av 1) ae_str)))) (ass_one (as_ret ae_bl)) ass_nil)
      (ass_cons (as_if (at_cmp (ao_eq (ru64 hr)) (av 1) ae_str) (ass_one (as_ret (ae_callB (ac_any rfl) T.no_any (aa_cons (ae_lc rfl sc_always_ends.nd [("inner", 2)] (ai_any (ae_ix (ru1 hr) (av 0) ae_int)) (agc_name (by decide) sc_always_ends.nd) (fun _ _ _ _ _ => aifs_nil) (fun _ _ _ _ _ => (ae_call h_always_ends hr takesB (aa_cons (av 2) aa_nil)))) aa_nil)))) ass_nil)
      (ass_cons (as_if (at_cmp (ao_eq (ru64 hr)) (av 1) ae_str) (ass_one (as_ret (ae_and (ae_callB (ac_any rfl) T.no_any (aa_cons (ae_lc rfl sc_always_ends.nd [("inner", 2)] (ai_any (ae_ix (ru1 hr) (av 0) ae_int)) (agc_name (by decide) sc_always_ends.nd) (fun _ _ _ _ _ => aifs_nil) (fun _ _ _ _ _ => (ae_call h_always_ends hr takesB (aa_cons (av 2) aa_nil)))) aa_nil)) (ae_one (ae_callB (ac_any rfl) T.no_any (aa_cons (ae_lc rfl sc_always_ends.nd [("one", 3)] (ai_any (ae_ix (ru1 hr) (av 0) ae_int)) (agc_name (by decide) sc_always_ends.nd) (fun _ _ _ _ _ => aifs_nil) (fun _ _ _ _ _ => (ae_call h_always_ends hr takesB (aa_cons (av 3) aa_nil)))) aa_nil)))))) ass_nil)
      (ass_one (as_ret ae_bl)))))), fun ds S Ea Qa h => (sp ds S Ea Qa h).2⟩), T.g_always_ends, F.kp, F.bindsN (fun _ _ _ _ _ _ us hl => match us, hl with | [_], _ => rfl)⟩
theorem z_always_ends {P : Program} {w : World} {K : PySem.W.Frag} {mg : Str → Option Value} {base : Heap} (T : Facts K mg) {k : Nat} : FD P w K mg base "always_ends" k fun _ _ _ _ => False := by
  obtain ⟨fd, F⟩ := T.d_always_ends
  exact ⟨_, fd, ["statement"], never_ok, T.g_always_ends, F.kp, F.bindsN (fun _ _ _ _ _ _ us hl => match us, hl with | [_], _ => rfl)⟩
theorem sc_dead_block : FnScope ["block", "result", "ended", "statement"] ["block"] (defScope s_dead_block) := ⟨rfl, rfl, rfl, by decide +kernel, rfl, by decide +kernel, by decide +kernel⟩
theorem ok_dead_block {P : Program} {w : World} {K : PySem.W.Frag} {mg : Str → Option Value} {base : Heap} (T : Facts K mg) {k : Nat} {G : AFn} {F_dead_statement F_always_ends : AFn} (h_dead_statement : FD P w K mg base "dead_statement" k F_dead_statement) (h_always_ends : FD P w K mg base "always_ends" k F_always_ends)
    (sp : ∀ ds S E Q, G ds S E Q → ds.length = 1 ∧ (a_dead_block F_dead_statement F_always_ends) (bodyEnds Q E) (startA 4 ds) S) : FD P w K mg base "dead_block" (k + 1) G := by
  obtain ⟨fd, F⟩ := T.d_dead_block
  exact ⟨_, fd, ["block"], fn_ok F sc_dead_block (fun ds S E Q h => (sp ds S E Q h).1) (fun cdv A outer s H E hr => ⟨a_dead_block F_dead_statement F_always_ends, (ass_cons (as_set sc_dead_block.nd (ae_lst aa_nil))
      (ass_cons (as_set sc_dead_block.nd ae_bl)
      (ass_cons (as_for passesE rfl (ai_any (av 0)) (ag_name sc_dead_block.nd) (ass_cons (as_if (AW.at (aw_or (at_not (at_val (av 2))) (aw_or (at_cmp (ao_eq (ru64 hr)) (ae_ix (ru1 hr) (av 3) ae_int) ae_str) (aw_or1 (at_cmp (ao_eq (ru64 hr)) (ae_ix (ru1 hr) (av 3) ae_int) ae_str))))) (ass_one (as_expr (ae_append (av 1) (ae_call h_dead_statement hr takesE (aa_cons (av 3) aa_nil))))) ass_nil)
      (ass_one (as_set sc_dead_block.nd (ae_or (av 2) (ae_one (ae_call h_always_ends hr takesE (aa_cons (av 3) aa_nil))))))))
      (ass_one (as_ret (ae_callTy ac_tuple T.no_tuple (aa_cons (av 1) aa_nil))))))), fun ds S Ea Qa h => (sp ds S Ea Qa h).2⟩), T.g_dead_block, F.kp, F.bindsN (fun _ _ _ _ _ _ us hl => match us, hl with | [_], _ => rfl)⟩
theorem z_dead_block {P : Program} {w : World} {K : PySem.W.Frag} {mg : Str → Option Value} {base : Heap} (T : Facts K mg) {k : Nat} : FD P w K mg base "dead_block" k fun _ _ _ _ => False := by
  obtain ⟨fd, F⟩ := T.d_dead_block
  exact ⟨_, fd, ["block"], never_ok, T.g_dead_block, F.kp, F.bindsN (fun _ _ _ _ _ _ us hl => match us, hl with | [_], _ => rfl)⟩
theorem sc_dead_statement : FnScope ["statement", "head", "test"] ["statement"] (defScope s_dead_statement) := ⟨rfl, rfl, rfl, by decide +kernel, rfl, by decide +kernel, by decide +kernel⟩
theorem ok_dead_statement {P : Program} {w : World} {K : PySem.W.Frag} {mg : Str → Option Value} {base : Heap} (T : Facts K mg) {k : Nat} {G : AFn} {F_dead_expression F_dead_block : AFn} (h_dead_expression : FD P w K mg base "dead_expression" k F_dead_expression) (h_dead_block : FD P w K mg base "dead_block" k F_dead_block)
    (sp : ∀ ds S E Q, G ds S E Q → ds.length = 1 ∧ (a_dead_statement F_dead_expression F_dead_block) (bodyEnds Q E) (startA 3 ds) S) : FD P w K mg base "dead_statement" (k + 1) G := by
  obtain ⟨fd, F⟩ := T.d_dead_statement
  exact ⟨_, fd, ["statement"], fn_ok F sc_dead_statement (fun ds S E Q h => (sp ds S E Q h).1) (fun cdv A outer s H E hr => ⟨a_dead_statement F_dead_expression F_dead_block, (ass_cons (as_set sc_dead_statement.nd (ae_ix (ru1 hr) (av 0) ae_int))
      (ass_cons (as_if (AW.at (aw_or (at_cmp (ao_eq (ru64 hr)) (av 1) ae_str) (aw_or1 (at_cmp (ao_eq (ru64 hr)) (av 1) ae_str)))) (ass_one (as_ret (ae_tup (aa_cons (av 1) (aa_cons (ae_ix (ru1 hr) (av 0) ae_int) (aa_cons (ae_call h_dead_expression hr takesE (aa_cons (ae_ix (ru1 hr) (av 0) ae_int) aa_nil)) (aa_cons (ae_ix (ru1 hr) (av 0) ae_int) aa_nil))))))) ass_nil)
      (ass_cons (as_if (at_cmp (ao_eq (ru64 hr)) (av 1) ae_str) (ass_one (as_ret (ae_tup (aa_cons ae_str (aa_cons (ae_ix (ru1 hr) (av 0) ae_int) (aa_cons (ae_ix (ru1 hr) (av 0) ae_int) (aa_cons (ae_call h_dead_block hr takesE (aa_cons (ae_ix (ru1 hr) (av 0) ae_int) aa_nil)) (aa_cons (ae_ix (ru1 hr) (av 0) ae_int) aa_nil)))))))) ass_nil)
      (ass_cons (as_if (at_cmp (ao_in (ru65 hr)) (av 1) (ae_tup (aa_cons ae_str (aa_cons ae_str (aa_cons ae_str (aa_cons ae_str aa_nil)))))) (ass_one (as_ret (ae_tup (aa_cons (av 1) (aa_cons (ae_call h_dead_expression hr takesE (aa_cons (ae_ix (ru1 hr) (av 0) ae_int) aa_nil)) (aa_cons (ae_ix (ru1 hr) (av 0) ae_int) aa_nil)))))) ass_nil)
      (ass_cons (as_if (at_cmp (ao_eq (ru64 hr)) (av 1) ae_str) (ass_cons (as_set sc_dead_statement.nd (ae_call h_dead_expression hr takesE (aa_cons (ae_ix (ru1 hr) (av 0) ae_int) aa_nil)))
      (ass_one (as_ret (ae_tup (aa_cons ae_str (aa_cons (av 2) (aa_cons (ae_call h_dead_block hr takesE (aa_cons (ae_ix (ru1 hr) (av 0) ae_int) aa_nil)) (aa_cons (ae_call h_dead_block hr takesE (aa_cons (ae_ix (ru1 hr) (av 0) ae_int) aa_nil)) (aa_cons (ae_ix (ru1 hr) (av 0) ae_int) aa_nil))))))))) ass_nil)
      (ass_cons (as_if (at_cmp (ao_eq (ru64 hr)) (av 1) ae_str) (ass_one (as_ret (ae_tup (aa_cons ae_str (aa_cons (ae_call h_dead_expression hr takesE (aa_cons (ae_ix (ru1 hr) (av 0) ae_int) aa_nil)) (aa_cons (ae_call h_dead_block hr takesE (aa_cons (ae_ix (ru1 hr) (av 0) ae_int) aa_nil)) (aa_cons (ae_ix (ru1 hr) (av 0) ae_int) aa_nil))))))) ass_nil)
      (ass_cons (as_if (at_cmp (ao_eq (ru64 hr)) (av 1) ae_str) (ass_one (as_ret (ae_tup (aa_cons ae_str (aa_cons (ae_call h_dead_block hr takesE (aa_cons (ae_ix (ru1 hr) (av 0) ae_int) aa_nil)) (aa_cons (ae_ix (ru1 hr) (av 0) ae_int) aa_nil)))))) ass_nil)
      (ass_one (as_ret (ae_tup (aa_cons ae_str (aa_cons (ae_call h_dead_block hr takesE (aa_cons (ae_ix (ru1 hr) (av 0) ae_int) aa_nil)) (aa_cons (ae_ix (ru1 hr) (av 0) ae_int) (aa_cons (ae_call h_dead_block hr takesE (aa_cons (ae_ix (ru1 hr) (av 0) ae_int) aa_nil)) (aa_cons (ae_ix (ru1 hr) (av 0) ae_int) aa_nil))))))))))))))), fun ds S Ea Qa h => (sp ds S Ea Qa h).2⟩), T.g_dead_statement, F.kp, F.bindsN (fun _ _ _ _ _ _ us hl => match us, hl with | [_], _ => rfl)⟩
theorem z_dead_statement {P : Program} {w : World} {K : PySem.W.Frag} {mg : Str → Option Value} {base : Heap} (T : Facts K mg) {k : Nat} : FD P w K mg base "dead_statement" k fun _ _ _ _ => False := by
  obtain ⟨fd, F⟩ := T.d_dead_statement
  exact ⟨_, fd, ["statement"], never_ok, T.g_dead_statement, F.kp, F.bindsN (fun _ _ _ _ _ _ us hl => match us, hl with | [_], _ => rfl)⟩
theorem sc_dead : FnScope ["linked", "module", "one"] ["linked"] (defScope s_dead) := ⟨rfl, rfl, rfl, by decide +kernel, rfl, by decide +kernel, by decide +kernel⟩
theorem ok_dead {P : Program} {w : World} {K : PySem.W.Frag} {mg : Str → Option Value} {base : Heap} (T : Facts K mg) {k : Nat} {G : AFn} {F_Linked_with_statements F_Linked_statements F_dead_statement : AFn} (h_Linked_with_statements : MD P w K mg base "Linked" "with_statements" k F_Linked_with_statements) (h_Linked_statements : MD P w K mg base "Linked" "statements" k F_Linked_statements) (h_dead_statement : FD P w K mg base "dead_statement" k F_dead_statement)
    (sp : ∀ ds S E Q, G ds S E Q → ds.length = 1 ∧ (a_dead F_Linked_with_statements F_Linked_statements F_dead_statement) (bodyEnds Q E) (startA 3 ds) S) : FD P w K mg base "dead" (k + 1) G := by
  obtain ⟨fd, F⟩ := T.d_dead
  exact ⟨_, fd, ["linked"], fn_ok F sc_dead (fun ds S E Q h => (sp ds S E Q h).1) (fun cdv A outer s H E hr => ⟨a_dead F_Linked_with_statements F_Linked_statements F_dead_statement, (ass_one (as_ret (ae_meth h_Linked_with_statements hr takesE (av 0) (aa_cons (ae_lc rfl sc_dead.nd [("module", 1), ("one", 2)] (ai_any (ae_meth0 h_Linked_statements hr takesE (av 0))) (agc_tup rfl (agcs_cons (by decide) sc_dead.nd (agcs_cons (by decide) sc_dead.nd agcs_nil))) (fun _ _ _ _ _ => aifs_nil) (fun _ _ _ _ _ => (ae_tup (aa_cons (av 1) (aa_cons (ae_call h_dead_statement hr takesB (aa_cons (av 2) aa_nil)) aa_nil))))) aa_nil)))), fun ds S Ea Qa h => (sp ds S Ea Qa h).2⟩), T.g_dead, F.kp, F.bindsN (fun _ _ _ _ _ _ us hl => match us, hl with | [_], _ => rfl)⟩
theorem z_dead {P : Program} {w : World} {K : PySem.W.Frag} {mg : Str → Option Value} {base : Heap} (T : Facts K mg) {k : Nat} : FD P w K mg base "dead" k fun _ _ _ _ => False := by
  obtain ⟨fd, F⟩ := T.d_dead
  exact ⟨_, fd, ["linked"], never_ok, T.g_dead, F.kp, F.bindsN (fun _ _ _ _ _ _ us hl => match us, hl with | [_], _ => rfl)⟩
theorem sc_Linked_init : FnScope ["self", "statements", "exports", "variables"] ["self", "statements", "exports", "variables"] (defScope s_Linked_init) := ⟨rfl, rfl, rfl, by decide +kernel, rfl, by decide +kernel, by decide +kernel⟩
theorem ok_Linked_init {P : Program} {w : World} {K : PySem.W.Frag} {mg : Str → Option Value} {base : Heap} (T : Facts K mg) {k : Nat} {G : AFn} 
    (sp : ∀ ds S E Q, G ds S E Q → ds.length = 4 ∧ (a_Linked_init) (bodyEnds Q E) (startA 4 ds) S) : CD P w K mg base "Linked" (k + 1) G := by
  obtain ⟨fd, F⟩ := T.d_Linked_init
  exact ⟨_, fd, ["self", "statements", "exports", "variables"], fn_ok F sc_Linked_init (fun ds S E Q h => (sp ds S E Q h).1) (fun cdv A outer s H E hr => ⟨a_Linked_init, (ass_cons (as_fld T.f_Linked__statements (av 0) (ae_callTy ac_list T.no_list (aa_cons (av 1) aa_nil)))
      (ass_cons (as_fld T.f_Linked__exports (av 0) (ae_callTy ac_list T.no_list (aa_cons (av 2) aa_nil)))
      (ass_one (as_fld T.f_Linked__variables (av 0) (ae_callTy ac_list T.no_list (aa_cons (av 3) aa_nil)))))), fun ds S Ea Qa h => (sp ds S Ea Qa h).2⟩), T.mk_Linked.1, T.mk_Linked.2, F.bindsN (fun _ _ _ _ _ _ us hl => match us, hl with | [_, _, _, _], _ => rfl)⟩

theorem sc_Linked_statements : FnScope ["self"] ["self"] (defScope s_Linked_statements) := ⟨rfl, rfl, rfl, by decide +kernel, rfl, by decide +kernel, by decide +kernel⟩
theorem ok_Linked_statements {P : Program} {w : World} {K : PySem.W.Frag} {mg : Str → Option Value} {base : Heap} (T : Facts K mg) {k : Nat} {G : AFn} 
    (sp : ∀ ds S E Q, G ds S E Q → ds.length = 1 ∧ (a_Linked_statements) (bodyEnds Q E) (startA 1 ds) S) : MD P w K mg base "Linked" "statements" (k + 1) G := by
  obtain ⟨fd, F⟩ := T.d_Linked_statements
  exact ⟨_, fd, ["self"], fn_ok F sc_Linked_statements (fun ds S E Q h => (sp ds S E Q h).1) (fun cdv A outer s H E hr => ⟨a_Linked_statements, (ass_one (as_ret (ae_callTy ac_list T.no_list (aa_cons (ae_fld T.f_Linked__statements (av 0)) aa_nil)))), fun ds S Ea Qa h => (sp ds S Ea Qa h).2⟩), T.k_Linked, T.m_Linked_statements, F.bindsN (fun _ _ _ _ _ _ us hl => match us, hl with | [_], _ => rfl)⟩
theorem z_Linked_statements {P : Program} {w : World} {K : PySem.W.Frag} {mg : Str → Option Value} {base : Heap} (T : Facts K mg) {k : Nat} : MD P w K mg base "Linked" "statements" k fun _ _ _ _ => False := by
  obtain ⟨fd, F⟩ := T.d_Linked_statements
  exact ⟨_, fd, ["self"], never_ok, T.k_Linked, T.m_Linked_statements, F.bindsN (fun _ _ _ _ _ _ us hl => match us, hl with | [_], _ => rfl)⟩
theorem sc_Linked_exports : FnScope ["self"] ["self"] (defScope s_Linked_exports) := ⟨rfl, rfl, rfl, by decide +kernel, rfl, by decide +kernel, by decide +kernel⟩
theorem ok_Linked_exports {P : Program} {w : World} {K : PySem.W.Frag} {mg : Str → Option Value} {base : Heap} (T : Facts K mg) {k : Nat} {G : AFn} 
    (sp : ∀ ds S E Q, G ds S E Q → ds.length = 1 ∧ (a_Linked_exports) (bodyEnds Q E) (startA 1 ds) S) : MD P w K mg base "Linked" "exports" (k + 1) G := by
  obtain ⟨fd, F⟩ := T.d_Linked_exports
  exact ⟨_, fd, ["self"], fn_ok F sc_Linked_exports (fun ds S E Q h => (sp ds S E Q h).1) (fun cdv A outer s H E hr => ⟨a_Linked_exports, (ass_one (as_ret (ae_callTy ac_list T.no_list (aa_cons (ae_fld T.f_Linked__exports (av 0)) aa_nil)))), fun ds S Ea Qa h => (sp ds S Ea Qa h).2⟩), T.k_Linked, T.m_Linked_exports, F.bindsN (fun _ _ _ _ _ _ us hl => match us, hl with | [_], _ => rfl)⟩
theorem z_Linked_exports {P : Program} {w : World} {K : PySem.W.Frag} {mg : Str → Option Value} {base : Heap} (T : Facts K mg) {k : Nat} : MD P w K mg base "Linked" "exports" k fun _ _ _ _ => False := by
  obtain ⟨fd, F⟩ := T.d_Linked_exports
  exact ⟨_, fd, ["self"], never_ok, T.k_Linked, T.m_Linked_exports, F.bindsN (fun _ _ _ _ _ _ us hl => match us, hl with | [_], _ => rfl)⟩
theorem sc_Linked_variables : FnScope ["self"] ["self"] (defScope s_Linked_variables) := ⟨rfl, rfl, rfl, by decide +kernel, rfl, by decide +kernel, by decide +kernel⟩
theorem ok_Linked_variables {P : Program} {w : World} {K : PySem.W.Frag} {mg : Str → Option Value} {base : Heap} (T : Facts K mg) {k : Nat} {G : AFn} 
    (sp : ∀ ds S E Q, G ds S E Q → ds.length = 1 ∧ (a_Linked_variables) (bodyEnds Q E) (startA 1 ds) S) : MD P w K mg base "Linked" "variables" (k + 1) G := by
  obtain ⟨fd, F⟩ := T.d_Linked_variables
  exact ⟨_, fd, ["self"], fn_ok F sc_Linked_variables (fun ds S E Q h => (sp ds S E Q h).1) (fun cdv A outer s H E hr => ⟨a_Linked_variables, (ass_one (as_ret (ae_callTy ac_list T.no_list (aa_cons (ae_fld T.f_Linked__variables (av 0)) aa_nil)))), fun ds S Ea Qa h => (sp ds S Ea Qa h).2⟩), T.k_Linked, T.m_Linked_variables, F.bindsN (fun _ _ _ _ _ _ us hl => match us, hl with | [_], _ => rfl)⟩
theorem z_Linked_variables {P : Program} {w : World} {K : PySem.W.Frag} {mg : Str → Option Value} {base : Heap} (T : Facts K mg) {k : Nat} : MD P w K mg base "Linked" "variables" k fun _ _ _ _ => False := by
  obtain ⟨fd, F⟩ := T.d_Linked_variables
  exact ⟨_, fd, ["self"], never_ok, T.k_Linked, T.m_Linked_variables, F.bindsN (fun _ _ _ _ _ _ us hl => match us, hl with | [_], _ => rfl)⟩
theorem sc_Linked_with_statements : FnScope ["self", "statements"] ["self", "statements"] (defScope s_Linked_with_statements) := ⟨rfl, rfl, rfl, by decide +kernel, rfl, by decide +kernel, by decide +kernel⟩
theorem ok_Linked_with_statements {P : Program} {w : World} {K : PySem.W.Frag} {mg : Str → Option Value} {base : Heap} (T : Facts K mg) {k k' : Nat} (hk : k' + 1 ≤ k) {G : AFn} {F_Linked : AFn} (h_Linked : CD P w K mg base "Linked" k' F_Linked)
    (sp : ∀ ds S E Q, G ds S E Q → ds.length = 2 ∧ (a_Linked_with_statements F_Linked) (bodyEnds Q E) (startA 2 ds) S) : MD P w K mg base "Linked" "with_statements" (k + 1) G := by
  obtain ⟨fd, F⟩ := T.d_Linked_with_statements
  exact ⟨_, fd, ["self", "statements"], fn_ok F sc_Linked_with_statements (fun ds S E Q h => (sp ds S E Q h).1) (fun cdv A outer s H E hr => ⟨a_Linked_with_statements F_Linked, (ass_one (as_ret (ae_make h_Linked (hr.mono hk) takesE (aa_cons (av 1) (aa_cons (ae_fld T.f_Linked__exports (av 0)) (aa_cons (ae_fld T.f_Linked__variables (av 0)) aa_nil)))))), fun ds S Ea Qa h => (sp ds S Ea Qa h).2⟩), T.k_Linked, T.m_Linked_with_statements, F.bindsN (fun _ _ _ _ _ _ us hl => match us, hl with | [_, _], _ => rfl)⟩
theorem z_Linked_with_statements {P : Program} {w : World} {K : PySem.W.Frag} {mg : Str → Option Value} {base : Heap} (T : Facts K mg) {k : Nat} : MD P w K mg base "Linked" "with_statements" k fun _ _ _ _ => False := by
  obtain ⟨fd, F⟩ := T.d_Linked_with_statements
  exact ⟨_, fd, ["self", "statements"], never_ok, T.k_Linked, T.m_Linked_with_statements, F.bindsN (fun _ _ _ _ _ _ us hl => match us, hl with | [_, _], _ => rfl)⟩
theorem sc__law_cell : FnScope ["_law_script", "_law_k"] ["_law_script", "_law_k"] (defScope s__law_cell) := ⟨rfl, rfl, rfl, by decide +kernel, rfl, by decide +kernel, by decide +kernel⟩
theorem ok__law_cell {P : Program} {w : World} {K : PySem.W.Frag} {mg : Str → Option Value} {base : Heap} (T : Facts K mg) {k : Nat} {G : AFn} 
    (sp : ∀ ds S E Q, G ds S E Q → ds.length = 2 ∧ (a__law_cell) (bodyEnds Q E) (startA 2 ds) S) : FD P w K mg base "_law_cell" (k + 1) G := by
  obtain ⟨fd, F⟩ := T.d__law_cell
  exact ⟨_, fd, ["_law_script", "_law_k"], fn_ok F sc__law_cell (fun ds S E Q h => (sp ds S E Q h).1) (fun cdv A outer s H E hr => ⟨a__law_cell, (ass_cons (as_if (at_cmp ao_lt (av 1) (ae_callB ac_len T.no_len (aa_cons (av 0) aa_nil))) (ass_one (as_ret (ae_callTy ac_int T.no_int (aa_cons (ae_ix (ru1 hr) (av 0) (av 1)) aa_nil)))) ass_nil)
      (ass_one (as_ret ae_int))), fun ds S Ea Qa h => (sp ds S Ea Qa h).2⟩), T.g__law_cell, F.kp, F.bindsN (fun _ _ _ _ _ _ us hl => match us, hl with | [_, _], _ => rfl)⟩
theorem z__law_cell {P : Program} {w : World} {K : PySem.W.Frag} {mg : Str → Option Value} {base : Heap} (T : Facts K mg) {k : Nat} : FD P w K mg base "_law_cell" k fun _ _ _ _ => False := by
  obtain ⟨fd, F⟩ := T.d__law_cell
  exact ⟨_, fd, ["_law_script", "_law_k"], never_ok, T.g__law_cell, F.kp, F.bindsN (fun _ _ _ _ _ _ us hl => match us, hl with | [_, _], _ => rfl)⟩
theorem sc__law_numbers : FnScope ["_law_cell_here", "_law_many", "_law_found", "_law_rest", "_law_k"] ["_law_cell_here", "_law_many"] (defScope s__law_numbers) := ⟨rfl, rfl, rfl, by decide +kernel, rfl, by decide +kernel, by decide +kernel⟩
theorem ok__law_numbers {P : Program} {w : World} {K : PySem.W.Frag} {mg : Str → Option Value} {base : Heap} (T : Facts K mg) {k : Nat} {G : AFn} 
    (sp : ∀ ds S E Q, G ds S E Q → ds.length = 2 ∧ (a__law_numbers) (bodyEnds Q E) (startA 5 ds) S) : FD P w K mg base "_law_numbers" (k + 1) G := by
  obtain ⟨fd, F⟩ := T.d__law_numbers
  exact ⟨_, fd, ["_law_cell_here", "_law_many"], fn_ok F sc__law_numbers (fun ds S E Q h => (sp ds S E Q h).1) (fun cdv A outer s H E hr => ⟨a__law_numbers, (ass_cons (as_set sc__law_numbers.nd (ae_lst aa_nil))
      (ass_cons (as_set sc__law_numbers.nd (ae_callB ac_abs T.no_abs (aa_cons (av 0) aa_nil)))
      (ass_cons (as_if (at_cmp ao_ge (av 3) ae_int) (ass_cons (as_for passesE rfl (ai_range1 T.no_range (aa_cons (av 1) aa_nil)) (ag_name sc__law_numbers.nd) (ass_cons (as_expr (ae_append (av 2) (ae_op ao_mod (ae_callTy ac_int T.no_int (aa_cons (av 3) aa_nil)) ae_int)))
      (ass_one (as_set sc__law_numbers.nd (ae_op ao_div (av 3) ae_int)))))
      (ass_one (as_ret (av 2)))) ass_nil)
      (ass_cons (as_for passesE rfl (ai_range1 T.no_range (aa_cons (av 1) aa_nil)) (ag_name sc__law_numbers.nd) (ass_cons (as_set sc__law_numbers.nd (ae_op ao_mod (ae_callTy ac_int T.no_int (aa_cons (ae_op ao_add (ae_op ao_add (ae_op ao_mul (av 3) ae_int) (ae_op ao_mul (av 4) ae_int)) ae_int) aa_nil)) ae_int))
      (ass_one (as_expr (ae_append (av 2) (ae_op ao_mod (ae_op ao_mod (ae_callTy ac_int T.no_int (aa_cons (ae_op ao_mul (av 3) ae_int) aa_nil)) ae_int) ae_int))))))
      (ass_one (as_ret (av 2))))))), fun ds S Ea Qa h => (sp ds S Ea Qa h).2⟩), T.g__law_numbers, F.kp, F.bindsN (fun _ _ _ _ _ _ us hl => match us, hl with | [_, _], _ => rfl)⟩
theorem z__law_numbers {P : Program} {w : World} {K : PySem.W.Frag} {mg : Str → Option Value} {base : Heap} (T : Facts K mg) {k : Nat} : FD P w K mg base "_law_numbers" k fun _ _ _ _ => False := by
  obtain ⟨fd, F⟩ := T.d__law_numbers
  exact ⟨_, fd, ["_law_cell_here", "_law_many"], never_ok, T.g__law_numbers, F.kp, F.bindsN (fun _ _ _ _ _ _ us hl => match us, hl with | [_, _], _ => rfl)⟩
theorem sc__law_feed : FnScope ["_law_cell_here", "_law_many"] ["_law_cell_here", "_law_many"] (defScope s__law_feed) := ⟨rfl, rfl, rfl, by decide +kernel, rfl, by decide +kernel, by decide +kernel⟩
theorem ok__law_feed {P : Program} {w : World} {K : PySem.W.Frag} {mg : Str → Option Value} {base : Heap} (T : Facts K mg) {k : Nat} {G : AFn} {F__law_numbers : AFn} (h__law_numbers : FD P w K mg base "_law_numbers" k F__law_numbers)
    (sp : ∀ ds S E Q, G ds S E Q → ds.length = 2 ∧ (a__law_feed F__law_numbers) (bodyEnds Q E) (startA 2 ds) S) : FD P w K mg base "_law_feed" (k + 1) G := by
  obtain ⟨fd, F⟩ := T.d__law_feed
  exact ⟨_, fd, ["_law_cell_here", "_law_many"], fn_ok F sc__law_feed (fun ds S E Q h => (sp ds S E Q h).1) (fun cdv A outer s H E hr => ⟨a__law_feed F__law_numbers, (ass_one (as_ret (ae_disp (apx_cons ae_str ae_int (apx_cons ae_str (ae_call h__law_numbers hr takesE (aa_cons (av 0) (aa_cons (av 1) aa_nil))) apx_nil))))), fun ds S Ea Qa h => (sp ds S Ea Qa h).2⟩), T.g__law_feed, F.kp, F.bindsN (fun _ _ _ _ _ _ us hl => match us, hl with | [_, _], _ => rfl)⟩
theorem z__law_feed {P : Program} {w : World} {K : PySem.W.Frag} {mg : Str → Option Value} {base : Heap} (T : Facts K mg) {k : Nat} : FD P w K mg base "_law_feed" k fun _ _ _ _ => False := by
  obtain ⟨fd, F⟩ := T.d__law_feed
  exact ⟨_, fd, ["_law_cell_here", "_law_many"], never_ok, T.g__law_feed, F.kp, F.bindsN (fun _ _ _ _ _ _ us hl => match us, hl with | [_, _], _ => rfl)⟩
theorem sc__law_take : FnScope ["_law_feed_here", "_law_limit", "_law_numbers_here", "_law_at"] ["_law_feed_here", "_law_limit"] (defScope s__law_take) := ⟨rfl, rfl, rfl, by decide +kernel, rfl, by decide +kernel, by decide +kernel⟩
theorem ok__law_take {P : Program} {w : World} {K : PySem.W.Frag} {mg : Str → Option Value} {base : Heap} (T : Facts K mg) {k : Nat} {G : AFn} 
    (sp : ∀ ds S E Q, G ds S E Q → ds.length = 2 ∧ (a__law_take) (bodyEnds Q E) (startA 4 ds) S) : FD P w K mg base "_law_take" (k + 1) G := by
  obtain ⟨fd, F⟩ := T.d__law_take
  exact ⟨_, fd, ["_law_feed_here", "_law_limit"], fn_ok F sc__law_take (fun ds S E Q h => (sp ds S E Q h).1) (fun cdv A outer s H E hr => ⟨a__law_take, (ass_cons (as_set sc__law_take.nd (ae_ix (ru1 hr) (av 0) ae_str))
      (ass_cons (as_set sc__law_take.nd (ae_ix (ru1 hr) (av 0) ae_str))
      (ass_cons (as_dput (ru1 hr) (av 0) ae_str (ae_op ao_add (av 3) ae_int))
      (ass_one (as_ret (ae_op ao_mod (ae_callTy ac_int T.no_int (aa_cons (ae_op ao_div (ae_ix (ru1 hr) (av 2) (ae_op ao_mod (av 3) (ae_callB ac_len T.no_len (aa_cons (av 2) aa_nil)))) (ae_op ao_add ae_int (ae_op ao_mul (ae_op ao_div (av 3) (ae_callB ac_len T.no_len (aa_cons (av 2) aa_nil))) ae_int))) aa_nil)) (av 1))))))), fun ds S Ea Qa h => (sp ds S Ea Qa h).2⟩), T.g__law_take, F.kp, F.bindsN (fun _ _ _ _ _ _ us hl => match us, hl with | [_, _], _ => rfl)⟩
theorem z__law_take {P : Program} {w : World} {K : PySem.W.Frag} {mg : Str → Option Value} {base : Heap} (T : Facts K mg) {k : Nat} : FD P w K mg base "_law_take" k fun _ _ _ _ => False := by
  obtain ⟨fd, F⟩ := T.d__law_take
  exact ⟨_, fd, ["_law_feed_here", "_law_limit"], never_ok, T.g__law_take, F.kp, F.bindsN (fun _ _ _ _ _ _ us hl => match us, hl with | [_, _], _ => rfl)⟩
theorem sc__law_expr : FnScope ["_law_feed_here", "_law_depth", "_law_pick", "_law_head"] ["_law_feed_here", "_law_depth"] (defScope s__law_expr) := ⟨rfl, rfl, rfl, by decide +kernel, rfl, by decide +kernel, by decide +kernel⟩
theorem ok__law_expr {P : Program} {w : World} {K : PySem.W.Frag} {mg : Str → Option Value} {base : Heap} (T : Facts K mg) {k : Nat} {G : AFn} {F__law_take F__law_expr : AFn} (h__law_take : FD P w K mg base "_law_take" k F__law_take) (h__law_expr : FD P w K mg base "_law_expr" k F__law_expr)
    (sp : ∀ ds S E Q, G ds S E Q → ds.length = 2 ∧ (a__law_expr F__law_take F__law_expr) (bodyEnds Q E) (startA 4 ds) S) : FD P w K mg base "_law_expr" (k + 1) G := by
  obtain ⟨fd, F⟩ := T.d__law_expr
  exact ⟨_, fd, ["_law_feed_here", "_law_depth"], fn_ok F sc__law_expr (fun ds S E Q h => (sp ds S E Q h).1) (fun cdv A outer s H E hr => ⟨a__law_expr F__law_take F__law_expr, (ass_cons (as_set sc__law_expr.nd (ae_call h__law_take hr takesE (aa_cons (av 0) (aa_cons ae_int aa_nil))))
      (ass_cons (as_if (AW.at (aw_or (at_cmp (ao_eq (ru64 hr)) (av 1) ae_int) (aw_or1 (at_cmp ao_lt (av 2) ae_int)))) (ass_one (as_ret (ae_ix (ru1 hr) (ae_lst (aa_cons (ae_tup (aa_cons ae_str (aa_cons (ae_call h__law_take hr takesE (aa_cons (av 0) (aa_cons ae_int aa_nil))) aa_nil))) (aa_cons (ae_tup (aa_cons ae_str (aa_cons (ae_ix (ru1 hr) (ae_lst (aa_cons ae_int (aa_cons ae_int (aa_cons ae_int (aa_cons ae_int aa_nil))))) (ae_call h__law_take hr takesE (aa_cons (av 0) (aa_cons ae_int aa_nil)))) aa_nil))) (aa_cons (ae_tup (aa_cons ae_str (aa_cons ae_bl aa_nil))) (aa_cons (ae_tup (aa_cons ae_str (aa_cons ae_bl aa_nil))) (aa_cons (ae_tup (aa_cons ae_str aa_nil)) (aa_cons (ae_tup (aa_cons ae_str (aa_cons ae_int aa_nil))) (aa_cons (ae_tup (aa_cons ae_str (aa_cons ae_int aa_nil))) aa_nil)))))))) (ae_call h__law_take hr takesE (aa_cons (av 0) (aa_cons ae_int aa_nil)))))) ass_nil)
      (ass_cons (as_if (at_cmp ao_lt (av 2) ae_int) (ass_cons (as_set sc__law_expr.nd (ae_ix (ru1 hr) (ae_lst (aa_cons ae_str (aa_cons ae_str (aa_cons ae_str (aa_cons ae_str (aa_cons ae_str (aa_cons ae_str (aa_cons ae_str (aa_cons ae_str aa_nil))))))))) (ae_op ao_sub (av 2) ae_int)))
      (ass_one (as_ret (ae_tup (aa_cons (av 3) (aa_cons (ae_call h__law_expr hr takesE (aa_cons (av 0) (aa_cons (ae_op ao_sub (av 1) ae_int) aa_nil))) (aa_cons (ae_call h__law_expr hr takesE (aa_cons (av 0) (aa_cons (ae_op ao_sub (av 1) ae_int) aa_nil))) aa_nil))))))) ass_nil)
      (ass_cons (as_if (at_cmp (ao_eq (ru64 hr)) (av 2) ae_int) (ass_one (as_ret (ae_tup (aa_cons ae_str (aa_cons (ae_call h__law_expr hr takesE (aa_cons (av 0) (aa_cons (ae_op ao_sub (av 1) ae_int) aa_nil))) aa_nil))))) ass_nil)
      (ass_cons (as_if (at_cmp (ao_eq (ru64 hr)) (av 2) ae_int) (ass_one (as_ret (ae_tup (aa_cons ae_str (aa_cons (ae_call h__law_expr hr takesE (aa_cons (av 0) (aa_cons (ae_op ao_sub (av 1) ae_int) aa_nil))) (aa_cons (ae_tup (aa_cons (ae_call h__law_expr hr takesE (aa_cons (av 0) (aa_cons (ae_op ao_sub (av 1) ae_int) aa_nil))) aa_nil)) aa_nil)))))) ass_nil)
      (ass_one (as_ret (ae_ix (ru1 hr) (ae_lst (aa_cons (ae_tup (aa_cons ae_str (aa_cons (ae_call h__law_expr hr takesE (aa_cons (av 0) (aa_cons (ae_op ao_sub (av 1) ae_int) aa_nil))) (aa_cons ae_int aa_nil)))) (aa_cons (ae_tup (aa_cons ae_str (aa_cons (ae_tup (aa_cons ae_int aa_nil)) (aa_cons (ae_tup (aa_cons (ae_tup (aa_cons ae_str (aa_cons (ae_call h__law_expr hr takesE (aa_cons (av 0) (aa_cons (ae_op ao_sub (av 1) ae_int) aa_nil))) (aa_cons ae_int aa_nil)))) aa_nil)) aa_nil)))) aa_nil))) (ae_call h__law_take hr takesE (aa_cons (av 0) (aa_cons ae_int aa_nil))))))))))), fun ds S Ea Qa h => (sp ds S Ea Qa h).2⟩), T.g__law_expr, F.kp, F.bindsN (fun _ _ _ _ _ _ us hl => match us, hl with | [_, _], _ => rfl)⟩
theorem z__law_expr {P : Program} {w : World} {K : PySem.W.Frag} {mg : Str → Option Value} {base : Heap} (T : Facts K mg) {k : Nat} : FD P w K mg base "_law_expr" k fun _ _ _ _ => False := by
  obtain ⟨fd, F⟩ := T.d__law_expr
  exact ⟨_, fd, ["_law_feed_here", "_law_depth"], never_ok, T.g__law_expr, F.kp, F.bindsN (fun _ _ _ _ _ _ us hl => match us, hl with | [_, _], _ => rfl)⟩
theorem sc__law_fold : FnScope ["_law_e", "_law_head", "_law_one", "_law_two", "_law_constants", "_law_total"] ["_law_e"] (defScope s__law_fold) := ⟨rfl, rfl, rfl, by decide +kernel, rfl, by decide +kernel, by decide +kernel⟩
theorem ok__law_fold {P : Program} {w : World} {K : PySem.W.Frag} {mg : Str → Option Value} {base : Heap} (T : Facts K mg) {k : Nat} {G : AFn} {F__law_fold_b F__law_fold : AFn} (h__law_fold_b : FD P w K mg base "_law_fold_b" k F__law_fold_b) (h__law_fold : FD P w K mg base "_law_fold" k F__law_fold)
    (sp : ∀ ds S E Q, G ds S E Q → ds.length = 1 ∧ (a__law_fold F__law_fold_b F__law_fold) (bodyEnds Q E) (startA 6 ds) S) : FD P w K mg base "_law_fold" (k + 1) G := by
  obtain ⟨fd, F⟩ := T.d__law_fold
  exact ⟨_, fd, ["_law_e"], fn_ok F sc__law_fold (fun ds S E Q h => (sp ds S E Q h).1) (fun cdv A outer s H E hr => ⟨a__law_fold F__law_fold_b F__law_fold, (ass_cons (as_set sc__law_fold.nd (ae_ix (ru1 hr) (av 0) ae_int))
      (ass_cons (as_if (at_cmp (ao_in (ru65 hr)) (av 1) (ae_lst (aa_cons ae_str (aa_cons ae_str (aa_cons ae_str (aa_cons ae_str aa_nil)))))) (ass_one (as_ret (av 0))) ass_nil)
      (ass_cons (as_if (at_cmp (ao_eq (ru64 hr)) (av 1) ae_str) (ass_one (as_ret (ae_tup (aa_cons ae_str (aa_cons (ae_ix (ru1 hr) (av 0) ae_int) (aa_cons (ae_call h__law_fold_b hr takesE (aa_cons (ae_ix (ru1 hr) (av 0) ae_int) aa_nil)) aa_nil)))))) ass_nil)
      (ass_cons (as_if (at_cmp (ao_eq (ru64 hr)) (av 1) ae_str) (ass_one (as_ret (ae_tup (aa_cons ae_str (aa_cons (ae_call h__law_fold hr takesE (aa_cons (ae_ix (ru1 hr) (av 0) ae_int) aa_nil)) (aa_cons (ae_callTy ac_tuple T.no_tuple (aa_cons (ae_lc rfl sc__law_fold.nd [("_law_one", 2)] (ai_any (ae_ix (ru1 hr) (av 0) ae_int)) (agc_name (by decide) sc__law_fold.nd) (fun _ _ _ _ _ => aifs_nil) (fun _ _ _ _ _ => (ae_call h__law_fold hr takesB (aa_cons (av 2) aa_nil)))) aa_nil)) aa_nil)))))) ass_nil)
      (ass_cons (as_set sc__law_fold.nd (ae_call h__law_fold hr takesE (aa_cons (ae_ix (ru1 hr) (av 0) ae_int) aa_nil)))
      (ass_cons (as_if (at_cmp (ao_eq (ru64 hr)) (av 1) ae_str) (ass_one (as_ret (ae_tup (aa_cons ae_str (aa_cons (av 2) (aa_cons (ae_ix (ru1 hr) (av 0) ae_int) aa_nil)))))) ass_nil)
      (ass_cons (as_if (at_cmp (ao_eq (ru64 hr)) (av 1) ae_str) (ass_cons (as_if (at_cmp (ao_eq (ru64 hr)) (ae_ix (ru1 hr) (av 2) ae_int) ae_str) (ass_one (as_ret (ae_tup (aa_cons ae_str (aa_cons (ae_not (ae_ix (ru1 hr) (av 2) ae_int)) aa_nil))))) ass_nil)
      (ass_one (as_ret (ae_tup (aa_cons ae_str (aa_cons (av 2) aa_nil)))))) ass_nil)
      (ass_cons (as_set sc__law_fold.nd (ae_call h__law_fold hr takesE (aa_cons (ae_ix (ru1 hr) (av 0) ae_int) aa_nil)))
      (ass_cons (as_if (at_cmp (ao_in (ru65 hr)) (av 1) (ae_lst (aa_cons ae_str (aa_cons ae_str aa_nil)))) (ass_cons (as_if (at_cmp (ao_eq (ru64 hr)) (av 2) (ae_tup (aa_cons ae_str (aa_cons (ae_cmp (ao_eq (ru64 hr)) (av 1) ae_str) aa_nil)))) (ass_one (as_ret (av 2))) ass_nil)
      (ass_cons (as_if (AW.at (aw_and (at_cmp (ao_eq (ru64 hr)) (ae_ix (ru1 hr) (av 2) ae_int) ae_str) (aw_and1 (at_cmp (ao_in (ru65 hr)) (ae_ix (ru1 hr) (av 3) ae_int) (ae_lst (aa_cons ae_str (aa_cons ae_str (aa_cons ae_str (aa_cons ae_str (aa_cons ae_str (aa_cons ae_str aa_nil))))))))))) (ass_one (as_ret (av 3))) ass_nil)
      (ass_one (as_ret (ae_tup (aa_cons (av 1) (aa_cons (av 2) (aa_cons (av 3) aa_nil)))))))) ass_nil)
      (ass_cons (as_set sc__law_fold.nd (ae_lst (aa_cons ae_str (aa_cons ae_str (aa_cons ae_str aa_nil)))))
      (ass_cons (as_if (AW.at (aw_and (at_cmp (ao_eq (ru64 hr)) (av 1) ae_str) (aw_and (at_cmp (ao_in (ru65 hr)) (ae_ix (ru1 hr) (av 2) ae_int) (av 4)) (aw_and1 (at_cmp (ao_in (ru65 hr)) (ae_ix (ru1 hr) (av 3) ae_int) (av 4)))))) (ass_one (as_ret (ae_tup (aa_cons ae_str (aa_cons (ae_cmp (ao_eq (ru64 hr)) (ae_callB (ac_repr hr.gs (ru66 hr)) T.no_repr (aa_cons (av 2) aa_nil)) (ae_callB (ac_repr hr.gs (ru66 hr)) T.no_repr (aa_cons (av 3) aa_nil))) aa_nil))))) ass_nil)
      (ass_cons (as_if (AW.at (aw_and (at_cmp (ao_eq (ru64 hr)) (ae_ix (ru1 hr) (av 2) ae_int) ae_str) (aw_and1 (at_cmp (ao_eq (ru64 hr)) (ae_ix (ru1 hr) (av 3) ae_int) ae_str)))) (ass_cons (as_if (at_cmp (ao_eq (ru64 hr)) (av 1) ae_str) (ass_one (as_ret (ae_tup (aa_cons ae_str (aa_cons (ae_cmp ao_lt (ae_ix (ru1 hr) (av 2) ae_int) (ae_ix (ru1 hr) (av 3) ae_int)) aa_nil))))) ass_nil)
      (ass_cons (as_set sc__law_fold.nd (ae_disp (apx_cons ae_str (ae_op ao_add (ae_ix (ru1 hr) (av 2) ae_int) (ae_ix (ru1 hr) (av 3) ae_int)) (apx_cons ae_str (ae_op ao_sub (ae_ix (ru1 hr) (av 2) ae_int) (ae_ix (ru1 hr) (av 3) ae_int)) (apx_cons ae_str (ae_op ao_mul (ae_ix (ru1 hr) (av 2) ae_int) (ae_ix (ru1 hr) (av 3) ae_int)) apx_nil)))))
      (ass_one (as_ret (ae_tup (aa_cons ae_str (aa_cons (ae_op ao_mod (ae_callTy ac_int T.no_int (aa_cons (ae_ix (ru1 hr) (av 5) (av 1)) aa_nil)) ae_int) aa_nil))))))) ass_nil)
      (ass_one (as_ret (ae_tup (aa_cons (av 1) (aa_cons (av 2) (aa_cons (av 3) aa_nil)))))))))))))))))), fun ds S Ea Qa h => (sp ds S Ea Qa h).2⟩), T.g__law_fold, F.kp, F.bindsN (fun _ _ _ _ _ _ us hl => match us, hl with | [_], _ => rfl)⟩
theorem z__law_fold {P : Program} {w : World} {K : PySem.W.Frag} {mg : Str → Option Value} {base : Heap} (T : Facts K mg) {k : Nat} : FD P w K mg base "_law_fold" k fun _ _ _ _ => False := by
  obtain ⟨fd, F⟩ := T.d__law_fold
  exact ⟨_, fd, ["_law_e"], never_ok, T.g__law_fold, F.kp, F.bindsN (fun _ _ _ _ _ _ us hl => match us, hl with | [_], _ => rfl)⟩
theorem sc__law_fold_b : FnScope ["_law_block", "_law_one"] ["_law_block"] (defScope s__law_fold_b) := ⟨rfl, rfl, rfl, by decide +kernel, rfl, by decide +kernel, by decide +kernel⟩
theorem ok__law_fold_b {P : Program} {w : World} {K : PySem.W.Frag} {mg : Str → Option Value} {base : Heap} (T : Facts K mg) {k : Nat} {G : AFn} {F__law_fold_s : AFn} (h__law_fold_s : FD P w K mg base "_law_fold_s" k F__law_fold_s)
    (sp : ∀ ds S E Q, G ds S E Q → ds.length = 1 ∧ (a__law_fold_b F__law_fold_s) (bodyEnds Q E) (startA 2 ds) S) : FD P w K mg base "_law_fold_b" (k + 1) G := by
  obtain ⟨fd, F⟩ := T.d__law_fold_b
  exact ⟨_, fd, ["_law_block"], fn_ok F sc__law_fold_b (fun ds S E Q h => (sp ds S E Q h).1) (fun cdv A outer s H E hr => ⟨a__law_fold_b F__law_fold_s, (ass_one (as_ret (ae_callTy ac_tuple T.no_tuple (aa_cons (ae_lc rfl sc__law_fold_b.nd [("_law_one", 1)] (ai_any (av 0)) (agc_name (by decide) sc__law_fold_b.nd) (fun _ _ _ _ _ => aifs_nil) (fun _ _ _ _ _ => (ae_call h__law_fold_s hr takesB (aa_cons (av 1) aa_nil)))) aa_nil)))), fun ds S Ea Qa h => (sp ds S Ea Qa h).2⟩), T.g__law_fold_b, F.kp, F.bindsN (fun _ _ _ _ _ _ us hl => match us, hl with | [_], _ => rfl)⟩
theorem z__law_fold_b {P : Program} {w : World} {K : PySem.W.Frag} {mg : Str → Option Value} {base : Heap} (T : Facts K mg) {k : Nat} : FD P w K mg base "_law_fold_b" k fun _ _ _ _ => False := by
  obtain ⟨fd, F⟩ := T.d__law_fold_b
  exact ⟨_, fd, ["_law_block"], never_ok, T.g__law_fold_b, F.kp, F.bindsN (fun _ _ _ _ _ _ us hl => match us, hl with | [_], _ => rfl)⟩
theorem sc__law_fold_s : FnScope ["_law_row", "_law_head", "_law_test"] ["_law_row"] (defScope s__law_fold_s) := ⟨rfl, rfl, rfl, by decide +kernel, rfl, by decide +kernel, by decide +kernel⟩
theorem ok__law_fold_s {P : Program} {w : World} {K : PySem.W.Frag} {mg : Str → Option Value} {base : Heap} (T : Facts K mg) {k : Nat} {G : AFn} {F__law_fold F__law_fold_b : AFn} (h__law_fold : FD P w K mg base "_law_fold" k F__law_fold) (h__law_fold_b : FD P w K mg base "_law_fold_b" k F__law_fold_b)
    (sp : ∀ ds S E Q, G ds S E Q → ds.length = 1 ∧ (a__law_fold_s F__law_fold F__law_fold_b) (bodyEnds Q E) (startA 3 ds) S) : FD P w K mg base "_law_fold_s" (k + 1) G := by
  obtain ⟨fd, F⟩ := T.d__law_fold_s
  exact ⟨_, fd, ["_law_row"], fn_ok F sc__law_fold_s (fun ds S E Q h => (sp ds S E Q h).1) (fun cdv A outer s H E hr => ⟨a__law_fold_s F__law_fold F__law_fold_b, (ass_cons (as_set sc__law_fold_s.nd (ae_ix (ru1 hr) (av 0) ae_int))
      (ass_cons (as_if (at_cmp (ao_in (ru65 hr)) (av 1) (ae_lst (aa_cons ae_str (aa_cons ae_str aa_nil)))) (ass_one (as_ret (ae_tup (aa_cons (av 1) (aa_cons (ae_ix (ru1 hr) (av 0) ae_int) (aa_cons (ae_call h__law_fold hr takesE (aa_cons (ae_ix (ru1 hr) (av 0) ae_int) aa_nil)) (aa_cons (ae_ix (ru1 hr) (av 0) ae_int) aa_nil))))))) ass_nil)
      (ass_cons (as_if (at_cmp (ao_in (ru65 hr)) (av 1) (ae_lst (aa_cons ae_str (aa_cons ae_str (aa_cons ae_str (aa_cons ae_str aa_nil)))))) (ass_one (as_ret (ae_tup (aa_cons (av 1) (aa_cons (ae_call h__law_fold hr takesE (aa_cons (ae_ix (ru1 hr) (av 0) ae_int) aa_nil)) (aa_cons (ae_ix (ru1 hr) (av 0) ae_int) aa_nil)))))) ass_nil)
      (ass_cons (as_if (at_cmp (ao_eq (ru64 hr)) (av 1) ae_str) (ass_one (as_ret (ae_tup (aa_cons ae_str (aa_cons (ae_ix (ru1 hr) (av 0) ae_int) (aa_cons (ae_ix (ru1 hr) (av 0) ae_int) (aa_cons (ae_call h__law_fold_b hr takesE (aa_cons (ae_ix (ru1 hr) (av 0) ae_int) aa_nil)) (aa_cons (ae_ix (ru1 hr) (av 0) ae_int) aa_nil)))))))) ass_nil)
      (ass_cons (as_if (at_cmp (ao_eq (ru64 hr)) (av 1) ae_str) (ass_one (as_ret (ae_tup (aa_cons ae_str (aa_cons (ae_call h__law_fold_b hr takesE (aa_cons (ae_ix (ru1 hr) (av 0) ae_int) aa_nil)) (aa_cons (ae_ix (ru1 hr) (av 0) ae_int) aa_nil)))))) ass_nil)
      (ass_cons (as_if (at_cmp (ao_eq (ru64 hr)) (av 1) ae_str) (ass_one (as_ret (ae_tup (aa_cons ae_str (aa_cons (ae_call h__law_fold_b hr takesE (aa_cons (ae_ix (ru1 hr) (av 0) ae_int) aa_nil)) (aa_cons (ae_ix (ru1 hr) (av 0) ae_int) (aa_cons (ae_call h__law_fold_b hr takesE (aa_cons (ae_ix (ru1 hr) (av 0) ae_int) aa_nil)) (aa_cons (ae_ix (ru1 hr) (av 0) ae_int) aa_nil)))))))) ass_nil)
      (ass_cons (as_set sc__law_fold_s.nd (ae_call h__law_fold hr takesE (aa_cons (ae_ix (ru1 hr) (av 0) ae_int) aa_nil)))
      (ass_cons (as_if (at_cmp (ao_eq (ru64 hr)) (av 1) ae_str) (ass_cons (as_if (AW.at (aw_and (at_cmp (ao_eq (ru64 hr)) (ae_ix (ru1 hr) (av 2) ae_int) ae_str) (aw_and1 (at_cmp (ao_eq (ru64 hr)) (ae_op ao_mod (ae_callTy ac_int T.no_int (aa_cons (ae_ix (ru1 hr) (av 2) ae_int) aa_nil)) ae_int) ae_int)))) (ass_one (as_ret (ae_tup (aa_cons ae_str (aa_cons (ae_tup aa_nil) (aa_cons (ae_ix (ru1 hr) (av 0) ae_int) aa_nil)))))) ass_nil)
      (ass_one (as_ret (ae_tup (aa_cons ae_str (aa_cons (av 2) (aa_cons (ae_call h__law_fold_b hr takesE (aa_cons (ae_ix (ru1 hr) (av 0) ae_int) aa_nil)) (aa_cons (ae_ix (ru1 hr) (av 0) ae_int) aa_nil)))))))) ass_nil)
      (ass_cons (as_if (at_cmp (ao_eq (ru64 hr)) (av 2) (ae_tup (aa_cons ae_str (aa_cons ae_bl aa_nil)))) (ass_one (as_ret (ae_tup (aa_cons ae_str (aa_cons (ae_call h__law_fold_b hr takesE (aa_cons (ae_ix (ru1 hr) (av 0) ae_int) aa_nil)) (aa_cons (ae_ix (ru1 hr) (av 0) ae_int) aa_nil)))))) ass_nil)
      (ass_cons (as_if (at_cmp (ao_eq (ru64 hr)) (av 2) (ae_tup (aa_cons ae_str (aa_cons ae_bl aa_nil)))) (ass_one (as_ret (ae_tup (aa_cons ae_str (aa_cons (ae_call h__law_fold_b hr takesE (aa_cons (ae_ix (ru1 hr) (av 0) ae_int) aa_nil)) (aa_cons (ae_ix (ru1 hr) (av 0) ae_int) aa_nil)))))) ass_nil)
      (ass_one (as_ret (ae_tup (aa_cons ae_str (aa_cons (av 2) (aa_cons (ae_call h__law_fold_b hr takesE (aa_cons (ae_ix (ru1 hr) (av 0) ae_int) aa_nil)) (aa_cons (ae_call h__law_fold_b hr takesE (aa_cons (ae_ix (ru1 hr) (av 0) ae_int) aa_nil)) (aa_cons (ae_ix (ru1 hr) (av 0) ae_int) aa_nil)))))))))))))))))), fun ds S Ea Qa h => (sp ds S Ea Qa h).2⟩), T.g__law_fold_s, F.kp, F.bindsN (fun _ _ _ _ _ _ us hl => match us, hl with | [_], _ => rfl)⟩
theorem z__law_fold_s {P : Program} {w : World} {K : PySem.W.Frag} {mg : Str → Option Value} {base : Heap} (T : Facts K mg) {k : Nat} : FD P w K mg base "_law_fold_s" k fun _ _ _ _ => False := by
  obtain ⟨fd, F⟩ := T.d__law_fold_s
  exact ⟨_, fd, ["_law_row"], never_ok, T.g__law_fold_s, F.kp, F.bindsN (fun _ _ _ _ _ _ us hl => match us, hl with | [_], _ => rfl)⟩
theorem sc__law_ends : FnScope ["_law_statement", "_law_head", "_law_one", "_law_first"] ["_law_statement"] (defScope s__law_ends) := ⟨rfl, rfl, rfl, by decide +kernel, rfl, by decide +kernel, by decide +kernel⟩
theorem ok__law_ends {P : Program} {w : World} {K : PySem.W.Frag} {mg : Str → Option Value} {base : Heap} (T : Facts K mg) {k : Nat} {G : AFn} {F__law_ends : AFn} (h__law_ends : FD P w K mg base "_law_ends" k F__law_ends)
    (sp : ∀ ds S E Q, G ds S E Q → ds.length = 1 ∧ (a__law_ends F__law_ends) (bodyEnds Q E) (startA 4 ds) S) : FD P w K mg base "_law_ends" (k + 1) G := by
  obtain ⟨fd, F⟩ := T.d__law_ends
  exact ⟨_, fd, ["_law_statement"], fn_ok F sc__law_ends (fun ds S E Q h => (sp ds S E Q h).1) (fun cdv A outer s H E hr => ⟨a__law_ends F__law_ends, (ass_cons (as_set sc__law_ends.nd (ae_ix (ru1 hr) (av 0) ae_int))
      (ass_cons (as_if (at_cmp (ao_in (ru65 hr)) (av 1) (ae_lst (aa_cons ae_str (aa_cons ae_str aa_nil)))) (ass_one (as_ret ae_bl)) ass_nil)
      (ass_cons (as_if (at_cmp (ao_eq (ru64 hr)) (av 1) ae_str) (ass_one (as_ret (ae_cmp (ao_in (ru65 hr)) ae_bl (ae_lc rfl sc__law_ends.nd [("_law_one", 2)] (ai_any (ae_ix (ru1 hr) (av 0) ae_int)) (agc_name (by decide) sc__law_ends.nd) (fun _ _ _ _ _ => aifs_nil) (fun _ _ _ _ _ => (ae_call h__law_ends hr takesB (aa_cons (av 2) aa_nil))))))) ass_nil)
      (ass_cons (as_if (at_cmp (ao_eq (ru64 hr)) (av 1) ae_str) (ass_cons (as_set sc__law_ends.nd (ae_cmp (ao_in (ru65 hr)) ae_bl (ae_lc rfl sc__law_ends.nd [("_law_one", 2)] (ai_any (ae_ix (ru1 hr) (av 0) ae_int)) (agc_name (by decide) sc__law_ends.nd) (fun _ _ _ _ _ => aifs_nil) (fun _ _ _ _ _ => (ae_call h__law_ends hr takesB (aa_cons (av 2) aa_nil))))))
      (ass_one (as_ret (ae_and (av 3) (ae_one (ae_cmp (ao_in (ru65 hr)) ae_bl (ae_lc rfl sc__law_ends.nd [("_law_one", 2)] (ai_any (ae_ix (ru1 hr) (av 0) ae_int)) (agc_name (by decide) sc__law_ends.nd) (fun _ _ _ _ _ => aifs_nil) (fun _ _ _ _ _ => (ae_call h__law_ends hr takesB (aa_cons (av 2) aa_nil)))))))))) ass_nil)
      (ass_one (as_ret ae_bl)))))), fun ds S Ea Qa h => (sp ds S Ea Qa h).2⟩), T.g__law_ends, F.kp, F.bindsN (fun _ _ _ _ _ _ us hl => match us, hl with | [_], _ => rfl)⟩
theorem z__law_ends {P : Program} {w : World} {K : PySem.W.Frag} {mg : Str → Option Value} {base : Heap} (T : Facts K mg) {k : Nat} : FD P w K mg base "_law_ends" k fun _ _ _ _ => False := by
  obtain ⟨fd, F⟩ := T.d__law_ends
  exact ⟨_, fd, ["_law_statement"], never_ok, T.g__law_ends, F.kp, F.bindsN (fun _ _ _ _ _ _ us hl => match us, hl with | [_], _ => rfl)⟩
theorem sc__law_rows : FnScope ["_law_feed_here", "_law_depth", "_law_rows_here", "_law_k", "_law_pick"] ["_law_feed_here", "_law_depth"] (defScope s__law_rows) := ⟨rfl, rfl, rfl, by decide +kernel, rfl, by decide +kernel, by decide +kernel⟩
theorem ok__law_rows {P : Program} {w : World} {K : PySem.W.Frag} {mg : Str → Option Value} {base : Heap} (T : Facts K mg) {k : Nat} {G : AFn} {F__law_take F__law_expr F__law_rows : AFn} (h__law_take : FD P w K mg base "_law_take" k F__law_take) (h__law_expr : FD P w K mg base "_law_expr" k F__law_expr) (h__law_rows : FD P w K mg base "_law_rows" k F__law_rows)
    (sp : ∀ ds S E Q, G ds S E Q → ds.length = 2 ∧ (a__law_rows F__law_take F__law_expr F__law_rows) (bodyEnds Q E) (startA 5 ds) S) : FD P w K mg base "_law_rows" (k + 1) G := by
  obtain ⟨fd, F⟩ := T.d__law_rows
  exact ⟨_, fd, ["_law_feed_here", "_law_depth"], fn_ok F sc__law_rows (fun ds S E Q h => (sp ds S E Q h).1) (fun cdv A outer s H E hr => ⟨a__law_rows F__law_take F__law_expr F__law_rows, (ass_cons (as_set sc__law_rows.nd (ae_lst aa_nil))
      (ass_cons (as_for passesE rfl (ai_range1 T.no_range (aa_cons (ae_call h__law_take hr takesE (aa_cons (av 0) (aa_cons ae_int aa_nil))) aa_nil)) (ag_name sc__law_rows.nd) (ass_cons (as_set sc__law_rows.nd (ae_call h__law_take hr takesE (aa_cons (av 0) (aa_cons ae_int aa_nil))))
      (ass_one (as_if (at_cmp (ao_eq (ru64 hr)) (av 4) ae_int) (ass_one (as_expr (ae_append (av 2) (ae_tup (aa_cons ae_str (aa_cons (ae_call h__law_expr hr takesE (aa_cons (av 0) (aa_cons ae_int aa_nil))) (aa_cons (av 3) aa_nil))))))) (ass_one (as_if (at_cmp (ao_eq (ru64 hr)) (av 4) ae_int) (ass_one (as_expr (ae_append (av 2) (ae_tup (aa_cons (ae_ix (ru1 hr) (ae_lst (aa_cons ae_str (aa_cons ae_str aa_nil))) (ae_call h__law_take hr takesE (aa_cons (av 0) (aa_cons ae_int aa_nil)))) (aa_cons (ae_call h__law_expr hr takesE (aa_cons (av 0) (aa_cons ae_int aa_nil))) (aa_cons (av 3) aa_nil))))))) (ass_one (as_if (at_cmp (ao_eq (ru64 hr)) (av 4) ae_int) (ass_one (as_expr (ae_append (av 2) (ae_tup (aa_cons (ae_ix (ru1 hr) (ae_lst (aa_cons ae_str (aa_cons ae_str aa_nil))) (ae_call h__law_take hr takesE (aa_cons (av 0) (aa_cons ae_int aa_nil)))) (aa_cons (ae_op ao_add ae_int (av 3)) (aa_cons (ae_call h__law_expr hr takesE (aa_cons (av 0) (aa_cons ae_int aa_nil))) (aa_cons (av 3) aa_nil)))))))) (ass_one (as_if (AW.at (aw_and (at_cmp (ao_eq (ru64 hr)) (av 4) ae_int) (aw_and1 (at_cmp ao_gt (av 1) ae_int)))) (ass_one (as_expr (ae_append (av 2) (ae_tup (aa_cons ae_str (aa_cons (ae_call h__law_rows hr takesE (aa_cons (av 0) (aa_cons (ae_op ao_sub (av 1) ae_int) aa_nil))) (aa_cons (av 3) aa_nil))))))) (ass_one (as_if (AW.at (aw_and (at_cmp (ao_eq (ru64 hr)) (av 4) ae_int) (aw_and1 (at_cmp ao_gt (av 1) ae_int)))) (ass_one (as_expr (ae_append (av 2) (ae_tup (aa_cons ae_str (aa_cons (ae_call h__law_expr hr takesE (aa_cons (av 0) (aa_cons ae_int aa_nil))) (aa_cons (ae_call h__law_rows hr takesE (aa_cons (av 0) (aa_cons (ae_op ao_sub (av 1) ae_int) aa_nil))) (aa_cons (ae_call h__law_rows hr takesE (aa_cons (av 0) (aa_cons (ae_op ao_sub (av 1) ae_int) aa_nil))) (aa_cons (av 3) aa_nil))))))))) (ass_one (as_if (AW.at (aw_and (at_cmp (ao_eq (ru64 hr)) (av 4) ae_int) (aw_and1 (at_cmp ao_gt (av 1) ae_int)))) (ass_one (as_expr (ae_append (av 2) (ae_tup (aa_cons ae_str (aa_cons (ae_call h__law_rows hr takesE (aa_cons (av 0) (aa_cons (ae_op ao_sub (av 1) ae_int) aa_nil))) (aa_cons ae_int (aa_cons (ae_call h__law_rows hr takesE (aa_cons (av 0) (aa_cons (ae_op ao_sub (av 1) ae_int) aa_nil))) (aa_cons (av 3) aa_nil))))))))) (ass_one (as_if (AW.at (aw_and (at_cmp (ao_eq (ru64 hr)) (av 4) ae_int) (aw_and1 (at_cmp ao_gt (av 1) ae_int)))) (ass_one (as_expr (ae_append (av 2) (ae_tup (aa_cons ae_str (aa_cons (ae_op ao_add ae_int (av 3)) (aa_cons (ae_tup aa_nil) (aa_cons (ae_call h__law_rows hr takesE (aa_cons (av 0) (aa_cons (ae_op ao_sub (av 1) ae_int) aa_nil))) (aa_cons (av 3) aa_nil))))))))) (ass_one (as_if (AW.at (aw_and (at_cmp (ao_eq (ru64 hr)) (av 4) ae_int) (aw_and1 (at_cmp ao_gt (av 1) ae_int)))) (ass_one (as_expr (ae_append (av 2) (ae_tup (aa_cons ae_str (aa_cons (ae_call h__law_expr hr takesE (aa_cons (av 0) (aa_cons ae_int aa_nil))) (aa_cons (ae_call h__law_rows hr takesE (aa_cons (av 0) (aa_cons (ae_op ao_sub (av 1) ae_int) aa_nil))) (aa_cons (av 3) aa_nil)))))))) (ass_one (as_expr (ae_append (av 2) (ae_tup (aa_cons ae_str (aa_cons (ae_call h__law_expr hr takesE (aa_cons (av 0) (aa_cons ae_int aa_nil))) (aa_cons (av 3) aa_nil)))))))))))))))))))))))))
      (ass_one (as_ret (ae_callTy ac_tuple T.no_tuple (aa_cons (av 2) aa_nil)))))), fun ds S Ea Qa h => (sp ds S Ea Qa h).2⟩), T.g__law_rows, F.kp, F.bindsN (fun _ _ _ _ _ _ us hl => match us, hl with | [_, _], _ => rfl)⟩
theorem z__law_rows {P : Program} {w : World} {K : PySem.W.Frag} {mg : Str → Option Value} {base : Heap} (T : Facts K mg) {k : Nat} : FD P w K mg base "_law_rows" k fun _ _ _ _ => False := by
  obtain ⟨fd, F⟩ := T.d__law_rows
  exact ⟨_, fd, ["_law_feed_here", "_law_depth"], never_ok, T.g__law_rows, F.kp, F.bindsN (fun _ _ _ _ _ _ us hl => match us, hl with | [_, _], _ => rfl)⟩
theorem sc__law_alive : FnScope ["_law_rows_here", "_law_found", "_law_ended", "_law_row"] ["_law_rows_here"] (defScope s__law_alive) := ⟨rfl, rfl, rfl, by decide +kernel, rfl, by decide +kernel, by decide +kernel⟩
theorem ok__law_alive {P : Program} {w : World} {K : PySem.W.Frag} {mg : Str → Option Value} {base : Heap} (T : Facts K mg) {k : Nat} {G : AFn} {F__law_alive_row F__law_ends : AFn} (h__law_alive_row : FD P w K mg base "_law_alive_row" k F__law_alive_row) (h__law_ends : FD P w K mg base "_law_ends" k F__law_ends)
    (sp : ∀ ds S E Q, G ds S E Q → ds.length = 1 ∧ (a__law_alive F__law_alive_row F__law_ends) (bodyEnds Q E) (startA 4 ds) S) : FD P w K mg base "_law_alive" (k + 1) G := by
  obtain ⟨fd, F⟩ := T.d__law_alive
  exact ⟨_, fd, ["_law_rows_here"], fn_ok F sc__law_alive (fun ds S E Q h => (sp ds S E Q h).1) (fun cdv A outer s H E hr => ⟨a__law_alive F__law_alive_row F__law_ends, (ass_cons (as_set sc__law_alive.nd (ae_lst aa_nil))
      (ass_cons (as_set sc__law_alive.nd ae_bl)
      (ass_cons (as_for passesE rfl (ai_any (av 0)) (ag_name sc__law_alive.nd) (ass_cons (as_if (AW.at (aw_or (at_not (at_val (av 2))) (aw_or1 (at_cmp (ao_in (ru65 hr)) (ae_ix (ru1 hr) (av 3) ae_int) (ae_lst (aa_cons ae_str (aa_cons ae_str aa_nil))))))) (ass_one (as_expr (ae_append (av 1) (ae_call h__law_alive_row hr takesE (aa_cons (av 3) aa_nil))))) ass_nil)
      (ass_one (as_set sc__law_alive.nd (ae_or (av 2) (ae_one (ae_call h__law_ends hr takesE (aa_cons (av 3) aa_nil))))))))
      (ass_one (as_ret (ae_callTy ac_tuple T.no_tuple (aa_cons (av 1) aa_nil))))))), fun ds S Ea Qa h => (sp ds S Ea Qa h).2⟩), T.g__law_alive, F.kp, F.bindsN (fun _ _ _ _ _ _ us hl => match us, hl with | [_], _ => rfl)⟩
theorem z__law_alive {P : Program} {w : World} {K : PySem.W.Frag} {mg : Str → Option Value} {base : Heap} (T : Facts K mg) {k : Nat} : FD P w K mg base "_law_alive" k fun _ _ _ _ => False := by
  obtain ⟨fd, F⟩ := T.d__law_alive
  exact ⟨_, fd, ["_law_rows_here"], never_ok, T.g__law_alive, F.kp, F.bindsN (fun _ _ _ _ _ _ us hl => match us, hl with | [_], _ => rfl)⟩
theorem sc__law_alive_row : FnScope ["_law_row"] ["_law_row"] (defScope s__law_alive_row) := ⟨rfl, rfl, rfl, by decide +kernel, rfl, by decide +kernel, by decide +kernel⟩
theorem ok__law_alive_row {P : Program} {w : World} {K : PySem.W.Frag} {mg : Str → Option Value} {base : Heap} (T : Facts K mg) {k : Nat} {G : AFn} {F__law_alive F__law_alive_e : AFn} (h__law_alive : FD P w K mg base "_law_alive" k F__law_alive) (h__law_alive_e : FD P w K mg base "_law_alive_e" k F__law_alive_e)
    (sp : ∀ ds S E Q, G ds S E Q → ds.length = 1 ∧ (a__law_alive_row F__law_alive F__law_alive_e) (bodyEnds Q E) (startA 1 ds) S) : FD P w K mg base "_law_alive_row" (k + 1) G := by
  obtain ⟨fd, F⟩ := T.d__law_alive_row
  exact ⟨_, fd, ["_law_row"], fn_ok F sc__law_alive_row (fun ds S E Q h => (sp ds S E Q h).1) (fun cdv A outer s H E hr => ⟨a__law_alive_row F__law_alive F__law_alive_e, (ass_cons (as_if (at_cmp (ao_eq (ru64 hr)) (ae_ix (ru1 hr) (av 0) ae_int) ae_str) (ass_one (as_ret (ae_tup (aa_cons ae_str (aa_cons (ae_call h__law_alive hr takesE (aa_cons (ae_ix (ru1 hr) (av 0) ae_int) aa_nil)) (aa_cons (ae_ix (ru1 hr) (av 0) ae_int) aa_nil)))))) ass_nil)
      (ass_cons (as_if (at_cmp (ao_eq (ru64 hr)) (ae_ix (ru1 hr) (av 0) ae_int) ae_str) (ass_one (as_ret (ae_tup (aa_cons ae_str (aa_cons (ae_call h__law_alive_e hr takesE (aa_cons (ae_ix (ru1 hr) (av 0) ae_int) aa_nil)) (aa_cons (ae_call h__law_alive hr takesE (aa_cons (ae_ix (ru1 hr) (av 0) ae_int) aa_nil)) (aa_cons (ae_call h__law_alive hr takesE (aa_cons (ae_ix (ru1 hr) (av 0) ae_int) aa_nil)) (aa_cons (ae_ix (ru1 hr) (av 0) ae_int) aa_nil)))))))) ass_nil)
      (ass_cons (as_if (at_cmp (ao_eq (ru64 hr)) (ae_ix (ru1 hr) (av 0) ae_int) ae_str) (ass_one (as_ret (ae_tup (aa_cons ae_str (aa_cons (ae_call h__law_alive hr takesE (aa_cons (ae_ix (ru1 hr) (av 0) ae_int) aa_nil)) (aa_cons (ae_ix (ru1 hr) (av 0) ae_int) (aa_cons (ae_call h__law_alive hr takesE (aa_cons (ae_ix (ru1 hr) (av 0) ae_int) aa_nil)) (aa_cons (ae_ix (ru1 hr) (av 0) ae_int) aa_nil)))))))) ass_nil)
      (ass_cons (as_if (at_cmp (ao_eq (ru64 hr)) (ae_ix (ru1 hr) (av 0) ae_int) ae_str) (ass_one (as_ret (ae_tup (aa_cons ae_str (aa_cons (ae_ix (ru1 hr) (av 0) ae_int) (aa_cons (ae_ix (ru1 hr) (av 0) ae_int) (aa_cons (ae_call h__law_alive hr takesE (aa_cons (ae_ix (ru1 hr) (av 0) ae_int) aa_nil)) (aa_cons (ae_ix (ru1 hr) (av 0) ae_int) aa_nil)))))))) ass_nil)
      (ass_cons (as_if (at_cmp (ao_eq (ru64 hr)) (ae_ix (ru1 hr) (av 0) ae_int) ae_str) (ass_one (as_ret (ae_tup (aa_cons ae_str (aa_cons (ae_call h__law_alive_e hr takesE (aa_cons (ae_ix (ru1 hr) (av 0) ae_int) aa_nil)) (aa_cons (ae_call h__law_alive hr takesE (aa_cons (ae_ix (ru1 hr) (av 0) ae_int) aa_nil)) (aa_cons (ae_ix (ru1 hr) (av 0) ae_int) aa_nil))))))) ass_nil)
      (ass_cons (as_if (at_cmp (ao_in (ru65 hr)) (ae_ix (ru1 hr) (av 0) ae_int) (ae_lst (aa_cons ae_str (aa_cons ae_str aa_nil)))) (ass_one (as_ret (ae_tup (aa_cons (ae_ix (ru1 hr) (av 0) ae_int) (aa_cons (ae_ix (ru1 hr) (av 0) ae_int) (aa_cons (ae_call h__law_alive_e hr takesE (aa_cons (ae_ix (ru1 hr) (av 0) ae_int) aa_nil)) (aa_cons (ae_ix (ru1 hr) (av 0) ae_int) aa_nil))))))) ass_nil)
      (ass_one (as_ret (ae_tup (aa_cons (ae_ix (ru1 hr) (av 0) ae_int) (aa_cons (ae_call h__law_alive_e hr takesE (aa_cons (ae_ix (ru1 hr) (av 0) ae_int) aa_nil)) (aa_cons (ae_ix (ru1 hr) (av 0) ae_int) aa_nil)))))))))))), fun ds S Ea Qa h => (sp ds S Ea Qa h).2⟩), T.g__law_alive_row, F.kp, F.bindsN (fun _ _ _ _ _ _ us hl => match us, hl with | [_], _ => rfl)⟩
theorem z__law_alive_row {P : Program} {w : World} {K : PySem.W.Frag} {mg : Str → Option Value} {base : Heap} (T : Facts K mg) {k : Nat} : FD P w K mg base "_law_alive_row" k fun _ _ _ _ => False := by
  obtain ⟨fd, F⟩ := T.d__law_alive_row
  exact ⟨_, fd, ["_law_row"], never_ok, T.g__law_alive_row, F.kp, F.bindsN (fun _ _ _ _ _ _ us hl => match us, hl with | [_], _ => rfl)⟩
theorem sc__law_alive_e : FnScope ["_law_e", "_law_head", "_law_one"] ["_law_e"] (defScope s__law_alive_e) := ⟨rfl, rfl, rfl, by decide +kernel, rfl, by decide +kernel, by decide +kernel⟩
theorem ok__law_alive_e {P : Program} {w : World} {K : PySem.W.Frag} {mg : Str → Option Value} {base : Heap} (T : Facts K mg) {k : Nat} {G : AFn} {F__law_alive F__law_alive_e : AFn} (h__law_alive : FD P w K mg base "_law_alive" k F__law_alive) (h__law_alive_e : FD P w K mg base "_law_alive_e" k F__law_alive_e)
    (sp : ∀ ds S E Q, G ds S E Q → ds.length = 1 ∧ (a__law_alive_e F__law_alive F__law_alive_e) (bodyEnds Q E) (startA 3 ds) S) : FD P w K mg base "_law_alive_e" (k + 1) G := by
  obtain ⟨fd, F⟩ := T.d__law_alive_e
  exact ⟨_, fd, ["_law_e"], fn_ok F sc__law_alive_e (fun ds S E Q h => (sp ds S E Q h).1) (fun cdv A outer s H E hr => ⟨a__law_alive_e F__law_alive F__law_alive_e, (ass_cons (as_set sc__law_alive_e.nd (ae_ix (ru1 hr) (av 0) ae_int))
      (ass_cons (as_if (at_cmp (ao_in (ru65 hr)) (av 1) (ae_lst (aa_cons ae_str (aa_cons ae_str (aa_cons ae_str (aa_cons ae_str aa_nil)))))) (ass_one (as_ret (av 0))) ass_nil)
      (ass_cons (as_if (at_cmp (ao_eq (ru64 hr)) (av 1) ae_str) (ass_one (as_ret (ae_tup (aa_cons ae_str (aa_cons (ae_ix (ru1 hr) (av 0) ae_int) (aa_cons (ae_call h__law_alive hr takesE (aa_cons (ae_ix (ru1 hr) (av 0) ae_int) aa_nil)) aa_nil)))))) ass_nil)
      (ass_cons (as_if (at_cmp (ao_eq (ru64 hr)) (av 1) ae_str) (ass_one (as_ret (ae_tup (aa_cons ae_str (aa_cons (ae_call h__law_alive_e hr takesE (aa_cons (ae_ix (ru1 hr) (av 0) ae_int) aa_nil)) (aa_cons (ae_callTy ac_tuple T.no_tuple (aa_cons (ae_lc rfl sc__law_alive_e.nd [("_law_one", 2)] (ai_any (ae_ix (ru1 hr) (av 0) ae_int)) (agc_name (by decide) sc__law_alive_e.nd) (fun _ _ _ _ _ => aifs_nil) (fun _ _ _ _ _ => (ae_call h__law_alive_e hr takesB (aa_cons (av 2) aa_nil)))) aa_nil)) aa_nil)))))) ass_nil)
      (ass_cons (as_if (at_cmp (ao_eq (ru64 hr)) (av 1) ae_str) (ass_one (as_ret (ae_tup (aa_cons ae_str (aa_cons (ae_call h__law_alive_e hr takesE (aa_cons (ae_ix (ru1 hr) (av 0) ae_int) aa_nil)) (aa_cons (ae_ix (ru1 hr) (av 0) ae_int) aa_nil)))))) ass_nil)
      (ass_cons (as_if (at_cmp (ao_eq (ru64 hr)) (av 1) ae_str) (ass_one (as_ret (ae_tup (aa_cons ae_str (aa_cons (ae_call h__law_alive_e hr takesE (aa_cons (ae_ix (ru1 hr) (av 0) ae_int) aa_nil)) aa_nil))))) ass_nil)
      (ass_one (as_ret (ae_tup (aa_cons (av 1) (aa_cons (ae_call h__law_alive_e hr takesE (aa_cons (ae_ix (ru1 hr) (av 0) ae_int) aa_nil)) (aa_cons (ae_call h__law_alive_e hr takesE (aa_cons (ae_ix (ru1 hr) (av 0) ae_int) aa_nil)) aa_nil)))))))))))), fun ds S Ea Qa h => (sp ds S Ea Qa h).2⟩), T.g__law_alive_e, F.kp, F.bindsN (fun _ _ _ _ _ _ us hl => match us, hl with | [_], _ => rfl)⟩
theorem z__law_alive_e {P : Program} {w : World} {K : PySem.W.Frag} {mg : Str → Option Value} {base : Heap} (T : Facts K mg) {k : Nat} : FD P w K mg base "_law_alive_e" k fun _ _ _ _ => False := by
  obtain ⟨fd, F⟩ := T.d__law_alive_e
  exact ⟨_, fd, ["_law_e"], never_ok, T.g__law_alive_e, F.kp, F.bindsN (fun _ _ _ _ _ _ us hl => match us, hl with | [_], _ => rfl)⟩
theorem sc_law : FnScope ["_law_script", "_law_feed_here", "_law_k", "_law_e", "_law_due", "_law_one", "_law_two", "_law_first", "_law_folded", "_law_rows_here", "_law_row", "_law_linked"] ["_law_script"] (defScope s_law) := ⟨rfl, rfl, rfl, by decide +kernel, rfl, by decide +kernel, by decide +kernel⟩
theorem ok_law {P : Program} {w : World} {K : PySem.W.Frag} {mg : Str → Option Value} {base : Heap} (T : Facts K mg) {k k' : Nat} (hk : k' + 1 ≤ k) {G : AFn} {F__law_cell F__law_feed F__law_expr F__law_fold F_fold_expression F_fold_statement F__law_rows F_always_ends F__law_ends F_Linked F_fold F_Linked_statements F__law_fold_s F_Linked_exports F_Linked_variables F_dead F__law_alive : AFn} (h__law_cell : FD P w K mg base "_law_cell" k F__law_cell) (h__law_feed : FD P w K mg base "_law_feed" k F__law_feed) (h__law_expr : FD P w K mg base "_law_expr" k F__law_expr) (h__law_fold : FD P w K mg base "_law_fold" k F__law_fold) (h_fold_expression : FD P w K mg base "fold_expression" k F_fold_expression) (h_fold_statement : FD P w K mg base "fold_statement" k F_fold_statement) (h__law_rows : FD P w K mg base "_law_rows" k F__law_rows) (h_always_ends : FD P w K mg base "always_ends" k F_always_ends) (h__law_ends : FD P w K mg base "_law_ends" k F__law_ends) (h_Linked : CD P w K mg base "Linked" k' F_Linked) (h_fold : FD P w K mg base "fold" k F_fold) (h_Linked_statements : MD P w K mg base "Linked" "statements" k F_Linked_statements) (h__law_fold_s : FD P w K mg base "_law_fold_s" k F__law_fold_s) (h_Linked_exports : MD P w K mg base "Linked" "exports" k F_Linked_exports) (h_Linked_variables : MD P w K mg base "Linked" "variables" k F_Linked_variables) (h_dead : FD P w K mg base "dead" k F_dead) (h__law_alive : FD P w K mg base "_law_alive" k F__law_alive)
    (sp : ∀ ds S E Q, G ds S E Q → ds.length = 1 ∧ (a_law F__law_cell F__law_feed F__law_expr F__law_fold F_fold_expression F_fold_statement F__law_rows F_always_ends F__law_ends F_Linked F_fold F_Linked_statements F__law_fold_s F_Linked_exports F_Linked_variables F_dead F__law_alive) (bodyEnds Q E) (startA 12 ds) S) : FD P w K mg base "law" (k + 1) G := by
  obtain ⟨fd, F⟩ := T.d_law
  exact ⟨_, fd, ["_law_script"], fn_ok F sc_law (fun ds S E Q h => (sp ds S E Q h).1) (fun cdv A outer s H E hr => ⟨a_law F__law_cell F__law_feed F__law_expr F__law_fold F_fold_expression F_fold_statement F__law_rows F_always_ends F__law_ends F_Linked F_fold F_Linked_statements F__law_fold_s F_Linked_exports F_Linked_variables F_dead F__law_alive, (ass_cons (as_set sc_law.nd (ae_call h__law_feed hr takesE (aa_cons (ae_call h__law_cell hr takesE (aa_cons (av 0) (aa_cons ae_int aa_nil))) (aa_cons ae_int aa_nil))))
      (ass_cons (as_for passesE rfl (ai_range1 T.no_range (aa_cons ae_int aa_nil)) (ag_name sc_law.nd) (ass_cons (as_set sc_law.nd (ae_call h__law_expr hr takesE (aa_cons (av 1) (aa_cons ae_int aa_nil))))
      (ass_cons (as_set sc_law.nd (ae_call h__law_fold hr takesE (aa_cons (av 3) aa_nil)))
      (ass_cons (as_if (AW.at (aw_or (at_cmp (ao_ne (ru64 hr)) (ae_callB (ac_repr hr.gs (ru66 hr)) T.no_repr (aa_cons (ae_call h_fold_expression hr takesE (aa_cons (av 3) aa_nil)) aa_nil)) (ae_callB (ac_repr hr.gs (ru66 hr)) T.no_repr (aa_cons (av 4) aa_nil))) (aw_or1 (at_cmp (ao_ne (ru64 hr)) (ae_callB (ac_repr hr.gs (ru66 hr)) T.no_repr (aa_cons (ae_call h_fold_expression hr takesE (aa_cons (av 4) aa_nil)) aa_nil)) (ae_callB (ac_repr hr.gs (ru66 hr)) T.no_repr (aa_cons (av 4) aa_nil)))))) (ass_one (as_ret ae_bl)) ass_nil)
      (ass_cons (as_set sc_law.nd (ae_tup (aa_cons (ae_tup (aa_cons ae_str (aa_cons (av 3) (aa_cons ae_int aa_nil)))) aa_nil)))
      (ass_cons (as_set sc_law.nd (ae_tup (aa_cons (ae_tup (aa_cons ae_str (aa_cons (av 4) (aa_cons ae_int aa_nil)))) aa_nil)))
      (ass_cons (as_set sc_law.nd (ae_tup (aa_cons (ae_tup (aa_cons ae_str (aa_cons (av 4) (aa_cons ae_int aa_nil)))) aa_nil)))
      (ass_cons (as_set sc_law.nd (ae_tup (aa_cons ae_str (aa_cons (av 4) (aa_cons (av 7) (aa_cons (av 6) (aa_cons ae_int aa_nil)))))))
      (ass_cons (as_if (at_cmp (ao_eq (ru64 hr)) (av 4) (ae_tup (aa_cons ae_str (aa_cons ae_bl aa_nil)))) (ass_one (as_set sc_law.nd (ae_tup (aa_cons ae_str (aa_cons (av 7) (aa_cons ae_int aa_nil)))))) ass_nil)
      (ass_cons (as_if (at_cmp (ao_eq (ru64 hr)) (av 4) (ae_tup (aa_cons ae_str (aa_cons ae_bl aa_nil)))) (ass_one (as_set sc_law.nd (ae_tup (aa_cons ae_str (aa_cons (av 6) (aa_cons ae_int aa_nil)))))) ass_nil)
      (ass_cons (as_if (at_cmp (ao_ne (ru64 hr)) (ae_callB (ac_repr hr.gs (ru66 hr)) T.no_repr (aa_cons (ae_call h_fold_statement hr takesE (aa_cons (ae_tup (aa_cons ae_str (aa_cons (av 3) (aa_cons (av 5) (aa_cons (av 6) (aa_cons ae_int aa_nil)))))) aa_nil)) aa_nil)) (ae_callB (ac_repr hr.gs (ru66 hr)) T.no_repr (aa_cons (av 8) aa_nil))) (ass_one (as_ret ae_bl)) ass_nil)
      (ass_cons (as_set sc_law.nd (ae_tup (aa_cons ae_str (aa_cons (av 4) (aa_cons (av 7) (aa_cons ae_int aa_nil))))))
      (ass_cons (as_if (AW.at (aw_and (at_cmp (ao_eq (ru64 hr)) (ae_ix (ru1 hr) (av 4) ae_int) ae_str) (aw_and1 (at_cmp (ao_eq (ru64 hr)) (ae_op ao_mod (ae_ix (ru1 hr) (av 4) ae_int) ae_int) ae_int)))) (ass_one (as_set sc_law.nd (ae_tup (aa_cons ae_str (aa_cons (ae_tup aa_nil) (aa_cons ae_int aa_nil)))))) ass_nil)
      (ass_one (as_if (at_cmp (ao_ne (ru64 hr)) (ae_callB (ac_repr hr.gs (ru66 hr)) T.no_repr (aa_cons (ae_call h_fold_statement hr takesE (aa_cons (ae_tup (aa_cons ae_str (aa_cons (av 3) (aa_cons (av 5) (aa_cons ae_int aa_nil))))) aa_nil)) aa_nil)) (ae_callB (ac_repr hr.gs (ru66 hr)) T.no_repr (aa_cons (av 8) aa_nil))) (ass_one (as_ret ae_bl)) ass_nil)))))))))))))))
      (ass_cons (as_set sc_law.nd (ae_call h__law_rows hr takesE (aa_cons (ae_call h__law_feed hr takesE (aa_cons (ae_call h__law_cell hr takesE (aa_cons (av 0) (aa_cons ae_int aa_nil))) (aa_cons ae_int aa_nil))) (aa_cons ae_int aa_nil))))
      (ass_cons (as_for passesE rfl (ai_any (av 9)) (ag_name sc_law.nd) (ass_one (as_if (at_cmp (ao_ne (ru64 hr)) (ae_call h_always_ends hr takesE (aa_cons (av 10) aa_nil)) (ae_call h__law_ends hr takesE (aa_cons (av 10) aa_nil))) (ass_one (as_ret ae_bl)) ass_nil)))
      (ass_cons (as_set sc_law.nd (ae_call h_fold hr takesE (aa_cons (ae_make h_Linked (hr.mono hk) takesE (aa_cons (ae_lc rfl sc_law.nd [("_law_row", 10)] (ai_any (av 9)) (agc_name (by decide) sc_law.nd) (fun _ _ _ _ _ => aifs_nil) (fun _ _ _ _ _ => (ae_tup (aa_cons ae_str (aa_cons (av 10) aa_nil))))) (aa_cons (ae_lst (aa_cons (ae_tup (aa_cons ae_str (aa_cons ae_int aa_nil))) aa_nil)) (aa_cons (ae_lst (aa_cons (ae_tup (aa_cons ae_str (aa_cons ae_str (aa_cons ae_str aa_nil)))) aa_nil)) aa_nil)))) aa_nil)))
      (ass_cons (as_if (at_cmp (ao_ne (ru64 hr)) (ae_callB (ac_repr hr.gs (ru66 hr)) T.no_repr (aa_cons (ae_meth0 h_Linked_statements hr takesE (av 8)) aa_nil)) (ae_callB (ac_repr hr.gs (ru66 hr)) T.no_repr (aa_cons (ae_lc rfl sc_law.nd [("_law_row", 10)] (ai_any (av 9)) (agc_name (by decide) sc_law.nd) (fun _ _ _ _ _ => aifs_nil) (fun _ _ _ _ _ => (ae_tup (aa_cons ae_str (aa_cons (ae_call h__law_fold_s hr takesB (aa_cons (av 10) aa_nil)) aa_nil))))) aa_nil))) (ass_one (as_ret ae_bl)) ass_nil)
      (ass_cons (as_if (AW.at (aw_or (at_cmp (ao_ne (ru64 hr)) (ae_meth0 h_Linked_exports hr takesE (av 8)) (ae_lst (aa_cons (ae_tup (aa_cons ae_str (aa_cons ae_int aa_nil))) aa_nil))) (aw_or1 (at_cmp (ao_ne (ru64 hr)) (ae_meth0 h_Linked_variables hr takesE (av 8)) (ae_lst (aa_cons (ae_tup (aa_cons ae_str (aa_cons ae_str (aa_cons ae_str aa_nil)))) aa_nil)))))) (ass_one (as_ret ae_bl)) ass_nil)
      (ass_cons (as_set sc_law.nd (ae_call h_dead hr takesE (aa_cons (ae_make h_Linked (hr.mono hk) takesE (aa_cons (ae_lst (aa_cons (ae_tup (aa_cons ae_str (aa_cons (ae_tup (aa_cons ae_str (aa_cons (av 9) (aa_cons ae_int aa_nil)))) aa_nil))) (aa_cons (ae_tup (aa_cons ae_str (aa_cons (ae_tup (aa_cons ae_str (aa_cons (ae_tup (aa_cons ae_str (aa_cons ae_int aa_nil))) (aa_cons ae_int aa_nil)))) aa_nil))) (aa_cons (ae_tup (aa_cons ae_str (aa_cons (ae_tup (aa_cons ae_str (aa_cons (ae_tup (aa_cons ae_str (aa_cons ae_int aa_nil))) (aa_cons ae_int aa_nil)))) aa_nil))) aa_nil)))) (aa_cons (ae_lst aa_nil) (aa_cons (ae_lst aa_nil) aa_nil)))) aa_nil)))
      (ass_cons (as_set sc_law.nd (ae_lst (aa_cons (ae_tup (aa_cons ae_str (aa_cons (ae_tup (aa_cons ae_str (aa_cons (ae_call h__law_alive hr takesE (aa_cons (av 9) aa_nil)) (aa_cons ae_int aa_nil)))) aa_nil))) (aa_cons (ae_tup (aa_cons ae_str (aa_cons (ae_tup (aa_cons ae_str (aa_cons (ae_tup (aa_cons ae_str (aa_cons ae_int aa_nil))) (aa_cons ae_int aa_nil)))) aa_nil))) (aa_cons (ae_tup (aa_cons ae_str (aa_cons (ae_tup (aa_cons ae_str (aa_cons (ae_tup (aa_cons ae_str (aa_cons ae_int aa_nil))) (aa_cons ae_int aa_nil)))) aa_nil))) aa_nil)))))
      (ass_one (as_ret (ae_cmp (ao_eq (ru64 hr)) (ae_callB (ac_repr hr.gs (ru66 hr)) T.no_repr (aa_cons (ae_meth0 h_Linked_statements hr takesE (av 11)) aa_nil)) (ae_callB (ac_repr hr.gs (ru66 hr)) T.no_repr (aa_cons (av 4) aa_nil)))))))))))))), fun ds S Ea Qa h => (sp ds S Ea Qa h).2⟩), T.g_law, F.kp, F.bindsN (fun _ _ _ _ _ _ us hl => match us, hl with | [_], _ => rfl)⟩
theorem z_law {P : Program} {w : World} {K : PySem.W.Frag} {mg : Str → Option Value} {base : Heap} (T : Facts K mg) {k : Nat} : FD P w K mg base "law" k fun _ _ _ _ => False := by
  obtain ⟨fd, F⟩ := T.d_law
  exact ⟨_, fd, ["_law_script"], never_ok, T.g_law, F.kp, F.bindsN (fun _ _ _ _ _ _ us hl => match us, hl with | [_], _ => rfl)⟩
end Rw
namespace Sp
open PySem PySem.Spec
open PyProof.Rows L2 AL Ab
/-! ### trees -/
abbrev N16 := Fin 65536
def m16 (i : Int) : N16 := ⟨(i % 65536).toNat, by omega⟩
theorem m16_eq (i : Int) : (((m16 i).val : Nat) : Int) = i % 65536 := by
  show (((i % 65536).toNat : Nat) : Int) = _
  omega
inductive Hd | add | sub | mul | lt | eq | and | or
def Hd.s : Hd → Str
  | .add => "add" | .sub => "sub" | .mul => "mul" | .lt => "lt" | .eq => "eq" | .and => "and" | .or => "or"
inductive Ex
  | int (n : N16) | bool (b : Bool) | none | var (n : N16) | two (h : Hd) (a b : Ex) | not (a : Ex) | call (f a : Ex) | ask (a : Ex) | lam (a : Ex)
def Ex.l : Ex → List D
  | .int n => [.str "int", .int n.val]
  | .bool b => [.str "bool", .bl b]
  | .none => [.str "none"]
  | .var n => [.str "var", .int n.val]
  | .two h a b => [.str h.s, .tup a.l, .tup b.l]
  | .not a => [.str "not", .tup a.l]
  | .call f a => [.str "call", .tup f.l, .tup [.tup a.l]]
  | .ask a => [.str "ask", .tup a.l, .int 5]
  | .lam a => [.str "lambda", .tup [.int 7], .tup [.tup [.str "tell", .tup a.l, .int 9]]]
def Ex.d (e : Ex) : D := .tup e.l
inductive Ac | ret | thr | do_ | tell
def Ac.s : Ac → Str
  | .ret => "return" | .thr => "throw" | .do_ => "do" | .tell => "tell"
mutual
inductive St
  | act (h : Ac) (e : Ex) (k : N16)
  | put (let_ : Bool) (n : N16) (e : Ex) (k : N16)
  | block (b : Bl) (k : N16)
  | if_ (e : Ex) (a b : Bl) (k : N16)
  | try_ (a : Bl) (n : N16) (b : Bl) (k : N16)
  | fun_ (n : N16) (b : Bl) (k : N16)
  | rep (e : Ex) (b : Bl) (k : N16)
inductive Bl
  | nil
  | cons (s : St) (b : Bl)
end
def putS (l : Bool) : Str := if l then "let" else "set"
mutual
def St.d : St → D
  | .act h e k => .tup [.str h.s, e.d, .int k.val]
  | .put l n e k => .tup [.str (putS l), .int n.val, e.d, .int k.val]
  | .block b k => .tup [.str "block", .tup b.l, .int k.val]
  | .if_ e a b k => .tup [.str "if", e.d, .tup a.l, .tup b.l, .int k.val]
  | .try_ a n b k => .tup [.str "try", .tup a.l, .int n.val, .tup b.l, .int k.val]
  | .fun_ n b k => .tup [.str "fun", .int n.val, .tup [], .tup b.l, .int k.val]
  | .rep e b k => .tup [.str "repeat", e.d, .tup b.l, .int k.val]
def Bl.l : Bl → List D
  | .nil => []
  | .cons s b => s.d :: b.l
end
/-! ### folding -/
def isTruth : Ex → Bool
  | .bool _ => true
  | .two .lt _ _ => true
  | .two .eq _ _ => true
  | .two .and _ _ => true
  | .two .or _ _ => true
  | .not _ => true
  | _ => false
def isConst : Ex → Bool
  | .int _ => true
  | .bool _ => true
  | .none => true
  | _ => false
def sameC : Ex → Ex → Bool
  | .int a, .int b => decide (a = b)
  | .bool a, .bool b => decide (a = b)
  | .none, .none => true
  | _, _ => false
def fold2 (h : Hd) (a b : Ex) : Ex := match h with
  | .and => (match a with
    | .bool false => a
    | .bool true => if isTruth b then b else .two .and a b
    | _ => .two .and a b)
  | .or => (match a with
    | .bool true => a
    | .bool false => if isTruth b then b else .two .or a b
    | _ => .two .or a b)
  | .eq => if isConst a && isConst b then .bool (sameC a b) else .two .eq a b
  | .add => (match a, b with
    | .int x, .int y => .int (m16 ((x.val : Int) + (y.val : Int)))
    | _, _ => .two .add a b)
  | .sub => (match a, b with
    | .int x, .int y => .int (m16 ((x.val : Int) - (y.val : Int)))
    | _, _ => .two .sub a b)
  | .mul => (match a, b with
    | .int x, .int y => .int (m16 ((x.val : Int) * (y.val : Int)))
    | _, _ => .two .mul a b)
  | .lt => (match a, b with
    | .int x, .int y => .bool (decide ((x.val : Int) < (y.val : Int)))
    | _, _ => .two .lt a b)
def fnot : Ex → Ex
  | .bool b => .bool (!b)
  | a => .not a
def foldE : Ex → Ex
  | .two h a b => fold2 h (foldE a) (foldE b)
  | .not a => fnot (foldE a)
  | .call f a => .call (foldE f) (foldE a)
  | .ask a => .ask (foldE a)
  | .lam a => .lam (foldE a)
  | e => e
mutual
def foldS : St → St
  | .act h e k => .act h (foldE e) k
  | .put l n e k => .put l n (foldE e) k
  | .block b k => .block (foldB b) k
  | .if_ e a b k => (match foldE e with
    | .bool true => .block (foldB a) k
    | .bool false => .block (foldB b) k
    | t => .if_ t (foldB a) (foldB b) k)
  | .try_ a n b k => .try_ (foldB a) n (foldB b) k
  | .fun_ n b k => .fun_ n (foldB b) k
  | .rep e b k => (match foldE e with
    | .int n => if (n.val : Int) % 8 = 0 then .block .nil k else .rep (.int n) (foldB b) k
    | t => .rep t (foldB b) k)
def foldB : Bl → Bl
  | .nil => .nil
  | .cons s b => .cons (foldS s) (foldB b)
end
/-! ### measures -/
def lvE : Ex → Nat
  | .two _ a b => max (lvE a) (lvE b) + 1
  | .not a => lvE a + 1
  | .call f a => max (lvE f) (lvE a) + 2
  | .ask a => lvE a + 1
  | .lam a => lvE a + 3
  | _ => 1
def uE : Ex → Nat
  | .two _ a b => uE a + uE b + 12
  | .not a => uE a + 12
  | .call f a => uE f + uE a + 12
  | .ask a => uE a + 40
  | .lam a => uE a + 80
  | _ => 40
mutual
def lvS : St → Nat
  | .act _ e _ => lvE e + 1
  | .put _ _ e _ => lvE e + 1
  | .block b _ => lvB b + 1
  | .if_ e a b _ => max (lvE e) (max (lvB a) (lvB b)) + 1
  | .try_ a _ b _ => max (lvB a) (lvB b) + 1
  | .fun_ _ b _ => lvB b + 1
  | .rep e b _ => max (lvE e) (lvB b) + 1
def lvB : Bl → Nat
  | .nil => 1
  | .cons s b => max (lvS s + 1) (lvB b)
end
mutual
def uS : St → Nat
  | .act _ e _ => uE e + 60
  | .put _ _ e _ => uE e + 60
  | .block b _ => uB b + 60
  | .if_ e a b _ => uE e + uB a + uB b + 60
  | .try_ a _ b _ => uB a + uB b + 60
  | .fun_ _ b _ => uB b + 60
  | .rep e b _ => uE e + uB b + 60
def uB : Bl → Nat
  | .nil => 0
  | .cons s b => uS s + uB b + 1
end
theorem okN (n : N16) : decide ((n.val : Int).natAbs < 10 ^ 6) = true := by
  have := n.isLt
  refine decide_eq_true ?_
  omega
theorem strs_ok : PyData.strOk (Str.ofString "int") = true ∧ PyData.strOk (Str.ofString "bool") = true ∧ PyData.strOk (Str.ofString "none") = true ∧ PyData.strOk (Str.ofString "var") = true ∧ PyData.strOk (Str.ofString "not") = true ∧
    PyData.strOk (Str.ofString "call") = true ∧ PyData.strOk (Str.ofString "ask") = true ∧ PyData.strOk (Str.ofString "lambda") = true ∧ PyData.strOk (Str.ofString "tell") = true ∧ PyData.strOk (Str.ofString "block") = true ∧
    PyData.strOk (Str.ofString "if") = true ∧ PyData.strOk (Str.ofString "try") = true ∧ PyData.strOk (Str.ofString "fun") = true ∧ PyData.strOk (Str.ofString "repeat") = true ∧ PyData.strOk (Str.ofString "m") = true ∧ PyData.strOk (Str.ofString "throw") = true := by decide +kernel
theorem strs_sz : (Str.ofString "int").cps.size = 3 ∧ (Str.ofString "bool").cps.size = 4 ∧ (Str.ofString "none").cps.size = 4 ∧ (Str.ofString "var").cps.size = 3 ∧ (Str.ofString "not").cps.size = 3 ∧
    (Str.ofString "call").cps.size = 4 ∧ (Str.ofString "ask").cps.size = 3 ∧ (Str.ofString "lambda").cps.size = 6 ∧ (Str.ofString "tell").cps.size = 4 ∧ (Str.ofString "block").cps.size = 5 ∧
    (Str.ofString "if").cps.size = 2 ∧ (Str.ofString "try").cps.size = 3 ∧ (Str.ofString "fun").cps.size = 3 ∧ (Str.ofString "repeat").cps.size = 6 ∧ (Str.ofString "m").cps.size = 1 ∧ (Str.ofString "throw").cps.size = 5 := by decide +kernel
theorem hd_ok (h : Hd) : PyData.strOk h.s = true ∧ h.s.cps.size ≤ 3 := by cases h <;> decide +kernel
theorem ac_ok (h : Ac) : PyData.strOk h.s = true ∧ h.s.cps.size ≤ 6 := by cases h <;> decide +kernel
theorem put_ok (l : Bool) : PyData.strOk (putS l) = true ∧ (putS l).cps.size ≤ 3 := by cases l <;> decide +kernel
theorem ex_fine : ∀ e : Ex, okL e.l = true ∧ dpL e.l + 1 ≤ lvE e ∧ wtL e.l + 1 ≤ uE e
  | .int n => by simp [Ex.l, okL, okD, okN, strs_ok, dpL, dpD, lvE, wtL, wtD, strs_sz, uE]; have := n.isLt; omega
  | .bool b => by simp [Ex.l, okL, okD, strs_ok, dpL, dpD, lvE, wtL, wtD, strs_sz, uE]
  | .none => by simp [Ex.l, okL, okD, strs_ok, dpL, dpD, lvE, wtL, wtD, strs_sz, uE]
  | .var n => by simp [Ex.l, okL, okD, okN, strs_ok, dpL, dpD, lvE, wtL, wtD, strs_sz, uE]; have := n.isLt; omega
  | .two h a b => by
    obtain ⟨a1, a2, a3⟩ := ex_fine a
    obtain ⟨b1, b2, b3⟩ := ex_fine b
    have := (hd_ok h).2
    simp only [Ex.l, okL, okD, hd_ok, dpL, dpD, lvE, wtL, wtD, uE, a1, b1, Bool.and_self, true_and]
    omega
  | .not a => by
    obtain ⟨a1, a2, a3⟩ := ex_fine a
    simp only [Ex.l, okL, okD, dpL, dpD, lvE, wtL, wtD, uE, a1, Bool.and_self, true_and, strs_ok, strs_sz]
    omega
  | .call f a => by
    obtain ⟨a1, a2, a3⟩ := ex_fine a
    obtain ⟨b1, b2, b3⟩ := ex_fine f
    simp only [Ex.l, okL, okD, dpL, dpD, lvE, wtL, wtD, uE, a1, b1, Bool.and_self, true_and, strs_ok, strs_sz]
    omega
  | .ask a => by
    obtain ⟨a1, a2, a3⟩ := ex_fine a
    simp only [Ex.l, okL, okD, dpL, dpD, lvE, wtL, wtD, uE, a1, Bool.and_self, true_and, strs_ok, strs_sz]
    exact ⟨by decide, by omega, by omega⟩
  | .lam a => by
    obtain ⟨a1, a2, a3⟩ := ex_fine a
    simp only [Ex.l, okL, okD, dpL, dpD, lvE, wtL, wtD, uE, a1, Bool.and_self, true_and, strs_ok, strs_sz]
    exact ⟨by decide, by omega, by omega⟩
mutual
theorem st_fine : ∀ s : St, okD s.d = true ∧ dpD s.d ≤ lvS s ∧ wtD s.d + 1 ≤ uS s
  | .act h e k => by
    obtain ⟨a1, a2, a3⟩ := ex_fine e
    have := (ac_ok h).2
    simp only [St.d, Ex.d, okL, okD, okN, ac_ok, dpL, dpD, lvS, wtL, wtD, uS, a1, Bool.and_self, true_and]
    omega
  | .put l n e k => by
    obtain ⟨a1, a2, a3⟩ := ex_fine e
    have := (put_ok l).2
    simp only [St.d, Ex.d, okL, okD, okN, put_ok, dpL, dpD, lvS, wtL, wtD, uS, a1, Bool.and_self, true_and]
    omega
  | .block b k => by
    obtain ⟨a1, a2, a3⟩ := bl_fine b
    simp only [St.d, okL, okD, okN, strs_ok, strs_sz, dpL, dpD, lvS, wtL, wtD, uS, a1, Bool.and_self, true_and]
    omega
  | .if_ e a b k => by
    obtain ⟨a1, a2, a3⟩ := bl_fine b
    obtain ⟨b1, b2, b3⟩ := bl_fine a
    obtain ⟨c1, c2, c3⟩ := ex_fine e
    simp only [St.d, Ex.d, okL, okD, okN, strs_ok, strs_sz, dpL, dpD, lvS, wtL, wtD, uS, a1, b1, c1, Bool.and_self, true_and]
    omega
  | .try_ a n b k => by
    obtain ⟨a1, a2, a3⟩ := bl_fine b
    obtain ⟨b1, b2, b3⟩ := bl_fine a
    simp only [St.d, okL, okD, okN, strs_ok, strs_sz, dpL, dpD, lvS, wtL, wtD, uS, a1, b1, Bool.and_self, true_and]
    omega
  | .fun_ n b k => by
    obtain ⟨a1, a2, a3⟩ := bl_fine b
    simp only [St.d, okL, okD, okN, strs_ok, strs_sz, dpL, dpD, lvS, wtL, wtD, uS, a1, Bool.and_self, true_and]
    omega
  | .rep e b k => by
    obtain ⟨a1, a2, a3⟩ := bl_fine b
    obtain ⟨c1, c2, c3⟩ := ex_fine e
    simp only [St.d, Ex.d, okL, okD, okN, strs_ok, strs_sz, dpL, dpD, lvS, wtL, wtD, uS, a1, c1, Bool.and_self, true_and]
    omega
theorem bl_fine : ∀ b : Bl, okL b.l = true ∧ dpL b.l + 1 ≤ lvB b ∧ wtL b.l ≤ uB b
  | .nil => by simp [Bl.l, okL, dpL, lvB, wtL, uB]
  | .cons s b => by
    obtain ⟨a1, a2, a3⟩ := bl_fine b
    obtain ⟨b1, b2, b3⟩ := st_fine s
    simp only [Bl.l, okL, okD, dpL, dpD, lvB, wtL, wtD, uB, a1, b1, Bool.and_self, true_and]
    omega
end
theorem Ex.fine {e : Ex} (h1 : lvE e ≤ 60) (h2 : uE e ≤ 1000000) : Fine e.d := by
  obtain ⟨a1, a2, a3⟩ := ex_fine e
  exact ⟨by simpa [Ex.d, okD] using a1, by simp only [Ex.d, dpD]; omega, by simp only [Ex.d, wtD]; omega⟩
theorem St.fine {s : St} (h1 : lvS s ≤ 60) (h2 : uS s ≤ 1000000) : Fine s.d := by
  obtain ⟨a1, a2, a3⟩ := st_fine s
  exact ⟨a1, by omega, by omega⟩
/-! ### fold_two -/
def G2 : AFn := fun ds S E Q => ∃ h a b, ds = [.str (Hd.s h), Ex.d a, Ex.d b] ∧ ∀ S', S <+: S' → Q (fold2 h a b).d S'
theorem hds : Hd.s .add = Str.ofString "add" ∧ Hd.s .sub = Str.ofString "sub" ∧ Hd.s .mul = Str.ofString "mul" ∧ Hd.s .lt = Str.ofString "lt" ∧ Hd.s .eq = Str.ofString "eq" ∧ Hd.s .and = Str.ofString "and" ∧ Hd.s .or = Str.ofString "or" := ⟨rfl, rfl, rfl, rfl, rfl, rfl, rfl⟩
theorem hdn (h : Hd) : (Hd.s h = Str.ofString "int") = False ∧ (Hd.s h = Str.ofString "bool") = False ∧ (Hd.s h = Str.ofString "none") = False ∧ (Hd.s h = Str.ofString "var") = False ∧ (Hd.s h = Str.ofString "not") = False ∧ (Hd.s h = Str.ofString "call") = False ∧ (Hd.s h = Str.ofString "ask") = False ∧ (Hd.s h = Str.ofString "lambda") = False ∧
    (Str.ofString "int" = Hd.s h) = False ∧ (Str.ofString "bool" = Hd.s h) = False ∧ (Str.ofString "none" = Hd.s h) = False ∧ (Str.ofString "var" = Hd.s h) = False ∧ (Str.ofString "not" = Hd.s h) = False := by
  cases h <;> simp only [hds, ofS_inj, String.reduceEq, and_self]
theorem szs : (0 ≤ sizeLine) ∧ (1 ≤ sizeLine) ∧ (2 ≤ sizeLine) ∧ (3 ≤ sizeLine) ∧ (4 ≤ sizeLine) ∧ (5 ≤ sizeLine) ∧ (6 ≤ sizeLine) ∧ (7 ≤ sizeLine) ∧ (8 ≤ sizeLine) := by decide
theorem const_small {a : Ex} (h : isConst a = true) : lvE a ≤ 60 ∧ uE a ≤ 1000000 := by
  cases a <;> first | (exact ⟨by unfold lvE; omega, by unfold uE; omega⟩) | (cases h; done)
theorem eq_const {a b : Ex} (ha : isConst a = true) (hb : isConst b = true) {S : Sto} {Q : VA} (q : Q (.bl (sameC a b)) S) : oEq (.tup a.l) (.tup b.l) S Q := by
  have fa : Fine (.tup a.l) := Ex.fine (e := a) (const_small ha).1 (const_small ha).2
  have fb : Fine (.tup b.l) := Ex.fine (e := b) (const_small hb).1 (const_small hb).2
  refine eq_tups fa fb ?_
  have : PyData.eqvAll (pyL a.l) (pyL b.l) = sameC a b := by
    cases a <;> simp only [isConst, reduceCtorEq] at ha <;> cases b <;> simp only [isConst, reduceCtorEq] at hb <;> simp [Ex.l, pyL, pyD, PyData.eqvAll, PyData.eqv, sameC, ofS_inj]
    all_goals
      rw [Bool.eq_iff_iff]
      simp only [beq_iff_eq, decide_eq_true_eq]
      try (constructor; · intro h; exact Fin.ext (by omega)
           · intro h; rw [h])
  rw [this]
  exact q
theorem mul16 (x y : N16) : CMul (x.val : Int) (y.val : Int) := by
  have := x.isLt
  exact .inl ⟨by omega, by omega⟩
theorem sp_two : ∀ ds S E Q, G2 ds S E Q → ds.length = 3 ∧ a_fold_two (bodyEnds Q E) (startA 3 ds) S := by
  rintro ds S E Q ⟨h, a, b, rfl, q⟩
  refine ⟨rfl, ?_⟩
  have q0 := q S (List.prefix_refl _)
  clear q
  have st : startA 3 [.str (Hd.s h), Ex.d a, Ex.d b] = [some (.str (Hd.s h)), some (.tup a.l), some (.tup b.l)] := rfl
  rw [st]
  clear st
  unfold a_fold_two
  cases h <;> rcases a with n | (_ | _) | _ | n | ⟨h, x, y⟩ | x | ⟨f, x⟩ | x | x <;> simp only [eq_self, ev, ev2, ev3, hds, hdn, ofS_inj, bodyEnds, Ex.l, String.reduceEq, decide_false, decide_true, reduceCtorEq, List.length_cons, List.length_nil, Nat.reduceAdd, szs, true_and, flatD, List.all_cons, List.all_nil, Bool.and_self, inF, List.any_cons, List.any_nil, eqF, Bool.or_false, Bool.false_or, Bool.or_true, Bool.true_or] <;>
    first
      | exact q0
      | (rcases b with n | (_ | _) | _ | n | ⟨(_ | _ | _ | _ | _ | _ | _), x, y⟩ | x | ⟨f, x⟩ | x | x <;> simp only [eq_self, ev, ev2, ev3, hds, hdn, ofS_inj, bodyEnds, Ex.l, String.reduceEq, decide_false, decide_true, reduceCtorEq, List.length_cons, List.length_nil, Nat.reduceAdd, szs, true_and, flatD, List.all_cons, List.all_nil, Bool.and_self, inF, List.any_cons, List.any_nil, eqF, Bool.or_false, Bool.false_or, Bool.or_true, Bool.true_or] <;> first
        | exact q0
        | (refine ⟨by decide, ?_⟩; rw [← m16_eq]; exact q0)
        | (refine ⟨mul16 _ _, by decide, ?_⟩; rw [← m16_eq]; exact q0)
        | exact eq_const (a := .int _) (b := .int _) rfl rfl q0
        | exact eq_const (a := .int _) (b := .bool _) rfl rfl q0
        | exact eq_const (a := .int _) (b := .none) rfl rfl q0
        | exact eq_const (a := .bool _) (b := .int _) rfl rfl q0
        | exact eq_const (a := .bool _) (b := .bool _) rfl rfl q0
        | exact eq_const (a := .bool _) (b := .none) rfl rfl q0
        | exact eq_const (a := .none) (b := .int _) rfl rfl q0
        | exact eq_const (a := .none) (b := .bool _) rfl rfl q0
        | exact eq_const (a := .none) (b := .none) rfl rfl q0)
end Sp
namespace Sp
open PySem PySem.Spec
open PyProof.Rows L2 AL Ab
theorem acs : Ac.s .ret = Str.ofString "return" ∧ Ac.s .thr = Str.ofString "throw" ∧ Ac.s .do_ = Str.ofString "do" ∧ Ac.s .tell = Str.ofString "tell" := ⟨rfl, rfl, rfl, rfl⟩
theorem pts : putS true = Str.ofString "let" ∧ putS false = Str.ofString "set" := ⟨rfl, rfl⟩
theorem Bl.get {F : St → St} {FB : Bl → Bl} (h0 : FB .nil = .nil) (h1 : ∀ s b, FB (.cons s b) = .cons (F s) (FB b)) : ∀ (b : Bl) (k : Nat) (d : D), b.l[k]? = some d → ∃ s, d = s.d ∧ (FB b).l[k]? = some (F s).d ∧ lvS s + 1 ≤ lvB b ∧ uS s ≤ uB b
  | .nil, k, d, h => by simp [Bl.l] at h
  | .cons s b, 0, d, h => by
    simp only [Bl.l, List.getElem?_cons_zero, Option.some.injEq] at h
    exact ⟨s, h.symm, by rw [h1]; simp [Bl.l], by simp only [lvB]; omega, by simp only [uB]; omega⟩
  | .cons s b, k + 1, d, h => by
    simp only [Bl.l, List.getElem?_cons_succ] at h
    obtain ⟨s', h2, h3, h4, h5⟩ := Bl.get h0 h1 b k d h
    exact ⟨s', h2, by rw [h1]; simpa [Bl.l] using h3, by simp only [lvB]; omega, by simp only [uB]; omega⟩
theorem Bl.len {F : St → St} {FB : Bl → Bl} (h0 : FB .nil = .nil) (h1 : ∀ s b, FB (.cons s b) = .cons (F s) (FB b)) : ∀ b : Bl, (FB b).l.length = b.l.length
  | .nil => by rw [h0]
  | .cons s b => by rw [h1]; simp [Bl.l, Bl.len h0 h1 b]
theorem Bl.few : ∀ b : Bl, b.l.length ≤ uB b
  | .nil => by simp [Bl.l]
  | .cons s b => by have := Bl.few b; simp only [Bl.l, List.length_cons, uB]; omega
/-- a function of one tree -/
def GE (f : Ex → Ex) (k : Nat) : AFn := fun ds S E Q => ∃ e, lvE e ≤ k ∧ uE e < sizeLine ∧ ds = [Ex.d e] ∧ ∀ S', S <+: S' → Q (f e).d S'
def GS (f : St → St) (k : Nat) : AFn := fun ds S E Q => ∃ s, lvS s ≤ k ∧ uS s < sizeLine ∧ ds = [St.d s] ∧ ∀ S', S <+: S' → Q (f s).d S'
def GB (f : Bl → Bl) (k : Nat) : AFn := fun ds S E Q => ∃ b, lvB b ≤ k ∧ uB b < sizeLine ∧ ds = [.tup (Bl.l b)] ∧ ∀ S', S <+: S' → Q (.tup (f b).l) S'
section
variable {k : Nat} {S : Sto} {E : XA} {Q : VA}
theorem ge_mk {f : Ex → Ex} {e : Ex} (h : lvE e ≤ k) (hu : uE e < sizeLine) (q : ∀ S', S <+: S' → Q (f e).d S') : GE f k [.tup e.l] S E Q := ⟨e, h, hu, rfl, q⟩
theorem gs_mk {f : St → St} {s : St} (h : lvS s ≤ k) (hu : uS s < sizeLine) (q : ∀ S', S <+: S' → Q (f s).d S') : GS f k [s.d] S E Q := ⟨s, h, hu, rfl, q⟩
theorem gb_mk {f : Bl → Bl} {b : Bl} (h : lvB b ≤ k) (hu : uB b < sizeLine) (q : ∀ S', S <+: S' → Q (.tup (f b).l) S') : GB f k [.tup b.l] S E Q := ⟨b, h, hu, rfl, q⟩
/-- one argument: the comprehension over a tuple of one -/
theorem lc_one {F : AFn} {ρ : Rho} {d y : D} {i : Nat} {a : ATE} (ha : ∀ Q' : VA, Q' (.tup [d]) S → a ρ S E Q') (hi : gt (sset (wipeA ρ [i]) i d) i = some d)
    (hF : ∀ S1 (Q1 : VA), S <+: S1 → (∀ S2, S1 <+: S2 → Q1 y S2) → F [d] S1 (fun _ _ => False) Q1) (q : ∀ S1, S <+: S1 → Q (.ref S1.length) (S1 ++ [.lst [y]])) : aLc (aiAny a) (agName i) aYes (aCall F (aCons (aVar i) aNil)) [i] ρ S E Q := by
  refine lc_map (src := .fix [d]) (out := [y]) (S0 := S) (fun Q' h => ?_) trivial (show 1 < sizeLine by decide) rfl (fun k d' hd => ?_) q
  · show a ρ S E fun d S1 => must (srcOf S1 d) fun src => Q' src S1
    exact ha _ h
  · match k, hd with
    | 0, hd =>
      simp only [Src.items, List.getElem?_cons_zero, Option.some.injEq] at hd
      subst hd
      refine ⟨y, rfl, fun S1 Q1 p q1 => ?_⟩
      show must (gt (sset (wipeA ρ [i]) i d) i) fun d => F [d] S1 (fun _ _ => False) Q1
      rw [hi]
      exact hF S1 Q1 p q1
    | k + 1, hd => simp [Src.items] at hd
/-- tuple([f(x) for x in b]) -/
theorem lc_bl {F : St → St} {FB : Bl → Bl} (h0 : FB .nil = .nil) (h1 : ∀ s b, FB (.cons s b) = .cons (F s) (FB b)) {ρ : Rho} {b : Bl} {i : Nat} {a : ATE} (ha : ∀ Q' : VA, Q' (.tup b.l) S → a ρ S E Q') (hu : uB b < sizeLine) (hk : lvB b ≤ k + 1)
    (hi : ∀ d, gt (sset (wipeA ρ [i]) i d) i = some d) (q : ∀ S1, S <+: S1 → Q (.ref S1.length) (S1 ++ [.lst (FB b).l])) : aLc (aiAny a) (agName i) aYes (aCall (GS F k) (aCons (aVar i) aNil)) [i] ρ S E Q := by
  refine lc_map (src := .fix b.l) (out := (FB b).l) (S0 := S) (fun Q' h => ?_) trivial (show b.l.length < sizeLine from Nat.lt_of_le_of_lt (Bl.few b) hu) (Bl.len h0 h1 b) (fun j d hd => ?_) q
  · show a ρ S E fun d S1 => must (srcOf S1 d) fun src => Q' src S1
    exact ha _ h
  · obtain ⟨s, rfl, h3, h4, h5⟩ := Bl.get h0 h1 b j d hd
    refine ⟨_, h3, fun S1 Q1 p q1 => ?_⟩
    show must (gt (sset (wipeA ρ [i]) i s.d) i) fun d => GS F k [d] S1 (fun _ _ => False) Q1
    rw [hi]
    exact ⟨s, by omega, by omega, rfl, q1⟩
end
theorem ctup_new {l : List D} {S : Sto} {Q : VA} : cTuple [.ref S.length] (S ++ [.lst l]) Q = Q (.tup l) (S ++ [.lst l]) := by
  have e : seqOf (S ++ [.lst l]) (.ref S.length) = some l := by simp [seqOf, lstOf]
  show must (seqOf (S ++ [.lst l]) (.ref S.length)) _ = _
  rw [e]; rfl
abbrev tell1 (a : Ex) (n : N16) : Bl := .cons (.act .tell a n) .nil
theorem sl_lt {n : Nat} (h : n < sizeLine) {m : Nat} (h2 : m ≤ n) : m < sizeLine := Nat.lt_of_le_of_lt h2 h
/-! ### fold -/
section
variable {k : Nat}
theorem sp_fexpr : ∀ ds S E Q, GE foldE (k + 1) ds S E Q → ds.length = 1 ∧ a_fold_expression (GB foldB k) (GE foldE k) G2 (bodyEnds Q E) (startA 4 ds) S := by
  rintro ds S E Q ⟨e, hk, hu, rfl, q⟩
  refine ⟨rfl, ?_⟩
  have q0 := q S pre_refl
  have st : startA 4 [Ex.d e] = [some (.tup e.l), none, none, none] := rfl
  rw [st]
  clear st
  unfold a_fold_expression
  cases e <;> simp only [eq_self, ev, ev2, ev3, hds, hdn, acs, pts, ofS_inj, bodyEnds, String.reduceEq, decide_false, decide_true, reduceCtorEq, List.length_cons, List.length_nil, Nat.reduceAdd, szs, true_and, flatD, List.all_cons, List.all_nil, Bool.and_self, inF, List.any_cons, List.any_nil, eqF, Bool.or_false, Bool.false_or, Bool.or_true, Bool.true_or, Bool.and_true, Bool.true_and, Bool.and_false, Bool.false_and, Bool.not_true, Bool.not_false, Ex.l]
  case int => exact q0
  case bool => exact q0
  case none => exact q0
  case var => exact q0
  case two h a b =>
    simp only [lvE, uE] at hk hu
    refine ge_mk (by omega) (by omega) fun S1 p1 => ge_mk (by omega) (by omega) fun S2 p2 => ⟨h, foldE a, foldE b, rfl, fun S3 p3 => ?_⟩
    exact q _ (p1.trans (p2.trans p3))
  case not a =>
    simp only [lvE, uE] at hk hu
    refine ge_mk (by omega) (by omega) fun S1 p1 => ?_
    have q1 : Q (fnot (foldE a)).d S1 := q _ p1
    simp only [Ex.d]
    generalize foldE a = t at q1 ⊢
    rcases t with n | b | _ | n | ⟨h, x, y⟩ | x | ⟨f, x⟩ | x | x <;> simp only [eq_self, ev, ev2, ev3, hds, hdn, acs, pts, ofS_inj, bodyEnds, String.reduceEq, decide_false, decide_true, reduceCtorEq, List.length_cons, List.length_nil, Nat.reduceAdd, szs, true_and, flatD, List.all_cons, List.all_nil, Bool.and_self, inF, List.any_cons, List.any_nil, eqF, Bool.or_false, Bool.false_or, Bool.or_true, Bool.true_or, Bool.and_true, Bool.true_and, Bool.and_false, Bool.false_and, Bool.not_true, Bool.not_false, Ex.l] <;> exact q1
  case call f a =>
    simp only [lvE, uE] at hk hu
    refine ge_mk (by omega) (by omega) fun S1 p1 => ?_
    refine lc_one (S := S1) (d := a.d) (y := (foldE a).d) (fun Q' h => ?_) rfl (fun S2 Q1 p2 q1 => ge_mk (by omega) (by omega) fun S3 p3 => q1 S3 p3) fun S2 p2 => ?_
    · simp only [eq_self, ev, ev2, ev3, hds, hdn, acs, pts, ofS_inj, bodyEnds, String.reduceEq, decide_false, decide_true, reduceCtorEq, List.length_cons, List.length_nil, Nat.reduceAdd, szs, true_and, flatD, List.all_cons, List.all_nil, Bool.and_self, inF, List.any_cons, List.any_nil, eqF, Bool.or_false, Bool.false_or, Bool.or_true, Bool.true_or, Bool.and_true, Bool.true_and, Bool.and_false, Bool.false_and, Bool.not_true, Bool.not_false]; exact h
    · rw [ctup_new]
      exact q _ (p1.trans (p2.trans pre_app))
  case ask a =>
    simp only [lvE, uE] at hk hu
    exact ge_mk (by omega) (by omega) fun S1 p1 => q S1 p1
  case lam a =>
    simp only [lvE, uE] at hk hu
    exact gb_mk (b := tell1 a 9) (by simp only [lvB, lvS]; omega) (by simp only [uB, uS]; omega) fun S1 p1 => q S1 p1
theorem sp_fblock : ∀ ds S E Q, GB foldB (k + 1) ds S E Q → ds.length = 1 ∧ a_fold_block (GS foldS k) (bodyEnds Q E) (startA 2 ds) S := by
  rintro ds S E Q ⟨b, hk, hu, rfl, q⟩
  refine ⟨rfl, ?_⟩
  have st : startA 2 [.tup b.l] = [some (.tup b.l), none] := rfl
  rw [st]
  clear st
  unfold a_fold_block
  simp only [eq_self, ev, ev2, ev3, hds, hdn, acs, pts, ofS_inj, bodyEnds, String.reduceEq, decide_false, decide_true, reduceCtorEq, List.length_cons, List.length_nil, Nat.reduceAdd, szs, true_and, flatD, List.all_cons, List.all_nil, Bool.and_self, inF, List.any_cons, List.any_nil, eqF, Bool.or_false, Bool.false_or, Bool.or_true, Bool.true_or, Bool.and_true, Bool.true_and, Bool.and_false, Bool.false_and, Bool.not_true, Bool.not_false]
  refine lc_bl (F := foldS) (FB := foldB) rfl (fun _ _ => rfl) (b := b) (fun Q' h => h) hu hk (fun _ => rfl) fun S1 p1 => ?_
  rw [ctup_new]
  exact q _ (p1.trans pre_app)
theorem sp_fstat : ∀ ds S E Q, GS foldS (k + 1) ds S E Q → ds.length = 1 ∧ a_fold_statement (GE foldE k) (GB foldB k) (bodyEnds Q E) (startA 6 ds) S := by
  rintro ds S E Q ⟨s, hk, hu, rfl, q⟩
  refine ⟨rfl, ?_⟩
  unfold a_fold_statement
  cases s <;> simp only [lvS, uS] at hk hu
  case act h e n =>
    have st : startA 6 [(St.act h e n).d] = [some (.tup [.str h.s, .tup e.l, .int n.val]), none, none, none, none, none] := rfl
    rw [st]
    cases h <;> simp only [eq_self, ev, ev2, ev3, hds, hdn, acs, pts, ofS_inj, bodyEnds, String.reduceEq, decide_false, decide_true, reduceCtorEq, List.length_cons, List.length_nil, Nat.reduceAdd, szs, true_and, flatD, List.all_cons, List.all_nil, Bool.and_self, inF, List.any_cons, List.any_nil, eqF, Bool.or_false, Bool.false_or, Bool.or_true, Bool.true_or, Bool.and_true, Bool.true_and, Bool.and_false, Bool.false_and, Bool.not_true, Bool.not_false] <;> exact ge_mk (by omega) (by omega) fun S1 p1 => q S1 p1
  case put l m e n =>
    have st : startA 6 [(St.put l m e n).d] = [some (.tup [.str (putS l), .int m.val, .tup e.l, .int n.val]), none, none, none, none, none] := rfl
    rw [st]
    cases l <;> simp only [eq_self, ev, ev2, ev3, hds, hdn, acs, pts, ofS_inj, bodyEnds, String.reduceEq, decide_false, decide_true, reduceCtorEq, List.length_cons, List.length_nil, Nat.reduceAdd, szs, true_and, flatD, List.all_cons, List.all_nil, Bool.and_self, inF, List.any_cons, List.any_nil, eqF, Bool.or_false, Bool.false_or, Bool.or_true, Bool.true_or, Bool.and_true, Bool.true_and, Bool.and_false, Bool.false_and, Bool.not_true, Bool.not_false] <;> exact ge_mk (by omega) (by omega) fun S1 p1 => q S1 p1
  case block b n =>
    have st : startA 6 [(St.block b n).d] = [some (.tup [.str "block", .tup b.l, .int n.val]), none, none, none, none, none] := rfl
    rw [st]
    simp only [eq_self, ev, ev2, ev3, hds, hdn, acs, pts, ofS_inj, bodyEnds, String.reduceEq, decide_false, decide_true, reduceCtorEq, List.length_cons, List.length_nil, Nat.reduceAdd, szs, true_and, flatD, List.all_cons, List.all_nil, Bool.and_self, inF, List.any_cons, List.any_nil, eqF, Bool.or_false, Bool.false_or, Bool.or_true, Bool.true_or, Bool.and_true, Bool.true_and, Bool.and_false, Bool.false_and, Bool.not_true, Bool.not_false]
    exact gb_mk (by omega) (by omega) fun S1 p1 => q S1 p1
  case if_ e a b n =>
    have st : startA 6 [(St.if_ e a b n).d] = [some (.tup [.str "if", .tup e.l, .tup a.l, .tup b.l, .int n.val]), none, none, none, none, none] := rfl
    rw [st]
    simp only [eq_self, ev, ev2, ev3, hds, hdn, acs, pts, ofS_inj, bodyEnds, String.reduceEq, decide_false, decide_true, reduceCtorEq, List.length_cons, List.length_nil, Nat.reduceAdd, szs, true_and, flatD, List.all_cons, List.all_nil, Bool.and_self, inF, List.any_cons, List.any_nil, eqF, Bool.or_false, Bool.false_or, Bool.or_true, Bool.true_or, Bool.and_true, Bool.true_and, Bool.and_false, Bool.false_and, Bool.not_true, Bool.not_false]
    refine ge_mk (by omega) (by omega) fun S1 p1 => gb_mk (by omega) (by omega) fun S2 p2 => gb_mk (by omega) (by omega) fun S3 p3 => ?_
    have q1 := q _ (p1.trans (p2.trans p3))
    simp only [foldS] at q1
    generalize foldE e = t at q1 ⊢
    simp only [Ex.d]
    rcases t with n | (_ | _) | _ | n | ⟨h, x, y⟩ | x | ⟨f, x⟩ | x | x <;> simp only [eq_self, ev, ev2, ev3, hds, hdn, acs, pts, ofS_inj, bodyEnds, String.reduceEq, decide_false, decide_true, reduceCtorEq, List.length_cons, List.length_nil, Nat.reduceAdd, szs, true_and, flatD, List.all_cons, List.all_nil, Bool.and_self, inF, List.any_cons, List.any_nil, eqF, Bool.or_false, Bool.false_or, Bool.or_true, Bool.true_or, Bool.and_true, Bool.true_and, Bool.and_false, Bool.false_and, Bool.not_true, Bool.not_false, Ex.l] <;> exact q1
  case try_ a m b n =>
    have st : startA 6 [(St.try_ a m b n).d] = [some (.tup [.str "try", .tup a.l, .int m.val, .tup b.l, .int n.val]), none, none, none, none, none] := rfl
    rw [st]
    simp only [eq_self, ev, ev2, ev3, hds, hdn, acs, pts, ofS_inj, bodyEnds, String.reduceEq, decide_false, decide_true, reduceCtorEq, List.length_cons, List.length_nil, Nat.reduceAdd, szs, true_and, flatD, List.all_cons, List.all_nil, Bool.and_self, inF, List.any_cons, List.any_nil, eqF, Bool.or_false, Bool.false_or, Bool.or_true, Bool.true_or, Bool.and_true, Bool.true_and, Bool.and_false, Bool.false_and, Bool.not_true, Bool.not_false]
    exact gb_mk (by omega) (by omega) fun S1 p1 => gb_mk (by omega) (by omega) fun S2 p2 => q _ (p1.trans p2)
  case fun_ m b n =>
    have st : startA 6 [(St.fun_ m b n).d] = [some (.tup [.str "fun", .int m.val, .tup [], .tup b.l, .int n.val]), none, none, none, none, none] := rfl
    rw [st]
    simp only [eq_self, ev, ev2, ev3, hds, hdn, acs, pts, ofS_inj, bodyEnds, String.reduceEq, decide_false, decide_true, reduceCtorEq, List.length_cons, List.length_nil, Nat.reduceAdd, szs, true_and, flatD, List.all_cons, List.all_nil, Bool.and_self, inF, List.any_cons, List.any_nil, eqF, Bool.or_false, Bool.false_or, Bool.or_true, Bool.true_or, Bool.and_true, Bool.true_and, Bool.and_false, Bool.false_and, Bool.not_true, Bool.not_false]
    exact gb_mk (by omega) (by omega) fun S1 p1 => q S1 p1
  case rep e b n =>
    have st : startA 6 [(St.rep e b n).d] = [some (.tup [.str "repeat", .tup e.l, .tup b.l, .int n.val]), none, none, none, none, none] := rfl
    rw [st]
    simp only [eq_self, ev, ev2, ev3, hds, hdn, acs, pts, ofS_inj, bodyEnds, String.reduceEq, decide_false, decide_true, reduceCtorEq, List.length_cons, List.length_nil, Nat.reduceAdd, szs, true_and, flatD, List.all_cons, List.all_nil, Bool.and_self, inF, List.any_cons, List.any_nil, eqF, Bool.or_false, Bool.false_or, Bool.or_true, Bool.true_or, Bool.and_true, Bool.true_and, Bool.and_false, Bool.false_and, Bool.not_true, Bool.not_false]
    refine ge_mk (by omega) (by omega) fun S1 p1 => ?_
    have q1 := fun S2 (p2 : S1 <+: S2) => q S2 (p1.trans p2)
    simp only [foldS] at q1
    generalize foldE e = t at q1 ⊢
    simp only [Ex.d]
    rcases t with n | (_ | _) | _ | n | ⟨h, x, y⟩ | x | ⟨f, x⟩ | x | x <;> simp only [eq_self, ev, ev2, ev3, hds, hdn, acs, pts, ofS_inj, bodyEnds, String.reduceEq, decide_false, decide_true, reduceCtorEq, List.length_cons, List.length_nil, Nat.reduceAdd, szs, true_and, flatD, List.all_cons, List.all_nil, Bool.and_self, inF, List.any_cons, List.any_nil, eqF, Bool.or_false, Bool.false_or, Bool.or_true, Bool.true_or, Bool.and_true, Bool.true_and, Bool.and_false, Bool.false_and, Bool.not_true, Bool.not_false, Ex.l]
    case int =>
      refine ⟨by decide, ?_⟩
      by_cases h8 : (n.val : Int) % 8 = 0
      · simp only [h8, decide_true, if_true] at q1 ⊢
        exact q1 S1 pre_refl
      · simp only [h8, decide_false, if_false] at q1 ⊢
        exact gb_mk (by omega) (by omega) fun S2 p2 => q1 S2 p2
    all_goals exact gb_mk (by omega) (by omega) fun S2 p2 => q1 S2 p2
end
end Sp
namespace Sp
open PySem PySem.Spec
open PyProof.Rows L2 AL Ab
mutual
def endsS : St → Bool
  | .act .ret _ _ => true
  | .act .thr _ _ => true
  | .block b _ => endsB b
  | .if_ _ a b _ => endsB a && endsB b
  | _ => false
def endsB : Bl → Bool
  | .nil => false
  | .cons s b => endsS s || endsB b
end
def keepS : St → Bool
  | .put true _ _ _ => true
  | .fun_ _ _ _ => true
  | _ => false
mutual
def deadS : St → St
  | .block b k => .block (deadB false b) k
  | .if_ e a b k => .if_ e (deadB false a) (deadB false b) k
  | .try_ a n b k => .try_ (deadB false a) n (deadB false b) k
  | .fun_ n b k => .fun_ n (deadB false b) k
  | .rep e b k => .rep e (deadB false b) k
  | s => s
def deadB (ended : Bool) : Bl → Bl
  | .nil => .nil
  | .cons s b => if !ended || keepS s then .cons (deadS s) (deadB (ended || endsS s) b) else deadB (ended || endsS s) b
end
/-- any over the statements of a block -/
def GN (k : Nat) : AFn := fun ds S E Q => ∃ s, lvS s ≤ k ∧ uS s < sizeLine ∧ ds = [St.d s] ∧ ∀ S', S <+: S' → Q (.bl (endsS s)) S'
def Bl.ends : Bl → List Bool
  | .nil => []
  | .cons s b => endsS s :: b.ends
theorem Bl.ends_len : ∀ b : Bl, b.ends.length = b.l.length
  | .nil => rfl
  | .cons s b => by simp [Bl.ends, Bl.l, Bl.ends_len b]
theorem Bl.ends_any : ∀ b : Bl, b.ends.any _root_.id = endsB b
  | .nil => rfl
  | .cons s b => by simp [Bl.ends, endsB, Bl.ends_any b]
theorem Bl.ends_in : ∀ b : Bl, inF (.bl true) (b.ends.map D.bl) = endsB b
  | .nil => rfl
  | .cons s b => by
    have := Bl.ends_in b
    simp only [inF] at this
    have e : ∀ c : Bool, eqF (.bl c) (.bl true) = c := fun c => by cases c <;> rfl
    simp only [Bl.ends, List.map_cons, inF, List.any_cons, endsB, this, e]
theorem flat_bls (l : List Bool) : (l.map D.bl).all flatD = true := by
  induction l with
  | nil => rfl
  | cons b l ih => simp [flatD, ih]
theorem Bl.getE : ∀ (b : Bl) (k : Nat) (d : D), b.l[k]? = some d → ∃ s, d = s.d ∧ (b.ends.map D.bl)[k]? = some (.bl (endsS s)) ∧ lvS s + 1 ≤ lvB b ∧ uS s ≤ uB b
  | .nil, k, d, h => by simp [Bl.l] at h
  | .cons s b, 0, d, h => by
    simp only [Bl.l, List.getElem?_cons_zero, Option.some.injEq] at h
    exact ⟨s, h.symm, by simp [Bl.ends], by simp only [lvB]; omega, by simp only [uB]; omega⟩
  | .cons s b, k + 1, d, h => by
    simp only [Bl.l, List.getElem?_cons_succ] at h
    obtain ⟨s', h2, h3, h4, h5⟩ := Bl.getE b k d h
    exact ⟨s', h2, by simpa [Bl.ends] using h3, by simp only [lvB]; omega, by simp only [uB]; omega⟩
section
variable {k : Nat} {S : Sto} {E : XA} {Q : VA}
theorem gn_mk {s : St} (h : lvS s ≤ k) (hu : uS s < sizeLine) (q : ∀ S', S <+: S' → Q (.bl (endsS s)) S') : GN k [s.d] S E Q := ⟨s, h, hu, rfl, q⟩
/-- [ends(x) for x in b] -/
theorem lc_ends {ρ : Rho} {b : Bl} {i : Nat} {a : ATE} (ha : ∀ Q' : VA, Q' (.tup b.l) S → a ρ S E Q') (hu : uB b < sizeLine) (hk : lvB b ≤ k + 1)
    (hi : ∀ d, gt (sset (wipeA ρ [i]) i d) i = some d) (q : ∀ S1, S <+: S1 → Q (.ref S1.length) (S1 ++ [.lst (b.ends.map D.bl)])) : aLc (aiAny a) (agName i) aYes (aCall (GN k) (aCons (aVar i) aNil)) [i] ρ S E Q := by
  refine lc_map (src := .fix b.l) (out := b.ends.map D.bl) (S0 := S) (fun Q' h => ?_) trivial (show b.l.length < sizeLine from Nat.lt_of_le_of_lt (Bl.few b) hu) (by rw [List.length_map]; exact Bl.ends_len b) (fun j d hd => ?_) q
  · show a ρ S E fun d S1 => must (srcOf S1 d) fun src => Q' src S1
    exact ha _ h
  · obtain ⟨s, rfl, h3, h4, h5⟩ := Bl.getE b j d hd
    refine ⟨_, h3, fun S1 Q1 p q1 => ?_⟩
    show must (gt (sset (wipeA ρ [i]) i s.d) i) fun d => GN k [d] S1 (fun _ _ => False) Q1
    rw [hi]
    exact ⟨s, by omega, by omega, rfl, q1⟩
theorem cany_new {l : List Bool} {S : Sto} {Q : VA} (q : Q (.bl (l.any _root_.id)) (S ++ [.lst (l.map D.bl)])) : cAny [.ref S.length] (S ++ [.lst (l.map D.bl)]) Q := by
  have e : lstOf (S ++ [.lst (l.map D.bl)]) S.length = some (l.map D.bl) := by simp [lstOf]
  show must (lstOf (S ++ [.lst (l.map D.bl)]) S.length) _
  rw [e]
  exact ⟨l, rfl, q⟩
theorem oin_new {x : D} {l : List D} {S : Sto} {Q : VA} (h : (flatD x && l.all flatD) = true) : oIn x (.ref S.length) (S ++ [.lst l]) Q = Q (.bl (inF x l)) (S ++ [.lst l]) := by
  have e : (S ++ [O.lst l])[S.length]? = some (O.lst l) := by simp
  unfold oIn isIn
  simp only [e, lstOf, ev2, h, if_true]
end
/-! ### always_ends, dead -/
section
variable {k : Nat}
theorem sp_ends : ∀ ds S E Q, GN (k + 1) ds S E Q → ds.length = 1 ∧ a_always_ends (GN k) (bodyEnds Q E) (startA 4 ds) S := by
  rintro ds S E Q ⟨s, hk, hu, rfl, q⟩
  refine ⟨rfl, ?_⟩
  have q0 := q S pre_refl
  unfold a_always_ends
  cases s <;> simp only [lvS, uS] at hk hu
  case act h e n =>
    have st : startA 4 [(St.act h e n).d] = [some (.tup [.str h.s, .tup e.l, .int n.val]), none, none, none] := rfl
    rw [st]
    cases h <;> simp only [eq_self, ev, ev2, ev3, hds, hdn, acs, pts, ofS_inj, bodyEnds, String.reduceEq, decide_false, decide_true, reduceCtorEq, List.length_cons, List.length_nil, Nat.reduceAdd, szs, true_and, flatD, List.all_cons, List.all_nil, Bool.and_self, inF, List.any_cons, List.any_nil, eqF, Bool.or_false, Bool.false_or, Bool.or_true, Bool.true_or, Bool.and_true, Bool.true_and, Bool.and_false, Bool.false_and, Bool.not_true, Bool.not_false] <;> exact q0
  case put l m e n =>
    have st : startA 4 [(St.put l m e n).d] = [some (.tup [.str (putS l), .int m.val, .tup e.l, .int n.val]), none, none, none] := rfl
    rw [st]
    cases l <;> simp only [eq_self, ev, ev2, ev3, hds, hdn, acs, pts, ofS_inj, bodyEnds, String.reduceEq, decide_false, decide_true, reduceCtorEq, List.length_cons, List.length_nil, Nat.reduceAdd, szs, true_and, flatD, List.all_cons, List.all_nil, Bool.and_self, inF, List.any_cons, List.any_nil, eqF, Bool.or_false, Bool.false_or, Bool.or_true, Bool.true_or, Bool.and_true, Bool.true_and, Bool.and_false, Bool.false_and, Bool.not_true, Bool.not_false] <;> exact q0
  case block b n =>
    have st : startA 4 [(St.block b n).d] = [some (.tup [.str "block", .tup b.l, .int n.val]), none, none, none] := rfl
    rw [st]
    simp only [eq_self, ev, ev2, ev3, hds, hdn, acs, pts, ofS_inj, bodyEnds, String.reduceEq, decide_false, decide_true, reduceCtorEq, List.length_cons, List.length_nil, Nat.reduceAdd, szs, true_and, flatD, List.all_cons, List.all_nil, Bool.and_self, inF, List.any_cons, List.any_nil, eqF, Bool.or_false, Bool.false_or, Bool.or_true, Bool.true_or, Bool.and_true, Bool.true_and, Bool.and_false, Bool.false_and, Bool.not_true, Bool.not_false]
    refine lc_ends (b := b) (fun Q' h => ?_) (by omega) (by omega) (fun _ => rfl) fun S1 p1 => cany_new ?_
    · simp only [eq_self, ev, ev2, ev3, hds, hdn, acs, pts, ofS_inj, bodyEnds, String.reduceEq, decide_false, decide_true, reduceCtorEq, List.length_cons, List.length_nil, Nat.reduceAdd, szs, true_and, flatD, List.all_cons, List.all_nil, Bool.and_self, inF, List.any_cons, List.any_nil, eqF, Bool.or_false, Bool.false_or, Bool.or_true, Bool.true_or, Bool.and_true, Bool.true_and, Bool.and_false, Bool.false_and, Bool.not_true, Bool.not_false]; exact h
    · rw [Bl.ends_any]; exact q _ (p1.trans pre_app)
  case if_ e a b n =>
    have st : startA 4 [(St.if_ e a b n).d] = [some (.tup [.str "if", .tup e.l, .tup a.l, .tup b.l, .int n.val]), none, none, none] := rfl
    rw [st]
    simp only [eq_self, ev, ev2, ev3, hds, hdn, acs, pts, ofS_inj, bodyEnds, String.reduceEq, decide_false, decide_true, reduceCtorEq, List.length_cons, List.length_nil, Nat.reduceAdd, szs, true_and, flatD, List.all_cons, List.all_nil, Bool.and_self, inF, List.any_cons, List.any_nil, eqF, Bool.or_false, Bool.false_or, Bool.or_true, Bool.true_or, Bool.and_true, Bool.true_and, Bool.and_false, Bool.false_and, Bool.not_true, Bool.not_false]
    refine lc_ends (b := a) (fun Q' h => ?_) (by omega) (by omega) (fun _ => rfl) fun S1 p1 => cany_new ?_
    · simp only [eq_self, ev, ev2, ev3, hds, hdn, acs, pts, ofS_inj, bodyEnds, String.reduceEq, decide_false, decide_true, reduceCtorEq, List.length_cons, List.length_nil, Nat.reduceAdd, szs, true_and, flatD, List.all_cons, List.all_nil, Bool.and_self, inF, List.any_cons, List.any_nil, eqF, Bool.or_false, Bool.false_or, Bool.or_true, Bool.true_or, Bool.and_true, Bool.true_and, Bool.and_false, Bool.false_and, Bool.not_true, Bool.not_false]; exact h
    · rw [Bl.ends_any]
      have q1 := fun S2 (p2 : S1 <+: S2) => q S2 (p1.trans p2)
      simp only [endsS] at q1
      cases ea : endsB a with
      | false =>
        simp only [ea, eq_self, ev, ev2, ev3, hds, hdn, acs, pts, ofS_inj, bodyEnds, String.reduceEq, decide_false, decide_true, reduceCtorEq, List.length_cons, List.length_nil, Nat.reduceAdd, szs, true_and, flatD, List.all_cons, List.all_nil, Bool.and_self, inF, List.any_cons, List.any_nil, eqF, Bool.or_false, Bool.false_or, Bool.or_true, Bool.true_or, Bool.and_true, Bool.true_and, Bool.and_false, Bool.false_and, Bool.not_true, Bool.not_false] at q1 ⊢
        exact q1 _ pre_app
      | true =>
        simp only [ea, eq_self, ev, ev2, ev3, hds, hdn, acs, pts, ofS_inj, bodyEnds, String.reduceEq, decide_false, decide_true, reduceCtorEq, List.length_cons, List.length_nil, Nat.reduceAdd, szs, true_and, flatD, List.all_cons, List.all_nil, Bool.and_self, inF, List.any_cons, List.any_nil, eqF, Bool.or_false, Bool.false_or, Bool.or_true, Bool.true_or, Bool.and_true, Bool.true_and, Bool.and_false, Bool.false_and, Bool.not_true, Bool.not_false] at q1 ⊢
        refine lc_ends (b := b) (fun Q' h => ?_) (by omega) (by omega) (fun _ => rfl) fun S2 p2 => cany_new ?_
        · simp only [eq_self, ev, ev2, ev3, hds, hdn, acs, pts, ofS_inj, bodyEnds, String.reduceEq, decide_false, decide_true, reduceCtorEq, List.length_cons, List.length_nil, Nat.reduceAdd, szs, true_and, flatD, List.all_cons, List.all_nil, Bool.and_self, inF, List.any_cons, List.any_nil, eqF, Bool.or_false, Bool.false_or, Bool.or_true, Bool.true_or, Bool.and_true, Bool.true_and, Bool.and_false, Bool.false_and, Bool.not_true, Bool.not_false]; exact h
        · rw [Bl.ends_any]; exact q1 _ (pre_app.trans (p2.trans pre_app))
  case try_ a m b n =>
    have st : startA 4 [(St.try_ a m b n).d] = [some (.tup [.str "try", .tup a.l, .int m.val, .tup b.l, .int n.val]), none, none, none] := rfl
    rw [st]
    simp only [eq_self, ev, ev2, ev3, hds, hdn, acs, pts, ofS_inj, bodyEnds, String.reduceEq, decide_false, decide_true, reduceCtorEq, List.length_cons, List.length_nil, Nat.reduceAdd, szs, true_and, flatD, List.all_cons, List.all_nil, Bool.and_self, inF, List.any_cons, List.any_nil, eqF, Bool.or_false, Bool.false_or, Bool.or_true, Bool.true_or, Bool.and_true, Bool.true_and, Bool.and_false, Bool.false_and, Bool.not_true, Bool.not_false]
    exact q0
  case fun_ m b n =>
    have st : startA 4 [(St.fun_ m b n).d] = [some (.tup [.str "fun", .int m.val, .tup [], .tup b.l, .int n.val]), none, none, none] := rfl
    rw [st]
    simp only [eq_self, ev, ev2, ev3, hds, hdn, acs, pts, ofS_inj, bodyEnds, String.reduceEq, decide_false, decide_true, reduceCtorEq, List.length_cons, List.length_nil, Nat.reduceAdd, szs, true_and, flatD, List.all_cons, List.all_nil, Bool.and_self, inF, List.any_cons, List.any_nil, eqF, Bool.or_false, Bool.false_or, Bool.or_true, Bool.true_or, Bool.and_true, Bool.true_and, Bool.and_false, Bool.false_and, Bool.not_true, Bool.not_false]
    exact q0
  case rep e b n =>
    have st : startA 4 [(St.rep e b n).d] = [some (.tup [.str "repeat", .tup e.l, .tup b.l, .int n.val]), none, none, none] := rfl
    rw [st]
    simp only [eq_self, ev, ev2, ev3, hds, hdn, acs, pts, ofS_inj, bodyEnds, String.reduceEq, decide_false, decide_true, reduceCtorEq, List.length_cons, List.length_nil, Nat.reduceAdd, szs, true_and, flatD, List.all_cons, List.all_nil, Bool.and_self, inF, List.any_cons, List.any_nil, eqF, Bool.or_false, Bool.false_or, Bool.or_true, Bool.true_or, Bool.and_true, Bool.true_and, Bool.and_false, Bool.false_and, Bool.not_true, Bool.not_false]
    exact q0
theorem sp_dexpr : ∀ ds S E Q, GE (fun e => e) (k + 1) ds S E Q → ds.length = 1 ∧ a_dead_expression (GB (deadB false) k) (GE (fun e => e) k) (bodyEnds Q E) (startA 3 ds) S := by
  rintro ds S E Q ⟨e, hk, hu, rfl, q⟩
  refine ⟨rfl, ?_⟩
  have q0 := q S pre_refl
  have st : startA 3 [Ex.d e] = [some (.tup e.l), none, none] := rfl
  rw [st]
  clear st
  unfold a_dead_expression
  cases e <;> simp only [eq_self, ev, ev2, ev3, hds, hdn, acs, pts, ofS_inj, bodyEnds, String.reduceEq, decide_false, decide_true, reduceCtorEq, List.length_cons, List.length_nil, Nat.reduceAdd, szs, true_and, flatD, List.all_cons, List.all_nil, Bool.and_self, inF, List.any_cons, List.any_nil, eqF, Bool.or_false, Bool.false_or, Bool.or_true, Bool.true_or, Bool.and_true, Bool.true_and, Bool.and_false, Bool.false_and, Bool.not_true, Bool.not_false, Ex.l]
  case int => exact q0
  case bool => exact q0
  case none => exact q0
  case var => exact q0
  case two h a b =>
    simp only [lvE, uE] at hk hu
    cases h <;> simp only [eq_self, ev, ev2, ev3, hds, hdn, acs, pts, ofS_inj, bodyEnds, String.reduceEq, decide_false, decide_true, reduceCtorEq, List.length_cons, List.length_nil, Nat.reduceAdd, szs, true_and, flatD, List.all_cons, List.all_nil, Bool.and_self, inF, List.any_cons, List.any_nil, eqF, Bool.or_false, Bool.false_or, Bool.or_true, Bool.true_or, Bool.and_true, Bool.true_and, Bool.and_false, Bool.false_and, Bool.not_true, Bool.not_false] <;> exact ge_mk (by omega) (by omega) fun S1 p1 => ge_mk (by omega) (by omega) fun S2 p2 => q _ (p1.trans p2)
  case not a =>
    simp only [lvE, uE] at hk hu
    exact ge_mk (by omega) (by omega) fun S1 p1 => q _ p1
  case call f a =>
    simp only [lvE, uE] at hk hu
    refine ge_mk (by omega) (by omega) fun S1 p1 => ?_
    refine lc_one (S := S1) (d := a.d) (y := a.d) (fun Q' h => ?_) rfl (fun S2 Q1 p2 q1 => ge_mk (by omega) (by omega) fun S3 p3 => q1 S3 p3) fun S2 p2 => ?_
    · simp only [eq_self, ev, ev2, ev3, hds, hdn, acs, pts, ofS_inj, bodyEnds, String.reduceEq, decide_false, decide_true, reduceCtorEq, List.length_cons, List.length_nil, Nat.reduceAdd, szs, true_and, flatD, List.all_cons, List.all_nil, Bool.and_self, inF, List.any_cons, List.any_nil, eqF, Bool.or_false, Bool.false_or, Bool.or_true, Bool.true_or, Bool.and_true, Bool.true_and, Bool.and_false, Bool.false_and, Bool.not_true, Bool.not_false]; exact h
    · rw [ctup_new]
      exact q _ (p1.trans (p2.trans pre_app))
  case ask a =>
    simp only [lvE, uE] at hk hu
    exact ge_mk (by omega) (by omega) fun S1 p1 => q S1 p1
  case lam a =>
    simp only [lvE, uE] at hk hu
    exact gb_mk (b := tell1 a 9) (by simp only [lvB, lvS]; omega) (by simp only [uB, uS]; omega) fun S1 p1 => q S1 p1
theorem sp_dstat : ∀ ds S E Q, GS deadS (k + 1) ds S E Q → ds.length = 1 ∧ a_dead_statement (GE (fun e => e) k) (GB (deadB false) k) (bodyEnds Q E) (startA 3 ds) S := by
  rintro ds S E Q ⟨s, hk, hu, rfl, q⟩
  refine ⟨rfl, ?_⟩
  unfold a_dead_statement
  cases s <;> simp only [lvS, uS] at hk hu
  case act h e n =>
    have st : startA 3 [(St.act h e n).d] = [some (.tup [.str h.s, .tup e.l, .int n.val]), none, none] := rfl
    rw [st]
    cases h <;> simp only [eq_self, ev, ev2, ev3, hds, hdn, acs, pts, ofS_inj, bodyEnds, String.reduceEq, decide_false, decide_true, reduceCtorEq, List.length_cons, List.length_nil, Nat.reduceAdd, szs, true_and, flatD, List.all_cons, List.all_nil, Bool.and_self, inF, List.any_cons, List.any_nil, eqF, Bool.or_false, Bool.false_or, Bool.or_true, Bool.true_or, Bool.and_true, Bool.true_and, Bool.and_false, Bool.false_and, Bool.not_true, Bool.not_false] <;> exact ge_mk (by omega) (by omega) fun S1 p1 => q S1 p1
  case put l m e n =>
    have st : startA 3 [(St.put l m e n).d] = [some (.tup [.str (putS l), .int m.val, .tup e.l, .int n.val]), none, none] := rfl
    rw [st]
    cases l <;> simp only [eq_self, ev, ev2, ev3, hds, hdn, acs, pts, ofS_inj, bodyEnds, String.reduceEq, decide_false, decide_true, reduceCtorEq, List.length_cons, List.length_nil, Nat.reduceAdd, szs, true_and, flatD, List.all_cons, List.all_nil, Bool.and_self, inF, List.any_cons, List.any_nil, eqF, Bool.or_false, Bool.false_or, Bool.or_true, Bool.true_or, Bool.and_true, Bool.true_and, Bool.and_false, Bool.false_and, Bool.not_true, Bool.not_false] <;> exact ge_mk (by omega) (by omega) fun S1 p1 => q S1 p1
  case block b n =>
    have st : startA 3 [(St.block b n).d] = [some (.tup [.str "block", .tup b.l, .int n.val]), none, none] := rfl
    rw [st]
    simp only [eq_self, ev, ev2, ev3, hds, hdn, acs, pts, ofS_inj, bodyEnds, String.reduceEq, decide_false, decide_true, reduceCtorEq, List.length_cons, List.length_nil, Nat.reduceAdd, szs, true_and, flatD, List.all_cons, List.all_nil, Bool.and_self, inF, List.any_cons, List.any_nil, eqF, Bool.or_false, Bool.false_or, Bool.or_true, Bool.true_or, Bool.and_true, Bool.true_and, Bool.and_false, Bool.false_and, Bool.not_true, Bool.not_false]
    exact gb_mk (by omega) (by omega) fun S1 p1 => q S1 p1
  case if_ e a b n =>
    have st : startA 3 [(St.if_ e a b n).d] = [some (.tup [.str "if", .tup e.l, .tup a.l, .tup b.l, .int n.val]), none, none] := rfl
    rw [st]
    simp only [eq_self, ev, ev2, ev3, hds, hdn, acs, pts, ofS_inj, bodyEnds, String.reduceEq, decide_false, decide_true, reduceCtorEq, List.length_cons, List.length_nil, Nat.reduceAdd, szs, true_and, flatD, List.all_cons, List.all_nil, Bool.and_self, inF, List.any_cons, List.any_nil, eqF, Bool.or_false, Bool.false_or, Bool.or_true, Bool.true_or, Bool.and_true, Bool.true_and, Bool.and_false, Bool.false_and, Bool.not_true, Bool.not_false]
    exact ge_mk (by omega) (by omega) fun S1 p1 => gb_mk (by omega) (by omega) fun S2 p2 => gb_mk (by omega) (by omega) fun S3 p3 => q _ (p1.trans (p2.trans p3))
  case try_ a m b n =>
    have st : startA 3 [(St.try_ a m b n).d] = [some (.tup [.str "try", .tup a.l, .int m.val, .tup b.l, .int n.val]), none, none] := rfl
    rw [st]
    simp only [eq_self, ev, ev2, ev3, hds, hdn, acs, pts, ofS_inj, bodyEnds, String.reduceEq, decide_false, decide_true, reduceCtorEq, List.length_cons, List.length_nil, Nat.reduceAdd, szs, true_and, flatD, List.all_cons, List.all_nil, Bool.and_self, inF, List.any_cons, List.any_nil, eqF, Bool.or_false, Bool.false_or, Bool.or_true, Bool.true_or, Bool.and_true, Bool.true_and, Bool.and_false, Bool.false_and, Bool.not_true, Bool.not_false]
    exact gb_mk (by omega) (by omega) fun S1 p1 => gb_mk (by omega) (by omega) fun S2 p2 => q _ (p1.trans p2)
  case fun_ m b n =>
    have st : startA 3 [(St.fun_ m b n).d] = [some (.tup [.str "fun", .int m.val, .tup [], .tup b.l, .int n.val]), none, none] := rfl
    rw [st]
    simp only [eq_self, ev, ev2, ev3, hds, hdn, acs, pts, ofS_inj, bodyEnds, String.reduceEq, decide_false, decide_true, reduceCtorEq, List.length_cons, List.length_nil, Nat.reduceAdd, szs, true_and, flatD, List.all_cons, List.all_nil, Bool.and_self, inF, List.any_cons, List.any_nil, eqF, Bool.or_false, Bool.false_or, Bool.or_true, Bool.true_or, Bool.and_true, Bool.true_and, Bool.and_false, Bool.false_and, Bool.not_true, Bool.not_false]
    exact gb_mk (by omega) (by omega) fun S1 p1 => q S1 p1
  case rep e b n =>
    have st : startA 3 [(St.rep e b n).d] = [some (.tup [.str "repeat", .tup e.l, .tup b.l, .int n.val]), none, none] := rfl
    rw [st]
    simp only [eq_self, ev, ev2, ev3, hds, hdn, acs, pts, ofS_inj, bodyEnds, String.reduceEq, decide_false, decide_true, reduceCtorEq, List.length_cons, List.length_nil, Nat.reduceAdd, szs, true_and, flatD, List.all_cons, List.all_nil, Bool.and_self, inF, List.any_cons, List.any_nil, eqF, Bool.or_false, Bool.false_or, Bool.or_true, Bool.true_or, Bool.and_true, Bool.true_and, Bool.and_false, Bool.false_and, Bool.not_true, Bool.not_false]
    exact ge_mk (by omega) (by omega) fun S1 p1 => gb_mk (by omega) (by omega) fun S2 p2 => q _ (p1.trans p2)
end
end Sp
namespace Sp
open PySem PySem.Spec
open PyProof.Rows L2 AL Ab
/-! ### the loop of dead_block -/
def Bl.ss : Bl → List St
  | .nil => []
  | .cons s b => s :: b.ss
theorem Bl.l_ss : ∀ b : Bl, b.l = b.ss.map St.d
  | .nil => rfl
  | .cons s b => by simp [Bl.l, Bl.ss, Bl.l_ss b]
def dstep (x : List D × Bool) (s : St) : List D × Bool := (if !x.2 || keepS s then x.1 ++ [(deadS s).d] else x.1, x.2 || endsS s)
theorem dead_run : ∀ (b : Bl) (acc : List D) (e : Bool), (b.ss.foldl dstep (acc, e)).1 = acc ++ (deadB e b).l
  | .nil, acc, e => by simp [Bl.ss, deadB, Bl.l]
  | .cons s b, acc, e => by
    simp only [Bl.ss, List.foldl_cons, deadB]
    rw [show dstep (acc, e) s = (if !e || keepS s then acc ++ [(deadS s).d] else acc, e || endsS s) from rfl, dead_run b]
    by_cases h : (!e || keepS s) = true
    · simp [h, Bl.l]
    · simp [h]
theorem Bl.ss_mem : ∀ {b : Bl} {s : St}, s ∈ b.ss → lvS s + 1 ≤ lvB b ∧ uS s ≤ uB b
  | .nil, s, h => by simp [Bl.ss] at h
  | .cons x b, s, h => by
    simp only [Bl.ss, List.mem_cons] at h
    rcases h with rfl | h
    · exact ⟨by simp only [lvB]; omega, by simp only [uB]; omega⟩
    · have := Bl.ss_mem h
      exact ⟨by simp only [lvB]; omega, by simp only [uB]; omega⟩
theorem set_pre {S S1 : Sto} {i : Nat} {o : O} (p : S <+: S1) (h : S.length ≤ i) : S <+: S1.set i o := by
  obtain ⟨t, rfl⟩ := p
  rw [List.set_append_right _ _ h]
  exact List.prefix_append _ _
theorem take_fold {α β : Type} {f : β → α → β} {z : β} {l : List α} {k : Nat} {x : α} (h : l[k]? = some x) : (l.take (k + 1)).foldl f z = f ((l.take k).foldl f z) x := by
  rw [List.take_add_one, h, List.foldl_append]; rfl
theorem St.hd : ∀ s : St, ∃ h t, s.d = .tup (.str h :: t) ∧ (decide (h = Str.ofString "let") || decide (h = Str.ofString "fun")) = keepS s
  | .act h e k => ⟨_, _, rfl, by cases h <;> simp only [acs, ofS_inj, String.reduceEq, decide_false, keepS, Bool.or_self]⟩
  | .put l n e k => ⟨_, _, rfl, by cases l <;> simp only [pts, ofS_inj, String.reduceEq, decide_false, decide_true, keepS, Bool.or_self, Bool.true_or]⟩
  | .block b k => ⟨_, _, rfl, by simp only [ofS_inj, String.reduceEq, decide_false, keepS, Bool.or_self]⟩
  | .if_ e a b k => ⟨_, _, rfl, by simp only [ofS_inj, String.reduceEq, decide_false, keepS, Bool.or_self]⟩
  | .try_ a n b k => ⟨_, _, rfl, by simp only [ofS_inj, String.reduceEq, decide_false, keepS, Bool.or_self]⟩
  | .fun_ n b k => ⟨_, _, rfl, by simp only [ofS_inj, String.reduceEq, decide_false, decide_true, keepS, Bool.or_true]⟩
  | .rep e b k => ⟨_, _, rfl, by simp only [ofS_inj, String.reduceEq, decide_false, keepS, Bool.or_self]⟩
/-- the state of the loop: r the list made, i its slot, j the flag's -/
structure DW (S : Sto) (b : Bl) (k : Nat) (ρ : Rho) (S' : Sto) : Prop where
  pre : S <+: S'
  at_ : S'[S.length]? = some (.lst ((b.ss.take k).foldl dstep ([], false)).1)
  ρ_ : ∃ x, ρ = [some (.tup b.l), some (.ref S.length), some (.bl ((b.ss.take k).foldl dstep ([], false)).2), x]
theorem dfold_len : ∀ (l : List St) (acc : List D) (e : Bool), (l.foldl dstep (acc, e)).1.length ≤ acc.length + l.length
  | [], acc, e => by simp
  | s :: l, acc, e => by
    have h := dfold_len l (if !e || keepS s then acc ++ [(deadS s).d] else acc) (e || endsS s)
    have h1 : (if !e || keepS s then acc ++ [(deadS s).d] else acc).length ≤ acc.length + 1 := by split <;> simp
    rw [List.foldl_cons, show dstep (acc, e) s = (if !e || keepS s then acc ++ [(deadS s).d] else acc, e || endsS s) from rfl, List.length_cons]
    omega
theorem lst_set {S' : Sto} {i : Nat} {l : List D} (h : S'[i]? = some (.lst l)) {d : D} {Q : Sto → Prop} (hl : l.length < sizeLine) (q : Q (S'.set i (.lst (l ++ [d])))) : mAppend (.ref i) d S' Q := by
  unfold mAppend
  simp only [h]
  exact ⟨hl, q⟩
theorem is_lst {S' : Sto} {i : Nat} {l : List D} (h : S'[i]? = some (.lst l)) : isLst S' (.ref i) = true := by
  unfold isLst lstOf
  simp only [h]
  rfl
section
variable {k : Nat}
theorem dead_loop {S : Sto} {b : Bl} {Q : VA} {E : XA} (hk : lvB b ≤ k + 1) (hu : uB b < sizeLine) (q : ∀ S', S <+: S' → Q (.tup (deadB false b).l) S')
    {body : ATS} (hb : ∀ (s : St) (j : Nat) (acc : List D) (e : Bool) (x : Option D) (S1 : Sto) (D0 : AEnds), lvS s ≤ k → uS s < sizeLine → S <+: S1 → S1[S.length]? = some (.lst acc) → acc.length < sizeLine →
      (∀ S2 x, S <+: S2 → S2[S.length]? = some (.lst (dstep (acc, e) s).1) → D0.nx [some (.tup b.l), some (.ref S.length), some (.bl (dstep (acc, e) s).2), x] S2) →
      body D0 [some (.tup b.l), some (.ref S.length), some (.bl e), some s.d] S1) :
    aSeq (aAsg (aLst aNil) (agName 1)) (aSeq (aAsg (aC (.bl false)) (agName 2)) (aSeq (aFor (aiAny (aVar 0)) (agName 3) body) (aRet (aCB cTuple (aCons (aVar 1) aNil))))) (bodyEnds Q E) (startA 4 [.tup b.l]) S := by
  have st : startA 4 [.tup b.l] = [some (.tup b.l), none, none, none] := rfl
  rw [st]
  simp only [eq_self, ev, ev2, ev3, hds, hdn, acs, pts, ofS_inj, bodyEnds, String.reduceEq, decide_false, decide_true, reduceCtorEq, List.length_cons, List.length_nil, Nat.reduceAdd, szs, true_and, flatD, List.all_cons, List.all_nil, Bool.and_self, inF, List.any_cons, List.any_nil, eqF, Bool.or_false, Bool.false_or, Bool.or_true, Bool.true_or, Bool.and_true, Bool.true_and, Bool.and_false, Bool.false_and, Bool.not_true, Bool.not_false]
  unfold aFor
  simp only [eq_self, ev, ev2, ev3, hds, hdn, acs, pts, ofS_inj, bodyEnds, String.reduceEq, decide_false, decide_true, reduceCtorEq, List.length_cons, List.length_nil, Nat.reduceAdd, szs, true_and, flatD, List.all_cons, List.all_nil, Bool.and_self, inF, List.any_cons, List.any_nil, eqF, Bool.or_false, Bool.false_or, Bool.or_true, Bool.true_or, Bool.and_true, Bool.true_and, Bool.and_false, Bool.false_and, Bool.not_true, Bool.not_false]
  show ∃ Wv, _
  refine ⟨fun j ρ S' => DW S b j ρ S', ⟨pre_app, by simp, ⟨_, rfl⟩⟩, fun _ _ _ _ _ => trivial, ?_, ?_⟩
  · rintro j d ρ S1 hd ⟨p, at1, x, rfl⟩
    have hd' : (b.ss.map St.d)[j]? = some d := by rw [← Bl.l_ss]; exact hd
    rw [List.getElem?_map] at hd'
    obtain ⟨s, hs, rfl⟩ := Option.map_eq_some_iff.mp hd'
    have mem := Bl.ss_mem (List.mem_of_getElem? hs)
    have hj : j < b.ss.length := (List.getElem?_eq_some_iff.mp hs).1
    have few : b.ss.length ≤ uB b := by have := Bl.few b; rw [Bl.l_ss, List.length_map] at this; exact this
    have accl := dfold_len (b.ss.take j) [] false
    simp only [List.length_nil, List.length_take] at accl
    simp only [eq_self, ev, ev2, ev3, hds, hdn, acs, pts, ofS_inj, bodyEnds, String.reduceEq, decide_false, decide_true, reduceCtorEq, List.length_cons, List.length_nil, Nat.reduceAdd, szs, true_and, flatD, List.all_cons, List.all_nil, Bool.and_self, inF, List.any_cons, List.any_nil, eqF, Bool.or_false, Bool.false_or, Bool.or_true, Bool.true_or, Bool.and_true, Bool.true_and, Bool.and_false, Bool.false_and, Bool.not_true, Bool.not_false]
    refine hb s j _ _ x S1 _ (by omega) (by omega) p at1 (by omega) fun S2 x p2 at2 => ?_
    refine ⟨p2, ?_, x, ?_⟩
    · rw [take_fold hs]; exact at2
    · rw [take_fold hs]
  · rintro ρ S1 ⟨p, at1, x, rfl⟩
    have e : (Src.fix b.l).items.length = b.ss.length := by show b.l.length = _; rw [Bl.l_ss, List.length_map]
    rw [e, List.take_length, dead_run] at at1
    simp only [eq_self, ev, ev2, ev3, hds, hdn, acs, pts, ofS_inj, bodyEnds, String.reduceEq, decide_false, decide_true, reduceCtorEq, List.length_cons, List.length_nil, Nat.reduceAdd, szs, true_and, flatD, List.all_cons, List.all_nil, Bool.and_self, inF, List.any_cons, List.any_nil, eqF, Bool.or_false, Bool.false_or, Bool.or_true, Bool.true_or, Bool.and_true, Bool.true_and, Bool.and_false, Bool.false_and, Bool.not_true, Bool.not_false]
    show must (seqOf S1 (.ref S.length)) fun l => Q (.tup l) S1
    have e2 : seqOf S1 (.ref S.length) = some (deadB false b).l := by simp only [seqOf, lstOf, at1]; rfl
    rw [e2]
    exact q _ p
theorem sp_dblock : ∀ ds S E Q, GB (deadB false) (k + 1) ds S E Q → ds.length = 1 ∧ a_dead_block (GS deadS k) (GN k) (bodyEnds Q E) (startA 4 ds) S := by
  rintro ds S E Q ⟨b, hk, hu, rfl, q⟩
  refine ⟨rfl, ?_⟩
  unfold a_dead_block
  refine dead_loop hk hu q fun s j acc e x S1 D0 h1 h2 p at1 hl nx => ?_
  obtain ⟨h, t, ed, ekeep⟩ := St.hd s
  have tail : ∀ S2, S <+: S2 → S2[S.length]? = some (.lst (dstep (acc, e) s).1) → aAsg (aOrV (aVar 2) (aCall (GN k) (aCons (aVar 3) aNil))) (agName 2) D0 [some (.tup b.l), some (.ref S.length), some (.bl e), some s.d] S2 := by
    intro S2 p2 at2
    simp only [eq_self, ev, ev2, ev3, hds, hdn, acs, pts, ofS_inj, bodyEnds, String.reduceEq, decide_false, decide_true, reduceCtorEq, List.length_cons, List.length_nil, Nat.reduceAdd, szs, true_and, flatD, List.all_cons, List.all_nil, Bool.and_self, inF, List.any_cons, List.any_nil, eqF, Bool.or_false, Bool.false_or, Bool.or_true, Bool.true_or, Bool.and_true, Bool.true_and, Bool.and_false, Bool.false_and, Bool.not_true, Bool.not_false]
    cases e with
    | true =>
      simp only [eq_self, ev, ev2, ev3, hds, hdn, acs, pts, ofS_inj, bodyEnds, String.reduceEq, decide_false, decide_true, reduceCtorEq, List.length_cons, List.length_nil, Nat.reduceAdd, szs, true_and, flatD, List.all_cons, List.all_nil, Bool.and_self, inF, List.any_cons, List.any_nil, eqF, Bool.or_false, Bool.false_or, Bool.or_true, Bool.true_or, Bool.and_true, Bool.true_and, Bool.and_false, Bool.false_and, Bool.not_true, Bool.not_false]
      exact nx S2 _ p2 at2
    | false =>
      simp only [eq_self, ev, ev2, ev3, hds, hdn, acs, pts, ofS_inj, bodyEnds, String.reduceEq, decide_false, decide_true, reduceCtorEq, List.length_cons, List.length_nil, Nat.reduceAdd, szs, true_and, flatD, List.all_cons, List.all_nil, Bool.and_self, inF, List.any_cons, List.any_nil, eqF, Bool.or_false, Bool.false_or, Bool.or_true, Bool.true_or, Bool.and_true, Bool.true_and, Bool.and_false, Bool.false_and, Bool.not_true, Bool.not_false]
      refine gn_mk h1 h2 fun S3 p3 => ?_
      exact nx S3 _ (p2.trans p3) (pre_get p3 at2)
  have app : (!e || keepS s) = true → aDrop (aAppend (aVar 1) (aCall (GS deadS k) (aCons (aVar 3) aNil))) { D0 with nx := aAsg (aOrV (aVar 2) (aCall (GN k) (aCons (aVar 3) aNil))) (agName 2) D0 } [some (.tup b.l), some (.ref S.length), some (.bl e), some s.d] S1 := by
    intro hc
    simp only [eq_self, ev, ev2, ev3, hds, hdn, acs, pts, ofS_inj, bodyEnds, String.reduceEq, decide_false, decide_true, reduceCtorEq, List.length_cons, List.length_nil, Nat.reduceAdd, szs, true_and, flatD, List.all_cons, List.all_nil, Bool.and_self, inF, List.any_cons, List.any_nil, eqF, Bool.or_false, Bool.false_or, Bool.or_true, Bool.true_or, Bool.and_true, Bool.true_and, Bool.and_false, Bool.false_and, Bool.not_true, Bool.not_false]
    refine ⟨is_lst at1, gs_mk h1 h2 fun S2 p2 => lst_set (pre_get p2 at1) hl ?_⟩
    have at2 := pre_get p2 at1
    refine tail _ (set_pre (p.trans p2) (Nat.le_refl _)) ?_
    rw [List.getElem?_set_self (List.getElem?_eq_some_iff.mp at2).1]
    show some (O.lst (acc ++ [(deadS s).d])) = some (O.lst (if (!e || keepS s) = true then _ else _))
    rw [if_pos hc]
  have skip : (!e || keepS s) = false → aAsg (aOrV (aVar 2) (aCall (GN k) (aCons (aVar 3) aNil))) (agName 2) D0 [some (.tup b.l), some (.ref S.length), some (.bl e), some s.d] S1 := by
    intro hc
    refine tail S1 p ?_
    rw [at1]
    show some (O.lst acc) = some (O.lst (if (!e || keepS s) = true then _ else _))
    rw [hc]; rfl
  rw [ev.2.1]
  rw [ed] at app skip ⊢
  cases e with
  | false =>
    rw [ev.2.2.2.2.2.1]
    simp only [aOr, aNot, aB, aVar, eq_self, ev, ev2, ev3, hds, hdn, acs, pts, ofS_inj, bodyEnds, String.reduceEq, decide_false, decide_true, reduceCtorEq, List.length_cons, List.length_nil, Nat.reduceAdd, szs, true_and, flatD, List.all_cons, List.all_nil, Bool.and_self, inF, List.any_cons, List.any_nil, eqF, Bool.or_false, Bool.false_or, Bool.or_true, Bool.true_or, Bool.and_true, Bool.true_and, Bool.and_false, Bool.false_and, Bool.not_true, Bool.not_false]
    exact app rfl
  | true =>
    rw [ev.2.2.2.2.2.1]
    simp only [aOr, aNot, aB, aVar, aOp, aIx, aC, eq_self, ev, ev2, ev3, hds, hdn, acs, pts, ofS_inj, bodyEnds, String.reduceEq, decide_false, decide_true, reduceCtorEq, List.length_cons, List.length_nil, Nat.reduceAdd, szs, true_and, flatD, List.all_cons, List.all_nil, Bool.and_self, inF, List.any_cons, List.any_nil, eqF, Bool.or_false, Bool.false_or, Bool.or_true, Bool.true_or, Bool.and_true, Bool.true_and, Bool.and_false, Bool.false_and, Bool.not_true, Bool.not_false]
    cases e1 : decide (h = Str.ofString "let") with
    | true =>
      rw [e1] at ekeep
      exact app (by rw [← ekeep]; rfl)
    | false =>
      rw [e1, Bool.false_or] at ekeep
      cases e2 : decide (h = Str.ofString "fun") with
      | true => exact app (by rw [← ekeep, e2]; rfl)
      | false => exact skip (by rw [← ekeep, e2]; rfl)
end
end Sp
namespace Sp
open PySem PySem.Spec
open PyProof.Rows L2 AL Ab
/-! ### Linked -/
structure IsLk (S : Sto) (d : D) (l x v : List D) : Prop where
  ex : ∃ i a b c, d = .ref i ∧ S[i]? = some (.ins "Linked" [("_statements", .ref a), ("_exports", .ref b), ("_variables", .ref c)]) ∧ lstOf S a = some l ∧ lstOf S b = some x ∧ lstOf S c = some v
theorem lst_mono {S S' : Sto} (p : S <+: S') {i : Nat} {l : List D} (h : lstOf S i = some l) : lstOf S' i = some l := by
  have := Src.ok_mono (src := .lst i l) h p
  exact this
theorem seq_mono {S S' : Sto} (p : S <+: S') {d : D} {l : List D} (h : seqOf S d = some l) : seqOf S' d = some l := by
  cases d with
  | ref i => exact lst_mono p (show lstOf S i = some l from h)
  | _ => exact h
theorem IsLk.mono {S S' : Sto} (p : S <+: S') {d : D} {l x v : List D} (h : IsLk S d l x v) : IsLk S' d l x v := by
  obtain ⟨i, a, b, c, e, h1, h2, h3, h4⟩ := h.ex
  exact ⟨i, a, b, c, e, pre_get p h1, lst_mono p h2, lst_mono p h3, lst_mono p h4⟩
/-- made: the instance at i, all below kept -/
def GI : AFn := fun ds S E Q => ∃ i s x v l lx lv, ds = [.ref i, s, x, v] ∧ i + 1 = S.length ∧ S[i]? = some (.ins "Linked" []) ∧ seqOf S s = some l ∧ seqOf S x = some lx ∧ seqOf S v = some lv ∧
  ∀ S', S.take i <+: S' → IsLk S' (.ref i) l lx lv → Q .non S'
theorem fld_set {i : Nat} {S : Sto} {fs : List (Str × D)} {f : Str} {ao a : ATE} {D0 : AEnds} {ρ : Rho} {d : D} {S1 : Sto} (ha : ∀ E Q, Q d S1 → a ρ S E Q) (ho : ∀ E Q, Q (.ref i) S1 → ao ρ S1 E Q) (h : S1[i]? = some (.ins "Linked" fs)) (few : fs.length < 1000)
    (q : D0.nx ρ (S1.set i (.ins "Linked" (setF f d fs)))) : aFldSet "Linked" f ao a D0 ρ S := by
  refine ha _ _ (ho _ _ ?_)
  have e : insOf S1 "Linked" (.ref i) = some fs := by simp [insOf, h]
  rw [e]
  exact ⟨few, q⟩
theorem clist {S : Sto} {d : D} {l : List D} {Q : VA} (h : seqOf S d = some l) (q : Q (.ref S.length) (S ++ [.lst l])) : cList [d] S Q := by
  show must (seqOf S d) _
  rw [h]; exact q
/-- what a set at i keeps -/
theorem lst_setne {S : Sto} {i j : Nat} {o : O} {l : List D} (hne : j ≠ i) (h : lstOf S j = some l) : lstOf (S.set i o) j = some l := by
  unfold lstOf at h ⊢
  rw [List.getElem?_set_ne (Ne.symm hne)]; exact h
theorem sp_init : ∀ ds S E Q, GI ds S E Q → ds.length = 4 ∧ a_Linked_init (bodyEnds Q E) (startA 4 ds) S := by
  rintro ds S E Q ⟨i, s, x, v, l, lx, lv, rfl, hi, h0, h1, h2, h3, q⟩
  refine ⟨rfl, ?_⟩
  unfold a_Linked_init
  have st : startA 4 [.ref i, s, x, v] = [some (.ref i), some s, some x, some v] := rfl
  rw [st, ev.2.1]
  have hil : i < S.length := by omega
  -- what a list of the caller is after a field of i is set
  have keepd : ∀ {S1 : Sto} {d : D} {m : List D} {o : O} {fs : List (Str × D)}, S1[i]? = some (.ins "Linked" fs) → seqOf S1 d = some m → seqOf (S1.set i o) d = some m := by
    intro S1 d m o fs hx e
    cases d with
    | ref j =>
      have e' : lstOf S1 j = some m := e
      refine (lst_setne (fun z => ?_) e' : lstOf (S1.set i o) j = some m)
      subst z
      simp only [lstOf, hx] at e'
      cases e'
    | _ => exact e
  refine fld_set (i := i) (fs := []) (d := .ref S.length) (S1 := S ++ [.lst l]) (fun E Q h => by exact clist h1 h) (fun E Q h => by exact h) (pre_get pre_app h0) (by decide) ?_
  have a1 : (S ++ [O.lst l])[i]? = some (.ins "Linked" []) := pre_get pre_app h0
  have b1 := keepd (o := .ins "Linked" (setF "_statements" (.ref S.length) [])) a1 (seq_mono pre_app h2)
  have c1 := keepd (o := .ins "Linked" (setF "_statements" (.ref S.length) [])) a1 (seq_mono pre_app h3)
  have d1 : lstOf ((S ++ [O.lst l]).set i (.ins "Linked" (setF "_statements" (.ref S.length) []))) S.length = some l := lst_setne (by omega) (by simp [lstOf])
  have e1 : ((S ++ [O.lst l]).set i (.ins "Linked" (setF "_statements" (.ref S.length) [])))[i]? = some (.ins "Linked" [("_statements", .ref S.length)]) := by
    rw [List.getElem?_set_self (by simp; omega)]; rfl
  have p1 : S.take i <+: (S ++ [O.lst l]).set i (.ins "Linked" (setF "_statements" (.ref S.length) [])) := set_pre ((List.take_prefix _ _).trans pre_app) (by simp; omega)
  have n1 : ((S ++ [O.lst l]).set i (.ins "Linked" (setF "_statements" (.ref S.length) []))).length = S.length + 1 := by simp
  generalize (S ++ [O.lst l]).set i (.ins "Linked" (setF "_statements" (.ref S.length) [])) = S1 at b1 c1 d1 e1 p1 n1 ⊢
  dsimp only
  rw [ev.2.1]
  refine fld_set (i := i) (fs := [("_statements", .ref S.length)]) (d := .ref S1.length) (S1 := S1 ++ [.lst lx]) (fun E Q h => by exact clist b1 h) (fun E Q h => by exact h) (pre_get pre_app e1) (by show 1 < 1000; decide) ?_
  have a2 : (S1 ++ [O.lst lx])[i]? = some (.ins "Linked" [("_statements", .ref S.length)]) := pre_get pre_app e1
  have f2 : setF "_exports" (.ref S1.length) [(("_statements" : Str), D.ref S.length)] = ([("_statements", .ref S.length), ("_exports", .ref S1.length)] : List (Str × D)) := by
    simp only [setF, ofS_inj, String.reduceEq, if_false]
  rw [f2]
  have c2 := keepd (o := .ins "Linked" [("_statements", .ref S.length), ("_exports", .ref S1.length)]) a2 (seq_mono pre_app c1)
  have d2 : lstOf ((S1 ++ [O.lst lx]).set i (.ins "Linked" [("_statements", .ref S.length), ("_exports", .ref S1.length)])) S.length = some l := lst_setne (by omega) (lst_mono pre_app d1)
  have d3 : lstOf ((S1 ++ [O.lst lx]).set i (.ins "Linked" [("_statements", .ref S.length), ("_exports", .ref S1.length)])) S1.length = some lx := lst_setne (by omega) (by simp [lstOf])
  have e2 : ((S1 ++ [O.lst lx]).set i (.ins "Linked" [("_statements", .ref S.length), ("_exports", .ref S1.length)]))[i]? = some (.ins "Linked" [("_statements", .ref S.length), ("_exports", .ref S1.length)]) := by
    rw [List.getElem?_set_self (by simp; omega)]
  have p2 : S.take i <+: (S1 ++ [O.lst lx]).set i (.ins "Linked" [("_statements", .ref S.length), ("_exports", .ref S1.length)]) := set_pre (p1.trans pre_app) (by simp; omega)
  have n2 : ((S1 ++ [O.lst lx]).set i (.ins "Linked" [("_statements", .ref S.length), ("_exports", .ref S1.length)])).length = S1.length + 1 := by simp
  generalize (S1 ++ [O.lst lx]).set i (.ins "Linked" [("_statements", .ref S.length), ("_exports", .ref S1.length)]) = S2 at c2 d2 d3 e2 p2 n2 ⊢
  dsimp only
  refine fld_set (i := i) (fs := [("_statements", .ref S.length), ("_exports", .ref S1.length)]) (d := .ref S2.length) (S1 := S2 ++ [.lst lv]) (fun E Q h => by exact clist c2 h) (fun E Q h => by exact h) (pre_get pre_app e2) (by show 2 < 1000; decide) ?_
  have f3 : setF "_variables" (.ref S2.length) [(("_statements" : Str), D.ref S.length), ("_exports", .ref S1.length)] = ([("_statements", .ref S.length), ("_exports", .ref S1.length), ("_variables", .ref S2.length)] : List (Str × D)) := by
    simp only [setF, ofS_inj, String.reduceEq, if_false]
  rw [f3]
  refine q _ (set_pre (p2.trans pre_app) (by simp; omega)) ⟨i, S.length, S1.length, S2.length, rfl, ?_, ?_, ?_, ?_⟩
  · rw [List.getElem?_set_self (by simp; omega)]
  · exact lst_setne (by omega) (lst_mono pre_app d2)
  · exact lst_setne (by omega) (lst_mono pre_app d3)
  · exact lst_setne (by omega) (by simp [lstOf])
/-- Linked(s, x, v) -/
theorem make_lk {t : ATA} {ρ : Rho} {S : Sto} {E : XA} {Q : VA} {s x v : D} {S1 : Sto} {l lx lv : List D} (ht : ∀ Q' : List D → Sto → Prop, Q' [s, x, v] S1 → t ρ S E Q') (h1 : seqOf S1 s = some l) (h2 : seqOf S1 x = some lx) (h3 : seqOf S1 v = some lv)
    (q : ∀ S' r, S1 <+: S' → IsLk S' r l lx lv → Q r S') : aMake "Linked" GI t ρ S E Q := by
  refine ht _ ⟨S1.length, s, x, v, l, lx, lv, rfl, by simp, by simp, seq_mono pre_app h1, seq_mono pre_app h2, seq_mono pre_app h3, fun S' p hk => ⟨rfl, q S' _ ?_ hk⟩⟩
  rw [List.take_left] at p
  exact p
def GSt : AFn := fun ds S E Q => ∃ d l x v, ds = [d] ∧ IsLk S d l x v ∧ ∀ S' i, S <+: S' → lstOf S' i = some l → Q (.ref i) S'
def GExp : AFn := fun ds S E Q => ∃ d l x v, ds = [d] ∧ IsLk S d l x v ∧ ∀ S' i, S <+: S' → lstOf S' i = some x → Q (.ref i) S'
def GVar : AFn := fun ds S E Q => ∃ d l x v, ds = [d] ∧ IsLk S d l x v ∧ ∀ S' i, S <+: S' → lstOf S' i = some v → Q (.ref i) S'
def GW : AFn := fun ds S E Q => ∃ d s l x v m, ds = [d, s] ∧ IsLk S d l x v ∧ seqOf S s = some m ∧ ∀ S' r, S <+: S' → IsLk S' r m x v → Q r S'
theorem lk_flds {S : Sto} {d : D} {l x v : List D} (h : IsLk S d l x v) {a : ATE} {ρ : Rho} {E : XA} {Q : VA} (ha : ∀ Q' : VA, Q' d S → a ρ S E Q') : ∃ i j k, (lstOf S i = some l ∧ lstOf S j = some x ∧ lstOf S k = some v) ∧ (Q (.ref i) S → aFld "Linked" "_statements" a ρ S E Q) ∧ (Q (.ref j) S → aFld "Linked" "_exports" a ρ S E Q) ∧ (Q (.ref k) S → aFld "Linked" "_variables" a ρ S E Q) := by
  obtain ⟨n, i, j, k, rfl, h1, h2, h3, h4⟩ := h.ex
  have e : insOf S "Linked" (.ref n) = some ([("_statements", .ref i), ("_exports", .ref j), ("_variables", .ref k)] : List (Str × D)) := by simp [insOf, h1]
  refine ⟨i, j, k, ⟨h2, h3, h4⟩, fun q => ha _ ?_, fun q => ha _ ?_, fun q => ha _ ?_⟩ <;> simp only [e, ev2, lookF, ofS_inj, String.reduceEq, if_true, if_false] <;> exact q
theorem sp_st : ∀ ds S E Q, GSt ds S E Q → ds.length = 1 ∧ a_Linked_statements (bodyEnds Q E) (startA 1 ds) S := by
  rintro ds S E Q ⟨d, l, x, v, rfl, h, q⟩
  refine ⟨rfl, ?_⟩
  obtain ⟨i, j, k, ⟨h1, h2, h3⟩, g1, g2, g3⟩ := lk_flds h (a := aVar 0) (ρ := [some d]) (E := E) (Q := fun d S1 => cList [d] S1 Q) (fun Q' h => h)
  exact g1 (clist (d := .ref i) h1 (q _ _ pre_app (by simp [lstOf])))
theorem sp_exp : ∀ ds S E Q, GExp ds S E Q → ds.length = 1 ∧ a_Linked_exports (bodyEnds Q E) (startA 1 ds) S := by
  rintro ds S E Q ⟨d, l, x, v, rfl, h, q⟩
  refine ⟨rfl, ?_⟩
  obtain ⟨i, j, k, ⟨h1, h2, h3⟩, g1, g2, g3⟩ := lk_flds h (a := aVar 0) (ρ := [some d]) (E := E) (Q := fun d S1 => cList [d] S1 Q) (fun Q' h => h)
  exact g2 (clist (d := .ref j) h2 (q _ _ pre_app (by simp [lstOf])))
theorem sp_var : ∀ ds S E Q, GVar ds S E Q → ds.length = 1 ∧ a_Linked_variables (bodyEnds Q E) (startA 1 ds) S := by
  rintro ds S E Q ⟨d, l, x, v, rfl, h, q⟩
  refine ⟨rfl, ?_⟩
  obtain ⟨i, j, k, ⟨h1, h2, h3⟩, g1, g2, g3⟩ := lk_flds h (a := aVar 0) (ρ := [some d]) (E := E) (Q := fun d S1 => cList [d] S1 Q) (fun Q' h => h)
  exact g3 (clist (d := .ref k) h3 (q _ _ pre_app (by simp [lstOf])))
theorem sp_with : ∀ ds S E Q, GW ds S E Q → ds.length = 2 ∧ a_Linked_with_statements GI (bodyEnds Q E) (startA 2 ds) S := by
  rintro ds S E Q ⟨d, s, l, x, v, m, rfl, h, hs, q⟩
  refine ⟨rfl, ?_⟩
  have h' := h.ex
  obtain ⟨n, i, j, k, rfl, g0, g1, g2, g3⟩ := h'
  have e : insOf S "Linked" (.ref n) = some ([("_statements", .ref i), ("_exports", .ref j), ("_variables", .ref k)] : List (Str × D)) := by simp [insOf, g0]
  have st : startA 2 [.ref n, s] = [some (.ref n), some s] := rfl
  rw [st]
  unfold a_Linked_with_statements
  simp only [eq_self, ev, ev2, ev3, hds, hdn, acs, pts, ofS_inj, bodyEnds, String.reduceEq, decide_false, decide_true, reduceCtorEq, List.length_cons, List.length_nil, Nat.reduceAdd, szs, true_and, flatD, List.all_cons, List.all_nil, Bool.and_self, inF, List.any_cons, List.any_nil, eqF, Bool.or_false, Bool.false_or, Bool.or_true, Bool.true_or, Bool.and_true, Bool.true_and, Bool.and_false, Bool.false_and, Bool.not_true, Bool.not_false]
  refine make_lk (s := s) (x := .ref j) (v := .ref k) (S1 := S) (fun Q' hq => ?_) hs g2 g3 q
  simp only [aFld, eq_self, ev, ev2, ev3, hds, hdn, acs, pts, ofS_inj, bodyEnds, String.reduceEq, decide_false, decide_true, reduceCtorEq, List.length_cons, List.length_nil, Nat.reduceAdd, szs, true_and, flatD, List.all_cons, List.all_nil, Bool.and_self, inF, List.any_cons, List.any_nil, eqF, Bool.or_false, Bool.false_or, Bool.or_true, Bool.true_or, Bool.and_true, Bool.true_and, Bool.and_false, Bool.false_and, Bool.not_true, Bool.not_false, e, lookF, if_true, if_false]
  exact hq
/-! ### fold, dead of Linked -/
def mrow (d : D) : D := .tup [.str "m", d]
/-- a function of linked modules: each statement by F -/
def GL (FB : Bl → Bl) (k : Nat) : AFn := fun ds S E Q => ∃ d b x v, ds = [d] ∧ lvB b ≤ k + 1 ∧ uB b < sizeLine ∧ IsLk S d (b.l.map mrow) x v ∧ ∀ S' r, S <+: S' → IsLk S' r ((FB b).l.map mrow) x v → Q r S'
theorem meth_lk {m : Str} {F : AFn} {a : ATE} {t : ATA} {ρ : Rho} {S : Sto} {E : XA} {Q : VA} {d : D} {l x v : List D} (ha : ∀ Q' : VA, Q' d S → a ρ S E Q') (h : IsLk S d l x v) (hm : (m ≠ "_statements" ∧ m ≠ "_exports" ∧ m ≠ "_variables"))
    (q : t ρ S E fun ds S2 => F (d :: ds) S2 E Q) : aMeth "Linked" m F a t ρ S E Q := by
  obtain ⟨n, i, j, k, rfl, g0, g1, g2, g3⟩ := h.ex
  have e : insOf S "Linked" (.ref n) = some ([("_statements", .ref i), ("_exports", .ref j), ("_variables", .ref k)] : List (Str × D)) := by simp [insOf, g0]
  refine ha _ ?_
  simp only [e, ev2]
  exact ⟨by simp only [lookF, hm.1, hm.2.1, hm.2.2, if_false], q⟩
theorem nm : (("with_statements" : Str) ≠ "_statements" ∧ ("with_statements" : Str) ≠ "_exports" ∧ ("with_statements" : Str) ≠ "_variables") ∧ (("statements" : Str) ≠ "_statements" ∧ ("statements" : Str) ≠ "_exports" ∧ ("statements" : Str) ≠ "_variables") ∧
    (("exports" : Str) ≠ "_statements" ∧ ("exports" : Str) ≠ "_exports" ∧ ("exports" : Str) ≠ "_variables") ∧ (("variables" : Str) ≠ "_statements" ∧ ("variables" : Str) ≠ "_exports" ∧ ("variables" : Str) ≠ "_variables") := by
  simp only [ne_eq, ofS_inj, String.reduceEq, not_false_eq_true, and_self]
theorem sp_over {F : St → St} {FB : Bl → Bl} {k : Nat} (h0 : FB .nil = .nil) (h1 : ∀ s b, FB (.cons s b) = .cons (F s) (FB b)) : ∀ ds S E Q, GL FB k ds S E Q → ds.length = 1 ∧ a_fold GW GSt (GS F k) (bodyEnds Q E) (startA 3 ds) S := by
  rintro ds S E Q ⟨d, b, x, v, rfl, hk, hu, h, q⟩
  refine ⟨rfl, ?_⟩
  have st : startA 3 [d] = [some d, none, none] := rfl
  rw [st]
  unfold a_fold
  simp only [eq_self, ev, ev2, ev3, hds, hdn, acs, pts, ofS_inj, bodyEnds, String.reduceEq, decide_false, decide_true, reduceCtorEq, List.length_cons, List.length_nil, Nat.reduceAdd, szs, true_and, flatD, List.all_cons, List.all_nil, Bool.and_self, inF, List.any_cons, List.any_nil, eqF, Bool.or_false, Bool.false_or, Bool.or_true, Bool.true_or, Bool.and_true, Bool.true_and, Bool.and_false, Bool.false_and, Bool.not_true, Bool.not_false]
  refine meth_lk (d := d) (fun Q' h => h) h nm.1 ?_
  have few : (b.l.map mrow).length < sizeLine := by rw [List.length_map]; exact Nat.lt_of_le_of_lt (Bl.few b) hu
  simp only [eq_self, ev, ev2, ev3, hds, hdn, acs, pts, ofS_inj, bodyEnds, String.reduceEq, decide_false, decide_true, reduceCtorEq, List.length_cons, List.length_nil, Nat.reduceAdd, szs, true_and, flatD, List.all_cons, List.all_nil, Bool.and_self, inF, List.any_cons, List.any_nil, eqF, Bool.or_false, Bool.false_or, Bool.or_true, Bool.true_or, Bool.and_true, Bool.true_and, Bool.and_false, Bool.false_and, Bool.not_true, Bool.not_false]
  -- the source: statements()
  have src : ∀ (G : VA), (∀ S1 i, S <+: S1 → lstOf S1 i = some (b.l.map mrow) → G (.ref i) S1) → aMeth "Linked" "statements" GSt (aVar 0) aNil [some d, none, none] S (fun x S1 => E x S1) G := by
    intro G hG
    refine meth_lk (d := d) (fun Q' h => h) h nm.2.1 ?_
    exact ⟨d, _, x, v, rfl, h, hG⟩
  unfold aLc
  show aMeth "Linked" "statements" GSt (aVar 0) aNil [some d, none, none] S (fun x S1 => E x S1) _
  refine src _ fun S1 i p1 hi => ?_
  have es : srcOf S1 (.ref i) = some (.lst i (b.l.map mrow)) := by simp [srcOf, hi]
  simp only [es, ev2]
  refine lc_map (ai := fun ρ S E Q' => Q' (.lst i (b.l.map mrow)) S) (src := .lst i (b.l.map mrow)) (S0 := S1) (S := S1) (E := E) (ρ := [some d, none, none]) (out := (FB b).l.map mrow) (ag := agTup 2 (agCons (agName 1) (agCons (agName 2) agNil)))
    (elt := aTup (aCons (aVar 1) (aCons (aCall (GS F k) (aCons (aVar 2) aNil)) aNil))) (vs := [1, 2]) (Q := fun d' S' => GW (d :: [d']) S' (fun x S1 => E x S1) Q) (fun Q' h => h) hi few (by simp only [Src.items, List.length_map]; exact Bl.len h0 h1 b) (fun j y hy => ?_) fun S2 p2 => ?_
  · have hy' : (b.l.map mrow)[j]? = some y := hy
    rw [List.getElem?_map] at hy'
    obtain ⟨z, hz, rfl⟩ := Option.map_eq_some_iff.mp hy'
    obtain ⟨s, rfl, g3, g4, g5⟩ := Bl.get h0 h1 b j z hz
    refine ⟨mrow (F s).d, by rw [List.getElem?_map, g3]; rfl, fun S2 Q1 p2 q1 => ?_⟩
    show must (seqOf S2 (mrow s.d)) _
    simp only [mrow, seqOf, ev2]
    refine ⟨rfl, ?_⟩
    simp only [agCons, agNil, eq_self, ev, ev2, ev3, hds, hdn, acs, pts, ofS_inj, bodyEnds, String.reduceEq, decide_false, decide_true, reduceCtorEq, List.length_cons, List.length_nil, Nat.reduceAdd, szs, true_and, flatD, List.all_cons, List.all_nil, Bool.and_self, inF, List.any_cons, List.any_nil, eqF, Bool.or_false, Bool.false_or, Bool.or_true, Bool.true_or, Bool.and_true, Bool.true_and, Bool.and_false, Bool.false_and, Bool.not_true, Bool.not_false, wipeA, List.set_cons_succ, List.set_cons_zero]
    exact ⟨s, by omega, by omega, rfl, q1⟩
  · refine ⟨d, _, _, x, v, _, rfl, h.mono (p1.trans (p2.trans pre_app)), ?_, fun S' r p hr => q S' r (p1.trans (p2.trans (pre_app.trans p))) hr⟩
    simp [seqOf, lstOf]
end Sp
namespace Sp
open PySem PySem.Spec
open PyProof.Rows L2 AL Ab
/-! ### repr of constants -/
def tl (s : Str) : List Nat := s.cps.toList
theorem tl_app (a b : Str) : tl (a ++ b) = tl a ++ tl b := by
  show (a.cps ++ b.cps).toList = _
  simp [tl]
theorem tl_inj {a b : Str} (h : tl a = tl b) : a = b := by
  cases a; cases b
  unfold tl at h
  have h' := Array.toList_inj.mp h
  dsimp only at h'
  rw [h']
theorem tl_two (a b : Str) : tl (tupleText [a, b]) = tl (Str.ofString "(" ++ a) ++ (tl (Str.ofString ", ") ++ tl b) ++ tl (Str.ofString ")") := by
  show tl ((Str.ofString "(" ++ (a ++ Str.ofString ", " ++ b)) ++ Str.ofString ")") = _
  simp only [tl_app, List.append_assoc]
theorem shown_int (n : N16) : (pyD (Ex.int n).d).shown = tupleText [reprText "int", Str.ofString (toString (n.val : Int))] := rfl
theorem shown_bool (b : Bool) : (pyD (Ex.bool b).d).shown = tupleText [reprText "bool", Str.ofString (if b then "True" else "False")] := by cases b <;> rfl
theorem shown_none : (pyD Ex.none.d).shown = tupleText [reprText "none"] := rfl
theorem third_int (n : N16) : (tl (pyD (Ex.int n).d).shown)[2]? = some 105 := by
  rw [shown_int, tl_two]
  have : tl (Str.ofString "(" ++ reprText "int") = [40, 39, 105, 110, 116, 39] := by decide +kernel
  rw [this]; rfl
theorem third_bool (b : Bool) : (tl (pyD (Ex.bool b).d).shown)[2]? = some 98 := by cases b <;> decide +kernel
theorem third_none : (tl (pyD Ex.none.d).shown)[2]? = some 110 := by decide +kernel
theorem int_same (a b : N16) : (pyD (Ex.int a).d).shown = (pyD (Ex.int b).d).shown ↔ a = b := by
  constructor
  · intro h
    have h1 := congrArg tl h
    rw [shown_int, shown_int, tl_two, tl_two] at h1
    have h2 := List.append_cancel_left (List.append_cancel_left (List.append_cancel_right h1))
    have h3 := ofS_inj.mp (tl_inj h2)
    have h4 : (a.val : Int) = (b.val : Int) := Int.repr_inj.mp h3
    exact Fin.ext (by omega)
  · intro h; rw [h]
theorem ne_third {x y : Str} {i j : Nat} (hx : (tl x)[2]? = some i) (hy : (tl y)[2]? = some j) (h : i ≠ j) : decide (x = y) = false := by
  refine decide_eq_false fun e => ?_
  rw [e, hy] at hx
  cases hx
  exact h rfl
theorem shown_same {a b : Ex} (ha : isConst a = true) (hb : isConst b = true) : decide ((pyD a.d).shown = (pyD b.d).shown) = sameC a b := by
  cases a <;> simp only [isConst, reduceCtorEq] at ha <;> cases b <;> simp only [isConst, reduceCtorEq] at hb
  case int.int x y => simp only [int_same, sameC]
  case int.bool x y => exact ne_third (third_int x) (third_bool y) (by decide)
  case int.none x => exact ne_third (third_int x) third_none (by decide)
  case bool.int x y => exact ne_third (third_bool x) (third_int y) (by decide)
  case bool.bool x y => cases x <;> cases y <;> decide +kernel
  case bool.none x => exact ne_third (third_bool x) third_none (by decide)
  case none.int x => exact ne_third third_none (third_int x) (by decide)
  case none.bool x => exact ne_third third_none (third_bool x) (by decide)
  case none.none => decide +kernel
theorem oin_at {x : D} {l : List D} {S : Sto} {Q : VA} {i : Nat} (e : S[i]? = some (.lst l)) (h : (flatD x && l.all flatD) = true) : oIn x (.ref i) S Q = Q (.bl (inF x l)) S := by
  unfold oIn isIn
  simp only [e, lstOf, ev2, h, if_true]
theorem cint_int {i : Int} {S : Sto} {Q : VA} (q : Q (.int i) S) : cInt [.int i] S Q := q
def isB (b : Bool) : Ex → Bool
  | .bool c => decide (c = b)
  | _ => false
theorem eq_bool {a : Ex} {b : Bool} (h1 : lvE a ≤ 60) (h2 : uE a ≤ 1000000) {S : Sto} {Q : VA} (q : Q (.bl (isB b a)) S) : oEq (.tup a.l) (.tup [.str "bool", .bl b]) S Q := by
  refine eq_tups (l' := (Ex.bool b).l) (Ex.fine (e := a) h1 h2) (Ex.fine (e := .bool b) (by simp only [lvE]; omega) (by simp only [uE]; omega)) ?_
  have e : PyData.eqvAll (pyL a.l) (pyL (Ex.bool b).l) = isB b a := by
    cases a <;> simp only [Ex.l, pyL, pyD, PyData.eqvAll, PyData.eqv, isB]
    case two h x y => cases h <;> simp [hds, ofS_inj]
    case bool c => cases c <;> cases b <;> rfl
    all_goals simp [ofS_inj]
  rw [e]
  exact q
theorem uE_fold : ∀ e : Ex, uE (foldE e) ≤ uE e ∧ lvE (foldE e) ≤ lvE e ∧ 40 ≤ uE e ∧ 1 ≤ lvE e
  | .int _ => by simp [foldE, uE, lvE]
  | .bool _ => by simp [foldE, uE, lvE]
  | .none => by simp [foldE, uE, lvE]
  | .var _ => by simp [foldE, uE, lvE]
  | .two h a b => by
    have := uE_fold a
    have := uE_fold b
    have key : uE (fold2 h (foldE a) (foldE b)) ≤ uE (foldE a) + uE (foldE b) + 12 + (if uE (foldE a) + uE (foldE b) + 12 < 40 then 40 else 0) ∧ lvE (fold2 h (foldE a) (foldE b)) ≤ max (max (lvE (foldE a)) (lvE (foldE b))) 0 + 1 := by
      generalize foldE a = x
      generalize foldE b = y
      unfold fold2
      refine ⟨?_, ?_⟩ <;> (split <;> (try split) <;> (try split)) <;> simp only [uE, lvE] <;> (try split) <;> omega
    simp only [foldE, uE, lvE]
    obtain ⟨k1, k2⟩ := key
    refine ⟨?_, by omega, by omega, by omega⟩
    split at k1 <;> omega
  | .not a => by
    have := uE_fold a
    have key : uE (fnot (foldE a)) ≤ uE (foldE a) + 40 ∧ lvE (fnot (foldE a)) ≤ lvE (foldE a) + 1 := by
      generalize foldE a = x
      unfold fnot
      split <;> simp only [uE, lvE] <;> omega
    have key2 : uE (fnot (foldE a)) ≤ uE a + 12 := by
      generalize foldE a = x at *
      unfold fnot
      split <;> simp only [uE] at * <;> omega
    simp only [foldE, uE, lvE]
    omega
  | .call f a => by
    have := uE_fold a
    have := uE_fold f
    simp only [foldE, uE, lvE]
    omega
  | .ask a => by
    have := uE_fold a
    simp only [foldE, uE, lvE]
    omega
  | .lam a => by
    have := uE_fold a
    simp only [foldE, uE, lvE]
    omega
end Sp
namespace Sp
open PySem PySem.Spec
open PyProof.Rows L2 AL Ab
section
variable {k : Nat}
/-- a tree small enough to be shown -/
def GX (f : Ex → Ex) (k : Nat) : AFn := fun ds S E Q => ∃ e, lvE e ≤ k ∧ lvE e ≤ 60 ∧ uE e ≤ 1000000 ∧ ds = [Ex.d e] ∧ ∀ S', S <+: S' → Q (f e).d S'
def GXS (f : St → St) (k : Nat) : AFn := fun ds S E Q => ∃ s, lvS s ≤ k ∧ lvS s ≤ 60 ∧ uS s ≤ 1000000 ∧ ds = [St.d s] ∧ ∀ S', S <+: S' → Q (f s).d S'
def GXB (f : Bl → Bl) (k : Nat) : AFn := fun ds S E Q => ∃ b, lvB b ≤ k ∧ lvB b ≤ 60 ∧ uB b ≤ 1000000 ∧ ds = [.tup (Bl.l b)] ∧ ∀ S', S <+: S' → Q (.tup (f b).l) S'
variable {S : Sto} {E : XA} {Q : VA}
theorem gx_mk {f : Ex → Ex} {e : Ex} (h : lvE e ≤ k) (hl : lvE e ≤ 60) (hu : uE e ≤ 1000000) (q : ∀ S', S <+: S' → Q (f e).d S') : GX f k [.tup e.l] S E Q := ⟨e, h, hl, hu, rfl, q⟩
theorem gxs_mk {f : St → St} {s : St} (h : lvS s ≤ k) (hl : lvS s ≤ 60) (hu : uS s ≤ 1000000) (q : ∀ S', S <+: S' → Q (f s).d S') : GXS f k [s.d] S E Q := ⟨s, h, hl, hu, rfl, q⟩
theorem gxb_mk {f : Bl → Bl} {b : Bl} (h : lvB b ≤ k) (hl : lvB b ≤ 60) (hu : uB b ≤ 1000000) (q : ∀ S', S <+: S' → Q (.tup (f b).l) S') : GXB f k [.tup b.l] S E Q := ⟨b, h, hl, hu, rfl, q⟩
theorem lc_blx {F : St → St} {FB : Bl → Bl} (h0 : FB .nil = .nil) (h1 : ∀ s b, FB (.cons s b) = .cons (F s) (FB b)) {ρ : Rho} {b : Bl} {i : Nat} {a : ATE} (ha : ∀ Q' : VA, Q' (.tup b.l) S → a ρ S E Q') (hl : lvB b ≤ 61) (hu : uB b ≤ 1000000) (hk : lvB b ≤ k + 1)
    (hi : ∀ d, gt (sset (wipeA ρ [i]) i d) i = some d) (q : ∀ S1, S <+: S1 → Q (.ref S1.length) (S1 ++ [.lst (FB b).l])) : aLc (aiAny a) (agName i) aYes (aCall (GXS F k) (aCons (aVar i) aNil)) [i] ρ S E Q := by
  refine lc_map (src := .fix b.l) (out := (FB b).l) (S0 := S) (fun Q' h => ?_) trivial (show b.l.length < sizeLine from Nat.lt_of_le_of_lt (Bl.few b) (Nat.lt_of_le_of_lt hu (by decide))) (Bl.len h0 h1 b) (fun j d hd => ?_) q
  · show a ρ S E fun d S1 => must (srcOf S1 d) fun src => Q' src S1
    exact ha _ h
  · obtain ⟨s, rfl, h3, h4, h5⟩ := Bl.get h0 h1 b j d hd
    refine ⟨_, h3, fun S1 Q1 p q1 => ?_⟩
    show must (gt (sset (wipeA ρ [i]) i s.d) i) fun d => GXS F k [d] S1 (fun _ _ => False) Q1
    rw [hi]
    exact ⟨s, by omega, by omega, by omega, rfl, q1⟩
theorem ix_new {kvs : List (Key × D)} {x : Str} {d : D} (h : valD kvs (.inr x) = some d) (q : Q d (S ++ [.dK kvs])) : getIx (.ref S.length) (.str x) (S ++ [.dK kvs]) Q := by
  have e : (S ++ [O.dK kvs])[S.length]? = some (O.dK kvs) := by simp
  unfold getIx
  simp only [e, keyD, ev2, h]
  exact q
abbrev kv3 (a b c : Int) : List (Key × D) := [(.inr "add", .int a), (.inr "sub", .int b), (.inr "mul", .int c)]
theorem keys3 (a b c : Int) : ∃ kvs, keysD [(.str "add", .int a), (.str "sub", .int b), (.str "mul", .int c)] = some kvs ∧ kvs.length ≤ 15 ∧ mergeD [] kvs = kv3 a b c := by
  refine ⟨kv3 a b c, rfl, (show 3 ≤ 15 by decide), ?_⟩
  simp only [mergeD, kv3, List.foldl_cons, List.foldl_nil, setK, Sum.inr.injEq, ofS_inj, String.reduceEq, if_false]
theorem val3 (a b c : Int) : valD (kv3 a b c) (.inr (Hd.s .add)) = some (.int a) ∧ valD (kv3 a b c) (.inr (Hd.s .sub)) = some (.int b) ∧ valD (kv3 a b c) (.inr (Hd.s .mul)) = some (.int c) := by
  refine ⟨?_, ?_, ?_⟩ <;> simp only [valD, kv3, hds, Sum.inr.injEq, ofS_inj, String.reduceEq, if_false, if_true]
/-- the law's table of totals, looked up -/
theorem totals {ρ : Rho} {x y : N16} {h : Hd} {i : Int} (g2 : gt ρ 2 = some (Ex.int x).d) (g3 : gt ρ 3 = some (Ex.int y).d)
    (hi : valD (kv3 ((x.val : Int) + y.val) ((x.val : Int) - y.val) ((x.val : Int) * y.val)) (.inr h.s) = some (.int i)) (q : ∀ S', S <+: S' → Q (.int (i % 65536)) S') :
    aDisp [((aC (.str "add")), (aOp oAdd (aIx (aVar 2) (aC (.int 1))) (aIx (aVar 3) (aC (.int 1))))), ((aC (.str "sub")), (aOp oSub (aIx (aVar 2) (aC (.int 1))) (aIx (aVar 3) (aC (.int 1))))), ((aC (.str "mul")), (aOp oMul (aIx (aVar 2) (aC (.int 1))) (aIx (aVar 3) (aC (.int 1)))))] ρ S E
      fun d S1 => getIx d (.str h.s) S1 fun x S1 => cInt [x] S1 fun x S1 => oMod x (.int 65536) S1 Q := by
  obtain ⟨kvs, e1, e2, e3⟩ := keys3 ((x.val : Int) + y.val) ((x.val : Int) - y.val) ((x.val : Int) * y.val)
  unfold aDisp
  simp only [aPairs, ev, g2, g3, ev2, Ex.d, Ex.l, ev3, e1]
  refine ⟨mul16 x y, e2, ?_⟩
  rw [e3]
  refine ix_new hi ?_
  show 0 < (65536 : Int) ∧ Q (.int (i % 65536)) _
  exact ⟨by decide, q _ pre_app⟩
theorem sp_lexpr : ∀ ds S E Q, GX foldE (k + 1) ds S E Q → ds.length = 1 ∧ a__law_fold (GXB foldB k) (GX foldE k) (bodyEnds Q E) (startA 6 ds) S := by
  rintro ds S E Q ⟨e, hk, hl, hu, rfl, q⟩
  refine ⟨rfl, ?_⟩
  have st : startA 6 [Ex.d e] = [some (.tup e.l), none, none, none, none, none] := rfl
  rw [st]
  clear st
  unfold a__law_fold
  cases e <;> simp only [eq_self, ev, ev2, ev3, hds, hdn, acs, pts, ofS_inj, bodyEnds, String.reduceEq, decide_false, decide_true, reduceCtorEq, List.length_cons, List.length_nil, Nat.reduceAdd, szs, true_and, flatD, List.all_cons, List.all_nil, Bool.and_self, inF, List.any_cons, List.any_nil, eqF, Bool.or_false, Bool.false_or, Bool.or_true, Bool.true_or, Bool.and_true, Bool.true_and, Bool.and_false, Bool.false_and, Bool.not_true, Bool.not_false, Ex.l, oin_new]
  case int => exact q _ pre_app
  case bool => exact q _ pre_app
  case none => exact q _ pre_app
  case var => exact q _ pre_app
  case two h a b =>
    simp only [lvE, uE] at hk hu hl
    have ua := uE_fold a
    have ub := uE_fold b
    refine gx_mk (by omega) (by omega) (by omega) fun S1 p1 => ?_
    refine gx_mk (by omega) (by omega) (by omega) fun S2 p2 => ?_
    have q1 : ∀ S', S2 <+: S' → Q (fold2 h (foldE a) (foldE b)).d S' := fun S' p => q S' (pre_app.trans (p1.trans (p2.trans p)))
    have h1 : lvE (foldE a) ≤ 60 := by omega
    have h2 : uE (foldE a) ≤ 1000000 := by omega
    have h3 : lvE (foldE b) ≤ 60 := by omega
    have h4 : uE (foldE b) ≤ 1000000 := by omega
    clear q p1 p2 hk hl hu ua ub
    generalize foldE a = x at q1 h1 h2 ⊢
    generalize foldE b = y at q1 h3 h4 ⊢
    simp only [Ex.d] at q1 ⊢
    cases h
    case and =>
      simp only [eq_self, ev, ev2, ev3, hds, hdn, acs, pts, ofS_inj, bodyEnds, String.reduceEq, decide_false, decide_true, reduceCtorEq, List.length_cons, List.length_nil, Nat.reduceAdd, szs, true_and, flatD, List.all_cons, List.all_nil, Bool.and_self, inF, List.any_cons, List.any_nil, eqF, Bool.or_false, Bool.false_or, Bool.or_true, Bool.true_or, Bool.and_true, Bool.true_and, Bool.and_false, Bool.false_and, Bool.not_true, Bool.not_false, oin_new]
      refine eq_bool h1 h2 ?_
      rcases x with n | (_ | _) | _ | n | ⟨h, x, x'⟩ | x | ⟨f, x⟩ | x | x <;> simp only [eq_self, ev, ev2, ev3, hds, hdn, acs, pts, ofS_inj, bodyEnds, String.reduceEq, decide_false, decide_true, reduceCtorEq, List.length_cons, List.length_nil, Nat.reduceAdd, szs, true_and, flatD, List.all_cons, List.all_nil, Bool.and_self, inF, List.any_cons, List.any_nil, eqF, Bool.or_false, Bool.false_or, Bool.or_true, Bool.true_or, Bool.and_true, Bool.true_and, Bool.and_false, Bool.false_and, Bool.not_true, Bool.not_false, Ex.l, isB, oin_new] <;> first
        | exact q1 _ (pre_app.trans pre_app)
        | exact q1 _ pre_app
        | (rcases y with n | (_ | _) | _ | n | ⟨(_ | _ | _ | _ | _ | _ | _), x, x'⟩ | x | ⟨f, x⟩ | x | x <;> simp only [eq_self, ev, ev2, ev3, hds, hdn, acs, pts, ofS_inj, bodyEnds, String.reduceEq, decide_false, decide_true, reduceCtorEq, List.length_cons, List.length_nil, Nat.reduceAdd, szs, true_and, flatD, List.all_cons, List.all_nil, Bool.and_self, inF, List.any_cons, List.any_nil, eqF, Bool.or_false, Bool.false_or, Bool.or_true, Bool.true_or, Bool.and_true, Bool.true_and, Bool.and_false, Bool.false_and, Bool.not_true, Bool.not_false, Ex.l, isB, oin_new] <;> exact q1 _ (pre_app.trans pre_app))
    case or =>
      simp only [eq_self, ev, ev2, ev3, hds, hdn, acs, pts, ofS_inj, bodyEnds, String.reduceEq, decide_false, decide_true, reduceCtorEq, List.length_cons, List.length_nil, Nat.reduceAdd, szs, true_and, flatD, List.all_cons, List.all_nil, Bool.and_self, inF, List.any_cons, List.any_nil, eqF, Bool.or_false, Bool.false_or, Bool.or_true, Bool.true_or, Bool.and_true, Bool.true_and, Bool.and_false, Bool.false_and, Bool.not_true, Bool.not_false, oin_new]
      refine eq_bool h1 h2 ?_
      rcases x with n | (_ | _) | _ | n | ⟨h, x, x'⟩ | x | ⟨f, x⟩ | x | x <;> simp only [eq_self, ev, ev2, ev3, hds, hdn, acs, pts, ofS_inj, bodyEnds, String.reduceEq, decide_false, decide_true, reduceCtorEq, List.length_cons, List.length_nil, Nat.reduceAdd, szs, true_and, flatD, List.all_cons, List.all_nil, Bool.and_self, inF, List.any_cons, List.any_nil, eqF, Bool.or_false, Bool.false_or, Bool.or_true, Bool.true_or, Bool.and_true, Bool.true_and, Bool.and_false, Bool.false_and, Bool.not_true, Bool.not_false, Ex.l, isB, oin_new] <;> first
        | exact q1 _ (pre_app.trans pre_app)
        | exact q1 _ pre_app
        | (rcases y with n | (_ | _) | _ | n | ⟨(_ | _ | _ | _ | _ | _ | _), x, x'⟩ | x | ⟨f, x⟩ | x | x <;> simp only [eq_self, ev, ev2, ev3, hds, hdn, acs, pts, ofS_inj, bodyEnds, String.reduceEq, decide_false, decide_true, reduceCtorEq, List.length_cons, List.length_nil, Nat.reduceAdd, szs, true_and, flatD, List.all_cons, List.all_nil, Bool.and_self, inF, List.any_cons, List.any_nil, eqF, Bool.or_false, Bool.false_or, Bool.or_true, Bool.true_or, Bool.and_true, Bool.true_and, Bool.and_false, Bool.false_and, Bool.not_true, Bool.not_false, Ex.l, isB, oin_new] <;> exact q1 _ (pre_app.trans pre_app))
    case add =>
      simp only [eq_self, ev, ev2, ev3, hds, hdn, acs, pts, ofS_inj, bodyEnds, String.reduceEq, decide_false, decide_true, reduceCtorEq, List.length_cons, List.length_nil, Nat.reduceAdd, szs, true_and, flatD, List.all_cons, List.all_nil, Bool.and_self, inF, List.any_cons, List.any_nil, eqF, Bool.or_false, Bool.false_or, Bool.or_true, Bool.true_or, Bool.and_true, Bool.true_and, Bool.and_false, Bool.false_and, Bool.not_true, Bool.not_false, oin_new]
      rcases x with n | (_ | _) | _ | n | ⟨h, x, x'⟩ | x | ⟨f, x⟩ | x | x <;> simp only [eq_self, ev, ev2, ev3, hds, hdn, acs, pts, ofS_inj, bodyEnds, String.reduceEq, decide_false, decide_true, reduceCtorEq, List.length_cons, List.length_nil, Nat.reduceAdd, szs, true_and, flatD, List.all_cons, List.all_nil, Bool.and_self, inF, List.any_cons, List.any_nil, eqF, Bool.or_false, Bool.false_or, Bool.or_true, Bool.true_or, Bool.and_true, Bool.true_and, Bool.and_false, Bool.false_and, Bool.not_true, Bool.not_false, Ex.l, oin_new] <;> first
        | exact q1 _ (pre_app.trans pre_app)
        | (rcases y with m | (_ | _) | _ | m | ⟨(_ | _ | _ | _ | _ | _ | _), x, x'⟩ | x | ⟨f, x⟩ | x | x <;> simp only [eq_self, ev, ev2, ev3, hds, hdn, acs, pts, ofS_inj, bodyEnds, String.reduceEq, decide_false, decide_true, reduceCtorEq, List.length_cons, List.length_nil, Nat.reduceAdd, szs, true_and, flatD, List.all_cons, List.all_nil, Bool.and_self, inF, List.any_cons, List.any_nil, eqF, Bool.or_false, Bool.false_or, Bool.or_true, Bool.true_or, Bool.and_true, Bool.true_and, Bool.and_false, Bool.false_and, Bool.not_true, Bool.not_false, Ex.l, oin_new] <;> first
          | exact q1 _ (pre_app.trans pre_app)
          | (refine totals (h := .add) rfl rfl (val3 _ _ _).1 fun S' p => ?_; rw [← m16_eq]; exact q1 _ (pre_app.trans (pre_app.trans p))))
    case sub =>
      simp only [eq_self, ev, ev2, ev3, hds, hdn, acs, pts, ofS_inj, bodyEnds, String.reduceEq, decide_false, decide_true, reduceCtorEq, List.length_cons, List.length_nil, Nat.reduceAdd, szs, true_and, flatD, List.all_cons, List.all_nil, Bool.and_self, inF, List.any_cons, List.any_nil, eqF, Bool.or_false, Bool.false_or, Bool.or_true, Bool.true_or, Bool.and_true, Bool.true_and, Bool.and_false, Bool.false_and, Bool.not_true, Bool.not_false, oin_new]
      rcases x with n | (_ | _) | _ | n | ⟨h, x, x'⟩ | x | ⟨f, x⟩ | x | x <;> simp only [eq_self, ev, ev2, ev3, hds, hdn, acs, pts, ofS_inj, bodyEnds, String.reduceEq, decide_false, decide_true, reduceCtorEq, List.length_cons, List.length_nil, Nat.reduceAdd, szs, true_and, flatD, List.all_cons, List.all_nil, Bool.and_self, inF, List.any_cons, List.any_nil, eqF, Bool.or_false, Bool.false_or, Bool.or_true, Bool.true_or, Bool.and_true, Bool.true_and, Bool.and_false, Bool.false_and, Bool.not_true, Bool.not_false, Ex.l, oin_new] <;> first
        | exact q1 _ (pre_app.trans pre_app)
        | (rcases y with m | (_ | _) | _ | m | ⟨(_ | _ | _ | _ | _ | _ | _), x, x'⟩ | x | ⟨f, x⟩ | x | x <;> simp only [eq_self, ev, ev2, ev3, hds, hdn, acs, pts, ofS_inj, bodyEnds, String.reduceEq, decide_false, decide_true, reduceCtorEq, List.length_cons, List.length_nil, Nat.reduceAdd, szs, true_and, flatD, List.all_cons, List.all_nil, Bool.and_self, inF, List.any_cons, List.any_nil, eqF, Bool.or_false, Bool.false_or, Bool.or_true, Bool.true_or, Bool.and_true, Bool.true_and, Bool.and_false, Bool.false_and, Bool.not_true, Bool.not_false, Ex.l, oin_new] <;> first
          | exact q1 _ (pre_app.trans pre_app)
          | (refine totals (h := .sub) rfl rfl (val3 _ _ _).2.1 fun S' p => ?_; rw [← m16_eq]; exact q1 _ (pre_app.trans (pre_app.trans p))))
    case mul =>
      simp only [eq_self, ev, ev2, ev3, hds, hdn, acs, pts, ofS_inj, bodyEnds, String.reduceEq, decide_false, decide_true, reduceCtorEq, List.length_cons, List.length_nil, Nat.reduceAdd, szs, true_and, flatD, List.all_cons, List.all_nil, Bool.and_self, inF, List.any_cons, List.any_nil, eqF, Bool.or_false, Bool.false_or, Bool.or_true, Bool.true_or, Bool.and_true, Bool.true_and, Bool.and_false, Bool.false_and, Bool.not_true, Bool.not_false, oin_new]
      rcases x with n | (_ | _) | _ | n | ⟨h, x, x'⟩ | x | ⟨f, x⟩ | x | x <;> simp only [eq_self, ev, ev2, ev3, hds, hdn, acs, pts, ofS_inj, bodyEnds, String.reduceEq, decide_false, decide_true, reduceCtorEq, List.length_cons, List.length_nil, Nat.reduceAdd, szs, true_and, flatD, List.all_cons, List.all_nil, Bool.and_self, inF, List.any_cons, List.any_nil, eqF, Bool.or_false, Bool.false_or, Bool.or_true, Bool.true_or, Bool.and_true, Bool.true_and, Bool.and_false, Bool.false_and, Bool.not_true, Bool.not_false, Ex.l, oin_new] <;> first
        | exact q1 _ (pre_app.trans pre_app)
        | (rcases y with m | (_ | _) | _ | m | ⟨(_ | _ | _ | _ | _ | _ | _), x, x'⟩ | x | ⟨f, x⟩ | x | x <;> simp only [eq_self, ev, ev2, ev3, hds, hdn, acs, pts, ofS_inj, bodyEnds, String.reduceEq, decide_false, decide_true, reduceCtorEq, List.length_cons, List.length_nil, Nat.reduceAdd, szs, true_and, flatD, List.all_cons, List.all_nil, Bool.and_self, inF, List.any_cons, List.any_nil, eqF, Bool.or_false, Bool.false_or, Bool.or_true, Bool.true_or, Bool.and_true, Bool.true_and, Bool.and_false, Bool.false_and, Bool.not_true, Bool.not_false, Ex.l, oin_new] <;> first
          | exact q1 _ (pre_app.trans pre_app)
          | (refine totals (h := .mul) rfl rfl (val3 _ _ _).2.2 fun S' p => ?_; rw [← m16_eq]; exact q1 _ (pre_app.trans (pre_app.trans p))))
    case lt =>
      simp only [eq_self, ev, ev2, ev3, hds, hdn, acs, pts, ofS_inj, bodyEnds, String.reduceEq, decide_false, decide_true, reduceCtorEq, List.length_cons, List.length_nil, Nat.reduceAdd, szs, true_and, flatD, List.all_cons, List.all_nil, Bool.and_self, inF, List.any_cons, List.any_nil, eqF, Bool.or_false, Bool.false_or, Bool.or_true, Bool.true_or, Bool.and_true, Bool.true_and, Bool.and_false, Bool.false_and, Bool.not_true, Bool.not_false, oin_new]
      rcases x with n | (_ | _) | _ | n | ⟨h, x, x'⟩ | x | ⟨f, x⟩ | x | x <;> simp only [eq_self, ev, ev2, ev3, hds, hdn, acs, pts, ofS_inj, bodyEnds, String.reduceEq, decide_false, decide_true, reduceCtorEq, List.length_cons, List.length_nil, Nat.reduceAdd, szs, true_and, flatD, List.all_cons, List.all_nil, Bool.and_self, inF, List.any_cons, List.any_nil, eqF, Bool.or_false, Bool.false_or, Bool.or_true, Bool.true_or, Bool.and_true, Bool.true_and, Bool.and_false, Bool.false_and, Bool.not_true, Bool.not_false, Ex.l, oin_new] <;> first
        | exact q1 _ (pre_app.trans pre_app)
        | (rcases y with m | (_ | _) | _ | m | ⟨(_ | _ | _ | _ | _ | _ | _), x, x'⟩ | x | ⟨f, x⟩ | x | x <;> simp only [eq_self, ev, ev2, ev3, hds, hdn, acs, pts, ofS_inj, bodyEnds, String.reduceEq, decide_false, decide_true, reduceCtorEq, List.length_cons, List.length_nil, Nat.reduceAdd, szs, true_and, flatD, List.all_cons, List.all_nil, Bool.and_self, inF, List.any_cons, List.any_nil, eqF, Bool.or_false, Bool.false_or, Bool.or_true, Bool.true_or, Bool.and_true, Bool.true_and, Bool.and_false, Bool.false_and, Bool.not_true, Bool.not_false, Ex.l, oin_new] <;> exact q1 _ (pre_app.trans pre_app))
    case eq =>
      simp only [eq_self, ev, ev2, ev3, hds, hdn, acs, pts, ofS_inj, bodyEnds, String.reduceEq, decide_false, decide_true, reduceCtorEq, List.length_cons, List.length_nil, Nat.reduceAdd, szs, true_and, flatD, List.all_cons, List.all_nil, Bool.and_self, inF, List.any_cons, List.any_nil, eqF, Bool.or_false, Bool.false_or, Bool.or_true, Bool.true_or, Bool.and_true, Bool.true_and, Bool.and_false, Bool.false_and, Bool.not_true, Bool.not_false, oin_new]
      by_cases hc : isConst x = true ∧ isConst y = true
      · obtain ⟨c1, c2⟩ := hc
        have q2 : ∀ S', S2 <+: S' → Q (.tup [.str "bool", .bl (sameC x y)]) S' := fun S' p => by
          have := q1 S' p
          simp only [fold2, c1, c2, Bool.and_self, if_true, Ex.l] at this
          exact this
        have r : ∀ S', S2 <+: S' → cRepr [.tup x.l] S' fun z S1 => cRepr [.tup y.l] S1 fun z' S2 => oEq z z' S2 fun x S1 => Q (.tup [.str "bool", x]) S1 := fun S' p => by
          refine repr_fine (d := x.d) (Ex.fine h1 h2) (repr_fine (d := y.d) (Ex.fine h3 h4) ?_)
          simp only [ev3, shown_same c1 c2]
          exact q2 _ p
        clear q1 q2
        cases x <;> simp only [isConst, reduceCtorEq] at c1 <;> cases y <;> simp only [isConst, reduceCtorEq] at c2 <;> simp only [eq_self, ev, ev2, ev3, hds, hdn, acs, pts, ofS_inj, bodyEnds, String.reduceEq, decide_false, decide_true, reduceCtorEq, List.length_cons, List.length_nil, Nat.reduceAdd, szs, true_and, flatD, List.all_cons, List.all_nil, Bool.and_self, inF, List.any_cons, List.any_nil, eqF, Bool.or_false, Bool.false_or, Bool.or_true, Bool.true_or, Bool.and_true, Bool.true_and, Bool.and_false, Bool.false_and, Bool.not_true, Bool.not_false, Ex.l, oin_new] <;> exact r _ (pre_app.trans pre_app)
      · have q2 : ∀ S', S2 <+: S' → Q (.tup [.str "eq", .tup x.l, .tup y.l]) S' := fun S' p => by
          have := q1 S' p
          have e : (isConst x && isConst y) = false := by
            cases ex : isConst x <;> cases ey : isConst y <;> simp_all
          simp only [fold2, e, Bool.false_eq_true, if_false, Ex.l, hds] at this
          exact this
        clear q1
        rcases x with n | b | _ | n | ⟨h, x, x'⟩ | x | ⟨f, x⟩ | x | x <;> simp only [eq_self, ev, ev2, ev3, hds, hdn, acs, pts, ofS_inj, bodyEnds, String.reduceEq, decide_false, decide_true, reduceCtorEq, List.length_cons, List.length_nil, Nat.reduceAdd, szs, true_and, flatD, List.all_cons, List.all_nil, Bool.and_self, inF, List.any_cons, List.any_nil, eqF, Bool.or_false, Bool.false_or, Bool.or_true, Bool.true_or, Bool.and_true, Bool.true_and, Bool.and_false, Bool.false_and, Bool.not_true, Bool.not_false, Ex.l, oin_new] at q2 ⊢ <;> first
          | exact q2 _ (pre_app.trans pre_app)
          | (rcases y with m | b | _ | m | ⟨h, x, x'⟩ | x | ⟨f, x⟩ | x | x <;> simp only [eq_self, ev, ev2, ev3, hds, hdn, acs, pts, ofS_inj, bodyEnds, String.reduceEq, decide_false, decide_true, reduceCtorEq, List.length_cons, List.length_nil, Nat.reduceAdd, szs, true_and, flatD, List.all_cons, List.all_nil, Bool.and_self, inF, List.any_cons, List.any_nil, eqF, Bool.or_false, Bool.false_or, Bool.or_true, Bool.true_or, Bool.and_true, Bool.true_and, Bool.and_false, Bool.false_and, Bool.not_true, Bool.not_false, Ex.l, oin_new] at q2 ⊢ <;> first
            | exact q2 _ (pre_app.trans pre_app)
            | exact absurd ⟨rfl, rfl⟩ hc)
  case not a =>
    simp only [lvE, uE] at hk hu hl
    refine gx_mk (by omega) (by omega) (by omega) fun S1 p1 => ?_
    have q1 : Q (fnot (foldE a)).d S1 := q _ (pre_app.trans p1)
    simp only [Ex.d]
    generalize foldE a = t at q1 ⊢
    rcases t with n | b | _ | n | ⟨h, x, y⟩ | x | ⟨f, x⟩ | x | x <;> simp only [eq_self, ev, ev2, ev3, hds, hdn, acs, pts, ofS_inj, bodyEnds, String.reduceEq, decide_false, decide_true, reduceCtorEq, List.length_cons, List.length_nil, Nat.reduceAdd, szs, true_and, flatD, List.all_cons, List.all_nil, Bool.and_self, inF, List.any_cons, List.any_nil, eqF, Bool.or_false, Bool.false_or, Bool.or_true, Bool.true_or, Bool.and_true, Bool.true_and, Bool.and_false, Bool.false_and, Bool.not_true, Bool.not_false, Ex.l] <;> exact q1
  case call f a =>
    simp only [lvE, uE] at hk hu hl
    refine gx_mk (by omega) (by omega) (by omega) fun S1 p1 => ?_
    refine lc_one (S := S1) (d := a.d) (y := (foldE a).d) (fun Q' h => ?_) rfl (fun S2 Q1 p2 q1 => gx_mk (by omega) (by omega) (by omega) fun S3 p3 => q1 S3 p3) fun S2 p2 => ?_
    · simp only [eq_self, ev, ev2, ev3, hds, hdn, acs, pts, ofS_inj, bodyEnds, String.reduceEq, decide_false, decide_true, reduceCtorEq, List.length_cons, List.length_nil, Nat.reduceAdd, szs, true_and, flatD, List.all_cons, List.all_nil, Bool.and_self, inF, List.any_cons, List.any_nil, eqF, Bool.or_false, Bool.false_or, Bool.or_true, Bool.true_or, Bool.and_true, Bool.true_and, Bool.and_false, Bool.false_and, Bool.not_true, Bool.not_false]; exact h
    · rw [ctup_new]
      exact q _ (pre_app.trans (p1.trans (p2.trans pre_app)))
  case ask a =>
    simp only [lvE, uE] at hk hu hl
    exact gx_mk (by omega) (by omega) (by omega) fun S1 p1 => q S1 (pre_app.trans p1)
  case lam a =>
    simp only [lvE, uE] at hk hu hl
    exact gxb_mk (b := tell1 a 9) (by simp only [lvB, lvS]; omega) (by simp only [lvB, lvS]; omega) (by simp only [uB, uS]; omega) fun S1 p1 => q S1 (pre_app.trans p1)
end
end Sp
namespace Sp
open PySem PySem.Spec
open PyProof.Rows L2 AL Ab
section
variable {k : Nat}
theorem sp_lfb : ∀ ds S E Q, GXB foldB (k + 1) ds S E Q → ds.length = 1 ∧ a__law_fold_b (GXS foldS k) (bodyEnds Q E) (startA 2 ds) S := by
  rintro ds S E Q ⟨b, hk, hl, hu, rfl, q⟩
  refine ⟨rfl, ?_⟩
  have st : startA 2 [.tup b.l] = [some (.tup b.l), none] := rfl
  rw [st]
  clear st
  unfold a__law_fold_b
  simp only [eq_self, ev, ev2, ev3, hds, hdn, acs, pts, ofS_inj, bodyEnds, String.reduceEq, decide_false, decide_true, reduceCtorEq, List.length_cons, List.length_nil, Nat.reduceAdd, szs, true_and, flatD, List.all_cons, List.all_nil, Bool.and_self, inF, List.any_cons, List.any_nil, eqF, Bool.or_false, Bool.false_or, Bool.or_true, Bool.true_or, Bool.and_true, Bool.true_and, Bool.and_false, Bool.false_and, Bool.not_true, Bool.not_false]
  refine lc_blx (F := foldS) (FB := foldB) rfl (fun _ _ => rfl) (b := b) (fun Q' h => h) (by omega) hu hk (fun _ => rfl) fun S1 p1 => ?_
  rw [ctup_new]
  exact q _ (p1.trans pre_app)
theorem sp_lfs : ∀ ds S E Q, GXS foldS (k + 1) ds S E Q → ds.length = 1 ∧ a__law_fold_s (GX foldE k) (GXB foldB k) (bodyEnds Q E) (startA 3 ds) S := by
  rintro ds S E Q ⟨s, hk, hl, hu, rfl, q⟩
  refine ⟨rfl, ?_⟩
  unfold a__law_fold_s
  cases s <;> simp only [lvS, uS] at hk hu hl
  case act h e n =>
    have st : startA 3 [(St.act h e n).d] = [some (.tup [.str h.s, .tup e.l, .int n.val]), none, none] := rfl
    rw [st]
    cases h <;> simp only [eq_self, ev, ev2, ev3, hds, hdn, acs, pts, ofS_inj, bodyEnds, String.reduceEq, decide_false, decide_true, reduceCtorEq, List.length_cons, List.length_nil, Nat.reduceAdd, szs, true_and, flatD, List.all_cons, List.all_nil, Bool.and_self, inF, List.any_cons, List.any_nil, eqF, Bool.or_false, Bool.false_or, Bool.or_true, Bool.true_or, Bool.and_true, Bool.true_and, Bool.and_false, Bool.false_and, Bool.not_true, Bool.not_false, oin_new] <;> exact gx_mk (by omega) (by omega) (by omega) fun S1 p1 => q S1 (pre_app.trans (pre_app.trans p1))
  case put l m e n =>
    have st : startA 3 [(St.put l m e n).d] = [some (.tup [.str (putS l), .int m.val, .tup e.l, .int n.val]), none, none] := rfl
    rw [st]
    cases l <;> simp only [eq_self, ev, ev2, ev3, hds, hdn, acs, pts, ofS_inj, bodyEnds, String.reduceEq, decide_false, decide_true, reduceCtorEq, List.length_cons, List.length_nil, Nat.reduceAdd, szs, true_and, flatD, List.all_cons, List.all_nil, Bool.and_self, inF, List.any_cons, List.any_nil, eqF, Bool.or_false, Bool.false_or, Bool.or_true, Bool.true_or, Bool.and_true, Bool.true_and, Bool.and_false, Bool.false_and, Bool.not_true, Bool.not_false, oin_new] <;> exact gx_mk (by omega) (by omega) (by omega) fun S1 p1 => q S1 (pre_app.trans p1)
  case block b n =>
    have st : startA 3 [(St.block b n).d] = [some (.tup [.str "block", .tup b.l, .int n.val]), none, none] := rfl
    rw [st]
    simp only [eq_self, ev, ev2, ev3, hds, hdn, acs, pts, ofS_inj, bodyEnds, String.reduceEq, decide_false, decide_true, reduceCtorEq, List.length_cons, List.length_nil, Nat.reduceAdd, szs, true_and, flatD, List.all_cons, List.all_nil, Bool.and_self, inF, List.any_cons, List.any_nil, eqF, Bool.or_false, Bool.false_or, Bool.or_true, Bool.true_or, Bool.and_true, Bool.true_and, Bool.and_false, Bool.false_and, Bool.not_true, Bool.not_false, oin_new]
    exact gxb_mk (by omega) (by omega) (by omega) fun S1 p1 => q S1 (pre_app.trans (pre_app.trans p1))
  case if_ e a b n =>
    have st : startA 3 [(St.if_ e a b n).d] = [some (.tup [.str "if", .tup e.l, .tup a.l, .tup b.l, .int n.val]), none, none] := rfl
    rw [st]
    simp only [eq_self, ev, ev2, ev3, hds, hdn, acs, pts, ofS_inj, bodyEnds, String.reduceEq, decide_false, decide_true, reduceCtorEq, List.length_cons, List.length_nil, Nat.reduceAdd, szs, true_and, flatD, List.all_cons, List.all_nil, Bool.and_self, inF, List.any_cons, List.any_nil, eqF, Bool.or_false, Bool.false_or, Bool.or_true, Bool.true_or, Bool.and_true, Bool.true_and, Bool.and_false, Bool.false_and, Bool.not_true, Bool.not_false, oin_new]
    have ue := uE_fold e
    refine gx_mk (by omega) (by omega) (by omega) fun S1 p1 => ?_
    have q1 := fun S2 (p2 : S1 <+: S2) => q S2 (pre_app.trans (pre_app.trans (p1.trans p2)))
    have h1 : lvE (foldE e) ≤ 60 := by omega
    have h2 : uE (foldE e) ≤ 1000000 := by omega
    simp only [foldS] at q1
    clear q ue p1
    generalize foldE e = t at q1 h1 h2 ⊢
    simp only [Ex.d]
    refine eq_bool h1 h2 ?_
    rcases t with n | (_ | _) | _ | n | ⟨h, x, y⟩ | x | ⟨f, x⟩ | x | x <;> simp only [eq_self, ev, ev2, ev3, hds, hdn, acs, pts, ofS_inj, bodyEnds, String.reduceEq, decide_false, decide_true, reduceCtorEq, List.length_cons, List.length_nil, Nat.reduceAdd, szs, true_and, flatD, List.all_cons, List.all_nil, Bool.and_self, inF, List.any_cons, List.any_nil, eqF, Bool.or_false, Bool.false_or, Bool.or_true, Bool.true_or, Bool.and_true, Bool.true_and, Bool.and_false, Bool.false_and, Bool.not_true, Bool.not_false, isB] <;> first
      | exact gxb_mk (by omega) (by omega) (by omega) fun S2 p2 => q1 _ p2
      | (refine eq_bool h1 h2 ?_; simp only [eq_self, ev, ev2, ev3, hds, hdn, acs, pts, ofS_inj, bodyEnds, String.reduceEq, decide_false, decide_true, reduceCtorEq, List.length_cons, List.length_nil, Nat.reduceAdd, szs, true_and, flatD, List.all_cons, List.all_nil, Bool.and_self, inF, List.any_cons, List.any_nil, eqF, Bool.or_false, Bool.false_or, Bool.or_true, Bool.true_or, Bool.and_true, Bool.true_and, Bool.and_false, Bool.false_and, Bool.not_true, Bool.not_false, isB]; first
        | exact gxb_mk (by omega) (by omega) (by omega) fun S2 p2 => q1 _ p2
        | exact gxb_mk (by omega) (by omega) (by omega) fun S2 p2 => gxb_mk (by omega) (by omega) (by omega) fun S3 p3 => q1 _ (p2.trans p3))
  case try_ a m b n =>
    have st : startA 3 [(St.try_ a m b n).d] = [some (.tup [.str "try", .tup a.l, .int m.val, .tup b.l, .int n.val]), none, none] := rfl
    rw [st]
    simp only [eq_self, ev, ev2, ev3, hds, hdn, acs, pts, ofS_inj, bodyEnds, String.reduceEq, decide_false, decide_true, reduceCtorEq, List.length_cons, List.length_nil, Nat.reduceAdd, szs, true_and, flatD, List.all_cons, List.all_nil, Bool.and_self, inF, List.any_cons, List.any_nil, eqF, Bool.or_false, Bool.false_or, Bool.or_true, Bool.true_or, Bool.and_true, Bool.true_and, Bool.and_false, Bool.false_and, Bool.not_true, Bool.not_false, oin_new]
    exact gxb_mk (by omega) (by omega) (by omega) fun S1 p1 => gxb_mk (by omega) (by omega) (by omega) fun S2 p2 => q _ (pre_app.trans (pre_app.trans (p1.trans p2)))
  case fun_ m b n =>
    have st : startA 3 [(St.fun_ m b n).d] = [some (.tup [.str "fun", .int m.val, .tup [], .tup b.l, .int n.val]), none, none] := rfl
    rw [st]
    simp only [eq_self, ev, ev2, ev3, hds, hdn, acs, pts, ofS_inj, bodyEnds, String.reduceEq, decide_false, decide_true, reduceCtorEq, List.length_cons, List.length_nil, Nat.reduceAdd, szs, true_and, flatD, List.all_cons, List.all_nil, Bool.and_self, inF, List.any_cons, List.any_nil, eqF, Bool.or_false, Bool.false_or, Bool.or_true, Bool.true_or, Bool.and_true, Bool.true_and, Bool.and_false, Bool.false_and, Bool.not_true, Bool.not_false, oin_new]
    exact gxb_mk (by omega) (by omega) (by omega) fun S1 p1 => q S1 (pre_app.trans (pre_app.trans p1))
  case rep e b n =>
    have st : startA 3 [(St.rep e b n).d] = [some (.tup [.str "repeat", .tup e.l, .tup b.l, .int n.val]), none, none] := rfl
    rw [st]
    simp only [eq_self, ev, ev2, ev3, hds, hdn, acs, pts, ofS_inj, bodyEnds, String.reduceEq, decide_false, decide_true, reduceCtorEq, List.length_cons, List.length_nil, Nat.reduceAdd, szs, true_and, flatD, List.all_cons, List.all_nil, Bool.and_self, inF, List.any_cons, List.any_nil, eqF, Bool.or_false, Bool.false_or, Bool.or_true, Bool.true_or, Bool.and_true, Bool.true_and, Bool.and_false, Bool.false_and, Bool.not_true, Bool.not_false, oin_new]
    refine gx_mk (by omega) (by omega) (by omega) fun S1 p1 => ?_
    have q1 := fun S2 (p2 : S1 <+: S2) => q S2 (pre_app.trans (pre_app.trans (p1.trans p2)))
    simp only [foldS] at q1
    clear q p1
    generalize foldE e = t at q1 ⊢
    simp only [Ex.d]
    rcases t with n | (_ | _) | _ | n | ⟨h, x, y⟩ | x | ⟨f, x⟩ | x | x <;> simp only [eq_self, ev, ev2, ev3, hds, hdn, acs, pts, ofS_inj, bodyEnds, String.reduceEq, decide_false, decide_true, reduceCtorEq, List.length_cons, List.length_nil, Nat.reduceAdd, szs, true_and, flatD, List.all_cons, List.all_nil, Bool.and_self, inF, List.any_cons, List.any_nil, eqF, Bool.or_false, Bool.false_or, Bool.or_true, Bool.true_or, Bool.and_true, Bool.true_and, Bool.and_false, Bool.false_and, Bool.not_true, Bool.not_false, Ex.l]
    case int =>
      refine cint_int ⟨by decide, ?_⟩
      by_cases h8 : (n.val : Int) % 8 = 0
      · simp only [eq_self, ev, ev2, ev3, hds, hdn, acs, pts, ofS_inj, bodyEnds, String.reduceEq, decide_false, decide_true, reduceCtorEq, List.length_cons, List.length_nil, Nat.reduceAdd, szs, true_and, flatD, List.all_cons, List.all_nil, Bool.and_self, inF, List.any_cons, List.any_nil, eqF, Bool.or_false, Bool.false_or, Bool.or_true, Bool.true_or, Bool.and_true, Bool.true_and, Bool.and_false, Bool.false_and, Bool.not_true, Bool.not_false, h8, if_true] at q1 ⊢
        exact q1 S1 pre_refl
      · simp only [eq_self, ev, ev2, ev3, hds, hdn, acs, pts, ofS_inj, bodyEnds, String.reduceEq, decide_false, decide_true, reduceCtorEq, List.length_cons, List.length_nil, Nat.reduceAdd, szs, true_and, flatD, List.all_cons, List.all_nil, Bool.and_self, inF, List.any_cons, List.any_nil, eqF, Bool.or_false, Bool.false_or, Bool.or_true, Bool.true_or, Bool.and_true, Bool.true_and, Bool.and_false, Bool.false_and, Bool.not_true, Bool.not_false, h8, if_false] at q1 ⊢
        exact gxb_mk (by omega) (by omega) (by omega) fun S2 p2 => q1 S2 p2
    all_goals exact gxb_mk (by omega) (by omega) (by omega) fun S2 p2 => q1 S2 p2
theorem sp_lends : ∀ ds S E Q, GN (k + 1) ds S E Q → ds.length = 1 ∧ a__law_ends (GN k) (bodyEnds Q E) (startA 4 ds) S := by
  rintro ds S E Q ⟨s, hk, hu, rfl, q⟩
  refine ⟨rfl, ?_⟩
  unfold a__law_ends
  cases s <;> simp only [lvS, uS] at hk hu
  case act h e n =>
    have st : startA 4 [(St.act h e n).d] = [some (.tup [.str h.s, .tup e.l, .int n.val]), none, none, none] := rfl
    rw [st]
    cases h <;> simp only [eq_self, ev, ev2, ev3, hds, hdn, acs, pts, ofS_inj, bodyEnds, String.reduceEq, decide_false, decide_true, reduceCtorEq, List.length_cons, List.length_nil, Nat.reduceAdd, szs, true_and, flatD, List.all_cons, List.all_nil, Bool.and_self, inF, List.any_cons, List.any_nil, eqF, Bool.or_false, Bool.false_or, Bool.or_true, Bool.true_or, Bool.and_true, Bool.true_and, Bool.and_false, Bool.false_and, Bool.not_true, Bool.not_false, oin_new] <;> exact q _ pre_app
  case put l m e n =>
    have st : startA 4 [(St.put l m e n).d] = [some (.tup [.str (putS l), .int m.val, .tup e.l, .int n.val]), none, none, none] := rfl
    rw [st]
    cases l <;> simp only [eq_self, ev, ev2, ev3, hds, hdn, acs, pts, ofS_inj, bodyEnds, String.reduceEq, decide_false, decide_true, reduceCtorEq, List.length_cons, List.length_nil, Nat.reduceAdd, szs, true_and, flatD, List.all_cons, List.all_nil, Bool.and_self, inF, List.any_cons, List.any_nil, eqF, Bool.or_false, Bool.false_or, Bool.or_true, Bool.true_or, Bool.and_true, Bool.true_and, Bool.and_false, Bool.false_and, Bool.not_true, Bool.not_false, oin_new] <;> exact q _ pre_app
  case block b n =>
    have st : startA 4 [(St.block b n).d] = [some (.tup [.str "block", .tup b.l, .int n.val]), none, none, none] := rfl
    rw [st]
    simp only [eq_self, ev, ev2, ev3, hds, hdn, acs, pts, ofS_inj, bodyEnds, String.reduceEq, decide_false, decide_true, reduceCtorEq, List.length_cons, List.length_nil, Nat.reduceAdd, szs, true_and, flatD, List.all_cons, List.all_nil, Bool.and_self, inF, List.any_cons, List.any_nil, eqF, Bool.or_false, Bool.false_or, Bool.or_true, Bool.true_or, Bool.and_true, Bool.true_and, Bool.and_false, Bool.false_and, Bool.not_true, Bool.not_false, oin_new]
    refine lc_ends (b := b) (fun Q' h => ?_) (by omega) (by omega) (fun _ => rfl) fun S1 p1 => ?_
    · simp only [eq_self, ev, ev2, ev3, hds, hdn, acs, pts, ofS_inj, bodyEnds, String.reduceEq, decide_false, decide_true, reduceCtorEq, List.length_cons, List.length_nil, Nat.reduceAdd, szs, true_and, flatD, List.all_cons, List.all_nil, Bool.and_self, inF, List.any_cons, List.any_nil, eqF, Bool.or_false, Bool.false_or, Bool.or_true, Bool.true_or, Bool.and_true, Bool.true_and, Bool.and_false, Bool.false_and, Bool.not_true, Bool.not_false]; exact h
    · rw [oin_new (by simp only [flat_bls]; rfl), Bl.ends_in]
      exact q _ (pre_app.trans (p1.trans pre_app))
  case if_ e a b n =>
    have st : startA 4 [(St.if_ e a b n).d] = [some (.tup [.str "if", .tup e.l, .tup a.l, .tup b.l, .int n.val]), none, none, none] := rfl
    rw [st]
    simp only [eq_self, ev, ev2, ev3, hds, hdn, acs, pts, ofS_inj, bodyEnds, String.reduceEq, decide_false, decide_true, reduceCtorEq, List.length_cons, List.length_nil, Nat.reduceAdd, szs, true_and, flatD, List.all_cons, List.all_nil, Bool.and_self, inF, List.any_cons, List.any_nil, eqF, Bool.or_false, Bool.false_or, Bool.or_true, Bool.true_or, Bool.and_true, Bool.true_and, Bool.and_false, Bool.false_and, Bool.not_true, Bool.not_false, oin_new]
    refine lc_ends (b := a) (fun Q' h => ?_) (by omega) (by omega) (fun _ => rfl) fun S1 p1 => ?_
    · simp only [eq_self, ev, ev2, ev3, hds, hdn, acs, pts, ofS_inj, bodyEnds, String.reduceEq, decide_false, decide_true, reduceCtorEq, List.length_cons, List.length_nil, Nat.reduceAdd, szs, true_and, flatD, List.all_cons, List.all_nil, Bool.and_self, inF, List.any_cons, List.any_nil, eqF, Bool.or_false, Bool.false_or, Bool.or_true, Bool.true_or, Bool.and_true, Bool.true_and, Bool.and_false, Bool.false_and, Bool.not_true, Bool.not_false]; exact h
    · rw [oin_new (by simp only [flat_bls]; rfl), Bl.ends_in]
      have q1 := fun S2 (p2 : S1 <+: S2) => q S2 (pre_app.trans (p1.trans p2))
      simp only [endsS] at q1
      cases ea : endsB a with
      | false =>
        simp only [ea, eq_self, ev, ev2, ev3, hds, hdn, acs, pts, ofS_inj, bodyEnds, String.reduceEq, decide_false, decide_true, reduceCtorEq, List.length_cons, List.length_nil, Nat.reduceAdd, szs, true_and, flatD, List.all_cons, List.all_nil, Bool.and_self, inF, List.any_cons, List.any_nil, eqF, Bool.or_false, Bool.false_or, Bool.or_true, Bool.true_or, Bool.and_true, Bool.true_and, Bool.and_false, Bool.false_and, Bool.not_true, Bool.not_false] at q1 ⊢
        exact q1 _ pre_app
      | true =>
        simp only [ea, eq_self, ev, ev2, ev3, hds, hdn, acs, pts, ofS_inj, bodyEnds, String.reduceEq, decide_false, decide_true, reduceCtorEq, List.length_cons, List.length_nil, Nat.reduceAdd, szs, true_and, flatD, List.all_cons, List.all_nil, Bool.and_self, inF, List.any_cons, List.any_nil, eqF, Bool.or_false, Bool.false_or, Bool.or_true, Bool.true_or, Bool.and_true, Bool.true_and, Bool.and_false, Bool.false_and, Bool.not_true, Bool.not_false] at q1 ⊢
        refine lc_ends (b := b) (fun Q' h => ?_) (by omega) (by omega) (fun _ => rfl) fun S2 p2 => ?_
        · simp only [eq_self, ev, ev2, ev3, hds, hdn, acs, pts, ofS_inj, bodyEnds, String.reduceEq, decide_false, decide_true, reduceCtorEq, List.length_cons, List.length_nil, Nat.reduceAdd, szs, true_and, flatD, List.all_cons, List.all_nil, Bool.and_self, inF, List.any_cons, List.any_nil, eqF, Bool.or_false, Bool.false_or, Bool.or_true, Bool.true_or, Bool.and_true, Bool.true_and, Bool.and_false, Bool.false_and, Bool.not_true, Bool.not_false]; exact h
        · rw [oin_new (by simp only [flat_bls]; rfl), Bl.ends_in]
          exact q1 _ (pre_app.trans (p2.trans pre_app))
  case try_ a m b n =>
    have st : startA 4 [(St.try_ a m b n).d] = [some (.tup [.str "try", .tup a.l, .int m.val, .tup b.l, .int n.val]), none, none, none] := rfl
    rw [st]
    simp only [eq_self, ev, ev2, ev3, hds, hdn, acs, pts, ofS_inj, bodyEnds, String.reduceEq, decide_false, decide_true, reduceCtorEq, List.length_cons, List.length_nil, Nat.reduceAdd, szs, true_and, flatD, List.all_cons, List.all_nil, Bool.and_self, inF, List.any_cons, List.any_nil, eqF, Bool.or_false, Bool.false_or, Bool.or_true, Bool.true_or, Bool.and_true, Bool.true_and, Bool.and_false, Bool.false_and, Bool.not_true, Bool.not_false, oin_new]
    exact q _ pre_app
  case fun_ m b n =>
    have st : startA 4 [(St.fun_ m b n).d] = [some (.tup [.str "fun", .int m.val, .tup [], .tup b.l, .int n.val]), none, none, none] := rfl
    rw [st]
    simp only [eq_self, ev, ev2, ev3, hds, hdn, acs, pts, ofS_inj, bodyEnds, String.reduceEq, decide_false, decide_true, reduceCtorEq, List.length_cons, List.length_nil, Nat.reduceAdd, szs, true_and, flatD, List.all_cons, List.all_nil, Bool.and_self, inF, List.any_cons, List.any_nil, eqF, Bool.or_false, Bool.false_or, Bool.or_true, Bool.true_or, Bool.and_true, Bool.true_and, Bool.and_false, Bool.false_and, Bool.not_true, Bool.not_false, oin_new]
    exact q _ pre_app
  case rep e b n =>
    have st : startA 4 [(St.rep e b n).d] = [some (.tup [.str "repeat", .tup e.l, .tup b.l, .int n.val]), none, none, none] := rfl
    rw [st]
    simp only [eq_self, ev, ev2, ev3, hds, hdn, acs, pts, ofS_inj, bodyEnds, String.reduceEq, decide_false, decide_true, reduceCtorEq, List.length_cons, List.length_nil, Nat.reduceAdd, szs, true_and, flatD, List.all_cons, List.all_nil, Bool.and_self, inF, List.any_cons, List.any_nil, eqF, Bool.or_false, Bool.false_or, Bool.or_true, Bool.true_or, Bool.and_true, Bool.true_and, Bool.and_false, Bool.false_and, Bool.not_true, Bool.not_false, oin_new]
    exact q _ pre_app
theorem sp_laexpr : ∀ ds S E Q, GE (fun e => e) (k + 1) ds S E Q → ds.length = 1 ∧ a__law_alive_e (GB (deadB false) k) (GE (fun e => e) k) (bodyEnds Q E) (startA 3 ds) S := by
  rintro ds S E Q ⟨e, hk, hu, rfl, q⟩
  refine ⟨rfl, ?_⟩
  have st : startA 3 [Ex.d e] = [some (.tup e.l), none, none] := rfl
  rw [st]
  clear st
  unfold a__law_alive_e
  cases e <;> simp only [eq_self, ev, ev2, ev3, hds, hdn, acs, pts, ofS_inj, bodyEnds, String.reduceEq, decide_false, decide_true, reduceCtorEq, List.length_cons, List.length_nil, Nat.reduceAdd, szs, true_and, flatD, List.all_cons, List.all_nil, Bool.and_self, inF, List.any_cons, List.any_nil, eqF, Bool.or_false, Bool.false_or, Bool.or_true, Bool.true_or, Bool.and_true, Bool.true_and, Bool.and_false, Bool.false_and, Bool.not_true, Bool.not_false, Ex.l, oin_new]
  case int => exact q _ pre_app
  case bool => exact q _ pre_app
  case none => exact q _ pre_app
  case var => exact q _ pre_app
  case two h a b =>
    simp only [lvE, uE] at hk hu
    cases h <;> simp only [eq_self, ev, ev2, ev3, hds, hdn, acs, pts, ofS_inj, bodyEnds, String.reduceEq, decide_false, decide_true, reduceCtorEq, List.length_cons, List.length_nil, Nat.reduceAdd, szs, true_and, flatD, List.all_cons, List.all_nil, Bool.and_self, inF, List.any_cons, List.any_nil, eqF, Bool.or_false, Bool.false_or, Bool.or_true, Bool.true_or, Bool.and_true, Bool.true_and, Bool.and_false, Bool.false_and, Bool.not_true, Bool.not_false] <;> exact ge_mk (by omega) (by omega) fun S1 p1 => ge_mk (by omega) (by omega) fun S2 p2 => q _ (pre_app.trans (p1.trans p2))
  case not a =>
    simp only [lvE, uE] at hk hu
    exact ge_mk (by omega) (by omega) fun S1 p1 => q _ (pre_app.trans p1)
  case call f a =>
    simp only [lvE, uE] at hk hu
    refine ge_mk (by omega) (by omega) fun S1 p1 => ?_
    refine lc_one (S := S1) (d := a.d) (y := a.d) (fun Q' h => ?_) rfl (fun S2 Q1 p2 q1 => ge_mk (by omega) (by omega) fun S3 p3 => q1 S3 p3) fun S2 p2 => ?_
    · simp only [eq_self, ev, ev2, ev3, hds, hdn, acs, pts, ofS_inj, bodyEnds, String.reduceEq, decide_false, decide_true, reduceCtorEq, List.length_cons, List.length_nil, Nat.reduceAdd, szs, true_and, flatD, List.all_cons, List.all_nil, Bool.and_self, inF, List.any_cons, List.any_nil, eqF, Bool.or_false, Bool.false_or, Bool.or_true, Bool.true_or, Bool.and_true, Bool.true_and, Bool.and_false, Bool.false_and, Bool.not_true, Bool.not_false]; exact h
    · rw [ctup_new]
      exact q _ (pre_app.trans (p1.trans (p2.trans pre_app)))
  case ask a =>
    simp only [lvE, uE] at hk hu
    exact ge_mk (by omega) (by omega) fun S1 p1 => q S1 (pre_app.trans p1)
  case lam a =>
    simp only [lvE, uE] at hk hu
    exact gb_mk (b := tell1 a 9) (by simp only [lvB, lvS]; omega) (by simp only [uB, uS]; omega) fun S1 p1 => q S1 (pre_app.trans p1)
theorem sp_larow : ∀ ds S E Q, GS deadS (k + 1) ds S E Q → ds.length = 1 ∧ a__law_alive_row (GB (deadB false) k) (GE (fun e => e) k) (bodyEnds Q E) (startA 1 ds) S := by
  rintro ds S E Q ⟨s, hk, hu, rfl, q⟩
  refine ⟨rfl, ?_⟩
  unfold a__law_alive_row
  cases s <;> simp only [lvS, uS] at hk hu
  case act h e n =>
    have st : startA 1 [(St.act h e n).d] = [some (.tup [.str h.s, .tup e.l, .int n.val])] := rfl
    rw [st]
    cases h <;> simp only [eq_self, ev, ev2, ev3, hds, hdn, acs, pts, ofS_inj, bodyEnds, String.reduceEq, decide_false, decide_true, reduceCtorEq, List.length_cons, List.length_nil, Nat.reduceAdd, szs, true_and, flatD, List.all_cons, List.all_nil, Bool.and_self, inF, List.any_cons, List.any_nil, eqF, Bool.or_false, Bool.false_or, Bool.or_true, Bool.true_or, Bool.and_true, Bool.true_and, Bool.and_false, Bool.false_and, Bool.not_true, Bool.not_false, oin_new] <;> exact ge_mk (by omega) (by omega) fun S1 p1 => q S1 (pre_app.trans p1)
  case put l m e n =>
    have st : startA 1 [(St.put l m e n).d] = [some (.tup [.str (putS l), .int m.val, .tup e.l, .int n.val])] := rfl
    rw [st]
    cases l <;> simp only [eq_self, ev, ev2, ev3, hds, hdn, acs, pts, ofS_inj, bodyEnds, String.reduceEq, decide_false, decide_true, reduceCtorEq, List.length_cons, List.length_nil, Nat.reduceAdd, szs, true_and, flatD, List.all_cons, List.all_nil, Bool.and_self, inF, List.any_cons, List.any_nil, eqF, Bool.or_false, Bool.false_or, Bool.or_true, Bool.true_or, Bool.and_true, Bool.true_and, Bool.and_false, Bool.false_and, Bool.not_true, Bool.not_false, oin_new] <;> exact ge_mk (by omega) (by omega) fun S1 p1 => q S1 (pre_app.trans p1)
  case block b n =>
    have st : startA 1 [(St.block b n).d] = [some (.tup [.str "block", .tup b.l, .int n.val])] := rfl
    rw [st]
    simp only [eq_self, ev, ev2, ev3, hds, hdn, acs, pts, ofS_inj, bodyEnds, String.reduceEq, decide_false, decide_true, reduceCtorEq, List.length_cons, List.length_nil, Nat.reduceAdd, szs, true_and, flatD, List.all_cons, List.all_nil, Bool.and_self, inF, List.any_cons, List.any_nil, eqF, Bool.or_false, Bool.false_or, Bool.or_true, Bool.true_or, Bool.and_true, Bool.true_and, Bool.and_false, Bool.false_and, Bool.not_true, Bool.not_false]
    exact gb_mk (by omega) (by omega) fun S1 p1 => q S1 p1
  case if_ e a b n =>
    have st : startA 1 [(St.if_ e a b n).d] = [some (.tup [.str "if", .tup e.l, .tup a.l, .tup b.l, .int n.val])] := rfl
    rw [st]
    simp only [eq_self, ev, ev2, ev3, hds, hdn, acs, pts, ofS_inj, bodyEnds, String.reduceEq, decide_false, decide_true, reduceCtorEq, List.length_cons, List.length_nil, Nat.reduceAdd, szs, true_and, flatD, List.all_cons, List.all_nil, Bool.and_self, inF, List.any_cons, List.any_nil, eqF, Bool.or_false, Bool.false_or, Bool.or_true, Bool.true_or, Bool.and_true, Bool.true_and, Bool.and_false, Bool.false_and, Bool.not_true, Bool.not_false]
    exact ge_mk (by omega) (by omega) fun S1 p1 => gb_mk (by omega) (by omega) fun S2 p2 => gb_mk (by omega) (by omega) fun S3 p3 => q _ (p1.trans (p2.trans p3))
  case try_ a m b n =>
    have st : startA 1 [(St.try_ a m b n).d] = [some (.tup [.str "try", .tup a.l, .int m.val, .tup b.l, .int n.val])] := rfl
    rw [st]
    simp only [eq_self, ev, ev2, ev3, hds, hdn, acs, pts, ofS_inj, bodyEnds, String.reduceEq, decide_false, decide_true, reduceCtorEq, List.length_cons, List.length_nil, Nat.reduceAdd, szs, true_and, flatD, List.all_cons, List.all_nil, Bool.and_self, inF, List.any_cons, List.any_nil, eqF, Bool.or_false, Bool.false_or, Bool.or_true, Bool.true_or, Bool.and_true, Bool.true_and, Bool.and_false, Bool.false_and, Bool.not_true, Bool.not_false]
    exact gb_mk (by omega) (by omega) fun S1 p1 => gb_mk (by omega) (by omega) fun S2 p2 => q _ (p1.trans p2)
  case fun_ m b n =>
    have st : startA 1 [(St.fun_ m b n).d] = [some (.tup [.str "fun", .int m.val, .tup [], .tup b.l, .int n.val])] := rfl
    rw [st]
    simp only [eq_self, ev, ev2, ev3, hds, hdn, acs, pts, ofS_inj, bodyEnds, String.reduceEq, decide_false, decide_true, reduceCtorEq, List.length_cons, List.length_nil, Nat.reduceAdd, szs, true_and, flatD, List.all_cons, List.all_nil, Bool.and_self, inF, List.any_cons, List.any_nil, eqF, Bool.or_false, Bool.false_or, Bool.or_true, Bool.true_or, Bool.and_true, Bool.true_and, Bool.and_false, Bool.false_and, Bool.not_true, Bool.not_false]
    exact gb_mk (by omega) (by omega) fun S1 p1 => q S1 p1
  case rep e b n =>
    have st : startA 1 [(St.rep e b n).d] = [some (.tup [.str "repeat", .tup e.l, .tup b.l, .int n.val])] := rfl
    rw [st]
    simp only [eq_self, ev, ev2, ev3, hds, hdn, acs, pts, ofS_inj, bodyEnds, String.reduceEq, decide_false, decide_true, reduceCtorEq, List.length_cons, List.length_nil, Nat.reduceAdd, szs, true_and, flatD, List.all_cons, List.all_nil, Bool.and_self, inF, List.any_cons, List.any_nil, eqF, Bool.or_false, Bool.false_or, Bool.or_true, Bool.true_or, Bool.and_true, Bool.true_and, Bool.and_false, Bool.false_and, Bool.not_true, Bool.not_false]
    exact ge_mk (by omega) (by omega) fun S1 p1 => gb_mk (by omega) (by omega) fun S2 p2 => q _ (p1.trans p2)
theorem sp_lalive : ∀ ds S E Q, GB (deadB false) (k + 1) ds S E Q → ds.length = 1 ∧ a__law_alive (GS deadS k) (GN k) (bodyEnds Q E) (startA 4 ds) S := by
  rintro ds S E Q ⟨b, hk, hu, rfl, q⟩
  refine ⟨rfl, ?_⟩
  unfold a__law_alive
  refine dead_loop hk hu q fun s j acc e x S1 D0 h1 h2 p at1 hl nx => ?_
  obtain ⟨h, t, ed, ekeep⟩ := St.hd s
  have tail : ∀ S2, S <+: S2 → S2[S.length]? = some (.lst (dstep (acc, e) s).1) → aAsg (aOrV (aVar 2) (aCall (GN k) (aCons (aVar 3) aNil))) (agName 2) D0 [some (.tup b.l), some (.ref S.length), some (.bl e), some s.d] S2 := by
    intro S2 p2 at2
    simp only [eq_self, ev, ev2, ev3, hds, hdn, acs, pts, ofS_inj, bodyEnds, String.reduceEq, decide_false, decide_true, reduceCtorEq, List.length_cons, List.length_nil, Nat.reduceAdd, szs, true_and, flatD, List.all_cons, List.all_nil, Bool.and_self, inF, List.any_cons, List.any_nil, eqF, Bool.or_false, Bool.false_or, Bool.or_true, Bool.true_or, Bool.and_true, Bool.true_and, Bool.and_false, Bool.false_and, Bool.not_true, Bool.not_false]
    cases e with
    | true =>
      simp only [eq_self, ev, ev2, ev3, hds, hdn, acs, pts, ofS_inj, bodyEnds, String.reduceEq, decide_false, decide_true, reduceCtorEq, List.length_cons, List.length_nil, Nat.reduceAdd, szs, true_and, flatD, List.all_cons, List.all_nil, Bool.and_self, inF, List.any_cons, List.any_nil, eqF, Bool.or_false, Bool.false_or, Bool.or_true, Bool.true_or, Bool.and_true, Bool.true_and, Bool.and_false, Bool.false_and, Bool.not_true, Bool.not_false]
      exact nx S2 _ p2 at2
    | false =>
      simp only [eq_self, ev, ev2, ev3, hds, hdn, acs, pts, ofS_inj, bodyEnds, String.reduceEq, decide_false, decide_true, reduceCtorEq, List.length_cons, List.length_nil, Nat.reduceAdd, szs, true_and, flatD, List.all_cons, List.all_nil, Bool.and_self, inF, List.any_cons, List.any_nil, eqF, Bool.or_false, Bool.false_or, Bool.or_true, Bool.true_or, Bool.and_true, Bool.true_and, Bool.and_false, Bool.false_and, Bool.not_true, Bool.not_false]
      refine gn_mk h1 h2 fun S3 p3 => ?_
      exact nx S3 _ (p2.trans p3) (pre_get p3 at2)
  have app : (!e || keepS s) = true → ∀ S2, S1 <+: S2 → aDrop (aAppend (aVar 1) (aCall (GS deadS k) (aCons (aVar 3) aNil))) { D0 with nx := aAsg (aOrV (aVar 2) (aCall (GN k) (aCons (aVar 3) aNil))) (agName 2) D0 } [some (.tup b.l), some (.ref S.length), some (.bl e), some s.d] S2 := by
    intro hc S2 p12
    simp only [eq_self, ev, ev2, ev3, hds, hdn, acs, pts, ofS_inj, bodyEnds, String.reduceEq, decide_false, decide_true, reduceCtorEq, List.length_cons, List.length_nil, Nat.reduceAdd, szs, true_and, flatD, List.all_cons, List.all_nil, Bool.and_self, inF, List.any_cons, List.any_nil, eqF, Bool.or_false, Bool.false_or, Bool.or_true, Bool.true_or, Bool.and_true, Bool.true_and, Bool.and_false, Bool.false_and, Bool.not_true, Bool.not_false]
    refine ⟨is_lst (pre_get p12 at1), gs_mk h1 h2 fun S3 p2 => lst_set (pre_get (p12.trans p2) at1) hl ?_⟩
    have at2 := pre_get (p12.trans p2) at1
    refine tail _ (set_pre (p.trans (p12.trans p2)) (Nat.le_refl _)) ?_
    rw [List.getElem?_set_self (List.getElem?_eq_some_iff.mp at2).1]
    show some (O.lst (acc ++ [(deadS s).d])) = some (O.lst (if (!e || keepS s) = true then _ else _))
    rw [if_pos hc]
  have skip : (!e || keepS s) = false → ∀ S2, S1 <+: S2 → aAsg (aOrV (aVar 2) (aCall (GN k) (aCons (aVar 3) aNil))) (agName 2) D0 [some (.tup b.l), some (.ref S.length), some (.bl e), some s.d] S2 := by
    intro hc S2 p12
    refine tail S2 (p.trans p12) ?_
    rw [pre_get p12 at1]
    show some (O.lst acc) = some (O.lst (if (!e || keepS s) = true then _ else _))
    rw [hc]; rfl
  rw [ev.2.1]
  rw [ed] at app skip ⊢
  cases e with
  | false =>
    rw [ev.2.2.2.2.2.1]
    simp only [aOr, aNot, aB, aVar, eq_self, ev, ev2, ev3, hds, hdn, acs, pts, ofS_inj, bodyEnds, String.reduceEq, decide_false, decide_true, reduceCtorEq, List.length_cons, List.length_nil, Nat.reduceAdd, szs, true_and, flatD, List.all_cons, List.all_nil, Bool.and_self, inF, List.any_cons, List.any_nil, eqF, Bool.or_false, Bool.false_or, Bool.or_true, Bool.true_or, Bool.and_true, Bool.true_and, Bool.and_false, Bool.false_and, Bool.not_true, Bool.not_false]
    exact app rfl _ pre_refl
  | true =>
    rw [ev.2.2.2.2.2.1]
    simp only [aOr, aNot, aB, aVar, aOp, aIx, aC, aLst, aCons, aNil, eq_self, ev, ev2, ev3, hds, hdn, acs, pts, ofS_inj, bodyEnds, String.reduceEq, decide_false, decide_true, reduceCtorEq, List.length_cons, List.length_nil, Nat.reduceAdd, szs, true_and, flatD, List.all_cons, List.all_nil, Bool.and_self, inF, List.any_cons, List.any_nil, eqF, Bool.or_false, Bool.false_or, Bool.or_true, Bool.true_or, Bool.and_true, Bool.true_and, Bool.and_false, Bool.false_and, Bool.not_true, Bool.not_false, oin_new]
    have fl : (decide (Str.ofString "let" = h) || decide (Str.ofString "fun" = h)) = keepS s := by
      rw [← ekeep]
      congr 1 <;> exact decide_eq_decide.mpr eq_comm
    rw [fl]
    cases e1 : keepS s with
    | true => exact app (by rw [e1]; rfl) _ pre_app
    | false => exact skip (by rw [e1]; rfl) _ pre_app
end
end Sp
namespace Sp
open PySem PySem.Spec
open PyProof.Rows L2 AL Ab
/-! ### the cells, the feed -/
def ScrOk (S : Sto) (d : D) (l : List D) : Prop := d = .kl l ∨ ∃ i, d = .ref i ∧ S[i]? = some (.rol l)
def GCell : AFn := fun ds S E Q => ∃ (d : D) (k : Nat) (ns : List Int), ds = [d, .int k] ∧ ScrOk S d (ns.map .int) ∧ ∀ (n : Int) S', S <+: S' → Q (.int n) S'
theorem at_nat {α : Type} {l : List α} {i : Int} {d : α} (h0 : 0 ≤ i) (h : l[i.toNat]? = some d) : at' l i = some d := by
  unfold at'
  rw [if_pos h0]; exact h
theorem sp_cell : ∀ ds S E Q, GCell ds S E Q → ds.length = 2 ∧ a__law_cell (bodyEnds Q E) (startA 2 ds) S := by
  rintro ds S E Q ⟨d, k, ns, rfl, h, q⟩
  refine ⟨rfl, ?_⟩
  have st : startA 2 [d, .int k] = [some d, some (.int k)] := rfl
  rw [st]
  unfold a__law_cell
  simp only [eq_self, ev, ev2, ev3, hds, hdn, acs, pts, ofS_inj, bodyEnds, String.reduceEq, decide_false, decide_true, reduceCtorEq, List.length_cons, List.length_nil, Nat.reduceAdd, szs, true_and, flatD, List.all_cons, List.all_nil, Bool.and_self, inF, List.any_cons, List.any_nil, eqF, Bool.or_false, Bool.false_or, Bool.or_true, Bool.true_or, Bool.and_true, Bool.true_and, Bool.and_false, Bool.false_and, Bool.not_true, Bool.not_false]
  have len : ∀ G : VA, G (.int (ns.length : Int)) S → cLen [d] S G := by
    intro G g
    rcases h with rfl | ⟨i, rfl, e⟩
    · show G (.int ((ns.map D.int).length : Int)) S
      rw [List.length_map]; exact g
    · unfold cLen
      simp only [e, List.length_map]
      exact g
  refine len _ ?_
  simp only [eq_self, ev, ev2, ev3, hds, hdn, acs, pts, ofS_inj, bodyEnds, String.reduceEq, decide_false, decide_true, reduceCtorEq, List.length_cons, List.length_nil, Nat.reduceAdd, szs, true_and, flatD, List.all_cons, List.all_nil, Bool.and_self, inF, List.any_cons, List.any_nil, eqF, Bool.or_false, Bool.false_or, Bool.or_true, Bool.true_or, Bool.and_true, Bool.true_and, Bool.and_false, Bool.false_and, Bool.not_true, Bool.not_false]
  by_cases hk : (k : Int) < (ns.length : Int)
  · simp only [hk, eq_self, ev, ev2, ev3, hds, hdn, acs, pts, ofS_inj, bodyEnds, String.reduceEq, decide_false, decide_true, reduceCtorEq, List.length_cons, List.length_nil, Nat.reduceAdd, szs, true_and, flatD, List.all_cons, List.all_nil, Bool.and_self, inF, List.any_cons, List.any_nil, eqF, Bool.or_false, Bool.false_or, Bool.or_true, Bool.true_or, Bool.and_true, Bool.true_and, Bool.and_false, Bool.false_and, Bool.not_true, Bool.not_false]
    have hk' : k < ns.length := by omega
    have e1 : (ns.map D.int)[((k : Nat) : Int).toNat]? = some (.int ns[k]) := by
      rw [Int.toNat_natCast, List.getElem?_map, List.getElem?_eq_getElem hk']; rfl
    have e2 := at_nat (by omega) e1
    rcases h with rfl | ⟨i, rfl, e⟩
    · simp only [ev2, e2]
      exact cint_int (q _ _ pre_refl)
    · have : getIx (.ref i) (.int k) S (fun x S1 => cInt [x] S1 Q) = must (at' (ns.map D.int) (k : Int)) fun d => cInt [d] S Q := by
        unfold getIx
        simp only [e]
      rw [this, e2]
      exact cint_int (q _ _ pre_refl)
  · simp only [hk, eq_self, ev, ev2, ev3, hds, hdn, acs, pts, ofS_inj, bodyEnds, String.reduceEq, decide_false, decide_true, reduceCtorEq, List.length_cons, List.length_nil, Nat.reduceAdd, szs, true_and, flatD, List.all_cons, List.all_nil, Bool.and_self, inF, List.any_cons, List.any_nil, eqF, Bool.or_false, Bool.false_or, Bool.or_true, Bool.true_or, Bool.and_true, Bool.true_and, Bool.and_false, Bool.false_and, Bool.not_true, Bool.not_false]
    exact q _ _ pre_refl
def NumOk (d : D) : Prop := ∃ n : Int, d = .int n ∧ 0 ≤ n ∧ n < 1048576
def GNums : AFn := fun ds S E Q => ∃ c : Int, ds = [.int c, .int 40] ∧ ∀ S' i nums, S <+: S' → S'[i]? = some (.lst nums) → nums.length = 40 → (∀ d ∈ nums, NumOk d) → Q (.ref i) S'
structure NW (S : Sto) (c : Int) (j : Nat) (ρ : Rho) (S' : Sto) : Prop where
  ex : ∃ acc rest x, S <+: S' ∧ S'[S.length]? = some (.lst acc) ∧ acc.length = j ∧ (∀ d ∈ acc, NumOk d) ∧ ρ = [some (.int c), some (.int 40), some (.ref S.length), some (.int rest), x]
theorem rng_at {n j : Nat} {d : D} (h : (Src.rng 0 n).items[j]? = some d) : d = .int (j : Int) ∧ j < n := by
  simp only [Src.items, List.getElem?_map] at h
  obtain ⟨x, hx, rfl⟩ := Option.map_eq_some_iff.mp h
  by_cases lt : j < n
  · rw [List.getElem?_range lt] at hx
    cases hx
    exact ⟨by simp, lt⟩
  · rw [List.getElem?_eq_none (by simpa using lt)] at hx
    cases hx
theorem rng_len {n : Nat} : (Src.rng 0 n).items.length = n := by simp [Src.items]
theorem rng1 {i : Int} {S : Sto} {Q : Src → Sto → Prop} {t : ATA} {ρ : Rho} {E : XA} {S1 : Sto} (ht : ∀ Q' : List D → Sto → Prop, Q' [.int i] S1 → t ρ S E Q') (h : 0 ≤ i ∧ i < 1000) (q : Q (.rng 0 i.toNat) S1) : aiRng1 t ρ S E Q := by
  refine ht _ ⟨⟨by omega, by omega⟩, q⟩
theorem num_app {acc : List D} {n : Int} (h : ∀ d ∈ acc, NumOk d) : ∀ d ∈ acc ++ [.int (n % 1048576)], NumOk d := by
  intro d hd
  rcases List.mem_append.mp hd with hd | hd
  · exact h d hd
  · rw [List.mem_singleton.mp hd]
    exact ⟨_, rfl, by omega, by omega⟩
theorem sp_nums : ∀ ds S E Q, GNums ds S E Q → ds.length = 2 ∧ a__law_numbers (bodyEnds Q E) (startA 5 ds) S := by
  rintro ds S E Q ⟨c, rfl, q⟩
  refine ⟨rfl, ?_⟩
  have st : startA 5 [.int c, .int 40] = [some (.int c), some (.int 40), none, none, none] := rfl
  rw [st]
  unfold a__law_numbers
  simp only [eq_self, ev, ev2, ev3, hds, hdn, acs, pts, ofS_inj, bodyEnds, String.reduceEq, decide_false, decide_true, reduceCtorEq, List.length_cons, List.length_nil, Nat.reduceAdd, szs, true_and, flatD, List.all_cons, List.all_nil, Bool.and_self, inF, List.any_cons, List.any_nil, eqF, Bool.or_false, Bool.false_or, Bool.or_true, Bool.true_or, Bool.and_true, Bool.true_and, Bool.and_false, Bool.false_and, Bool.not_true, Bool.not_false]
  have ab : ∀ (G : VA) S', G (.int (if c < 0 then -c else c)) S' → cAbs [.int c] S' G := fun G S' g => by
    exact g
  refine ab _ _ ?_
  generalize (if c < 0 then -c else c) = r0
  simp only [eq_self, ev, ev2, ev3, hds, hdn, acs, pts, ofS_inj, bodyEnds, String.reduceEq, decide_false, decide_true, reduceCtorEq, List.length_cons, List.length_nil, Nat.reduceAdd, szs, true_and, flatD, List.all_cons, List.all_nil, Bool.and_self, inF, List.any_cons, List.any_nil, eqF, Bool.or_false, Bool.false_or, Bool.or_true, Bool.true_or, Bool.and_true, Bool.true_and, Bool.and_false, Bool.false_and, Bool.not_true, Bool.not_false]
  have fin : ∀ ρ S', NW S c 40 ρ S' → (aRet (aVar 2)) (bodyEnds Q E) ρ S' := by
    rintro ρ S' ⟨acc, rest, x, p, at1, hl, hn, rfl⟩
    simp only [eq_self, ev, ev2, ev3, hds, hdn, acs, pts, ofS_inj, bodyEnds, String.reduceEq, decide_false, decide_true, reduceCtorEq, List.length_cons, List.length_nil, Nat.reduceAdd, szs, true_and, flatD, List.all_cons, List.all_nil, Bool.and_self, inF, List.any_cons, List.any_nil, eqF, Bool.or_false, Bool.false_or, Bool.or_true, Bool.true_or, Bool.and_true, Bool.true_and, Bool.and_false, Bool.false_and, Bool.not_true, Bool.not_false]
    exact q _ _ _ p at1 hl hn
  have go : ∀ {body : ATS} {D0 : AEnds}, (∀ ρ S', NW S c 40 ρ S' → D0.nx ρ S') → (∀ j ρ S' (D1 : AEnds), j < 40 → NW S c j ρ S' → (∀ ρ2 S2, NW S c (j + 1) ρ2 S2 → D1.nx ρ2 S2) → body D1 (sset ρ 4 (.int j)) S') →
      aFor (aiRng1 (aCons (aVar 1) aNil)) (agName 4) body D0 [some (.int c), some (.int 40), some (.ref S.length), some (.int r0), none] (S ++ [.lst []]) := by
    intro body D0 h1 h2
    unfold aFor
    refine rng1 (i := 40) (fun Q' h => h) (by decide) ?_
    refine ⟨NW S c, ⟨[], r0, none, pre_app, by simp, rfl, by simp, rfl⟩, fun _ _ _ _ _ => trivial, fun j d ρ S' hd w => ?_, fun ρ S' w => h1 _ _ (by rw [rng_len] at w; exact w)⟩
    obtain ⟨rfl, lt⟩ := rng_at hd
    exact h2 j ρ S' _ lt w fun _ _ w2 => w2
  cases decide ((1000000000000000000 : Int) ≤ r0) with
  | true =>
    simp only [eq_self, ev, ev2, ev3, hds, hdn, acs, pts, ofS_inj, bodyEnds, String.reduceEq, decide_false, decide_true, reduceCtorEq, List.length_cons, List.length_nil, Nat.reduceAdd, szs, true_and, flatD, List.all_cons, List.all_nil, Bool.and_self, inF, List.any_cons, List.any_nil, eqF, Bool.or_false, Bool.false_or, Bool.or_true, Bool.true_or, Bool.and_true, Bool.true_and, Bool.and_false, Bool.false_and, Bool.not_true, Bool.not_false]
    refine go fin fun j ρ S' D1 lt w nx => ?_
    obtain ⟨acc, rest, x, p, at1, hl, hn, rfl⟩ := w
    simp only [eq_self, ev, ev2, ev3, hds, hdn, acs, pts, ofS_inj, bodyEnds, String.reduceEq, decide_false, decide_true, reduceCtorEq, List.length_cons, List.length_nil, Nat.reduceAdd, szs, true_and, flatD, List.all_cons, List.all_nil, Bool.and_self, inF, List.any_cons, List.any_nil, eqF, Bool.or_false, Bool.false_or, Bool.or_true, Bool.true_or, Bool.and_true, Bool.true_and, Bool.and_false, Bool.false_and, Bool.not_true, Bool.not_false]
    refine ⟨is_lst at1, cint_int ⟨by decide, lst_set at1 (Nat.lt_of_le_of_lt (show acc.length ≤ 100 by omega) (by decide)) ?_⟩⟩
    refine ⟨⟨by decide, by decide⟩, nx _ _ ⟨acc ++ [.int (rest % 1048576)], rest / 1048576, _, set_pre p (Nat.le_refl _), ?_, by simp [hl], num_app hn, rfl⟩⟩
    rw [List.getElem?_set_self (List.getElem?_eq_some_iff.mp at1).1]
  | false =>
    simp only [eq_self, ev, ev2, ev3, hds, hdn, acs, pts, ofS_inj, bodyEnds, String.reduceEq, decide_false, decide_true, reduceCtorEq, List.length_cons, List.length_nil, Nat.reduceAdd, szs, true_and, flatD, List.all_cons, List.all_nil, Bool.and_self, inF, List.any_cons, List.any_nil, eqF, Bool.or_false, Bool.false_or, Bool.or_true, Bool.true_or, Bool.and_true, Bool.true_and, Bool.and_false, Bool.false_and, Bool.not_true, Bool.not_false]
    refine go fin fun j ρ S' D1 lt w nx => ?_
    obtain ⟨acc, rest, x, p, at1, hl, hn, rfl⟩ := w
    simp only [eq_self, ev, ev2, ev3, hds, hdn, acs, pts, ofS_inj, bodyEnds, String.reduceEq, decide_false, decide_true, reduceCtorEq, List.length_cons, List.length_nil, Nat.reduceAdd, szs, true_and, flatD, List.all_cons, List.all_nil, Bool.and_self, inF, List.any_cons, List.any_nil, eqF, Bool.or_false, Bool.false_or, Bool.or_true, Bool.true_or, Bool.and_true, Bool.true_and, Bool.and_false, Bool.false_and, Bool.not_true, Bool.not_false]
    refine ⟨.inr ⟨by decide, by decide⟩, .inr ⟨by decide, by decide⟩, cint_int ⟨by decide, is_lst at1, .inr ⟨by decide, by decide⟩, cint_int ⟨by decide, by decide, lst_set at1 (Nat.lt_of_le_of_lt (show acc.length ≤ 100 by omega) (by decide)) ?_⟩⟩⟩
    exact nx _ _ ⟨_, _, _, set_pre p (Nat.le_refl _), List.getElem?_set_self (List.getElem?_eq_some_iff.mp at1).1, by simp [hl], num_app hn, rfl⟩
end Sp
namespace Sp
open PySem PySem.Spec
open PyProof.Rows L2 AL Ab
structure FeedAt (S : Sto) (f : Nat) (a : Int) : Prop where
  ex : ∃ g nums, g < f ∧ S[f]? = some (.dK [(.inr "at", .int a), (.inr "numbers", .ref g)]) ∧ S[g]? = some (.lst nums) ∧ 0 ≤ a ∧ nums.length = 40 ∧ ∀ d ∈ nums, NumOk d
/-- all but the feed is kept -/
structure Kp (f : Nat) (S S' : Sto) : Prop where
  len : S.length ≤ S'.length
  get : ∀ i, i < S.length → i ≠ f → S'[i]? = S[i]?
theorem Kp.refl {f : Nat} {S : Sto} : Kp f S S := ⟨Nat.le_refl _, fun _ _ _ => rfl⟩
theorem Kp.trans {f : Nat} {S S1 S2 : Sto} (h : Kp f S S1) (g : Kp f S1 S2) : Kp f S S2 :=
  ⟨Nat.le_trans h.len g.len, fun i hi hf => by rw [g.get i (Nat.lt_of_lt_of_le hi h.len) hf, h.get i hi hf]⟩
theorem Kp.of {f : Nat} {S S' : Sto} (p : S <+: S') : Kp f S S' := ⟨p.length_le, fun i hi _ => by rw [List.getElem?_eq_getElem hi]; exact pre_get p (List.getElem?_eq_getElem hi)⟩
theorem Kp.at {f : Nat} {S S' : Sto} (h : Kp f S S') {i : Nat} {o : O} (e : S[i]? = some o) (hf : i ≠ f) : S'[i]? = some o := by
  rw [h.get i (List.getElem?_eq_some_iff.mp e).1 hf]; exact e
theorem FeedAt.mono {S S' : Sto} {f : Nat} {a : Int} (h : FeedAt S f a) (p : S <+: S') : FeedAt S' f a := by
  obtain ⟨g, nums, h0, h1, h2, r⟩ := h.ex
  exact ⟨g, nums, h0, pre_get p h1, pre_get p h2, r⟩
def GFeed : AFn := fun ds S E Q => ∃ c : Int, ds = [.int c, .int 40] ∧ ∀ S' f, S <+: S' → FeedAt S' f 0 → Q (.ref f) S'
theorem sp_feed : ∀ ds S E Q, GFeed ds S E Q → ds.length = 2 ∧ a__law_feed GNums (bodyEnds Q E) (startA 2 ds) S := by
  rintro ds S E Q ⟨c, rfl, q⟩
  refine ⟨rfl, ?_⟩
  have st : startA 2 [.int c, .int 40] = [some (.int c), some (.int 40)] := rfl
  rw [st]
  unfold a__law_feed
  simp only [eq_self, ev, ev2, ev3, hds, hdn, acs, pts, ofS_inj, bodyEnds, String.reduceEq, decide_false, decide_true, reduceCtorEq, List.length_cons, List.length_nil, Nat.reduceAdd, szs, true_and, flatD, List.all_cons, List.all_nil, Bool.and_self, inF, List.any_cons, List.any_nil, eqF, Bool.or_false, Bool.false_or, Bool.or_true, Bool.true_or, Bool.and_true, Bool.true_and, Bool.and_false, Bool.false_and, Bool.not_true, Bool.not_false, aDisp, aPairs]
  refine ⟨c, rfl, fun S' i nums p hi hl hn => ?_⟩
  have e : keysD [(.str "at", .int 0), (.str "numbers", .ref i)] = some [(.inr "at", .int 0), (.inr "numbers", .ref i)] := rfl
  have e2 : mergeD [] [((.inr (Str.ofString "at") : Key), D.int 0), (.inr (Str.ofString "numbers"), .ref i)] = [(.inr "at", .int 0), (.inr "numbers", .ref i)] := by
    simp only [mergeD, List.foldl_cons, List.foldl_nil, setK, Sum.inr.injEq, ofS_inj, String.reduceEq, if_false]
  simp only [e, ev2, e2]
  exact ⟨show 2 ≤ 15 by decide, q _ _ (p.trans pre_app) ⟨i, nums, (List.getElem?_eq_some_iff.mp hi).1, by simp, pre_get pre_app hi, by decide, hl, hn⟩⟩
def GTake : AFn := fun ds S E Q => ∃ (f : Nat) (lim a : Int), ds = [.ref f, .int lim] ∧ 0 < lim ∧ FeedAt S f a ∧ a < 1000000000 ∧ ∀ (n : Int) S', 0 ≤ n → n < lim → Kp f S S' → FeedAt S' f (a + 1) → Q (.int n) S'
theorem sp_take : ∀ ds S E Q, GTake ds S E Q → ds.length = 2 ∧ a__law_take (bodyEnds Q E) (startA 4 ds) S := by
  rintro ds S E Q ⟨f, lim, a, rfl, hl, hf, ha, q⟩
  refine ⟨rfl, ?_⟩
  have st : startA 4 [.ref f, .int lim] = [some (.ref f), some (.int lim), none, none] := rfl
  rw [st]
  obtain ⟨g, nums, h0, h1, h2, h3, h4, h5⟩ := hf.ex
  have v1 : valD [((.inr (Str.ofString "at") : Key), D.int a), (.inr (Str.ofString "numbers"), .ref g)] (.inr "numbers") = some (.ref g) := by
    simp only [valD, Sum.inr.injEq, ofS_inj, String.reduceEq, if_false, if_true]
  have v2 : valD [((.inr (Str.ofString "at") : Key), D.int a), (.inr (Str.ofString "numbers"), .ref g)] (.inr "at") = some (.int a) := by
    simp only [valD, if_true]
  have w : setK (.inr (Str.ofString "at")) (D.int (a + 1)) [((.inr (Str.ofString "at") : Key), D.int a), (.inr (Str.ofString "numbers"), .ref g)] = [(.inr "at", .int (a + 1)), (.inr "numbers", .ref g)] := by
    simp only [setK, setK.setMore, Sum.inr.injEq, ofS_inj, String.reduceEq, if_false, if_true]
  have ix : ∀ (x : Str) (d : D) (G : VA), valD [((.inr (Str.ofString "at") : Key), D.int a), (.inr (Str.ofString "numbers"), .ref g)] (.inr x) = some d → G d S → getIx (.ref f) (.str x) S G := by
    intro x d G e h
    unfold getIx
    simp only [h1, keyD, ev2, e]
    exact h
  unfold a__law_take
  simp only [eq_self, ev, ev2, ev3, hds, hdn, acs, pts, ofS_inj, bodyEnds, String.reduceEq, decide_false, decide_true, reduceCtorEq, List.length_cons, List.length_nil, Nat.reduceAdd, szs, true_and, flatD, List.all_cons, List.all_nil, Bool.and_self, inF, List.any_cons, List.any_nil, eqF, Bool.or_false, Bool.false_or, Bool.or_true, Bool.true_or, Bool.and_true, Bool.true_and, Bool.and_false, Bool.false_and, Bool.not_true, Bool.not_false]
  refine ix _ _ _ v1 ?_
  refine ix _ _ _ v2 ?_
  simp only [aDPut, eq_self, ev, ev2, ev3, hds, hdn, acs, pts, ofS_inj, bodyEnds, String.reduceEq, decide_false, decide_true, reduceCtorEq, List.length_cons, List.length_nil, Nat.reduceAdd, szs, true_and, flatD, List.all_cons, List.all_nil, Bool.and_self, inF, List.any_cons, List.any_nil, eqF, Bool.or_false, Bool.false_or, Bool.or_true, Bool.true_or, Bool.and_true, Bool.true_and, Bool.and_false, Bool.false_and, Bool.not_true, Bool.not_false]
  have put : ∀ G : Sto → Prop, G (S.set f (.dK [(.inr "at", .int (a + 1)), (.inr "numbers", .ref g)])) → mPut (.ref f) (.str "at") (.int (a + 1)) S G := by
    intro G h
    unfold mPut
    simp only [h1, keyD, ev2, w]
    exact ⟨show 2 < sizeLine by decide, h⟩
  refine put _ ?_
  have hfl : f < S.length := (List.getElem?_eq_some_iff.mp h1).1
  have gf : g ≠ f := fun z => by rw [z, h1] at h2; cases h2
  have kp : Kp f S (S.set f (.dK [(.inr "at", .int (a + 1)), (.inr "numbers", .ref g)])) := ⟨by simp, fun i hi hne => List.getElem?_set_ne (Ne.symm hne)⟩
  have e1 : (S.set f (.dK [(.inr "at", .int (a + 1)), (.inr "numbers", .ref g)]))[f]? = some (.dK [(.inr "at", .int (a + 1)), (.inr "numbers", .ref g)]) := List.getElem?_set_self hfl
  have e2 := kp.at h2 gf
  generalize S.set f (.dK [(.inr "at", .int (a + 1)), (.inr "numbers", .ref g)]) = S1 at kp e1 e2 ⊢
  have len : ∀ G : VA, G (.int 40) S1 → cLen [.ref g] S1 G := by
    intro G h
    unfold cLen
    simp only [e2, h4]
    exact h
  simp only [eq_self, ev, ev2, ev3, hds, hdn, acs, pts, ofS_inj, bodyEnds, String.reduceEq, decide_false, decide_true, reduceCtorEq, List.length_cons, List.length_nil, Nat.reduceAdd, szs, true_and, flatD, List.all_cons, List.all_nil, Bool.and_self, inF, List.any_cons, List.any_nil, eqF, Bool.or_false, Bool.false_or, Bool.or_true, Bool.true_or, Bool.and_true, Bool.true_and, Bool.and_false, Bool.false_and, Bool.not_true, Bool.not_false]
  refine len _ ?_
  simp only [eq_self, ev, ev2, ev3, hds, hdn, acs, pts, ofS_inj, bodyEnds, String.reduceEq, decide_false, decide_true, reduceCtorEq, List.length_cons, List.length_nil, Nat.reduceAdd, szs, true_and, flatD, List.all_cons, List.all_nil, Bool.and_self, inF, List.any_cons, List.any_nil, eqF, Bool.or_false, Bool.false_or, Bool.or_true, Bool.true_or, Bool.and_true, Bool.true_and, Bool.and_false, Bool.false_and, Bool.not_true, Bool.not_false]
  refine ⟨by decide, ?_⟩
  have r1 : 0 ≤ a % 40 := Int.emod_nonneg _ (by decide)
  have r2 : a % 40 < 40 := Int.emod_lt_of_pos _ (by decide)
  have lt : (a % 40).toNat < nums.length := by omega
  obtain ⟨m, em, m0, m1⟩ := h5 _ (List.getElem_mem lt)
  have e3 : at' nums (a % 40) = some (.int m) := at_nat r1 (by rw [List.getElem?_eq_getElem lt, em])
  have ixn : ∀ G : VA, G (.int m) S1 → getIx (.ref g) (.int (a % 40)) S1 G := by
    intro G h
    unfold getIx
    simp only [e2, e3, ev2]
    exact h
  refine ixn _ (len _ ?_)
  have d0 : 0 ≤ a / 40 := Int.ediv_nonneg h3 (by decide)
  have d1 : a / 40 ≤ a := Int.ediv_le_self _ h3
  refine ⟨⟨by decide, by decide⟩, .inr ⟨by decide, by decide⟩, ⟨by omega, by omega⟩, cint_int ⟨hl, q _ _ (Int.emod_nonneg _ (by omega)) (Int.emod_lt_of_pos _ hl) kp ⟨g, nums, h0, e1, e2, by omega, h4, h5⟩⟩⟩
/-! ### trees from the feed -/
def UU : Nat → Nat
  | 0 => 40
  | d + 1 => max (2 * UU d + 12) (UU d + 80)
def CC : Nat → Nat
  | 0 => 4
  | d + 1 => 2 * CC d + 4
def GGen (k : Nat) : AFn := fun ds S E Q => ∃ (f d : Nat) (a : Int), ds = [.ref f, .int (d : Int)] ∧ d + 1 ≤ k ∧ FeedAt S f a ∧ a + CC d ≤ 1000000000 ∧
  ∀ (e : Ex) (a' : Int) S', uE e ≤ UU d → lvE e ≤ 3 * d + 1 → a' ≤ a + CC d → Kp f S S' → FeedAt S' f a' → Q e.d S'
theorem ix_at {S : Sto} {r : Nat} {l : List D} {i : Int} {d : D} {Q : VA} (e : S[r]? = some (.lst l)) (h0 : 0 ≤ i) (h : l[i.toNat]? = some d) (q : Q d S) : getIx (.ref r) (.int i) S Q := by
  unfold getIx
  simp only [e, at_nat h0 h, ev2]
  exact q
theorem UU_ge : ∀ d, 40 ≤ UU d
  | 0 => by simp [UU]
  | d + 1 => by have := UU_ge d; simp only [UU]; omega
theorem take_mk {f : Nat} {lim a : Int} {S : Sto} {E : XA} {Q : VA} (hl : 0 < lim) (hf : FeedAt S f a) (ha : a < 1000000000) (q : ∀ (n : Int) S', 0 ≤ n → n < lim → Kp f S S' → FeedAt S' f (a + 1) → Q (.int n) S') : GTake [.ref f, .int lim] S E Q := ⟨f, lim, a, rfl, hl, hf, ha, q⟩
theorem gen_mk {k f d : Nat} {a : Int} {S : Sto} {E : XA} {Q : VA} (hd : d + 1 ≤ k) (hf : FeedAt S f a) (ha : a + CC d ≤ 1000000000) (q : ∀ (e : Ex) (a' : Int) S', uE e ≤ UU d → lvE e ≤ 3 * d + 1 → a' ≤ a + CC d → Kp f S S' → FeedAt S' f a' → Q e.d S') :
    GGen k [.ref f, .int (d : Int)] S E Q := ⟨f, d, a, rfl, hd, hf, ha, q⟩
theorem n16 {n : Int} (h0 : 0 ≤ n) (h : n < 65536) : ∃ m : N16, n = (m.val : Int) := ⟨⟨n.toNat, by omega⟩, by show n = ((n.toNat : Nat) : Int); omega⟩
theorem heads {i : Int} (h0 : 0 ≤ i) (h : i < 8) : ∃ hd : Hd, ([.str "add", .str "sub", .str "mul", .str "lt", .str "eq", .str "and", .str "or", .str "and"] : List D)[i.toNat]? = some (.str hd.s) := by
  have : i = 0 ∨ i = 1 ∨ i = 2 ∨ i = 3 ∨ i = 4 ∨ i = 5 ∨ i = 6 ∨ i = 7 := by omega
  rcases this with rfl | rfl | rfl | rfl | rfl | rfl | rfl | rfl
  · exact ⟨.add, rfl⟩
  · exact ⟨.sub, rfl⟩
  · exact ⟨.mul, rfl⟩
  · exact ⟨.lt, rfl⟩
  · exact ⟨.eq, rfl⟩
  · exact ⟨.and, rfl⟩
  · exact ⟨.or, rfl⟩
  · exact ⟨.and, rfl⟩
theorem sub1 (d : Nat) : (((d + 1 : Nat) : Int) - 1) = (d : Int) := by omega
theorem sp_gen {k : Nat} : ∀ ds S E Q, GGen (k + 1) ds S E Q → ds.length = 2 ∧ a__law_expr GTake (GGen k) (bodyEnds Q E) (startA 4 ds) S := by
  rintro ds S E Q ⟨f, d, a, rfl, hd, hf, ha, q⟩
  refine ⟨rfl, ?_⟩
  have st : startA 4 [.ref f, .int (d : Int)] = [some (.ref f), some (.int (d : Int)), none, none] := rfl
  rw [st]
  unfold a__law_expr
  simp only [eq_self, ev, ev2, ev3, hds, hdn, acs, pts, ofS_inj, bodyEnds, String.reduceEq, decide_false, decide_true, reduceCtorEq, List.length_cons, List.length_nil, Nat.reduceAdd, szs, true_and, flatD, List.all_cons, List.all_nil, Bool.and_self, inF, List.any_cons, List.any_nil, eqF, Bool.or_false, Bool.false_or, Bool.or_true, Bool.true_or, Bool.and_true, Bool.true_and, Bool.and_false, Bool.false_and, Bool.not_true, Bool.not_false]
  have c4 : 4 ≤ CC d := by cases d <;> simp only [CC] <;> omega
  refine take_mk (by decide) hf (by omega) fun n S1 n0 n14 k1 f1 => ?_
  simp only [eq_self, ev, ev2, ev3, hds, hdn, acs, pts, ofS_inj, bodyEnds, String.reduceEq, decide_false, decide_true, reduceCtorEq, List.length_cons, List.length_nil, Nat.reduceAdd, szs, true_and, flatD, List.all_cons, List.all_nil, Bool.and_self, inF, List.any_cons, List.any_nil, eqF, Bool.or_false, Bool.false_or, Bool.or_true, Bool.true_or, Bool.and_true, Bool.true_and, Bool.and_false, Bool.false_and, Bool.not_true, Bool.not_false]
  -- a constant or a variable
  have leaf : aRet (aIx (aLst (aCons (aTup (aCons (aC (.str "int")) (aCons (aCall GTake (aCons (aVar 0) (aCons (aC (.int 65536)) aNil))) aNil))) (aCons (aTup (aCons (aC (.str "int")) (aCons (aIx (aLst (aCons (aC (.int 0)) (aCons (aC (.int 1)) (aCons (aC (.int 8)) (aCons (aC (.int 65535)) aNil))))) (aCall GTake (aCons (aVar 0) (aCons (aC (.int 4)) aNil)))) aNil))) (aCons (aTup (aCons (aC (.str "bool")) (aCons (aC (.bl true)) aNil))) (aCons (aTup (aCons (aC (.str "bool")) (aCons (aC (.bl false)) aNil))) (aCons (aTup (aCons (aC (.str "none")) aNil)) (aCons (aTup (aCons (aC (.str "var")) (aCons (aC (.int 0)) aNil))) (aCons (aTup (aCons (aC (.str "var")) (aCons (aC (.int 1)) aNil))) aNil)))))))) (aCall GTake (aCons (aVar 0) (aCons (aC (.int 7)) aNil)))) (bodyEnds Q E)
      [some (.ref f), some (.int (d : Int)), some (.int n), none] S1 := by
    have u40 := UU_ge d
    simp only [eq_self, ev, ev2, ev3, hds, hdn, acs, pts, ofS_inj, bodyEnds, String.reduceEq, decide_false, decide_true, reduceCtorEq, List.length_cons, List.length_nil, Nat.reduceAdd, szs, true_and, flatD, List.all_cons, List.all_nil, Bool.and_self, inF, List.any_cons, List.any_nil, eqF, Bool.or_false, Bool.false_or, Bool.or_true, Bool.true_or, Bool.and_true, Bool.true_and, Bool.and_false, Bool.false_and, Bool.not_true, Bool.not_false]
    refine take_mk (by decide) f1 (by omega) fun n2 S2 h1 h2 k2 f2 => ?_
    refine take_mk (by decide) (f2.mono pre_app) (by omega) fun n3 S3 h3 h4 k3 f3 => ?_
    have e3 : S3[S2.length]? = some (.lst [.int 0, .int 1, .int 8, .int 65535]) := k3.at at_end (fun z => by
      obtain ⟨g, nums, _, x1, _⟩ := f2.ex
      have := (List.getElem?_eq_some_iff.mp x1).1
      omega)
    obtain ⟨m3, hm3⟩ : ∃ m : N16, ([.int 0, .int 1, .int 8, .int 65535] : List D)[n3.toNat]? = some (.int (m.val : Int)) := by
      have : n3 = 0 ∨ n3 = 1 ∨ n3 = 2 ∨ n3 = 3 := by omega
      rcases this with rfl | rfl | rfl | rfl
      · exact ⟨0, rfl⟩
      · exact ⟨1, rfl⟩
      · exact ⟨8, rfl⟩
      · exact ⟨65535, rfl⟩
    refine ix_at e3 h3 hm3 ?_
    obtain ⟨m2, rfl⟩ := n16 h1 h2
    refine take_mk (by decide) (f3.mono pre_app) (by omega) fun n4 S4 h5 h6 k4 f4 => ?_
    have e4 : S4[S3.length]? = some (.lst [(Ex.int m2).d, (Ex.int m3).d, (Ex.bool true).d, (Ex.bool false).d, Ex.none.d, (Ex.var 0).d, (Ex.var 1).d]) := k4.at at_end (fun z => by
      obtain ⟨g, nums, _, x1, _⟩ := f3.ex
      have := (List.getElem?_eq_some_iff.mp x1).1
      omega)
    obtain ⟨e, he, hu, hv⟩ : ∃ e : Ex, ([(Ex.int m2).d, (Ex.int m3).d, (Ex.bool true).d, (Ex.bool false).d, Ex.none.d, (Ex.var 0).d, (Ex.var 1).d] : List D)[n4.toNat]? = some e.d ∧ uE e = 40 ∧ lvE e = 1 := by
      have : n4 = 0 ∨ n4 = 1 ∨ n4 = 2 ∨ n4 = 3 ∨ n4 = 4 ∨ n4 = 5 ∨ n4 = 6 := by omega
      rcases this with rfl | rfl | rfl | rfl | rfl | rfl | rfl
      · exact ⟨.int m2, rfl, rfl, rfl⟩
      · exact ⟨.int m3, rfl, rfl, rfl⟩
      · exact ⟨.bool true, rfl, rfl, rfl⟩
      · exact ⟨.bool false, rfl, rfl, rfl⟩
      · exact ⟨.none, rfl, rfl, rfl⟩
      · exact ⟨.var 0, rfl, rfl, rfl⟩
      · exact ⟨.var 1, rfl, rfl, rfl⟩
    refine ix_at e4 h5 he ?_
    refine q e (a + 1 + 1 + 1 + 1) S4 (by omega) (by omega) (by omega) ?_ f4
    exact k1.trans (k2.trans ((Kp.of pre_app).trans (k3.trans ((Kp.of pre_app).trans k4))))
  simp only [eq_self, ev, ev2, ev3, hds, hdn, acs, pts, ofS_inj, bodyEnds, String.reduceEq, decide_false, decide_true, reduceCtorEq, List.length_cons, List.length_nil, Nat.reduceAdd, szs, true_and, flatD, List.all_cons, List.all_nil, Bool.and_self, inF, List.any_cons, List.any_nil, eqF, Bool.or_false, Bool.false_or, Bool.or_true, Bool.true_or, Bool.and_true, Bool.true_and, Bool.and_false, Bool.false_and, Bool.not_true, Bool.not_false] at leaf
  cases d with
  | zero =>
    have z0 : decide (((0 : Nat) : Int) = 0) = true := by decide
    simp only [z0, eq_self, ev, ev2, ev3, hds, hdn, acs, pts, ofS_inj, bodyEnds, String.reduceEq, decide_false, decide_true, reduceCtorEq, List.length_cons, List.length_nil, Nat.reduceAdd, szs, true_and, flatD, List.all_cons, List.all_nil, Bool.and_self, inF, List.any_cons, List.any_nil, eqF, Bool.or_false, Bool.false_or, Bool.or_true, Bool.true_or, Bool.and_true, Bool.true_and, Bool.and_false, Bool.false_and, Bool.not_true, Bool.not_false]
    exact leaf
  | succ d =>
    have nz : decide (((d + 1 : Nat) : Int) = 0) = false := decide_eq_false (by omega)
    simp only [nz, eq_self, ev, ev2, ev3, hds, hdn, acs, pts, ofS_inj, bodyEnds, String.reduceEq, decide_false, decide_true, reduceCtorEq, List.length_cons, List.length_nil, Nat.reduceAdd, szs, true_and, flatD, List.all_cons, List.all_nil, Bool.and_self, inF, List.any_cons, List.any_nil, eqF, Bool.or_false, Bool.false_or, Bool.or_true, Bool.true_or, Bool.and_true, Bool.true_and, Bool.and_false, Bool.false_and, Bool.not_true, Bool.not_false]
    simp only [CC] at ha q c4
    by_cases n3 : n < 3
    · simp only [n3, eq_self, ev, ev2, ev3, hds, hdn, acs, pts, ofS_inj, bodyEnds, String.reduceEq, decide_false, decide_true, reduceCtorEq, List.length_cons, List.length_nil, Nat.reduceAdd, szs, true_and, flatD, List.all_cons, List.all_nil, Bool.and_self, inF, List.any_cons, List.any_nil, eqF, Bool.or_false, Bool.false_or, Bool.or_true, Bool.true_or, Bool.and_true, Bool.true_and, Bool.and_false, Bool.false_and, Bool.not_true, Bool.not_false]
      exact leaf
    · simp only [n3, eq_self, ev, ev2, ev3, hds, hdn, acs, pts, ofS_inj, bodyEnds, String.reduceEq, decide_false, decide_true, reduceCtorEq, List.length_cons, List.length_nil, Nat.reduceAdd, szs, true_and, flatD, List.all_cons, List.all_nil, Bool.and_self, inF, List.any_cons, List.any_nil, eqF, Bool.or_false, Bool.false_or, Bool.or_true, Bool.true_or, Bool.and_true, Bool.true_and, Bool.and_false, Bool.false_and, Bool.not_true, Bool.not_false, sub1]
      -- two trees one level down
      have gen1 : ∀ {S1 : Sto} {a1 : Int} {G : VA}, FeedAt S1 f a1 → a1 ≤ a + 3 + CC d → (∀ (e : Ex) (a' : Int) S', uE e ≤ UU d → lvE e ≤ 3 * d + 1 → a' ≤ a1 + CC d → Kp f S1 S' → FeedAt S' f a' → G e.d S') → GGen k [.ref f, .int (d : Int)] S1 (fun x S1 => E x S1) G :=
        fun h1 h2 h3 => gen_mk (by omega) h1 (by omega) h3
      by_cases n11 : n < 11
      · simp only [n11, eq_self, ev, ev2, ev3, hds, hdn, acs, pts, ofS_inj, bodyEnds, String.reduceEq, decide_false, decide_true, reduceCtorEq, List.length_cons, List.length_nil, Nat.reduceAdd, szs, true_and, flatD, List.all_cons, List.all_nil, Bool.and_self, inF, List.any_cons, List.any_nil, eqF, Bool.or_false, Bool.false_or, Bool.or_true, Bool.true_or, Bool.and_true, Bool.true_and, Bool.and_false, Bool.false_and, Bool.not_true, Bool.not_false]
        obtain ⟨h, hh⟩ := heads (i := n - 3) (by omega) (by omega)
        refine ix_at (l := [.str "add", .str "sub", .str "mul", .str "lt", .str "eq", .str "and", .str "or", .str "and"]) at_end (by omega) hh ?_
        refine gen1 (f1.mono pre_app) (by omega) fun e1 a1 S2 u1 l1 b1 k2 f2 => ?_
        refine gen1 f2 (by omega) fun e2 a2 S3 u2 l2 b2 k3 f3 => ?_
        exact q (.two h e1 e2) a2 S3 (by simp only [uE, UU]; omega) (by simp only [lvE]; omega) (by omega) (k1.trans ((Kp.of pre_app).trans (k2.trans k3))) f3
      · simp only [n11, eq_self, ev, ev2, ev3, hds, hdn, acs, pts, ofS_inj, bodyEnds, String.reduceEq, decide_false, decide_true, reduceCtorEq, List.length_cons, List.length_nil, Nat.reduceAdd, szs, true_and, flatD, List.all_cons, List.all_nil, Bool.and_self, inF, List.any_cons, List.any_nil, eqF, Bool.or_false, Bool.false_or, Bool.or_true, Bool.true_or, Bool.and_true, Bool.true_and, Bool.and_false, Bool.false_and, Bool.not_true, Bool.not_false]
        by_cases n11' : n = 11
        · simp only [n11', eq_self, ev, ev2, ev3, hds, hdn, acs, pts, ofS_inj, bodyEnds, String.reduceEq, decide_false, decide_true, reduceCtorEq, List.length_cons, List.length_nil, Nat.reduceAdd, szs, true_and, flatD, List.all_cons, List.all_nil, Bool.and_self, inF, List.any_cons, List.any_nil, eqF, Bool.or_false, Bool.false_or, Bool.or_true, Bool.true_or, Bool.and_true, Bool.true_and, Bool.and_false, Bool.false_and, Bool.not_true, Bool.not_false, sub1]
          refine gen1 f1 (by omega) fun e1 a1 S2 u1 l1 b1 k2 f2 => ?_
          exact q (.not e1) a1 S2 (by simp only [uE, UU]; omega) (by simp only [lvE]; omega) (by omega) (k1.trans k2) f2
        · simp only [n11', eq_self, ev, ev2, ev3, hds, hdn, acs, pts, ofS_inj, bodyEnds, String.reduceEq, decide_false, decide_true, reduceCtorEq, List.length_cons, List.length_nil, Nat.reduceAdd, szs, true_and, flatD, List.all_cons, List.all_nil, Bool.and_self, inF, List.any_cons, List.any_nil, eqF, Bool.or_false, Bool.false_or, Bool.or_true, Bool.true_or, Bool.and_true, Bool.true_and, Bool.and_false, Bool.false_and, Bool.not_true, Bool.not_false]
          by_cases n12 : n = 12
          · simp only [n12, eq_self, ev, ev2, ev3, hds, hdn, acs, pts, ofS_inj, bodyEnds, String.reduceEq, decide_false, decide_true, reduceCtorEq, List.length_cons, List.length_nil, Nat.reduceAdd, szs, true_and, flatD, List.all_cons, List.all_nil, Bool.and_self, inF, List.any_cons, List.any_nil, eqF, Bool.or_false, Bool.false_or, Bool.or_true, Bool.true_or, Bool.and_true, Bool.true_and, Bool.and_false, Bool.false_and, Bool.not_true, Bool.not_false, sub1]
            refine gen1 f1 (by omega) fun e1 a1 S2 u1 l1 b1 k2 f2 => ?_
            refine gen1 f2 (by omega) fun e2 a2 S3 u2 l2 b2 k3 f3 => ?_
            exact q (.call e1 e2) a2 S3 (by simp only [uE, UU]; omega) (by simp only [lvE]; omega) (by omega) (k1.trans (k2.trans k3)) f3
          · simp only [n12, eq_self, ev, ev2, ev3, hds, hdn, acs, pts, ofS_inj, bodyEnds, String.reduceEq, decide_false, decide_true, reduceCtorEq, List.length_cons, List.length_nil, Nat.reduceAdd, szs, true_and, flatD, List.all_cons, List.all_nil, Bool.and_self, inF, List.any_cons, List.any_nil, eqF, Bool.or_false, Bool.false_or, Bool.or_true, Bool.true_or, Bool.and_true, Bool.true_and, Bool.and_false, Bool.false_and, Bool.not_true, Bool.not_false, sub1]
            refine gen1 f1 (by omega) fun e1 a1 S2 u1 l1 b1 k2 f2 => ?_
            refine gen1 f2 (by omega) fun e2 a2 S3 u2 l2 b2 k3 f3 => ?_
            refine take_mk (by decide) (f3.mono pre_app) (by omega) fun m S4 m0 m2 k4 f4 => ?_
            have e4 : S4[S3.length]? = some (.lst [(Ex.ask e1).d, (Ex.lam e2).d]) := k4.at at_end (fun z => by
              obtain ⟨g, nums, _, x1, _⟩ := f3.ex
              have := (List.getElem?_eq_some_iff.mp x1).1
              omega)
            have kk := k1.trans (k2.trans (k3.trans ((Kp.of pre_app).trans k4)))
            have : m = 0 ∨ m = 1 := by omega
            rcases this with rfl | rfl
            · exact ix_at e4 (by decide) rfl (q (.ask e1) _ S4 (by simp only [uE, UU]; omega) (by simp only [lvE]; omega) (by omega) kk f4)
            · exact ix_at e4 (by decide) rfl (q (.lam e2) _ S4 (by simp only [uE, UU]; omega) (by simp only [lvE]; omega) (by omega) kk f4)
end Sp
namespace Sp
open PySem PySem.Spec
open PyProof.Rows L2 AL Ab
def RR : Nat → Nat
  | 0 => 1252
  | d + 1 => 1252 + 8 * RR d
def CR : Nat → Nat
  | 0 => 121
  | d + 1 => 121 + 8 * CR d
/-- a row's bound, its takes -/
def RW : Nat → Nat
  | 0 => 313
  | d + 1 => 313 + 2 * RR d
def CW : Nat → Nat
  | 0 => 30
  | d + 1 => 30 + 2 * CR d
theorem RR_eq (d : Nat) : RR d = 4 * RW d := by cases d <;> simp only [RR, RW] <;> omega
theorem CR_eq (d : Nat) : CR d = 4 * CW d + 1 := by cases d <;> simp only [CR, CW] <;> omega
def LR (d : Nat) : Nat := 9 + 2 * d
def GRows (k : Nat) : AFn := fun ds S E Q => ∃ (f d : Nat) (a : Int), ds = [.ref f, .int (d : Int)] ∧ d + 4 ≤ k ∧ FeedAt S f a ∧ a + CR d ≤ 1000000000 ∧
  ∀ (b : Bl) (a' : Int) S', uB b ≤ RR d → lvB b ≤ LR d → a' ≤ a + CR d → Kp f S S' → FeedAt S' f a' → Q (.tup b.l) S'
def ofL : List St → Bl
  | [] => .nil
  | s :: l => .cons s (ofL l)
theorem ofL_l : ∀ l : List St, (ofL l).l = l.map St.d
  | [] => rfl
  | s :: l => by simp [ofL, Bl.l, ofL_l l]
theorem ofL_b {m n : Nat} : ∀ {l : List St}, (∀ s ∈ l, uS s + 1 ≤ m ∧ lvS s + 1 ≤ n) → 1 ≤ n → uB (ofL l) ≤ l.length * m ∧ lvB (ofL l) ≤ n
  | [], _, h1 => ⟨by simp [ofL, uB], by simpa [ofL, lvB] using h1⟩
  | s :: l, h, h1 => by
    have h2 := h s List.mem_cons_self
    obtain ⟨h3, h4⟩ := ofL_b (fun x hx => h x (List.mem_cons_of_mem _ hx)) h1
    refine ⟨?_, by simp only [ofL, lvB]; omega⟩
    simp only [ofL, uB, List.length_cons, Nat.add_mul, Nat.one_mul]
    omega
theorem Kp.set {f : Nat} {S S1 : Sto} {r : Nat} {o : O} (h : Kp f S S1) (hr : S.length ≤ r) : Kp f S (S1.set r o) :=
  ⟨by simpa using h.len, fun i hi hf => by rw [List.getElem?_set_ne (by omega)]; exact h.get i hi hf⟩
theorem FeedAt.set {S : Sto} {f r : Nat} {a : Int} {o : O} (h : FeedAt S f a) (hr : f < r) : FeedAt (S.set r o) f a := by
  obtain ⟨g, nums, h0, h1, h2, r'⟩ := h.ex
  exact ⟨g, nums, h0, by rw [List.getElem?_set_ne (by omega)]; exact h1, by rw [List.getElem?_set_ne (by omega)]; exact h2, r'⟩
structure RWv (S : Sto) (f d : Nat) (a : Int) (j : Nat) (ρ : Rho) (S' : Sto) : Prop where
  ex : ∃ (l : List St) (a' : Int) (x3 x4 : Option D), Kp f S S' ∧ S'[S.length]? = some (.lst (l.map St.d)) ∧ l.length = j ∧ (∀ s ∈ l, uS s + 1 ≤ RW d ∧ lvS s + 1 ≤ LR d) ∧ FeedAt S' f a' ∧ a' ≤ a + 1 + ((j * CW d : Nat) : Int) ∧
    ρ = [some (.ref f), some (.int (d : Int)), some (.ref S.length), x3, x4]
theorem rows_mk {k f d : Nat} {a : Int} {S : Sto} {E : XA} {Q : VA} (hd : d + 4 ≤ k) (hf : FeedAt S f a) (ha : a + CR d ≤ 1000000000) (q : ∀ (b : Bl) (a' : Int) S', uB b ≤ RR d → lvB b ≤ LR d → a' ≤ a + CR d → Kp f S S' → FeedAt S' f a' → Q (.tup b.l) S') :
    GRows k [.ref f, .int (d : Int)] S E Q := ⟨f, d, a, rfl, hd, hf, ha, q⟩
theorem CC2 : CC 2 = 28 ∧ CC 1 = 12 ∧ UU 2 = 252 ∧ UU 1 = 120 := by decide
theorem add_n (m j : Nat) : ((m : Int) + (j : Int)) = ((m + j : Nat) : Int) := by omega
theorem sp_rows {k : Nat} : ∀ ds S E Q, GRows (k + 1) ds S E Q → ds.length = 2 ∧ a__law_rows GTake (GGen k) (GRows k) (bodyEnds Q E) (startA 5 ds) S := by
  rintro ds S E Q ⟨f, d, a, rfl, hd, hf, ha, q⟩
  refine ⟨rfl, ?_⟩
  have st : startA 5 [.ref f, .int (d : Int)] = [some (.ref f), some (.int (d : Int)), none, none, none] := rfl
  rw [st]
  unfold a__law_rows
  simp only [eq_self, ev, ev2, ev3, hds, hdn, acs, pts, ofS_inj, bodyEnds, String.reduceEq, decide_false, decide_true, reduceCtorEq, List.length_cons, List.length_nil, Nat.reduceAdd, szs, true_and, flatD, List.all_cons, List.all_nil, Bool.and_self, inF, List.any_cons, List.any_nil, eqF, Bool.or_false, Bool.false_or, Bool.or_true, Bool.true_or, Bool.and_true, Bool.true_and, Bool.and_false, Bool.false_and, Bool.not_true, Bool.not_false]
  have hfl : f < S.length := by
    obtain ⟨g, nums, _, x1, _⟩ := hf.ex
    exact (List.getElem?_eq_some_iff.mp x1).1
  have cre := CR_eq d
  have rre := RR_eq d
  obtain ⟨cc2, cc1, uu2, uu1⟩ := CC2
  unfold aFor
  show aiRng1 _ _ _ _ _
  unfold aiRng1
  simp only [eq_self, ev, ev2, ev3, hds, hdn, acs, pts, ofS_inj, bodyEnds, String.reduceEq, decide_false, decide_true, reduceCtorEq, List.length_cons, List.length_nil, Nat.reduceAdd, szs, true_and, flatD, List.all_cons, List.all_nil, Bool.and_self, inF, List.any_cons, List.any_nil, eqF, Bool.or_false, Bool.false_or, Bool.or_true, Bool.true_or, Bool.and_true, Bool.true_and, Bool.and_false, Bool.false_and, Bool.not_true, Bool.not_false]
  refine take_mk (by decide) (hf.mono pre_app) (by omega) fun n0 S0 z0 z5 k0 f0 => ?_
  have at0 : S0[S.length]? = some (.lst []) := k0.at at_end (by omega)
  have kS : Kp f S S0 := (Kp.of pre_app).trans k0
  refine ⟨⟨by omega, by omega⟩, RWv S f d a, ⟨[], a + 1, none, none, kS, at0, rfl, by simp, f0, by omega, rfl⟩, fun _ _ _ _ _ => trivial, ?_, ?_⟩
  · intro j dd ρ S1 hj w
    obtain ⟨rfl, lt⟩ := rng_at hj
    obtain ⟨l, a1, x3, x4, kp, at1, hl, hs, f1, ha1, rfl⟩ := w
    have j4 : j < 4 := by omega
    have jw : j * CW d ≤ 3 * CW d := Nat.mul_le_mul_right _ (by omega)
    have jw1 : (j + 1) * CW d = j * CW d + CW d := by rw [Nat.add_mul, Nat.one_mul]
    simp only [eq_self, ev, ev2, ev3, hds, hdn, acs, pts, ofS_inj, bodyEnds, String.reduceEq, decide_false, decide_true, reduceCtorEq, List.length_cons, List.length_nil, Nat.reduceAdd, szs, true_and, flatD, List.all_cons, List.all_nil, Bool.and_self, inF, List.any_cons, List.any_nil, eqF, Bool.or_false, Bool.false_or, Bool.or_true, Bool.true_or, Bool.and_true, Bool.true_and, Bool.and_false, Bool.false_and, Bool.not_true, Bool.not_false]
    have cw : 30 ≤ CW d := by cases d <;> simp only [CW] <;> omega
    refine take_mk (by decide) f1 (by omega) fun n S2 n0 n9 k2 f2 => ?_
    simp only [eq_self, ev, ev2, ev3, hds, hdn, acs, pts, ofS_inj, bodyEnds, String.reduceEq, decide_false, decide_true, reduceCtorEq, List.length_cons, List.length_nil, Nat.reduceAdd, szs, true_and, flatD, List.all_cons, List.all_nil, Bool.and_self, inF, List.any_cons, List.any_nil, eqF, Bool.or_false, Bool.false_or, Bool.or_true, Bool.true_or, Bool.and_true, Bool.true_and, Bool.and_false, Bool.false_and, Bool.not_true, Bool.not_false]
    have at2 : S2[S.length]? = some (.lst (l.map St.d)) := k2.at at1 (by omega)
    have kp2 : Kp f S S2 := kp.trans k2
    -- a row is made, the rest
    have fin : ∀ (s : St) (a' : Int) (S3 : Sto) (x4 : Option D), uS s + 1 ≤ RW d → lvS s + 1 ≤ LR d → a' ≤ a1 + CW d → Kp f S2 S3 → FeedAt S3 f a' →
        mAppend (.ref S.length) s.d S3 fun S4 => RWv S f d a (j + 1) [some (.ref f), some (.int (d : Int)), some (.ref S.length), some (.int (j : Int)), x4] S4 := by
      intro s a' S3 x4 h1 h2 h3 k3 f3
      have at3 := k3.at at2 (by omega)
      refine lst_set at3 (by rw [List.length_map, hl]; exact Nat.lt_of_lt_of_le j4 (by decide)) ⟨l ++ [s], a', _, _, (kp2.trans k3).set (Nat.le_refl _), ?_, by simp [hl], fun x hx => ?_, f3.set hfl, ?_, rfl⟩
      · rw [List.getElem?_set_self (List.getElem?_eq_some_iff.mp at3).1, List.map_append]; rfl
      · obtain hx | hx := List.mem_append.mp hx
        · exact hs x hx
        · rw [List.mem_singleton.mp hx]; exact ⟨h1, h2⟩
      · rw [jw1]; omega
    have il : ∀ {S3 : Sto}, Kp f S2 S3 → isLst S3 (.ref S.length) = true := fun k3 => is_lst (k3.at at2 (by omega))
    have wr : RW d ≥ 313 := by cases d <;> simp only [RW] <;> omega
    have lr : LR d ≥ 9 := by unfold LR; omega
    have ga : ∀ x : Int, x ≤ a1 + 2 → x + CC 2 ≤ 1000000000 := fun x hx => by rw [cc2]; omega
    have ga1 : ∀ x : Int, x ≤ a1 + 2 → x + CC 1 ≤ 1000000000 := fun x hx => by rw [cc1]; omega
    -- an expression of two levels
    have gen2 : ∀ {S3 : Sto} {a3 : Int} {G : VA}, FeedAt S3 f a3 → a3 ≤ a1 + 2 → (∀ (e : Ex) (a' : Int) S', uE e ≤ 252 → lvE e ≤ 7 → a' ≤ a3 + 28 → Kp f S3 S' → FeedAt S' f a' → G e.d S') → GGen k [.ref f, .int 2] S3 (fun x S1 => E x S1) G :=
      fun h1 h2 h3 => gen_mk (d := 2) (by omega) h1 (ga _ h2) fun e a' S' u l b => h3 e a' S' (by rw [uu2] at u; exact u) l (by rw [cc2] at b; exact b)
    have gen1 : ∀ {S3 : Sto} {a3 : Int} {G : VA}, FeedAt S3 f a3 → a3 ≤ a1 + 2 → (∀ (e : Ex) (a' : Int) S', uE e ≤ 252 → lvE e ≤ 7 → a' ≤ a3 + 28 → Kp f S3 S' → FeedAt S' f a' → G e.d S') → GGen k [.ref f, .int 1] S3 (fun x S1 => E x S1) G :=
      fun h1 h2 h3 => gen_mk (d := 1) (by omega) h1 (ga1 _ h2) fun e a' S' u l b => h3 e a' S' (by rw [uu1] at u; omega) (by omega) (by rw [cc1] at b; omega)
    rw [cc2] at ga
    have nn : n = 0 ∨ n = 1 ∨ n = 2 ∨ n = 3 ∨ n = 4 ∨ n = 5 ∨ n = 6 ∨ n = 7 ∨ n = 8 := by omega
    let jn : N16 := ⟨j, by omega⟩
    have mkA : ∀ (h : Ac) (x4 : Option D), isLst S2 (.ref S.length) = true ∧ GGen k [.ref f, .int 2] S2 (fun x S1 => E x S1) fun x S1 => mAppend (.ref S.length) (.tup [.str h.s, x, .int (j : Int)]) S1 fun S3 =>
        RWv S f d a (j + 1) [some (.ref f), some (.int (d : Int)), some (.ref S.length), some (.int (j : Int)), x4] S3 :=
      fun h x4 => ⟨il Kp.refl, gen2 f2 (by omega) fun e a' S' u l b k3 f3 => fin (.act h e jn) a' S' x4 (by simp only [uS]; omega) (by simp only [lvS]; omega) (by omega) k3 f3⟩
    have b1 : isLst S2 (.ref S.length) = true ∧ ∀ (x4 : Option D), GTake [.ref f, .int 2] (S2 ++ [.lst [.str "throw", .str "do"]]) (fun x S1 => E x S1) fun y S3 => getIx (.ref S2.length) y S3 fun z S4 => GGen k [.ref f, .int 2] S4 (fun x S1 => E x S1) fun x S5 =>
        mAppend (.ref S.length) (.tup [z, x, .int (j : Int)]) S5 fun S3 => RWv S f d a (j + 1) [some (.ref f), some (.int (d : Int)), some (.ref S.length), some (.int (j : Int)), x4] S3 := by
      refine ⟨il Kp.refl, fun x4 => take_mk (by decide) (f2.mono pre_app) (by omega) fun m S3 m0 m2 k3 f3 => ?_⟩
      have e3 : S3[S2.length]? = some (.lst [.str "throw", .str "do"]) := k3.at at_end (by have := kp2.len; omega)
      have k4 := (Kp.of (f := f) (S := S2) (pre_app (o := .lst [.str "throw", .str "do"]))).trans k3
      have : m = 0 ∨ m = 1 := by omega
      rcases this with rfl | rfl
      · exact ix_at e3 (by decide) rfl (gen2 f3 (by omega) fun e a' S' u l b k5 f5 => fin (.act .thr e jn) a' S' x4 (by simp only [uS]; omega) (by simp only [lvS]; omega) (by omega) (k4.trans k5) f5)
      · exact ix_at e3 (by decide) rfl (gen2 f3 (by omega) fun e a' S' u l b k5 f5 => fin (.act .do_ e jn) a' S' x4 (by simp only [uS]; omega) (by simp only [lvS]; omega) (by omega) (k4.trans k5) f5)
    have b2 : isLst S2 (.ref S.length) = true ∧ ∀ (x4 : Option D), GTake [.ref f, .int 2] (S2 ++ [.lst [.str "let", .str "set"]]) (fun x S1 => E x S1) fun y S3 => getIx (.ref S2.length) y S3 fun z S4 => GGen k [.ref f, .int 2] S4 (fun x S1 => E x S1) fun x S5 =>
        mAppend (.ref S.length) (.tup [z, .int (3 + (j : Int)), x, .int (j : Int)]) S5 fun S3 => RWv S f d a (j + 1) [some (.ref f), some (.int (d : Int)), some (.ref S.length), some (.int (j : Int)), x4] S3 := by
      refine ⟨il Kp.refl, fun x4 => take_mk (by decide) (f2.mono pre_app) (by omega) fun m S3 m0 m2 k3 f3 => ?_⟩
      have e3 : S3[S2.length]? = some (.lst [.str "let", .str "set"]) := k3.at at_end (by have := kp2.len; omega)
      have k4 := (Kp.of (f := f) (S := S2) (pre_app (o := .lst [.str "let", .str "set"]))).trans k3
      have ej : (3 + (j : Int)) = ((3 + j : Nat) : Int) := by omega
      rw [ej]
      let jn3 : N16 := ⟨3 + j, by omega⟩
      have : m = 0 ∨ m = 1 := by omega
      rcases this with rfl | rfl
      · exact ix_at e3 (by decide) rfl (gen2 f3 (by omega) fun e a' S' u l b k5 f5 => fin (.put true jn3 e jn) a' S' x4 (by simp only [uS]; omega) (by simp only [lvS]; omega) (by omega) (k4.trans k5) f5)
      · exact ix_at e3 (by decide) rfl (gen2 f3 (by omega) fun e a' S' u l b k5 f5 => fin (.put false jn3 e jn) a' S' x4 (by simp only [uS]; omega) (by simp only [lvS]; omega) (by omega) (k4.trans k5) f5)
    cases d with
    | zero =>
      have p0 : decide ((0 : Int) < ((0 : Nat) : Int)) = false := by decide
      rcases nn with rfl | rfl | rfl | rfl | rfl | rfl | rfl | rfl | rfl <;> simp only [eq_self, ev, ev2, ev3, hds, hdn, acs, pts, ofS_inj, bodyEnds, String.reduceEq, decide_false, decide_true, reduceCtorEq, List.length_cons, List.length_nil, Nat.reduceAdd, szs, true_and, flatD, List.all_cons, List.all_nil, Bool.and_self, inF, List.any_cons, List.any_nil, eqF, Bool.or_false, Bool.false_or, Bool.or_true, Bool.true_or, Bool.and_true, Bool.true_and, Bool.and_false, Bool.false_and, Bool.not_true, Bool.not_false, Int.reduceEq, p0] <;> first
        | exact mkA .ret _
        | exact ⟨b1.1, b1.2 _⟩
        | exact ⟨b2.1, b2.2 _⟩
        | exact mkA .tell _
    | succ d =>
      have p0 : decide ((0 : Int) < ((d + 1 : Nat) : Int)) = true := decide_eq_true (by omega)
      simp only [RW, CW, LR] at fin
      have cwe : CW (d + 1) = 30 + 2 * CR d := rfl
      have rowsd : ∀ {S3 : Sto} {a3 : Int} {G : VA}, FeedAt S3 f a3 → a3 ≤ a1 + 30 + CR d → (∀ (b : Bl) (a' : Int) S', uB b ≤ RR d → lvB b ≤ 9 + 2 * d → a' ≤ a3 + CR d → Kp f S3 S' → FeedAt S' f a' → G (.tup b.l) S') → GRows k [.ref f, .int (d : Int)] S3 (fun x S1 => E x S1) G :=
        fun h1 h2 h3 => rows_mk (by omega) h1 (by omega) h3
      rcases nn with rfl | rfl | rfl | rfl | rfl | rfl | rfl | rfl | rfl <;> simp only [eq_self, ev, ev2, ev3, hds, hdn, acs, pts, ofS_inj, bodyEnds, String.reduceEq, decide_false, decide_true, reduceCtorEq, List.length_cons, List.length_nil, Nat.reduceAdd, szs, true_and, flatD, List.all_cons, List.all_nil, Bool.and_self, inF, List.any_cons, List.any_nil, eqF, Bool.or_false, Bool.false_or, Bool.or_true, Bool.true_or, Bool.and_true, Bool.true_and, Bool.and_false, Bool.false_and, Bool.not_true, Bool.not_false, Int.reduceEq, p0, sub1]
      · exact mkA .ret _
      · exact ⟨b1.1, b1.2 _⟩
      · exact ⟨b2.1, b2.2 _⟩
      · exact ⟨il Kp.refl, rowsd f2 (by omega) fun b a' S' u l t k3 f3 => fin (.block b jn) a' S' _ (by simp only [uS]; omega) (by simp only [lvS]; omega) (by omega) k3 f3⟩
      · exact ⟨il Kp.refl, gen2 f2 (by omega) fun e a' S' u l t k3 f3 => rowsd f3 (by omega) fun b a'' S'' u2 l2 t2 k4 f4 => rowsd f4 (by omega) fun b3 a3 S3 u3 l3 t3 k5 f5 =>
          fin (.if_ e b b3 jn) a3 S3 _ (by simp only [uS]; omega) (by simp only [lvS]; omega) (by omega) (k3.trans (k4.trans k5)) f5⟩
      · exact ⟨il Kp.refl, rowsd f2 (by omega) fun b a'' S'' u2 l2 t2 k4 f4 => rowsd f4 (by omega) fun b3 a3 S3 u3 l3 t3 k5 f5 =>
          fin (.try_ b 40 b3 jn) a3 S3 _ (by simp only [uS]; omega) (by simp only [lvS]; omega) (by omega) (k4.trans k5) f5⟩
      · have ej : (50 + (j : Int)) = ((50 + j : Nat) : Int) := by omega
        rw [ej]
        exact ⟨il Kp.refl, rowsd f2 (by omega) fun b a' S' u l t k3 f3 => fin (.fun_ ⟨50 + j, by omega⟩ b jn) a' S' _ (by simp only [uS]; omega) (by simp only [lvS]; omega) (by omega) k3 f3⟩
      · exact ⟨il Kp.refl, gen1 f2 (by omega) fun e a' S' u l t k3 f3 => rowsd f3 (by omega) fun b a'' S'' u2 l2 t2 k4 f4 =>
          fin (.rep e b jn) a'' S'' _ (by simp only [uS]; omega) (by simp only [lvS]; omega) (by omega) (k3.trans k4) f4⟩
      · exact mkA .tell _
  · intro ρ S1 w
    rw [rng_len] at w
    obtain ⟨l, a1, x3, x4, kp, at1, hl, hs, f1, ha1, rfl⟩ := w
    simp only [eq_self, ev, ev2, ev3, hds, hdn, acs, pts, ofS_inj, bodyEnds, String.reduceEq, decide_false, decide_true, reduceCtorEq, List.length_cons, List.length_nil, Nat.reduceAdd, szs, true_and, flatD, List.all_cons, List.all_nil, Bool.and_self, inF, List.any_cons, List.any_nil, eqF, Bool.or_false, Bool.false_or, Bool.or_true, Bool.true_or, Bool.and_true, Bool.true_and, Bool.and_false, Bool.false_and, Bool.not_true, Bool.not_false]
    have n4 : n0.toNat ≤ 4 := by omega
    have lr : 1 ≤ LR d := by unfold LR; omega
    obtain ⟨ub, lb⟩ := ofL_b hs lr
    have m1 : n0.toNat * CW d ≤ 4 * CW d := Nat.mul_le_mul_right _ n4
    have m2 : l.length * RW d ≤ 4 * RW d := Nat.mul_le_mul_right _ (by omega)
    show must (seqOf S1 (.ref S.length)) fun l => Q (.tup l) S1
    have e2 : seqOf S1 (.ref S.length) = some (ofL l).l := by rw [ofL_l]; simp only [seqOf, lstOf, at1]
    rw [e2]
    exact q (ofL l) a1 S1 (by omega) lb (by omega) kp f1
end Sp
namespace Sp
open PySem PySem.Spec
open PyProof.Rows L2 AL Ab
/-! ### folding twice -/
theorem fold2_is (h : Hd) (x y : Ex) : fold2 h x y = .two h x y ∨ fold2 h x y = x ∨ fold2 h x y = y ∨ (∃ n, fold2 h x y = .int n) ∨ ∃ b, fold2 h x y = .bool b := by
  unfold fold2
  split <;> (try split) <;> (try split) <;> simp
theorem fold_fold : ∀ e : Ex, foldE (foldE e) = foldE e
  | .int _ => rfl
  | .bool _ => rfl
  | .none => rfl
  | .var _ => rfl
  | .two h a b => by
    have ha := fold_fold a
    have hb := fold_fold b
    simp only [foldE]
    rcases fold2_is h (foldE a) (foldE b) with e | e | e | ⟨n, e⟩ | ⟨n, e⟩
    · have z : foldE (fold2 h (foldE a) (foldE b)) = foldE (.two h (foldE a) (foldE b)) := by rw [e]
      rw [z]
      simp only [foldE, ha, hb]
    · rw [e, ha]
    · rw [e, hb]
    · rw [e]; rfl
    · rw [e]; rfl
  | .not a => by
    have ha := fold_fold a
    simp only [foldE]
    generalize foldE a = t at ha ⊢
    have two : fnot t = .not t ∨ ∃ b, fnot t = .bool b := by unfold fnot; split <;> simp
    rcases two with e | ⟨b, e⟩
    · have z : foldE (fnot t) = foldE (.not t) := by rw [e]
      rw [z]
      simp only [foldE, ha]
    · rw [e]; rfl
  | .call f a => by simp only [foldE, fold_fold f, fold_fold a]
  | .ask a => by simp only [foldE, fold_fold a]
  | .lam a => by simp only [foldE, fold_fold a]
theorem for_mk {ai : ATI} {ag : ATG} {body : ATS} {D0 : AEnds} {ρ : Rho} {S : Sto} (h : ai ρ S (fun x S1 => D0.ex x ρ S1) fun src S1 => ∃ Wv : Nat → Rho → Sto → Prop, Wv 0 ρ S1 ∧ (∀ k ρ S, k ≤ src.items.length → Wv k ρ S → src.ok S) ∧
  (∀ k d ρ S, src.items[k]? = some d → Wv k ρ S → ag d ρ S fun ρ2 S2 => body { D0 with nx := Wv (k + 1), ct := Wv (k + 1), bk := D0.nx } ρ2 S2) ∧ ∀ ρ S, Wv src.items.length ρ S → D0.nx ρ S) : aFor ai ag body D0 ρ S := h
theorem seqN {t u : ATS} {D0 : AEnds} {ρ : Rho} {S : Sto} (h : ∀ N : Rho → Sto → Prop, (∀ ρ S, u D0 ρ S → N ρ S) → t { D0 with nx := N } ρ S) : aSeq t u D0 ρ S := h (u D0) fun _ _ z => z
theorem one_same {x : Str} {S : Sto} {Q : VA} (q : Q (.bl false) S) : oNe (.str x) (.str x) S Q := by
  simp only [ev3, decide_true, Bool.not_true]; exact q
theorem ScrOk.kp {S S' : Sto} {d : D} {l : List D} {f : Nat} {a : Int} (h : ScrOk S d l) (f1 : FeedAt S f a) (k : Kp f S S') : ScrOk S' d l := by
  rcases h with rfl | ⟨i, rfl, e⟩
  · exact .inl rfl
  · refine .inr ⟨i, rfl, k.at e fun z => ?_⟩
    obtain ⟨g, nums, _, x1, _⟩ := f1.ex
    rw [z, x1] at e
    cases e
theorem ScrOk.pre {S S' : Sto} {d : D} {l : List D} (h : ScrOk S d l) (p : S <+: S') : ScrOk S' d l := by
  rcases h with rfl | ⟨i, rfl, e⟩
  · exact .inl rfl
  · exact .inr ⟨i, rfl, pre_get p e⟩
theorem CC4 : CC 4 = 124 ∧ UU 4 = 1044 ∧ RR 3 = 732420 ∧ CR 3 = 70785 := by decide
structure W1 (scr : D) (ns : List D) (f : Nat) (j : Nat) (ρ : Rho) (S : Sto) : Prop where
  ex : ∃ (a : Int) (x2 x3 x4 x5 x6 x7 x8 : Option D), ScrOk S scr ns ∧ FeedAt S f a ∧ a ≤ 124 * (j : Int) ∧ ρ = [some scr, some (.ref f), x2, x3, x4, x5, x6, x7, x8, none, none, none]
abbrev thr1 (a : Ex) (n : N16) : Bl := .cons (.act .thr a n) .nil
/-- the if that is due -/
def dueIf (t : Ex) : St := match t with
  | .bool true => .block (tell1 t 1) 3
  | .bool false => .block (thr1 t 2) 3
  | t => .if_ t (tell1 t 1) (thr1 t 2) 3
theorem if_due (e : Ex) : foldS (.if_ e (tell1 e 1) (thr1 (foldE e) 2) 3) = dueIf (foldE e) := by
  simp only [foldS, foldB, fold_fold, dueIf]
  cases h : foldE e with
  | bool b => cases b <;> rfl
  | _ => rfl
def dueRep (t : Ex) : St := match t with
  | .int n => if (n.val : Int) % 8 = 0 then .block .nil 4 else .rep t (tell1 t 1) 4
  | t => .rep t (tell1 t 1) 4
theorem rep_due (e : Ex) : foldS (.rep e (tell1 e 1) 4) = dueRep (foldE e) := by
  simp only [foldS, foldB, dueRep]
  cases h : foldE e <;> rfl
theorem seqN2 {t u v : ATS} {D0 : AEnds} {ρ : Rho} {S : Sto} (h : ∀ N : Rho → Sto → Prop, (∀ ρ S, v D0 ρ S → N ρ S) → aSeq t u { D0 with nx := N } ρ S) : aSeq t (aSeq u v) D0 ρ S := h (v D0) fun _ _ z => z
theorem due_if {t : Ex} (h1 : lvE t ≤ 13) (h2 : uE t ≤ 1044) : Fine (dueIf t).d := by
  refine St.fine ?_ ?_ <;> unfold dueIf <;> split <;> simp only [lvS, lvB, uS, uB] at * <;> omega
theorem due_rep {t : Ex} (h1 : lvE t ≤ 13) (h2 : uE t ≤ 1044) : Fine (dueRep t).d := by
  refine St.fine ?_ ?_ <;> unfold dueRep <;> split <;> (try split) <;> simp only [lvS, lvB, uS, uB] at * <;> omega
/-! ### bounds of what is folded, left out -/
mutual
theorem foldS_le : ∀ s : St, uS (foldS s) ≤ uS s ∧ lvS (foldS s) ≤ lvS s ∧ 60 ≤ uS s
  | .act h e k => by have := uE_fold e; simp only [foldS, uS, lvS]; omega
  | .put l n e k => by have := uE_fold e; simp only [foldS, uS, lvS]; omega
  | .block b k => by have := foldB_le b; simp only [foldS, uS, lvS]; omega
  | .if_ e a b k => by
    have h1 := uE_fold e
    have h2 := foldB_le a
    have h3 := foldB_le b
    simp only [foldS]
    split <;> simp only [uS, lvS] <;> omega
  | .try_ a n b k => by
    have h2 := foldB_le a
    have h3 := foldB_le b
    simp only [foldS, uS, lvS]; omega
  | .fun_ n b k => by have := foldB_le b; simp only [foldS, uS, lvS]; omega
  | .rep e b k => by
    have h1 := uE_fold e
    have h3 := foldB_le b
    simp only [foldS]
    split
    · rename_i n hn
      rw [hn] at h1
      split <;> simp only [uS, lvS, uB, lvB] <;> omega
    · simp only [uS, lvS]; omega
theorem foldB_le : ∀ b : Bl, uB (foldB b) ≤ uB b ∧ lvB (foldB b) ≤ lvB b ∧ 1 ≤ lvB b
  | .nil => by simp [foldB, uB, lvB]
  | .cons s b => by
    have h1 := foldS_le s
    have h2 := foldB_le b
    simp only [foldB, uB, lvB]; omega
end
mutual
theorem deadS_le : ∀ s : St, uS (deadS s) ≤ uS s ∧ lvS (deadS s) ≤ lvS s
  | .act h e k => by simp [deadS]
  | .put l n e k => by simp [deadS]
  | .block b k => by have := deadB_le b false; simp only [deadS, uS, lvS]; omega
  | .if_ e a b k => by
    have h2 := deadB_le a false
    have h3 := deadB_le b false
    simp only [deadS, uS, lvS]; omega
  | .try_ a n b k => by
    have h2 := deadB_le a false
    have h3 := deadB_le b false
    simp only [deadS, uS, lvS]; omega
  | .fun_ n b k => by have := deadB_le b false; simp only [deadS, uS, lvS]; omega
  | .rep e b k => by have := deadB_le b false; simp only [deadS, uS, lvS]; omega
theorem deadB_le : ∀ (b : Bl) (x : Bool), uB (deadB x b) ≤ uB b ∧ lvB (deadB x b) ≤ lvB b
  | .nil, x => by simp [deadB]
  | .cons s b, x => by
    have h1 := deadS_le s
    have h2 := deadB_le b (x || endsS s)
    simp only [deadB]
    split <;> simp only [uB, lvB] <;> omega
end
theorem uS_ge : ∀ s : St, 60 ≤ uS s := fun s => (foldS_le s).2.2
theorem str_m : PyData.strOk (Str.ofString "m") = true ∧ (Str.ofString "m").cps.size = 1 := by decide +kernel
theorem rows_fine : ∀ b : Bl, okL (b.l.map mrow) = true ∧ dpL (b.l.map mrow) ≤ lvB b + 1 ∧ 20 * wtL (b.l.map mrow) ≤ 21 * uB b
  | .nil => by simp [Bl.l, okL, dpL, wtL]
  | .cons s b => by
    obtain ⟨h1, h2, h3⟩ := rows_fine b
    obtain ⟨g1, g2, g3⟩ := st_fine s
    have g4 := uS_ge s
    simp only [Bl.l, List.map_cons, mrow, okL, okD, dpL, dpD, wtL, wtD, lvB, uB, h1, g1, str_m, Bool.and_self, true_and]
    omega
theorem ne_lists {S : Sto} {i j : Nat} {l : List D} (h1 : lstOf S i = some l) (h2 : lstOf S j = some l) (ok : okL l = true) (dp : dpL l ≤ 60) (e : PyData.eqvAll (pyL l) (pyL l) = true) {Q : VA} (q : Q (.bl false) S) : oNe (.ref i) (.ref j) S Q := by
  have lay := layL_ok l ok
  have dpe := dpL_eq l
  have sh : SeqAt.shaped (.list (pyL l)) = true := by
    unfold SeqAt.shaped
    have : (PyData.list (pyL l)).canLay0 = true := by simpa [PyData.canLay0] using lay.1
    have dp2 : (PyData.list (pyL l)).depth ≤ 64 := by simp only [PyData.depth]; omega
    simp only [this, Bool.true_and]
    exact decide_eq_true dp2
  show eqN (.ref i) (.ref j) S fun b => Q (.bl (!b)) S
  refine ⟨_, _, .lst h1 (pyL_ok l ok), .lst h2 (pyL_ok l ok), sh, sh, ?_⟩
  simp only [PyData.eqv, e, Bool.not_true]
  exact q
theorem gi_mk {S1 : Sto} {s x v : D} {l lx lv : List D} {E : XA} {Q : VA} (h1 : seqOf S1 s = some l) (h2 : seqOf S1 x = some lx) (h3 : seqOf S1 v = some lv) (q : ∀ S' r, S1 <+: S' → IsLk S' r l lx lv → Q r S') :
    GI [.ref S1.length, s, x, v] (S1 ++ [.ins "Linked" []]) E fun w S2 => w = .non ∧ Q (.ref S1.length) S2 := by
  refine ⟨S1.length, s, x, v, l, lx, lv, rfl, by simp, by simp, seq_mono pre_app h1, seq_mono pre_app h2, seq_mono pre_app h3, fun S' p hk => ⟨rfl, q S' _ ?_ hk⟩⟩
  rw [List.take_left] at p
  exact p
theorem seq_new {S : Sto} {l : List D} : seqOf (S ++ [.lst l]) (.ref S.length) = some l := by simp [seqOf, lstOf]
theorem lst_new {S : Sto} {l : List D} : lstOf (S ++ [.lst l]) S.length = some l := by simp [lstOf]
/-- [("m", f(x)) for x in b], the element by F -/
theorem lc_rows {S : Sto} {ρ : Rho} {E : XA} {Q : VA} {b b' : Bl} {i : Nat} {a elt : ATE} (ha : ∀ Q' : VA, Q' (.tup b.l) S → a ρ S E Q') (hu : b.l.length < sizeLine) (len : b'.l.length = b.l.length)
    (he : ∀ (j : Nat) (d : D), b.l[j]? = some d → ∃ y : D, b'.l[j]? = some y ∧ ∀ S1 (Q1 : VA), S <+: S1 → (∀ S2, S1 <+: S2 → Q1 (mrow y) S2) → elt (sset (wipeA ρ [i]) i d) S1 (fun _ _ => False) Q1)
    (q : ∀ S1, S <+: S1 → Q (.ref S1.length) (S1 ++ [.lst (b'.l.map mrow)])) : aLc (aiAny a) (agName i) aYes elt [i] ρ S E Q := by
  refine lc_map (src := .fix b.l) (out := b'.l.map mrow) (S0 := S) (fun Q' h => ?_) trivial hu (by rw [List.length_map]; exact len) (fun j d hd => ?_) q
  · show a ρ S E fun d S1 => must (srcOf S1 d) fun src => Q' src S1
    exact ha _ h
  · obtain ⟨y, hy, body⟩ := he j d hd
    exact ⟨mrow y, by rw [List.getElem?_map, hy]; rfl, body⟩
def mapB : Bl → Bl
  | .nil => .nil
  | .cons s b => .cons (deadS s) (mapB b)
section
variable {k : Nat}
abbrev LawA (k : Nat) : ATS := a_law GCell GFeed (GGen k) (GX foldE k) (GE foldE k) (GS foldS k) (GRows k) (GN k) (GN k) GI (GL foldB k) GSt (GXS foldS k) GExp GVar (GL mapB k) (GB (deadB false) k)
theorem sp_law (hk : 62 ≤ k) : ∀ ds S E Q, lawF ds S E Q → ds.length = 1 ∧ LawA k (bodyEnds Q E) (startA 12 ds) S := by
  rintro ds S E Q ⟨d, ns, few, rfl, hS, q⟩
  refine ⟨rfl, ?_⟩
  have st : startA 12 [d] = [some d, none, none, none, none, none, none, none, none, none, none, none] := rfl
  rw [st]
  have scr : ScrOk S d (ns.map .int) := by
    rcases hS with ⟨rfl, rfl⟩ | ⟨rfl, rfl⟩
    · exact .inr ⟨0, rfl, rfl⟩
    · exact .inl rfl
  clear hS
  obtain ⟨cc4, uu4, rr3, cr3⟩ := CC4
  unfold LawA a_law
  refine seqN fun N nx => ?_
  simp only [eq_self, ev, ev2, ev3, hds, hdn, acs, pts, ofS_inj, bodyEnds, String.reduceEq, decide_false, decide_true, reduceCtorEq, List.length_cons, List.length_nil, Nat.reduceAdd, szs, true_and, flatD, List.all_cons, List.all_nil, Bool.and_self, inF, List.any_cons, List.any_nil, eqF, Bool.or_false, Bool.false_or, Bool.or_true, Bool.true_or, Bool.and_true, Bool.true_and, Bool.and_false, Bool.false_and, Bool.not_true, Bool.not_false]
  refine ⟨d, 0, ns, rfl, scr, fun n S1 p1 => ?_⟩
  refine ⟨n, rfl, fun S2 f p2 f2 => nx _ _ ?_⟩
  clear nx N
  refine seqN fun N nx => ?_
  refine for_mk (rng1 (i := 4) (fun Q' h => h) (by decide) ⟨W1 d (ns.map .int) f, ⟨0, none, none, none, none, none, none, none, scr.pre (p1.trans p2), f2, by decide, rfl⟩, fun _ _ _ _ _ => trivial, ?_, ?_⟩)
  · intro j dd ρ S3 hj w
    obtain ⟨rfl, lt⟩ := rng_at hj
    have j4 : j < 4 := lt
    obtain ⟨a, x2, x3, x4, x5, x6, x7, x8, sc, f3, ha, rfl⟩ := w
    have wdone : ∀ (a' : Int) S' x2 x3 x4 x5 x6 x7 x8, Kp f S3 S' → FeedAt S' f a' → a' ≤ a + 124 → W1 d (ns.map .int) f (j + 1) [some d, some (.ref f), x2, x3, x4, x5, x6, x7, x8, none, none, none] S' :=
      fun a' S' x2 x3 x4 x5 x6 x7 x8 kk ff hh => ⟨a', x2, x3, x4, x5, x6, x7, x8, sc.kp f3 kk, ff, by omega, rfl⟩
    simp only [ev.2.2.2.2.2.2.2.1, sset]
    show aSeq _ _ { bodyEnds Q E with nx := W1 d (ns.map .int) f (j + 1), ct := W1 d (ns.map .int) f (j + 1), bk := N } [some d, some (.ref f), some (.int (j : Int)), x3, x4, x5, x6, x7, x8, none, none, none] S3
    clear nx
    generalize hW : W1 d (ns.map .int) f (j + 1) = W at wdone ⊢
    refine seqN fun N1 nx => ?_
    simp only [eq_self, ev, ev2, ev3, hds, hdn, acs, pts, ofS_inj, bodyEnds, String.reduceEq, decide_false, decide_true, reduceCtorEq, List.length_cons, List.length_nil, Nat.reduceAdd, szs, true_and, flatD, List.all_cons, List.all_nil, Bool.and_self, inF, List.any_cons, List.any_nil, eqF, Bool.or_false, Bool.false_or, Bool.or_true, Bool.true_or, Bool.and_true, Bool.true_and, Bool.and_false, Bool.false_and, Bool.not_true, Bool.not_false]
    refine gen_mk (d := 4) (by omega) f3 (by rw [cc4]; omega) fun e a' S4 ue le ca k4 f4 => nx _ _ ?_
    clear nx N1
    rw [uu4] at ue
    rw [cc4] at ca
    have uf := uE_fold e
    have fe : Fine (foldE e).d := Ex.fine (by omega) (by omega)
    -- from here on the store only grows
    have wd : ∀ S' x2 x3 x4 x5 x6 x7 x8, S4 <+: S' → W [some d, some (.ref f), x2, x3, x4, x5, x6, x7, x8, none, none, none] S' := fun S' x2 x3 x4 x5 x6 x7 x8 p => wdone a' S' x2 x3 x4 x5 x6 x7 x8 (k4.trans (Kp.of p)) (f4.mono p) (by omega)
    clear wdone hW
    refine seqN fun N1 nx => ?_
    simp only [eq_self, ev, ev2, ev3, hds, hdn, acs, pts, ofS_inj, bodyEnds, String.reduceEq, decide_false, decide_true, reduceCtorEq, List.length_cons, List.length_nil, Nat.reduceAdd, szs, true_and, flatD, List.all_cons, List.all_nil, Bool.and_self, inF, List.any_cons, List.any_nil, eqF, Bool.or_false, Bool.false_or, Bool.or_true, Bool.true_or, Bool.and_true, Bool.true_and, Bool.and_false, Bool.false_and, Bool.not_true, Bool.not_false]
    refine gx_mk (by omega) (by omega) (by omega) fun S5 p5 => nx _ _ ?_
    clear nx N1
    refine seqN fun N1 nx => ?_
    simp only [eq_self, ev, ev2, ev3, hds, hdn, acs, pts, ofS_inj, bodyEnds, String.reduceEq, decide_false, decide_true, reduceCtorEq, List.length_cons, List.length_nil, Nat.reduceAdd, szs, true_and, flatD, List.all_cons, List.all_nil, Bool.and_self, inF, List.any_cons, List.any_nil, eqF, Bool.or_false, Bool.false_or, Bool.or_true, Bool.true_or, Bool.and_true, Bool.true_and, Bool.and_false, Bool.false_and, Bool.not_true, Bool.not_false]
    refine ge_mk (by omega) (Nat.lt_of_le_of_lt (show uE e ≤ 2000 by omega) (by decide)) fun S6 p6 => ?_
    refine repr_fine (d := (foldE e).d) fe (repr_fine (d := (foldE e).d) fe (one_same ?_))
    simp only [eq_self, ev, ev2, ev3, hds, hdn, acs, pts, ofS_inj, bodyEnds, String.reduceEq, decide_false, decide_true, reduceCtorEq, List.length_cons, List.length_nil, Nat.reduceAdd, szs, true_and, flatD, List.all_cons, List.all_nil, Bool.and_self, inF, List.any_cons, List.any_nil, eqF, Bool.or_false, Bool.false_or, Bool.or_true, Bool.true_or, Bool.and_true, Bool.true_and, Bool.and_false, Bool.false_and, Bool.not_true, Bool.not_false]
    refine ge_mk (e := foldE e) (by omega) (Nat.lt_of_le_of_lt (show uE (foldE e) ≤ 2000 by omega) (by decide)) fun S7 p7 => ?_
    rw [fold_fold]
    refine repr_fine (d := (foldE e).d) fe (repr_fine (d := (foldE e).d) fe (one_same ?_))
    simp only [eq_self, ev, ev2, ev3, hds, hdn, acs, pts, ofS_inj, bodyEnds, String.reduceEq, decide_false, decide_true, reduceCtorEq, List.length_cons, List.length_nil, Nat.reduceAdd, szs, true_and, flatD, List.all_cons, List.all_nil, Bool.and_self, inF, List.any_cons, List.any_nil, eqF, Bool.or_false, Bool.false_or, Bool.or_true, Bool.true_or, Bool.and_true, Bool.true_and, Bool.and_false, Bool.false_and, Bool.not_true, Bool.not_false]
    refine nx _ _ ?_
    clear nx N1
    refine seqN fun N1 nx => ?_
    simp only [eq_self, ev, ev2, ev3, hds, hdn, acs, pts, ofS_inj, bodyEnds, String.reduceEq, decide_false, decide_true, reduceCtorEq, List.length_cons, List.length_nil, Nat.reduceAdd, szs, true_and, flatD, List.all_cons, List.all_nil, Bool.and_self, inF, List.any_cons, List.any_nil, eqF, Bool.or_false, Bool.false_or, Bool.or_true, Bool.true_or, Bool.and_true, Bool.true_and, Bool.and_false, Bool.false_and, Bool.not_true, Bool.not_false]
    refine nx _ _ ?_
    clear nx N1
    refine seqN fun N1 nx => ?_
    simp only [eq_self, ev, ev2, ev3, hds, hdn, acs, pts, ofS_inj, bodyEnds, String.reduceEq, decide_false, decide_true, reduceCtorEq, List.length_cons, List.length_nil, Nat.reduceAdd, szs, true_and, flatD, List.all_cons, List.all_nil, Bool.and_self, inF, List.any_cons, List.any_nil, eqF, Bool.or_false, Bool.false_or, Bool.or_true, Bool.true_or, Bool.and_true, Bool.true_and, Bool.and_false, Bool.false_and, Bool.not_true, Bool.not_false]
    refine nx _ _ ?_
    clear nx N1
    refine seqN fun N1 nx => ?_
    simp only [eq_self, ev, ev2, ev3, hds, hdn, acs, pts, ofS_inj, bodyEnds, String.reduceEq, decide_false, decide_true, reduceCtorEq, List.length_cons, List.length_nil, Nat.reduceAdd, szs, true_and, flatD, List.all_cons, List.all_nil, Bool.and_self, inF, List.any_cons, List.any_nil, eqF, Bool.or_false, Bool.false_or, Bool.or_true, Bool.true_or, Bool.and_true, Bool.true_and, Bool.and_false, Bool.false_and, Bool.not_true, Bool.not_false]
    refine nx _ _ ?_
    clear nx N1
    have h1 : lvE (foldE e) ≤ 13 := by omega
    have h2 : uE (foldE e) ≤ 1044 := by omega
    refine seqN fun N1 nx => ?_
    simp only [eq_self, ev, ev2, ev3, hds, hdn, acs, pts, ofS_inj, bodyEnds, String.reduceEq, decide_false, decide_true, reduceCtorEq, List.length_cons, List.length_nil, Nat.reduceAdd, szs, true_and, flatD, List.all_cons, List.all_nil, Bool.and_self, inF, List.any_cons, List.any_nil, eqF, Bool.or_false, Bool.false_or, Bool.or_true, Bool.true_or, Bool.and_true, Bool.true_and, Bool.and_false, Bool.false_and, Bool.not_true, Bool.not_false]
    refine nx _ _ ?_
    clear nx N1
    refine seqN2 fun N1 nx => ?_
    have key := fun S8 (p8 : S7 <+: S8) (z : D) (hz : z = (dueIf (foldE e)).d) => nx [some d, some (.ref f), some (.int (j : Int)), some e.d, some (foldE e).d, some (.tup [.tup [.str "tell", e.d, .int 1]]), some (.tup [.tup [.str "throw", (foldE e).d, .int 2]]), some (.tup [.tup [.str "tell", (foldE e).d, .int 1]]), some z, none, none, none] S8
    have key2 : ∀ S8, S7 <+: S8 → N1 [some d, some (.ref f), some (.int (j : Int)), some e.d, some (foldE e).d, some (.tup [.tup [.str "tell", e.d, .int 1]]), some (.tup [.tup [.str "throw", (foldE e).d, .int 2]]), some (.tup [.tup [.str "tell", (foldE e).d, .int 1]]), some (dueIf (foldE e)).d, none, none, none] S8 := by
      intro S8 p8
      refine key S8 p8 _ rfl ?_
      clear key nx N1
      refine seqN fun N1 nx => ?_
      simp only [eq_self, ev, ev2, ev3, hds, hdn, acs, pts, ofS_inj, bodyEnds, String.reduceEq, decide_false, decide_true, reduceCtorEq, List.length_cons, List.length_nil, Nat.reduceAdd, szs, true_and, flatD, List.all_cons, List.all_nil, Bool.and_self, inF, List.any_cons, List.any_nil, eqF, Bool.or_false, Bool.false_or, Bool.or_true, Bool.true_or, Bool.and_true, Bool.true_and, Bool.and_false, Bool.false_and, Bool.not_true, Bool.not_false]
      refine ⟨.if_ e (tell1 e 1) (thr1 (foldE e) 2) 3, ?_, ?_, rfl, fun S9 p9 => ?_⟩
      · simp only [lvS, lvB]; omega
      · refine Nat.lt_of_le_of_lt (show _ ≤ 10000 from ?_) (by decide)
        simp only [uS, uB]; omega
      rw [if_due]
      refine repr_fine (due_if h1 h2) (repr_fine (due_if h1 h2) (one_same ?_))
      simp only [eq_self, ev, ev2, ev3, hds, hdn, acs, pts, ofS_inj, bodyEnds, String.reduceEq, decide_false, decide_true, reduceCtorEq, List.length_cons, List.length_nil, Nat.reduceAdd, szs, true_and, flatD, List.all_cons, List.all_nil, Bool.and_self, inF, List.any_cons, List.any_nil, eqF, Bool.or_false, Bool.false_or, Bool.or_true, Bool.true_or, Bool.and_true, Bool.true_and, Bool.and_false, Bool.false_and, Bool.not_true, Bool.not_false]
      refine nx _ _ ?_
      clear nx N1
      refine seqN fun N1 nx => ?_
      simp only [eq_self, ev, ev2, ev3, hds, hdn, acs, pts, ofS_inj, bodyEnds, String.reduceEq, decide_false, decide_true, reduceCtorEq, List.length_cons, List.length_nil, Nat.reduceAdd, szs, true_and, flatD, List.all_cons, List.all_nil, Bool.and_self, inF, List.any_cons, List.any_nil, eqF, Bool.or_false, Bool.false_or, Bool.or_true, Bool.true_or, Bool.and_true, Bool.true_and, Bool.and_false, Bool.false_and, Bool.not_true, Bool.not_false]
      refine nx _ _ ?_
      clear nx N1
      refine seqN fun N1 nx => ?_
      have key3 : ∀ S10, S9 <+: S10 → N1 [some d, some (.ref f), some (.int (j : Int)), some e.d, some (foldE e).d, some (.tup [.tup [.str "tell", e.d, .int 1]]), some (.tup [.tup [.str "throw", (foldE e).d, .int 2]]), some (.tup [.tup [.str "tell", (foldE e).d, .int 1]]), some (dueRep (foldE e)).d, none, none, none] S10 := by
        intro S10 p10
        refine nx _ _ ?_
        clear nx N1
        simp only [eq_self, ev, ev2, ev3, hds, hdn, acs, pts, ofS_inj, bodyEnds, String.reduceEq, decide_false, decide_true, reduceCtorEq, List.length_cons, List.length_nil, Nat.reduceAdd, szs, true_and, flatD, List.all_cons, List.all_nil, Bool.and_self, inF, List.any_cons, List.any_nil, eqF, Bool.or_false, Bool.false_or, Bool.or_true, Bool.true_or, Bool.and_true, Bool.true_and, Bool.and_false, Bool.false_and, Bool.not_true, Bool.not_false]
        refine ⟨.rep e (tell1 e 1) 4, ?_, ?_, rfl, fun S11 p11 => ?_⟩
        · simp only [lvS, lvB]; omega
        · refine Nat.lt_of_le_of_lt (show _ ≤ 10000 from ?_) (by decide)
          simp only [uS, uB]; omega
        rw [rep_due]
        refine repr_fine (due_rep h1 h2) (repr_fine (due_rep h1 h2) (one_same ?_))
        simp only [eq_self, ev, ev2, ev3, hds, hdn, acs, pts, ofS_inj, bodyEnds, String.reduceEq, decide_false, decide_true, reduceCtorEq, List.length_cons, List.length_nil, Nat.reduceAdd, szs, true_and, flatD, List.all_cons, List.all_nil, Bool.and_self, inF, List.any_cons, List.any_nil, eqF, Bool.or_false, Bool.false_or, Bool.or_true, Bool.true_or, Bool.and_true, Bool.true_and, Bool.and_false, Bool.false_and, Bool.not_true, Bool.not_false]
        exact wd _ _ _ _ _ _ _ _ (p5.trans (p6.trans (p7.trans (p8.trans (p9.trans (p10.trans p11))))))
      clear nx wd fe uf
      generalize foldE e = t at key3 h1 h2 ⊢
      simp only [eq_self, ev, ev2, ev3, hds, hdn, acs, pts, ofS_inj, bodyEnds, String.reduceEq, decide_false, decide_true, reduceCtorEq, List.length_cons, List.length_nil, Nat.reduceAdd, szs, true_and, flatD, List.all_cons, List.all_nil, Bool.and_self, inF, List.any_cons, List.any_nil, eqF, Bool.or_false, Bool.false_or, Bool.or_true, Bool.true_or, Bool.and_true, Bool.true_and, Bool.and_false, Bool.false_and, Bool.not_true, Bool.not_false, Ex.d] at key3 ⊢
      rcases t with n | (_ | _) | _ | n | ⟨h, x, y⟩ | x | ⟨f, x⟩ | x | x <;> simp only [eq_self, ev, ev2, ev3, hds, hdn, acs, pts, ofS_inj, bodyEnds, String.reduceEq, decide_false, decide_true, reduceCtorEq, List.length_cons, List.length_nil, Nat.reduceAdd, szs, true_and, flatD, List.all_cons, List.all_nil, Bool.and_self, inF, List.any_cons, List.any_nil, eqF, Bool.or_false, Bool.false_or, Bool.or_true, Bool.true_or, Bool.and_true, Bool.true_and, Bool.and_false, Bool.false_and, Bool.not_true, Bool.not_false, Ex.l] at key3 ⊢
      case int =>
        refine ⟨by decide, ?_⟩
        by_cases h8 : (n.val : Int) % 8 = 0
        · simp only [dueRep, h8, eq_self, ev, ev2, ev3, hds, hdn, acs, pts, ofS_inj, bodyEnds, String.reduceEq, decide_false, decide_true, reduceCtorEq, List.length_cons, List.length_nil, Nat.reduceAdd, szs, true_and, flatD, List.all_cons, List.all_nil, Bool.and_self, inF, List.any_cons, List.any_nil, eqF, Bool.or_false, Bool.false_or, Bool.or_true, Bool.true_or, Bool.and_true, Bool.true_and, Bool.and_false, Bool.false_and, Bool.not_true, Bool.not_false, if_true, Ex.l] at key3 ⊢
          exact key3 _ pre_refl
        · simp only [dueRep, h8, eq_self, ev, ev2, ev3, hds, hdn, acs, pts, ofS_inj, bodyEnds, String.reduceEq, decide_false, decide_true, reduceCtorEq, List.length_cons, List.length_nil, Nat.reduceAdd, szs, true_and, flatD, List.all_cons, List.all_nil, Bool.and_self, inF, List.any_cons, List.any_nil, eqF, Bool.or_false, Bool.false_or, Bool.or_true, Bool.true_or, Bool.and_true, Bool.true_and, Bool.and_false, Bool.false_and, Bool.not_true, Bool.not_false, if_false, Ex.l] at key3 ⊢
          exact key3 _ pre_refl
      all_goals exact key3 _ pre_refl
    clear key nx wd fe uf
    generalize foldE e = t at key2 h1 h2 ⊢
    simp only [eq_self, ev, ev2, ev3, hds, hdn, acs, pts, ofS_inj, bodyEnds, String.reduceEq, decide_false, decide_true, reduceCtorEq, List.length_cons, List.length_nil, Nat.reduceAdd, szs, true_and, flatD, List.all_cons, List.all_nil, Bool.and_self, inF, List.any_cons, List.any_nil, eqF, Bool.or_false, Bool.false_or, Bool.or_true, Bool.true_or, Bool.and_true, Bool.true_and, Bool.and_false, Bool.false_and, Bool.not_true, Bool.not_false]
    refine eq_bool (a := t) (by omega) (by omega) ?_
    simp only [Ex.d] at key2 ⊢
    rcases t with n | (_ | _) | _ | n | ⟨h, x, y⟩ | x | ⟨f, x⟩ | x | x <;> simp only [eq_self, ev, ev2, ev3, hds, hdn, acs, pts, ofS_inj, bodyEnds, String.reduceEq, decide_false, decide_true, reduceCtorEq, List.length_cons, List.length_nil, Nat.reduceAdd, szs, true_and, flatD, List.all_cons, List.all_nil, Bool.and_self, inF, List.any_cons, List.any_nil, eqF, Bool.or_false, Bool.false_or, Bool.or_true, Bool.true_or, Bool.and_true, Bool.true_and, Bool.and_false, Bool.false_and, Bool.not_true, Bool.not_false, isB]
    case bool.true =>
      refine eq_bool (a := .bool true) (by omega) (by omega) ?_
      simp only [eq_self, ev, ev2, ev3, hds, hdn, acs, pts, ofS_inj, bodyEnds, String.reduceEq, decide_false, decide_true, reduceCtorEq, List.length_cons, List.length_nil, Nat.reduceAdd, szs, true_and, flatD, List.all_cons, List.all_nil, Bool.and_self, inF, List.any_cons, List.any_nil, eqF, Bool.or_false, Bool.false_or, Bool.or_true, Bool.true_or, Bool.and_true, Bool.true_and, Bool.and_false, Bool.false_and, Bool.not_true, Bool.not_false, isB]
      exact key2 _ pre_refl
    case bool.false =>
      refine eq_bool (a := .bool false) (by omega) (by omega) ?_
      simp only [eq_self, ev, ev2, ev3, hds, hdn, acs, pts, ofS_inj, bodyEnds, String.reduceEq, decide_false, decide_true, reduceCtorEq, List.length_cons, List.length_nil, Nat.reduceAdd, szs, true_and, flatD, List.all_cons, List.all_nil, Bool.and_self, inF, List.any_cons, List.any_nil, eqF, Bool.or_false, Bool.false_or, Bool.or_true, Bool.true_or, Bool.and_true, Bool.true_and, Bool.and_false, Bool.false_and, Bool.not_true, Bool.not_false, isB]
      exact key2 _ pre_refl
    case int => refine eq_bool (a := .int _) (by omega) (by omega) ?_; simp only [eq_self, ev, ev2, ev3, hds, hdn, acs, pts, ofS_inj, bodyEnds, String.reduceEq, decide_false, decide_true, reduceCtorEq, List.length_cons, List.length_nil, Nat.reduceAdd, szs, true_and, flatD, List.all_cons, List.all_nil, Bool.and_self, inF, List.any_cons, List.any_nil, eqF, Bool.or_false, Bool.false_or, Bool.or_true, Bool.true_or, Bool.and_true, Bool.true_and, Bool.and_false, Bool.false_and, Bool.not_true, Bool.not_false, isB]; exact key2 _ pre_refl
    case none => refine eq_bool (a := .none) (by omega) (by omega) ?_; simp only [eq_self, ev, ev2, ev3, hds, hdn, acs, pts, ofS_inj, bodyEnds, String.reduceEq, decide_false, decide_true, reduceCtorEq, List.length_cons, List.length_nil, Nat.reduceAdd, szs, true_and, flatD, List.all_cons, List.all_nil, Bool.and_self, inF, List.any_cons, List.any_nil, eqF, Bool.or_false, Bool.false_or, Bool.or_true, Bool.true_or, Bool.and_true, Bool.true_and, Bool.and_false, Bool.false_and, Bool.not_true, Bool.not_false, isB]; exact key2 _ pre_refl
    case var => refine eq_bool (a := .var _) (by omega) (by omega) ?_; simp only [eq_self, ev, ev2, ev3, hds, hdn, acs, pts, ofS_inj, bodyEnds, String.reduceEq, decide_false, decide_true, reduceCtorEq, List.length_cons, List.length_nil, Nat.reduceAdd, szs, true_and, flatD, List.all_cons, List.all_nil, Bool.and_self, inF, List.any_cons, List.any_nil, eqF, Bool.or_false, Bool.false_or, Bool.or_true, Bool.true_or, Bool.and_true, Bool.true_and, Bool.and_false, Bool.false_and, Bool.not_true, Bool.not_false, isB]; exact key2 _ pre_refl
    case two => refine eq_bool (a := .two _ _ _) (by omega) (by omega) ?_; simp only [eq_self, ev, ev2, ev3, hds, hdn, acs, pts, ofS_inj, bodyEnds, String.reduceEq, decide_false, decide_true, reduceCtorEq, List.length_cons, List.length_nil, Nat.reduceAdd, szs, true_and, flatD, List.all_cons, List.all_nil, Bool.and_self, inF, List.any_cons, List.any_nil, eqF, Bool.or_false, Bool.false_or, Bool.or_true, Bool.true_or, Bool.and_true, Bool.true_and, Bool.and_false, Bool.false_and, Bool.not_true, Bool.not_false, isB]; exact key2 _ pre_refl
    case not => refine eq_bool (a := .not _) (by omega) (by omega) ?_; simp only [eq_self, ev, ev2, ev3, hds, hdn, acs, pts, ofS_inj, bodyEnds, String.reduceEq, decide_false, decide_true, reduceCtorEq, List.length_cons, List.length_nil, Nat.reduceAdd, szs, true_and, flatD, List.all_cons, List.all_nil, Bool.and_self, inF, List.any_cons, List.any_nil, eqF, Bool.or_false, Bool.false_or, Bool.or_true, Bool.true_or, Bool.and_true, Bool.true_and, Bool.and_false, Bool.false_and, Bool.not_true, Bool.not_false, isB]; exact key2 _ pre_refl
    case call => refine eq_bool (a := .call _ _) (by omega) (by omega) ?_; simp only [eq_self, ev, ev2, ev3, hds, hdn, acs, pts, ofS_inj, bodyEnds, String.reduceEq, decide_false, decide_true, reduceCtorEq, List.length_cons, List.length_nil, Nat.reduceAdd, szs, true_and, flatD, List.all_cons, List.all_nil, Bool.and_self, inF, List.any_cons, List.any_nil, eqF, Bool.or_false, Bool.false_or, Bool.or_true, Bool.true_or, Bool.and_true, Bool.true_and, Bool.and_false, Bool.false_and, Bool.not_true, Bool.not_false, isB]; exact key2 _ pre_refl
    case ask => refine eq_bool (a := .ask _) (by omega) (by omega) ?_; simp only [eq_self, ev, ev2, ev3, hds, hdn, acs, pts, ofS_inj, bodyEnds, String.reduceEq, decide_false, decide_true, reduceCtorEq, List.length_cons, List.length_nil, Nat.reduceAdd, szs, true_and, flatD, List.all_cons, List.all_nil, Bool.and_self, inF, List.any_cons, List.any_nil, eqF, Bool.or_false, Bool.false_or, Bool.or_true, Bool.true_or, Bool.and_true, Bool.true_and, Bool.and_false, Bool.false_and, Bool.not_true, Bool.not_false, isB]; exact key2 _ pre_refl
    case lam => refine eq_bool (a := .lam _) (by omega) (by omega) ?_; simp only [eq_self, ev, ev2, ev3, hds, hdn, acs, pts, ofS_inj, bodyEnds, String.reduceEq, decide_false, decide_true, reduceCtorEq, List.length_cons, List.length_nil, Nat.reduceAdd, szs, true_and, flatD, List.all_cons, List.all_nil, Bool.and_self, inF, List.any_cons, List.any_nil, eqF, Bool.or_false, Bool.false_or, Bool.or_true, Bool.true_or, Bool.and_true, Bool.true_and, Bool.and_false, Bool.false_and, Bool.not_true, Bool.not_false, isB]; exact key2 _ pre_refl
  · intro ρ S3 w
    obtain ⟨a, x2, x3, x4, x5, x6, x7, x8, sc, f3, ha, rfl⟩ := w
    refine nx _ _ ?_
    clear nx N
    refine seqN fun N nx => ?_
    simp only [eq_self, ev, ev2, ev3, hds, hdn, acs, pts, ofS_inj, bodyEnds, String.reduceEq, decide_false, decide_true, reduceCtorEq, List.length_cons, List.length_nil, Nat.reduceAdd, szs, true_and, flatD, List.all_cons, List.all_nil, Bool.and_self, inF, List.any_cons, List.any_nil, eqF, Bool.or_false, Bool.false_or, Bool.or_true, Bool.true_or, Bool.and_true, Bool.true_and, Bool.and_false, Bool.false_and, Bool.not_true, Bool.not_false]
    refine ⟨d, 1, ns, rfl, sc, fun n2 S4 p4 => ⟨n2, rfl, fun S5 f5 p5 ff5 => rows_mk (d := 3) (by omega) ff5 (by rw [cr3]; omega) fun b a' S6 ub lb ca k6 f6 => nx _ _ ?_⟩⟩
    clear nx N
    rw [rr3] at ub
    have lb' : lvB b ≤ 15 := lb
    clear lb
    have fewb : b.l.length < sizeLine := Nat.lt_of_le_of_lt (Nat.le_trans (Bl.few b) ub) (by decide)
    have sl : ∀ {m : Nat}, m ≤ 800000 → m < sizeLine := fun h => Nat.lt_of_le_of_lt h (by decide)
    -- always_ends against the law's walk
    refine seqN fun N nx => for_mk ?_
    simp only [eq_self, ev, ev2, ev3, hds, hdn, acs, pts, ofS_inj, bodyEnds, String.reduceEq, decide_false, decide_true, reduceCtorEq, List.length_cons, List.length_nil, Nat.reduceAdd, szs, true_and, flatD, List.all_cons, List.all_nil, Bool.and_self, inF, List.any_cons, List.any_nil, eqF, Bool.or_false, Bool.false_or, Bool.or_true, Bool.true_or, Bool.and_true, Bool.true_and, Bool.and_false, Bool.false_and, Bool.not_true, Bool.not_false]
    show must (srcOf S6 (.tup b.l)) _
    simp only [srcOf, ev2]
    refine ⟨fun j ρ S' => S6 <+: S' ∧ ∃ x10, ρ = [some d, some (.ref f), x2, x3, x4, x5, x6, x7, x8, some (.tup b.l), x10, none], ⟨pre_refl, _, rfl⟩, fun _ _ _ _ _ => trivial, ?_, ?_⟩
    · rintro j y ρ S7 hy ⟨p7, x10, rfl⟩
      obtain ⟨s, rfl, _, h4, h5⟩ := Bl.getE b j y hy
      simp only [eq_self, ev, ev2, ev3, hds, hdn, acs, pts, ofS_inj, bodyEnds, String.reduceEq, decide_false, decide_true, reduceCtorEq, List.length_cons, List.length_nil, Nat.reduceAdd, szs, true_and, flatD, List.all_cons, List.all_nil, Bool.and_self, inF, List.any_cons, List.any_nil, eqF, Bool.or_false, Bool.false_or, Bool.or_true, Bool.true_or, Bool.and_true, Bool.true_and, Bool.and_false, Bool.false_and, Bool.not_true, Bool.not_false]
      refine gn_mk (by omega) (sl (by omega)) fun S8 p8 => gn_mk (by omega) (sl (by omega)) fun S9 p9 => ?_
      simp only [eq_self, ev, ev2, ev3, hds, hdn, acs, pts, ofS_inj, bodyEnds, String.reduceEq, decide_false, decide_true, reduceCtorEq, List.length_cons, List.length_nil, Nat.reduceAdd, szs, true_and, flatD, List.all_cons, List.all_nil, Bool.and_self, inF, List.any_cons, List.any_nil, eqF, Bool.or_false, Bool.false_or, Bool.or_true, Bool.true_or, Bool.and_true, Bool.true_and, Bool.and_false, Bool.false_and, Bool.not_true, Bool.not_false]
      exact ⟨p7.trans (p8.trans p9), _, rfl⟩
    rintro ρ S7 ⟨p7, x10, rfl⟩
    refine nx _ _ ?_
    clear nx N
    -- fold(Linked(..))
    have fb := foldB_le b
    have db := deadB_le b false
    refine seqN fun N nx => ?_
    simp only [eq_self, ev, ev2, ev3, hds, hdn, acs, pts, ofS_inj, bodyEnds, String.reduceEq, decide_false, decide_true, reduceCtorEq, List.length_cons, List.length_nil, Nat.reduceAdd, szs, true_and, flatD, List.all_cons, List.all_nil, Bool.and_self, inF, List.any_cons, List.any_nil, eqF, Bool.or_false, Bool.false_or, Bool.or_true, Bool.true_or, Bool.and_true, Bool.true_and, Bool.and_false, Bool.false_and, Bool.not_true, Bool.not_false, aMake]
    refine lc_rows (b := b) (b' := b) (fun Q' h => h) fewb rfl (fun j y hy => ⟨y, hy, fun S8 Q1 p8 q1 => ?_⟩) fun S8 p8 => ?_
    · simp only [eq_self, ev, ev2, ev3, hds, hdn, acs, pts, ofS_inj, bodyEnds, String.reduceEq, decide_false, decide_true, reduceCtorEq, List.length_cons, List.length_nil, Nat.reduceAdd, szs, true_and, flatD, List.all_cons, List.all_nil, Bool.and_self, inF, List.any_cons, List.any_nil, eqF, Bool.or_false, Bool.false_or, Bool.or_true, Bool.true_or, Bool.and_true, Bool.true_and, Bool.and_false, Bool.false_and, Bool.not_true, Bool.not_false, wipeA, List.set_cons_succ, List.set_cons_zero]
      exact q1 _ pre_refl
    refine gi_mk (Q := fun r S2 => GL foldB k [r] S2 (fun x S1 => E x S1) fun z S1 => N [some d, some (.ref f), x2, x3, x4, x5, x6, x7, some z, some (.tup b.l), x10, none] S1) (S1 := S8 ++ [.lst (b.l.map mrow)] ++ [.lst [.tup [.str "a", .int 1]]] ++ [.lst [.tup [.str "let", .str "a", .str "m"]]]) (seq_mono (pre_app.trans pre_app) seq_new) (seq_mono pre_app seq_new) seq_new fun S9 r p9 lk => ?_
    refine ⟨r, b, _, _, rfl, by omega, sl (by omega), lk, fun S10 r2 p10 lk2 => nx _ _ ?_⟩
    clear nx N
    obtain ⟨ok1, dp1, wt1⟩ := rows_fine (foldB b)
    refine seqN fun N nx => ?_
    simp only [eq_self, ev, ev2, ev3, hds, hdn, acs, pts, ofS_inj, bodyEnds, String.reduceEq, decide_false, decide_true, reduceCtorEq, List.length_cons, List.length_nil, Nat.reduceAdd, szs, true_and, flatD, List.all_cons, List.all_nil, Bool.and_self, inF, List.any_cons, List.any_nil, eqF, Bool.or_false, Bool.false_or, Bool.or_true, Bool.true_or, Bool.and_true, Bool.true_and, Bool.and_false, Bool.false_and, Bool.not_true, Bool.not_false]
    refine meth_lk (d := r2) (fun Q' h => h) lk2 nm.2.1 ?_
    simp only [eq_self, ev, ev2, ev3, hds, hdn, acs, pts, ofS_inj, bodyEnds, String.reduceEq, decide_false, decide_true, reduceCtorEq, List.length_cons, List.length_nil, Nat.reduceAdd, szs, true_and, flatD, List.all_cons, List.all_nil, Bool.and_self, inF, List.any_cons, List.any_nil, eqF, Bool.or_false, Bool.false_or, Bool.or_true, Bool.true_or, Bool.and_true, Bool.true_and, Bool.and_false, Bool.false_and, Bool.not_true, Bool.not_false]
    refine ⟨r2, _, _, _, rfl, lk2, fun S11 i p11 hi => repr_list hi ok1 (by omega) (by omega) ?_⟩
    refine lc_rows (b := b) (b' := foldB b) (fun Q' h => h) fewb (Bl.len rfl (fun _ _ => rfl) b) (fun j y hy => ?_) fun S12 p12 => ?_
    · obtain ⟨s, rfl, g3, g4, g5⟩ := Bl.get (F := foldS) (FB := foldB) rfl (fun _ _ => rfl) b j y hy
      refine ⟨_, g3, fun S12 Q1 p12 q1 => ?_⟩
      simp only [eq_self, ev, ev2, ev3, hds, hdn, acs, pts, ofS_inj, bodyEnds, String.reduceEq, decide_false, decide_true, reduceCtorEq, List.length_cons, List.length_nil, Nat.reduceAdd, szs, true_and, flatD, List.all_cons, List.all_nil, Bool.and_self, inF, List.any_cons, List.any_nil, eqF, Bool.or_false, Bool.false_or, Bool.or_true, Bool.true_or, Bool.and_true, Bool.true_and, Bool.and_false, Bool.false_and, Bool.not_true, Bool.not_false, wipeA, List.set_cons_succ, List.set_cons_zero]
      exact gxs_mk (by omega) (by omega) (by omega) q1
    refine repr_list lst_new ok1 (by omega) (by omega) (one_same ?_)
    simp only [eq_self, ev, ev2, ev3, hds, hdn, acs, pts, ofS_inj, bodyEnds, String.reduceEq, decide_false, decide_true, reduceCtorEq, List.length_cons, List.length_nil, Nat.reduceAdd, szs, true_and, flatD, List.all_cons, List.all_nil, Bool.and_self, inF, List.any_cons, List.any_nil, eqF, Bool.or_false, Bool.false_or, Bool.or_true, Bool.true_or, Bool.and_true, Bool.true_and, Bool.and_false, Bool.false_and, Bool.not_true, Bool.not_false]
    refine nx _ _ ?_
    clear nx N
    have lk3 := lk2.mono (p11.trans (p12.trans (pre_app (o := .lst ((foldB b).l.map mrow)))))
    generalize S12 ++ [O.lst ((foldB b).l.map mrow)] = S13 at lk3 ⊢
    -- exports, variables
    refine seqN fun N nx => ?_
    simp only [eq_self, ev, ev2, ev3, hds, hdn, acs, pts, ofS_inj, bodyEnds, String.reduceEq, decide_false, decide_true, reduceCtorEq, List.length_cons, List.length_nil, Nat.reduceAdd, szs, true_and, flatD, List.all_cons, List.all_nil, Bool.and_self, inF, List.any_cons, List.any_nil, eqF, Bool.or_false, Bool.false_or, Bool.or_true, Bool.true_or, Bool.and_true, Bool.true_and, Bool.and_false, Bool.false_and, Bool.not_true, Bool.not_false]
    refine meth_lk (d := r2) (fun Q' h => h) lk3 nm.2.2.1 ?_
    simp only [eq_self, ev, ev2, ev3, hds, hdn, acs, pts, ofS_inj, bodyEnds, String.reduceEq, decide_false, decide_true, reduceCtorEq, List.length_cons, List.length_nil, Nat.reduceAdd, szs, true_and, flatD, List.all_cons, List.all_nil, Bool.and_self, inF, List.any_cons, List.any_nil, eqF, Bool.or_false, Bool.false_or, Bool.or_true, Bool.true_or, Bool.and_true, Bool.true_and, Bool.and_false, Bool.false_and, Bool.not_true, Bool.not_false]
    refine ⟨r2, _, _, _, rfl, lk3, fun S14 i2 p14 hi2 => ne_lists (lst_mono pre_app hi2) lst_new (by decide +kernel) (by decide) (by decide +kernel) ?_⟩
    simp only [eq_self, ev, ev2, ev3, hds, hdn, acs, pts, ofS_inj, bodyEnds, String.reduceEq, decide_false, decide_true, reduceCtorEq, List.length_cons, List.length_nil, Nat.reduceAdd, szs, true_and, flatD, List.all_cons, List.all_nil, Bool.and_self, inF, List.any_cons, List.any_nil, eqF, Bool.or_false, Bool.false_or, Bool.or_true, Bool.true_or, Bool.and_true, Bool.true_and, Bool.and_false, Bool.false_and, Bool.not_true, Bool.not_false]
    refine meth_lk (d := r2) (fun Q' h => h) (lk3.mono (p14.trans (pre_app (o := .lst [.tup [.str "a", .int 1]])))) nm.2.2.2 ?_
    simp only [eq_self, ev, ev2, ev3, hds, hdn, acs, pts, ofS_inj, bodyEnds, String.reduceEq, decide_false, decide_true, reduceCtorEq, List.length_cons, List.length_nil, Nat.reduceAdd, szs, true_and, flatD, List.all_cons, List.all_nil, Bool.and_self, inF, List.any_cons, List.any_nil, eqF, Bool.or_false, Bool.false_or, Bool.or_true, Bool.true_or, Bool.and_true, Bool.true_and, Bool.and_false, Bool.false_and, Bool.not_true, Bool.not_false]
    refine ⟨r2, _, _, _, rfl, lk3.mono (p14.trans pre_app), fun S15 i3 p15 hi3 => ne_lists (lst_mono pre_app hi3) lst_new (by decide +kernel) (by decide) (by decide +kernel) ?_⟩
    simp only [eq_self, ev, ev2, ev3, hds, hdn, acs, pts, ofS_inj, bodyEnds, String.reduceEq, decide_false, decide_true, reduceCtorEq, List.length_cons, List.length_nil, Nat.reduceAdd, szs, true_and, flatD, List.all_cons, List.all_nil, Bool.and_self, inF, List.any_cons, List.any_nil, eqF, Bool.or_false, Bool.false_or, Bool.or_true, Bool.true_or, Bool.and_true, Bool.true_and, Bool.and_false, Bool.false_and, Bool.not_true, Bool.not_false]
    refine nx _ _ ?_
    clear nx N
    -- dead(Linked(..))
    refine seqN fun N nx => ?_
    simp only [eq_self, ev, ev2, ev3, hds, hdn, acs, pts, ofS_inj, bodyEnds, String.reduceEq, decide_false, decide_true, reduceCtorEq, List.length_cons, List.length_nil, Nat.reduceAdd, szs, true_and, flatD, List.all_cons, List.all_nil, Bool.and_self, inF, List.any_cons, List.any_nil, eqF, Bool.or_false, Bool.false_or, Bool.or_true, Bool.true_or, Bool.and_true, Bool.true_and, Bool.and_false, Bool.false_and, Bool.not_true, Bool.not_false, aMake]
    refine gi_mk (Q := fun r S2 => GL mapB k [r] S2 (fun x S1 => E x S1) fun z S1 => N [some d, some (.ref f), x2, x3, x4, x5, x6, x7, some r2, some (.tup b.l), x10, some z] S1) (S1 := S15 ++ [.lst [.tup [.str "let", .str "a", .str "m"]]] ++ [.lst ((Bl.cons (.block b 7) (.cons (.act .thr (.int 1) 8) (.cons (.act .tell (.int 2) 9) .nil))).l.map mrow)] ++ [.lst []] ++ [.lst []]) (seq_mono (pre_app.trans pre_app) seq_new) (seq_mono pre_app seq_new) seq_new fun S16 r3 p16 lk4 => ?_
    refine ⟨r3, _, _, _, rfl, by simp only [lvB, lvS, lvE]; omega, sl (by simp only [uB, uS, uE]; omega), lk4, fun S17 r4 p17 lk5 => nx _ _ ?_⟩
    clear nx N
    simp only [mapB, deadS] at lk5
    refine seqN fun N nx => ?_
    simp only [eq_self, ev, ev2, ev3, hds, hdn, acs, pts, ofS_inj, bodyEnds, String.reduceEq, decide_false, decide_true, reduceCtorEq, List.length_cons, List.length_nil, Nat.reduceAdd, szs, true_and, flatD, List.all_cons, List.all_nil, Bool.and_self, inF, List.any_cons, List.any_nil, eqF, Bool.or_false, Bool.false_or, Bool.or_true, Bool.true_or, Bool.and_true, Bool.true_and, Bool.and_false, Bool.false_and, Bool.not_true, Bool.not_false]
    refine gb_mk (by omega) (sl (by omega)) fun S18 p18 => nx _ _ ?_
    clear nx N
    obtain ⟨ok2, dp2, wt2⟩ := rows_fine (Bl.cons (.block (deadB false b) 7) (.cons (.act .thr (.int 1) 8) (.cons (.act .tell (.int 2) 9) .nil)))
    simp only [lvB, lvS, lvE, uB, uS, uE] at dp2 wt2
    have lk6 := lk5.mono (p18.trans (pre_app (o := .lst ((Bl.cons (.block (deadB false b) 7) (.cons (.act .thr (.int 1) 8) (.cons (.act .tell (.int 2) 9) .nil))).l.map mrow))))
    simp only [eq_self, ev, ev2, ev3, hds, hdn, acs, pts, ofS_inj, bodyEnds, String.reduceEq, decide_false, decide_true, reduceCtorEq, List.length_cons, List.length_nil, Nat.reduceAdd, szs, true_and, flatD, List.all_cons, List.all_nil, Bool.and_self, inF, List.any_cons, List.any_nil, eqF, Bool.or_false, Bool.false_or, Bool.or_true, Bool.true_or, Bool.and_true, Bool.true_and, Bool.and_false, Bool.false_and, Bool.not_true, Bool.not_false]
    refine meth_lk (d := r4) (fun Q' h => h) lk6 nm.2.1 ?_
    simp only [eq_self, ev, ev2, ev3, hds, hdn, acs, pts, ofS_inj, bodyEnds, String.reduceEq, decide_false, decide_true, reduceCtorEq, List.length_cons, List.length_nil, Nat.reduceAdd, szs, true_and, flatD, List.all_cons, List.all_nil, Bool.and_self, inF, List.any_cons, List.any_nil, eqF, Bool.or_false, Bool.false_or, Bool.or_true, Bool.true_or, Bool.and_true, Bool.true_and, Bool.and_false, Bool.false_and, Bool.not_true, Bool.not_false]
    refine ⟨r4, _, _, _, rfl, lk6, fun S19 i5 p19 hi5 => repr_list hi5 ok2 (by omega) (by omega) (repr_list (l := (Bl.cons (.block (deadB false b) 7) (.cons (.act .thr (.int 1) 8) (.cons (.act .tell (.int 2) 9) .nil))).l.map mrow) (lst_mono p19 lst_new) ok2 (by omega) (by omega) ?_)⟩
    simp only [eq_self, ev, ev2, ev3, hds, hdn, acs, pts, ofS_inj, bodyEnds, String.reduceEq, decide_false, decide_true, reduceCtorEq, List.length_cons, List.length_nil, Nat.reduceAdd, szs, true_and, flatD, List.all_cons, List.all_nil, Bool.and_self, inF, List.any_cons, List.any_nil, eqF, Bool.or_false, Bool.false_or, Bool.or_true, Bool.true_or, Bool.and_true, Bool.true_and, Bool.and_false, Bool.false_and, Bool.not_true, Bool.not_false]
    exact q _
end
end Sp
namespace Hd
open PySem PySem.Spec
open PyProof.Rows L2 AL Ab Rw
def fa_0 : List (He.Fa) := [.free "abs", .free "any", .free "int", .free "len", .free "list", .free "range", .free "repr", .free "tuple", .cls "Linked", .noat "Linked" "_exports", .noat "Linked" "_statements", .noat "Linked" "_variables", .glo "fold_two", .glo "fold_expression", .glo "fold_block", .glo "fold_statement", .glo "fold", .glo "dead_expression", .glo "always_ends", .glo "dead_block", .glo "dead_statement", .glo "dead", .meth "Linked" "statements", .meth "Linked" "exports", .meth "Linked" "variables", .meth "Linked" "with_statements", .glo "_law_cell", .glo "_law_numbers", .glo "_law_feed", .glo "_law_take"]
def fa_1 : List (He.Fa) := [.glo "_law_expr", .glo "_law_fold", .glo "_law_fold_b", .glo "_law_fold_s", .glo "_law_ends", .glo "_law_rows", .glo "_law_alive", .glo "_law_alive_row", .glo "_law_alive_e", .glo "law", .glo "Linked", .mkr "Linked"]
def fa : List (He.Fa) := fa_0 ++ fa_1
def fn_0 : List (He.DefD) := [⟨("fold_two", none), "fold_two", "fold_two", defArgs s_fold_two, defBody s_fold_two, defScope s_fold_two, [], []⟩, ⟨("fold_expression", none), "fold_expression", "fold_expression", defArgs s_fold_expression, defBody s_fold_expression, defScope s_fold_expression, [], []⟩, ⟨("fold_block", none), "fold_block", "fold_block", defArgs s_fold_block, defBody s_fold_block, defScope s_fold_block, [], []⟩, ⟨("fold_statement", none), "fold_statement", "fold_statement", defArgs s_fold_statement, defBody s_fold_statement, defScope s_fold_statement, [], []⟩, ⟨("fold", none), "fold", "fold", defArgs s_fold, defBody s_fold, defScope s_fold, [], []⟩, ⟨("dead_expression", none), "dead_expression", "dead_expression", defArgs s_dead_expression, defBody s_dead_expression, defScope s_dead_expression, [], []⟩, ⟨("always_ends", none), "always_ends", "always_ends", defArgs s_always_ends, defBody s_always_ends, defScope s_always_ends, [], []⟩, ⟨("dead_block", none), "dead_block", "dead_block", defArgs s_dead_block, defBody s_dead_block, defScope s_dead_block, [], []⟩, ⟨("dead_statement", none), "dead_statement", "dead_statement", defArgs s_dead_statement, defBody s_dead_statement, defScope s_dead_statement, [], []⟩, ⟨("dead", none), "dead", "dead", defArgs s_dead, defBody s_dead, defScope s_dead, [], []⟩, ⟨("Linked", some "__init__"), "__init__", "Linked.__init__", defArgs s_Linked_init, defBody s_Linked_init, defScope s_Linked_init, [], []⟩, ⟨("Linked", some "statements"), "statements", "Linked.statements", defArgs s_Linked_statements, defBody s_Linked_statements, defScope s_Linked_statements, [], []⟩, ⟨("Linked", some "exports"), "exports", "Linked.exports", defArgs s_Linked_exports, defBody s_Linked_exports, defScope s_Linked_exports, [], []⟩, ⟨("Linked", some "variables"), "variables", "Linked.variables", defArgs s_Linked_variables, defBody s_Linked_variables, defScope s_Linked_variables, [], []⟩, ⟨("Linked", some "with_statements"), "with_statements", "Linked.with_statements", defArgs s_Linked_with_statements, defBody s_Linked_with_statements, defScope s_Linked_with_statements, [], []⟩, ⟨("_law_cell", none), "_law_cell", "_law_cell", defArgs s__law_cell, defBody s__law_cell, defScope s__law_cell, [], []⟩, ⟨("_law_numbers", none), "_law_numbers", "_law_numbers", defArgs s__law_numbers, defBody s__law_numbers, defScope s__law_numbers, [], []⟩, ⟨("_law_feed", none), "_law_feed", "_law_feed", defArgs s__law_feed, defBody s__law_feed, defScope s__law_feed, [], []⟩, ⟨("_law_take", none), "_law_take", "_law_take", defArgs s__law_take, defBody s__law_take, defScope s__law_take, [], []⟩, ⟨("_law_expr", none), "_law_expr", "_law_expr", defArgs s__law_expr, defBody s__law_expr, defScope s__law_expr, [], []⟩, ⟨("_law_fold", none), "_law_fold", "_law_fold", defArgs s__law_fold, defBody s__law_fold, defScope s__law_fold, [], []⟩, ⟨("_law_fold_b", none), "_law_fold_b", "_law_fold_b", defArgs s__law_fold_b, defBody s__law_fold_b, defScope s__law_fold_b, [], []⟩, ⟨("_law_fold_s", none), "_law_fold_s", "_law_fold_s", defArgs s__law_fold_s, defBody s__law_fold_s, defScope s__law_fold_s, [], []⟩, ⟨("_law_ends", none), "_law_ends", "_law_ends", defArgs s__law_ends, defBody s__law_ends, defScope s__law_ends, [], []⟩, ⟨("_law_rows", none), "_law_rows", "_law_rows", defArgs s__law_rows, defBody s__law_rows, defScope s__law_rows, [], []⟩, ⟨("_law_alive", none), "_law_alive", "_law_alive", defArgs s__law_alive, defBody s__law_alive, defScope s__law_alive, [], []⟩, ⟨("_law_alive_row", none), "_law_alive_row", "_law_alive_row", defArgs s__law_alive_row, defBody s__law_alive_row, defScope s__law_alive_row, [], []⟩, ⟨("_law_alive_e", none), "_law_alive_e", "_law_alive_e", defArgs s__law_alive_e, defBody s__law_alive_e, defScope s__law_alive_e, [], []⟩, ⟨("law", none), "law", "law", defArgs s_law, defBody s_law, defScope s_law, [], []⟩]
def fn : List (He.DefD) := fn_0
def cs_0 : List (Str × D) := [("SIZE", C_SIZE), ("TURNS", C_TURNS), ("CONSTANTS", C_CONSTANTS), ("TRUTHS", C_TRUTHS)]
def cs : List (Str × D) := cs_0
theorem facts {K : PySem.W.Frag} {h : Heap} {mg : Str → Option Value} (X : K.In h) (G : h.Ns mainGlobals mg) (c : SaysC fa fn cs K) : Rw.Facts K mg where
  no_abs := He.free_ok X G (c.t.fact 0 rfl)
  no_any := He.free_ok X G (c.t.fact 1 rfl)
  no_int := He.free_ok X G (c.t.fact 2 rfl)
  no_len := He.free_ok X G (c.t.fact 3 rfl)
  no_list := He.free_ok X G (c.t.fact 4 rfl)
  no_range := He.free_ok X G (c.t.fact 5 rfl)
  no_repr := He.free_ok X G (c.t.fact 6 rfl)
  no_tuple := He.free_ok X G (c.t.fact 7 rfl)
  c_SIZE := csB_ok X G c.c 0 rfl
  c_TURNS := csB_ok X G c.c 1 rfl
  c_CONSTANTS := csB_ok X G c.c 2 rfl
  c_TRUTHS := csB_ok X G c.c 3 rfl
  f_Linked__exports := field_ok (c.t.fact 8 rfl) (c.t.fact 9 rfl)
  f_Linked__statements := field_ok (c.t.fact 8 rfl) (c.t.fact 10 rfl)
  f_Linked__variables := field_ok (c.t.fact 8 rfl) (c.t.fact 11 rfl)
  d_fold_two := c.t.def_ 0 rfl
  g_fold_two := He.glo_ok X G (c.t.fact 12 rfl)
  d_fold_expression := c.t.def_ 1 rfl
  g_fold_expression := He.glo_ok X G (c.t.fact 13 rfl)
  d_fold_block := c.t.def_ 2 rfl
  g_fold_block := He.glo_ok X G (c.t.fact 14 rfl)
  d_fold_statement := c.t.def_ 3 rfl
  g_fold_statement := He.glo_ok X G (c.t.fact 15 rfl)
  d_fold := c.t.def_ 4 rfl
  g_fold := He.glo_ok X G (c.t.fact 16 rfl)
  d_dead_expression := c.t.def_ 5 rfl
  g_dead_expression := He.glo_ok X G (c.t.fact 17 rfl)
  d_always_ends := c.t.def_ 6 rfl
  g_always_ends := He.glo_ok X G (c.t.fact 18 rfl)
  d_dead_block := c.t.def_ 7 rfl
  g_dead_block := He.glo_ok X G (c.t.fact 19 rfl)
  d_dead_statement := c.t.def_ 8 rfl
  g_dead_statement := He.glo_ok X G (c.t.fact 20 rfl)
  d_dead := c.t.def_ 9 rfl
  g_dead := He.glo_ok X G (c.t.fact 21 rfl)
  d_Linked_init := c.t.def_ 10 rfl
  d_Linked_statements := c.t.def_ 11 rfl
  m_Linked_statements := He.meth_ok (c.t.fact 22 rfl)
  d_Linked_exports := c.t.def_ 12 rfl
  m_Linked_exports := He.meth_ok (c.t.fact 23 rfl)
  d_Linked_variables := c.t.def_ 13 rfl
  m_Linked_variables := He.meth_ok (c.t.fact 24 rfl)
  d_Linked_with_statements := c.t.def_ 14 rfl
  m_Linked_with_statements := He.meth_ok (c.t.fact 25 rfl)
  d__law_cell := c.t.def_ 15 rfl
  g__law_cell := He.glo_ok X G (c.t.fact 26 rfl)
  d__law_numbers := c.t.def_ 16 rfl
  g__law_numbers := He.glo_ok X G (c.t.fact 27 rfl)
  d__law_feed := c.t.def_ 17 rfl
  g__law_feed := He.glo_ok X G (c.t.fact 28 rfl)
  d__law_take := c.t.def_ 18 rfl
  g__law_take := He.glo_ok X G (c.t.fact 29 rfl)
  d__law_expr := c.t.def_ 19 rfl
  g__law_expr := He.glo_ok X G (c.t.fact 30 rfl)
  d__law_fold := c.t.def_ 20 rfl
  g__law_fold := He.glo_ok X G (c.t.fact 31 rfl)
  d__law_fold_b := c.t.def_ 21 rfl
  g__law_fold_b := He.glo_ok X G (c.t.fact 32 rfl)
  d__law_fold_s := c.t.def_ 22 rfl
  g__law_fold_s := He.glo_ok X G (c.t.fact 33 rfl)
  d__law_ends := c.t.def_ 23 rfl
  g__law_ends := He.glo_ok X G (c.t.fact 34 rfl)
  d__law_rows := c.t.def_ 24 rfl
  g__law_rows := He.glo_ok X G (c.t.fact 35 rfl)
  d__law_alive := c.t.def_ 25 rfl
  g__law_alive := He.glo_ok X G (c.t.fact 36 rfl)
  d__law_alive_row := c.t.def_ 26 rfl
  g__law_alive_row := He.glo_ok X G (c.t.fact 37 rfl)
  d__law_alive_e := c.t.def_ 27 rfl
  g__law_alive_e := He.glo_ok X G (c.t.fact 38 rfl)
  d_law := c.t.def_ 28 rfl
  g_law := He.glo_ok X G (c.t.fact 39 rfl)
  k_Linked := He.cls_ok (c.t.fact 8 rfl)
  mk_Linked := ⟨He.glo_ok X G (c.t.fact 40 rfl), He.mkr_ok (c.t.fact 41 rfl)⟩
def loose_0 : List (PySem.Str) := ["SIZE", "TURNS", "CONSTANTS", "TRUTHS", "fold_two", "fold_expression", "fold_block", "fold_statement", "fold", "dead_expression", "always_ends", "dead_block", "dead_statement", "dead", "Linked", "_law_cell", "_law_numbers", "_law_feed", "_law_take", "_law_expr", "_law_fold", "_law_fold_b", "_law_fold_s", "_law_ends", "_law_rows", "_law_alive", "_law_alive_row", "_law_alive_e"]
def loose : List (PySem.Str) := loose_0
abbrev LW : PySem.W.OpenLaw := PySem.Challenge.rw_fascicle_k21_folded_expressions
abbrev R : PySem.W.OpenRow := PySem.W.OpenLaw.row LW
abbrev hk : PySem.W.Hook := hookC 5 fa fn cs
def ob (s : PySem.W.SharedT) : He.AlD × Bool := obsC 5 fa fn cs (HandSHeadRun.getT s)
theorem ob_eq (s : PySem.W.SharedT) : ob s = hk.obs s.abs := obsC_eq (HandSHeadRun.getT_eq s)
theorem run (w : World) : HandSHeadRun.RunEq R (PySem.W.view R.prog [32]) hk ob 2000 loose w := by
  intro os
  kernel_rfl
end Hd
open PySem PySem.W
open PySem.Calls PyProof.Rows
theorem hd_holds {k : Nat} (room : AL.RG k callerA) (hF : ∀ (w : World) (K : PySem.W.Frag) (mg : PySem.Str → Option Value) (base : Heap), Rw.Facts K mg → AL.FD Hd.LW.prog w K mg base "law" k AL.lawF) : Hd.LW.Holds := by
  w_on; o_law
  refine HandSHeadRun.head_any (r := OpenLaw.row Hd.LW) (q := view (OpenLaw.row Hd.LW).prog [32]) (H := Hd.hk) (ob := Hd.ob) (M := 2000) (loose := Hd.loose) (d := HandSHeadRun.topDef (OpenLaw.row Hd.LW).prog 32) (kwd := []) Hd.ob_eq
    (by kernel_rfl) (fun s => by kernel_rfl) Hd.run (by kernel_rfl) (by kernel_rfl) (by kernel_rfl) (by rfl) (by first | assumption | decide +kernel) (by decide +kernel) ⟨rfl, rfl, rfl, rfl, rfl, by decide +kernel⟩ ?hw ?hc
  case hw => w_witness2
  case hc =>
    refine AL.law_walk (l := Hd.LW) (k := k) rfl (by kernel_rfl) room ?F
    intro w mg fa h Y G hmg0
    obtain ⟨K, KX, c⟩ := Y
    have e : (HandSHeadRun.topDef (OpenLaw.row Hd.LW).prog 32).name = ("law" : PySem.Str) := by kernel_rfl
    rw [e] at hmg0 ⊢
    exact ⟨K, KX, fun base => hF w K mg base (Hd.facts KX G c)⟩
namespace Fi
open PySem PySem.Spec
open PyProof.Rows L2 AL Ab Sp Rw
theorem lvE_ge (e : Ex) : 1 ≤ lvE e := (uE_fold e).2.2.2
theorem lvB_ge (b : Bl) : 1 ≤ lvB b := (foldB_le b).2.2
theorem lvS_ge : ∀ s : Sp.St, 1 ≤ lvS s := fun s => by cases s <;> simp only [lvS] <;> omega
theorem ge0 {f : Ex → Ex} (ds : List D) (S : Sto) (E : XA) (Q : VA) (h : GE f 0 ds S E Q) : False := by
  obtain ⟨e, h1, _⟩ := h
  have := lvE_ge e
  omega
theorem gs0 {f : Sp.St → Sp.St} (ds : List D) (S : Sto) (E : XA) (Q : VA) (h : GS f 0 ds S E Q) : False := by
  obtain ⟨e, h1, _⟩ := h
  have := lvS_ge e
  omega
theorem gb0 {f : Bl → Bl} (ds : List D) (S : Sto) (E : XA) (Q : VA) (h : GB f 0 ds S E Q) : False := by
  obtain ⟨e, h1, _⟩ := h
  have := lvB_ge e
  omega
theorem gx0 {f : Ex → Ex} (ds : List D) (S : Sto) (E : XA) (Q : VA) (h : GX f 0 ds S E Q) : False := by
  obtain ⟨e, h1, _⟩ := h
  have := lvE_ge e
  omega
theorem gxs0 {f : Sp.St → Sp.St} (ds : List D) (S : Sto) (E : XA) (Q : VA) (h : GXS f 0 ds S E Q) : False := by
  obtain ⟨e, h1, _⟩ := h
  have := lvS_ge e
  omega
theorem gxb0 {f : Bl → Bl} (ds : List D) (S : Sto) (E : XA) (Q : VA) (h : GXB f 0 ds S E Q) : False := by
  obtain ⟨e, h1, _⟩ := h
  have := lvB_ge e
  omega
theorem gn0 (ds : List D) (S : Sto) (E : XA) (Q : VA) (h : GN 0 ds S E Q) : False := by
  obtain ⟨e, h1, _⟩ := h
  have := lvS_ge e
  omega
theorem gg0 (ds : List D) (S : Sto) (E : XA) (Q : VA) (h : GGen 0 ds S E Q) : False := by
  obtain ⟨f, d, a, _, h1, _⟩ := h
  omega
theorem gr0 (ds : List D) (S : Sto) (E : XA) (Q : VA) (h : GRows 0 ds S E Q) : False := by
  obtain ⟨f, d, a, _, h1, _⟩ := h
  omega
section
variable {P : Program} {w : World} {K : PySem.W.Frag} {mg : Str → Option Value} {base : Heap} (T : Facts K mg)
include T
theorem l_fold : ∀ k : Nat, FD P w K mg base "fold_expression" (k + 1) (GE foldE k) ∧ FD P w K mg base "fold_block" (k + 1) (GB foldB k) ∧ FD P w K mg base "fold_statement" (k + 1) (GS foldS k)
  | 0 => ⟨(z_fold_expression T).imp ge0, (z_fold_block T).imp gb0, (z_fold_statement T).imp gs0⟩
  | k + 1 => by
    obtain ⟨h1, h2, h3⟩ := l_fold k
    have g2 : FD P w K mg base "fold_two" (k + 1) G2 := ok_fold_two T sp_two
    exact ⟨ok_fold_expression T h2 h1 g2 sp_fexpr, ok_fold_block T h3 sp_fblock, ok_fold_statement T h1 h2 sp_fstat⟩
theorem l_ends : ∀ k : Nat, FD P w K mg base "always_ends" (k + 1) (GN k)
  | 0 => (z_always_ends T).imp gn0
  | k + 1 => ok_always_ends T (l_ends k) sp_ends
theorem l_dead : ∀ k : Nat, FD P w K mg base "dead_expression" (k + 1) (GE (fun e => e) k) ∧ FD P w K mg base "dead_block" (k + 1) (GB (deadB false) k) ∧ FD P w K mg base "dead_statement" (k + 1) (GS deadS k)
  | 0 => ⟨(z_dead_expression T).imp ge0, (z_dead_block T).imp gb0, (z_dead_statement T).imp gs0⟩
  | k + 1 => by
    obtain ⟨h1, h2, h3⟩ := l_dead k
    exact ⟨ok_dead_expression T h2 h1 sp_dexpr, ok_dead_block T h3 (l_ends T k) sp_dblock, ok_dead_statement T h1 h2 sp_dstat⟩
theorem l_lends : ∀ k : Nat, FD P w K mg base "_law_ends" (k + 1) (GN k)
  | 0 => (z__law_ends T).imp gn0
  | k + 1 => ok__law_ends T (l_lends k) sp_lends
theorem l_lfold : ∀ k : Nat, FD P w K mg base "_law_fold" (k + 1) (GX foldE k) ∧ FD P w K mg base "_law_fold_b" (k + 1) (GXB foldB k) ∧ FD P w K mg base "_law_fold_s" (k + 1) (GXS foldS k)
  | 0 => ⟨(z__law_fold T).imp gx0, (z__law_fold_b T).imp gxb0, (z__law_fold_s T).imp gxs0⟩
  | k + 1 => by
    obtain ⟨h1, h2, h3⟩ := l_lfold k
    exact ⟨ok__law_fold T h2 h1 sp_lexpr, ok__law_fold_b T h3 sp_lfb, ok__law_fold_s T h1 h2 sp_lfs⟩
theorem l_alive : ∀ k : Nat, FD P w K mg base "_law_alive_e" (k + 1) (GE (fun e => e) k) ∧ FD P w K mg base "_law_alive" (k + 1) (GB (deadB false) k) ∧ FD P w K mg base "_law_alive_row" (k + 1) (GS deadS k)
  | 0 => ⟨(z__law_alive_e T).imp ge0, (z__law_alive T).imp gb0, (z__law_alive_row T).imp gs0⟩
  | k + 1 => by
    obtain ⟨h1, h2, h3⟩ := l_alive k
    exact ⟨ok__law_alive_e T h2 h1 sp_laexpr, ok__law_alive T h3 (l_lends T k) sp_lalive, ok__law_alive_row T h2 h1 sp_larow⟩
theorem l_gen : ∀ k : Nat, FD P w K mg base "_law_expr" (k + 1) (GGen k)
  | 0 => (z__law_expr T).imp gg0
  | k + 1 => ok__law_expr T ((show FD P w K mg base "_law_take" 1 GTake from ok__law_take T sp_take).mono (by omega)) (l_gen k) sp_gen
theorem l_rows : ∀ k : Nat, FD P w K mg base "_law_rows" (k + 1) (GRows k)
  | 0 => (z__law_rows T).imp gr0
  | k + 1 => ok__law_rows T ((show FD P w K mg base "_law_take" 1 GTake from ok__law_take T sp_take).mono (by omega)) (l_gen T k) (l_rows k) sp_rows
theorem l_law : FD P w K mg base "law" 70 lawF := by
  have ci : CD P w K mg base "Linked" 1 GI := ok_Linked_init T sp_init
  have ci2 : CD P w K mg base "Linked" 64 GI := let ⟨f, fd, ps, o, r⟩ := ci; ⟨f, fd, ps, o.mono (by omega), r⟩
  have mw : MD P w K mg base "Linked" "with_statements" 64 GW := (ok_Linked_with_statements T (show 1 + 1 ≤ 2 by omega) ci sp_with).mono (by omega)
  have ms : ∀ k, MD P w K mg base "Linked" "statements" (k + 1) GSt := fun k => ok_Linked_statements T sp_st
  have hf := l_fold (P := P) (w := w) (base := base) T 62
  have hd := l_dead (P := P) (w := w) (base := base) T 62
  have hl := l_lfold (P := P) (w := w) (base := base) T 62
  have fo : FD P w K mg base "fold" 65 (GL foldB 62) := ok_fold T mw (ms 63) (hf.2.2.mono (by omega)) (sp_over rfl fun _ _ => rfl)
  have de : FD P w K mg base "dead" 65 (GL mapB 62) := ok_dead T mw (ms 63) (hd.2.2.mono (by omega)) (sp_over rfl fun _ _ => rfl)
  refine ok_law T (show 64 + 1 ≤ 69 by omega) ((show FD P w K mg base "_law_cell" 1 GCell from ok__law_cell T sp_cell).mono (by omega)) ((show FD P w K mg base "_law_feed" 2 GFeed from ok__law_feed T (show FD P w K mg base "_law_numbers" 1 GNums from ok__law_numbers T sp_nums) sp_feed).mono (by omega)) ((l_gen T 62).mono (by omega)) (hl.1.mono (by omega)) (hf.1.mono (by omega)) (hf.2.2.mono (by omega)) ((l_rows T 62).mono (by omega))
    ((l_ends T 62).mono (by omega)) ((l_lends T 62).mono (by omega)) ci2 (fo.mono (by omega)) ((ms 0).mono (by omega)) (hl.2.2.mono (by omega)) ((show MD P w K mg base "Linked" "exports" 1 GExp from ok_Linked_exports T sp_exp).mono (by omega)) ((show MD P w K mg base "Linked" "variables" 1 GVar from ok_Linked_variables T sp_var).mono (by omega)) (de.mono (by omega)) ((l_alive T 62).2.1.mono (by omega)) (sp_law (by omega))
end
theorem room70 : RG 70 callerA := ⟨⟨rfl, by decide, by decide⟩, rfl⟩
end Fi
theorem PySem.Challenge.cw_fascicle_k21_folded_expressions_holds : PySem.Challenge.rw_fascicle_k21_folded_expressions.Holds :=
  hd_holds Fi.room70 fun w K mg base T => Fi.l_law T
