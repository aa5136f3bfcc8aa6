import PyProof.Rows.All
import Wide.All
import OpenK.AllK
import Wide.FinOn
import HandS.ForMost
import HandS.Evl
import HandS.Exc
import HandS.ExcOwn
import HandS.WordsExc
import HandS.HeadHook1
import HandS.HeadHook2
import HandS.Style
import HandS.Flow
import HandS.Deep
import HandS.WordsDict
import HandS.StrMore
import HandS.NoneIn
import HandS.Defaults
import HandS.HeadEnd
import HandS.Head0
import HandS.Head1
import HandS.Head2
import HandS.IsInst
import HandS.More
import HandS.Small
import HandS.HeadHook3
import KE.KDictWalk
import PySem.Challenge.RW_fascicle_k02_chains_of_operators
set_option Elab.async false
set_option linter.all false
set_option maxRecDepth 100000
set_option maxHeartbeats 3900000
/-! AL0: plain data D, a store S of mutable objects, and how they stand in HandS's heap. -/
namespace AL
open PySem PySem.Spec
open PyProof.Rows L2

/-- data: tuples are values, a mutable object is a number, a list of the written part (never changed) is a value -/
inductive D where
  | non | bl (b : Bool) | int (i : Int) | str (s : Str) | tup (l : List D) | ref (i : Nat) | kl (l : List D)
/-- a list of the written part -/
def KL (K : PySem.W.Frag) (a : Addr) (xs : List V) : Prop :=
  ∃ (ob : Obj) (us : Array Value) (cap : Nat), K.lookup a = some ob ∧ ob.cls = .type "list" ∧ ob.dict = none ∧ ob.data = .seq us cap ∧ us.size ≤ sizeLine ∧ Vals xs us.toList
instance : Inhabited D := ⟨.non⟩
/-- a mutable object -/
inductive O where
  | lst (l : List D)
  | rol (l : List D)
  | dK (kvs : List (Key × D))
  | ins (c : Str) (fs : List (Str × D))
instance : Inhabited O := ⟨.lst []⟩
abbrev Sto := List O

section
variable (K : PySem.W.Frag) (A : List Addr) (H : Hp)
mutual
inductive Rp : D → V → Prop
  | non : Rp .non .non
  | bl (b : Bool) : Rp (.bl b) (.bl b)
  | int (i : Int) : Rp (.int i) (.int i)
  | str (x : Str) : Rp (.str x) (.str x)
  | ref {i : Nat} {a : Addr} : A[i]? = some a → Rp (.ref i) (.ref a)
  | tup {a : Addr} {vs : List V} {l : List D} : SqT K H a vs → RpL l vs → Rp (.tup l) (.ref a)
  | kl {a : Addr} {vs : List V} {l : List D} : KL K a vs → RpL l vs → Rp (.kl l) (.ref a)
inductive RpL : List D → List V → Prop
  | nil : RpL [] []
  | cons {d : D} {v : V} {l : List D} {vs : List V} : Rp d v → RpL l vs → RpL (d :: l) (v :: vs)
end
def RpK (κ : Type) : List (κ × D) → List (κ × V) → Prop := Paired fun p q => p.1 = q.1 ∧ Rp K A H p.2 q.2
/-- the object o stands at a -/
def OR : O → Addr → Prop
  | .lst l, a => ∃ vs, H a = some (.lst vs) ∧ RpL K A H l vs
  | .rol l, a => ∃ vs, Rd H a (.lst vs) ∧ RpL K A H l vs
  | .dK kvs, a => ∃ ks, H a = some (.dK ks) ∧ RpK K A H Key kvs ks
  | .ins c fs, a => ∃ dx gs, H a = some (.ins (He.ga K c) dx gs) ∧ RpK K A H Str fs gs
structure MtS (S : Sto) : Prop where
  len : S.length = A.length
  nd : A.Nodup
  ok : ∀ (i : Nat) (o : O) (a : Addr), S[i]? = some o → A[i]? = some a → OR K A H o a
end
abbrev Rho := List (Option D)
structure Mt (K : PySem.W.Frag) (A : List Addr) (H : Hp) (ρ : Rho) (σ : L2.St) : Prop where
  len : ρ.length = σ.length
  ok : ∀ (i : Nat) (d : D), ρ[i]? = some (some d) → ∃ v, σ[i]? = some (some v) ∧ Rp K A H d v
/-- what data lean on is kept -/
structure Uw (K : PySem.W.Frag) (A : List Addr) (H : Hp) (A' : List Addr) (H' : Hp) : Prop where
  pre : A <+: A'
  tup : ∀ a vs, SqT K H a vs → SqT K H' a vs
/-- a step of the world -/
structure Up (K : PySem.W.Frag) (A : List Addr) (H : Hp) (A' : List Addr) (H' : Hp) : Prop extends Uw K A H A' H' where
  fr : ∀ b o, H b = some o → b ∉ A → H' b = some o
  new : ∀ b, b ∈ A' → b ∉ A → H b = none

section
variable {K : PySem.W.Frag} {A A' A1 A2 : List Addr} {H H' H1 H2 : Hp} {S S' : Sto} {d : D} {v : V} {l : List D} {vs : List V} {ρ : Rho} {σ : L2.St}
theorem pre_get {α : Type} {l l' : List α} {i : Nat} {x : α} (h : l <+: l') (e : l[i]? = some x) : l'[i]? = some x := by
  obtain ⟨t, rfl⟩ := h
  rw [List.getElem?_append_left (List.getElem?_eq_some_iff.mp e).1]; exact e
theorem Up.refl : Up K A H A H := ⟨⟨List.prefix_refl _, fun _ _ h => h⟩, fun _ _ h _ => h, fun _ h n => absurd h n⟩
theorem Up.trans (u : Up K A H A1 H1) (w : Up K A1 H1 A2 H2) : Up K A H A2 H2 := by
  refine ⟨⟨u.pre.trans w.pre, fun a vs h => w.tup a vs (u.tup a vs h)⟩, fun b o e n => ?_, fun b h n => ?_⟩
  · by_cases m : b ∈ A1
    · have z := u.new b m n
      rw [e] at z; cases z
    · exact w.fr b o (u.fr b o e n) m
  · by_cases m : b ∈ A1
    · exact u.new b m n
    · have z := w.new b h m
      cases e : H b with
      | none => rfl
      | some o =>
        rw [u.fr b o e n] at z; cases z
mutual
theorem Rp.up (u : Uw K A H A' H') : ∀ (d : D) (v : V), Rp K A H d v → Rp K A' H' d v
  | .non, _, h => by cases h; exact .non
  | .bl b, _, h => by cases h; exact .bl b
  | .int i, _, h => by cases h; exact .int i
  | .str x, _, h => by cases h; exact .str x
  | .ref i, _, h => by cases h; rename_i e; exact .ref (pre_get u.pre e)
  | .tup l, _, h => by cases h; rename_i h1 h2; exact .tup (u.tup _ _ h1) (RpL.up u l _ h2)
  | .kl l, _, h => by cases h; rename_i h1 h2; exact .kl h1 (RpL.up u l _ h2)
theorem RpL.up (u : Uw K A H A' H') : ∀ (l : List D) (vs : List V), RpL K A H l vs → RpL K A' H' l vs
  | [], _, h => by cases h; exact .nil
  | d :: l, _, h => by cases h; rename_i h1 h2; exact .cons (Rp.up u d _ h1) (RpL.up u l _ h2)
end
theorem Rp.mono (h : Rp K A H d v) (u : Up K A H A' H') : Rp K A' H' d v := Rp.up u.toUw d v h
theorem Rp.monow (h : Rp K A H d v) (u : Uw K A H A' H') : Rp K A' H' d v := Rp.up u d v h
theorem RpL.mono (h : RpL K A H l vs) (u : Up K A H A' H') : RpL K A' H' l vs := RpL.up u.toUw l vs h
theorem RpL.monow (h : RpL K A H l vs) (u : Uw K A H A' H') : RpL K A' H' l vs := RpL.up u l vs h
theorem RpK.mono {κ : Type} {kvs : List (κ × D)} {ks : List (κ × V)} (h : RpK K A H κ kvs ks) (u : Up K A H A' H') : RpK K A' H' κ kvs ks := Paired.mapP h fun _ _ z => ⟨z.1, z.2.mono u⟩
theorem RpK.monow {κ : Type} {kvs : List (κ × D)} {ks : List (κ × V)} (h : RpK K A H κ kvs ks) (u : Uw K A H A' H') : RpK K A' H' κ kvs ks := Paired.mapP h fun _ _ z => ⟨z.1, z.2.monow u⟩
theorem Mt.mono (h : Mt K A H ρ σ) (u : Up K A H A' H') : Mt K A' H' ρ σ := ⟨h.len, fun i d e => let ⟨v, e1, r⟩ := h.ok i d e; ⟨v, e1, r.mono u⟩⟩
theorem Mt.set {i : Nat} (h : Mt K A H ρ σ) (r : Rp K A H d v) : Mt K A H (ρ.set i (some d)) (σ.set i (some v)) := by
  refine ⟨by simp [h.len], fun j e q => ?_⟩
  by_cases hj : i = j
  · subst hj
    have hl : i < ρ.length := by
      have := (List.getElem?_eq_some_iff.mp q).1
      simpa using this
    rw [List.getElem?_set_self hl] at q
    cases q
    exact ⟨v, List.getElem?_set_self (by rw [← h.len]; exact hl), r⟩
  · rw [List.getElem?_set_ne hj] at q ⊢
    exact h.ok j e q
/-- forgetting a slot -/
theorem Mt.unset {i : Nat} {x : Option V} (h : Mt K A H ρ σ) : Mt K A H (ρ.set i none) (σ.set i x) := by
  refine ⟨by simp [h.len], fun j e q => ?_⟩
  by_cases hj : i = j
  · subst hj
    have hl : i < ρ.length := by
      have := (List.getElem?_eq_some_iff.mp q).1
      simpa using this
    rw [List.getElem?_set_self hl] at q
    cases q
  · rw [List.getElem?_set_ne hj] at q ⊢
    exact h.ok j e q
theorem RpL.length : ∀ {l : List D} {vs : List V}, RpL K A H l vs → l.length = vs.length
  | [], _, h => by cases h; rfl
  | _ :: _, _, h => by cases h; rename_i _ h2; simp [RpL.length h2]
theorem RpL.get : ∀ {l : List D} {vs : List V} {i : Nat} {d : D}, RpL K A H l vs → l[i]? = some d → ∃ v, vs[i]? = some v ∧ Rp K A H d v
  | [], _, _, _, _, e => by simp at e
  | x :: l, _, 0, d, h, e => by
    cases h; rename_i h1 h2
    simp at e; subst e
    exact ⟨_, rfl, h1⟩
  | x :: l, _, i + 1, d, h, e => by
    cases h; rename_i h1 h2
    obtain ⟨v, q, r⟩ := RpL.get (i := i) h2 (by simpa using e)
    exact ⟨v, by simpa using q, r⟩
theorem RpL.back : ∀ {l : List D} {vs : List V} {i : Nat} {v : V}, RpL K A H l vs → vs[i]? = some v → ∃ d, l[i]? = some d ∧ Rp K A H d v
  | [], _, _, _, h, e => by cases h; simp at e
  | x :: l, _, 0, v, h, e => by
    cases h; rename_i h1 h2
    simp at e; subst e
    exact ⟨_, rfl, h1⟩
  | x :: l, _, i + 1, v, h, e => by
    cases h; rename_i h1 h2
    obtain ⟨d, q, r⟩ := RpL.back (i := i) h2 (by simpa using e)
    exact ⟨d, by simpa using q, r⟩
theorem RpL.append : ∀ {l l' : List D} {vs vs' : List V}, RpL K A H l vs → RpL K A H l' vs' → RpL K A H (l ++ l') (vs ++ vs')
  | [], _, _, _, h, h' => by cases h; exact h'
  | _ :: _, _, _, _, h, h' => by cases h; rename_i h1 h2; exact .cons h1 (RpL.append h2 h')
theorem RpL.one (r : Rp K A H d v) : RpL K A H [d] [v] := .cons r .nil
theorem RpL.set : ∀ {l : List D} {vs : List V} {i : Nat}, RpL K A H l vs → Rp K A H d v → RpL K A H (l.set i d) (vs.set i v)
  | [], _, _, h, _ => by cases h; exact .nil
  | _ :: _, _, 0, h, r => by cases h; rename_i h1 h2; exact .cons r h2
  | _ :: _, _, i + 1, h, r => by cases h; rename_i h1 h2; exact .cons h1 (RpL.set h2 r)
theorem RpL.take : ∀ {l : List D} {vs : List V} (n : Nat), RpL K A H l vs → RpL K A H (l.take n) (vs.take n)
  | _, _, 0, _ => by simpa using RpL.nil
  | [], _, _ + 1, h => by cases h; exact .nil
  | _ :: _, _, n + 1, h => by cases h; rename_i h1 h2; exact .cons h1 (RpL.take n h2)
theorem RpL.drop : ∀ {l : List D} {vs : List V} (n : Nat), RpL K A H l vs → RpL K A H (l.drop n) (vs.drop n)
  | _, _, 0, h => by simpa using h
  | [], _, _ + 1, h => by cases h; exact .nil
  | _ :: _, _, n + 1, h => by cases h; rename_i h1 h2; exact RpL.drop n h2

/-- the object of a number -/
theorem MtS.at (m : MtS K A H S) {i : Nat} {o : O} (e : S[i]? = some o) : ∃ a, A[i]? = some a ∧ OR K A H o a := by
  have hi : i < A.length := by rw [← m.len]; exact (List.getElem?_eq_some_iff.mp e).1
  exact ⟨A[i], List.getElem?_eq_getElem hi, m.ok i o _ e (List.getElem?_eq_getElem hi)⟩
theorem OR.some_at {o : O} {a : Addr} (h : OR K A H o a) : ∃ u, H a = some u := by
  cases o with
  | lst l => obtain ⟨_, e, _⟩ := h; exact ⟨_, e⟩
  | rol l =>
    obtain ⟨_, e, _⟩ := h
    rcases e with e | ⟨_, e⟩
    · exact ⟨_, e⟩
    · exact ⟨_, e⟩
  | dK l => obtain ⟨_, e, _⟩ := h; exact ⟨_, e⟩
  | ins c fs => obtain ⟨_, _, e, _⟩ := h; exact ⟨_, e⟩
theorem MtS.some_at (m : MtS K A H S) {a : Addr} (h : a ∈ A) : ∃ u, H a = some u := by
  obtain ⟨i, hi⟩ := List.getElem?_of_mem h
  have hl : i < S.length := by rw [m.len]; exact (List.getElem?_eq_some_iff.mp hi).1
  exact (m.ok i _ a (List.getElem?_eq_getElem hl) hi).some_at
theorem MtS.notin (m : MtS K A H S) {p : Addr} (h : H p = none) : p ∉ A := fun q => by
  obtain ⟨u, e⟩ := m.some_at q
  rw [h] at e; cases e
/-- no number stands at a tuple -/
theorem OR.notup {o : O} {a : Addr} (h : OR K A H o a) {vs : List V} : ¬ H a = some (.tup vs) := fun q => by
  cases o with
  | lst l => obtain ⟨_, e, _⟩ := h; rw [q] at e; cases e
  | rol l =>
    obtain ⟨_, e, _⟩ := h
    rcases e with e | ⟨_, e⟩ <;> (rw [q] at e; cases e)
  | dK l => obtain ⟨_, e, _⟩ := h; rw [q] at e; cases e
  | ins c fs => obtain ⟨_, _, e, _⟩ := h; rw [q] at e; cases e

/-- an object kept where its place and what it names are kept -/
theorem OR.keep {o : O} {a : Addr} (h : OR K A H o a) (e : H' a = H a) (u : Uw K A H A' H') : OR K A' H' o a := by
  cases o with
  | lst l => obtain ⟨vs, q, r⟩ := h; exact ⟨vs, e.trans q, r.monow u⟩
  | rol l =>
    obtain ⟨vs, q, r⟩ := h
    refine ⟨vs, ?_, r.monow u⟩
    rcases q with q | ⟨ob, q⟩
    · exact .inl (e.trans q)
    · exact .inr ⟨ob, e.trans q⟩
  | dK l => obtain ⟨ks, q, r⟩ := h; exact ⟨ks, e.trans q, r.monow u⟩
  | ins c fs => obtain ⟨dx, gs, q, r⟩ := h; exact ⟨dx, gs, e.trans q, r.monow u⟩

/-- something untracked is laid (a tuple, a hidden list): no number -/
theorem Up.lay {p : Addr} {o : HO} (hp : H p = none) : Up K A H A (upd H p o) := by
  have ne : ∀ {b : Addr} {u : HO}, H b = some u → b ≠ p := fun e => ne_of_none e hp
  refine ⟨⟨List.prefix_refl _, fun a vs h => ?_⟩, fun b u e _ => by rw [upd_ne (ne e)]; exact e, fun _ h n => absurd h n⟩
  rcases h with (h | ⟨ob, h⟩) | h
  · exact .inl (.inl (by rw [upd_ne (ne h)]; exact h))
  · exact .inl (.inr ⟨ob, by rw [upd_ne (ne h)]; exact h⟩)
  · exact .inr h
theorem MtS.lay (m : MtS K A H S) {p : Addr} {o : HO} (hp : H p = none) : MtS K A (upd H p o) S := by
  refine ⟨m.len, m.nd, fun i ob a e1 e2 => ?_⟩
  refine (m.ok i ob a e1 e2).keep ?_ (Up.lay hp).toUw
  have hne : a ≠ p := fun z => m.notin hp (z ▸ List.mem_of_getElem? e2)
  exact upd_ne hne
/-- a new number -/
theorem Up.alloc (m : MtS K A H S) {p : Addr} {o : HO} (hp : H p = none) : Up K A H (A ++ [p]) (upd H p o) := by
  have u : Up K A H A (upd H p o) := Up.lay hp
  refine ⟨⟨List.prefix_append _ _, u.tup⟩, u.fr, fun b h n => ?_⟩
  obtain h | h := List.mem_append.mp h
  · exact absurd h n
  · rw [List.mem_singleton.mp h]; exact hp
theorem MtS.alloc (m : MtS K A H S) {p : Addr} {ho : HO} {o : O} (hp : H p = none) (ok : OR K (A ++ [p]) (upd H p ho) o p) : MtS K (A ++ [p]) (upd H p ho) (S ++ [o]) := by
  have u : Up K A H (A ++ [p]) (upd H p ho) := Up.alloc m hp
  have np := m.notin hp
  refine ⟨by simp [m.len], ?_, fun i ob a e1 e2 => ?_⟩
  · rw [List.nodup_append]
    refine ⟨m.nd, by simp, fun x hx y hy z => ?_⟩
    rw [List.mem_singleton.mp hy] at z
    exact np (z ▸ hx)
  · by_cases hi : i < A.length
    · rw [List.getElem?_append_left hi] at e2
      rw [List.getElem?_append_left (by rw [m.len]; exact hi)] at e1
      have hne : a ≠ p := fun z => np (z ▸ List.mem_of_getElem? e2)
      exact (m.ok i ob a e1 e2).keep (upd_ne hne) u.toUw
    · have hi' : i = A.length := by
        have := (List.getElem?_eq_some_iff.mp e2).1
        simp at this; omega
      subst hi'
      rw [List.getElem?_append_right (Nat.le_refl _)] at e2
      rw [List.getElem?_append_right (by rw [m.len]; exact Nat.le_refl _), m.len] at e1
      simp at e1 e2
      subst e1; subst e2
      exact ok
theorem alloc_at {p : Addr} : (A ++ [p])[A.length]? = some p := by simp
/-- a number's object is changed -/
theorem Up.write (m : MtS K A H S) {i : Nat} {a : Addr} {ho : HO} (e : A[i]? = some a) : Up K A H A (upd H a ho) := by
  have hm : a ∈ A := List.mem_of_getElem? e
  have hl : i < S.length := by rw [m.len]; exact (List.getElem?_eq_some_iff.mp e).1
  have ho := m.ok i _ a (List.getElem?_eq_getElem hl) e
  have nofrz : ∀ ob vs, ¬ H a = some (.frz ob (.tup vs)) := fun ob vs q => by
    revert ho
    cases S[i] with
    | lst l => rintro ⟨_, z, _⟩; rw [q] at z; cases z
    | rol l =>
      rintro ⟨_, z, _⟩
      rcases z with z | ⟨_, z⟩
      · rw [q] at z; cases z
      · rw [q] at z; injection z with z; injection z with _ z; cases z
    | dK l => rintro ⟨_, z, _⟩; rw [q] at z; cases z
    | ins c fs => rintro ⟨_, _, z, _⟩; rw [q] at z; cases z
  refine ⟨⟨List.prefix_refl _, fun b vs h => ?_⟩, fun b u q n => ?_, fun _ h n => absurd h n⟩
  · rcases h with (h | ⟨ob, h⟩) | h
    · refine .inl (.inl ?_)
      rw [upd_ne (fun z => by subst z; exact ho.notup h)]; exact h
    · refine .inl (.inr ⟨ob, ?_⟩)
      rw [upd_ne (fun z => by subst z; exact nofrz _ _ h)]; exact h
    · exact .inr h
  · have hne : b ≠ a := fun z => n (z ▸ hm)
    rw [upd_ne hne]; exact q
theorem MtS.write (m : MtS K A H S) {i : Nat} {a : Addr} {ho : HO} {o : O} (e : A[i]? = some a) (ok : OR K A (upd H a ho) o a) : MtS K A (upd H a ho) (S.set i o) := by
  have u : Up K A H A (upd H a ho) := Up.write m e
  refine ⟨by simp [m.len], m.nd, fun j ob b e1 e2 => ?_⟩
  by_cases hj : i = j
  · subst hj
    have hl : i < S.length := by
      have := (List.getElem?_eq_some_iff.mp e1).1
      simpa using this
    rw [List.getElem?_set_self hl] at e1
    rw [e] at e2
    cases e1; cases e2
    exact ok
  · rw [List.getElem?_set_ne hj] at e1
    have hne : b ≠ a := fun z => by
      subst z
      exact hj (nodup_ixA m.nd e e2)
    exact (m.ok j ob b e1 e2).keep (upd_ne hne) u.toUw
where
  nodup_ixA {N : List Addr} (hN : N.Nodup) {i j : Nat} {x : Addr} (a : N[i]? = some x) (b : N[j]? = some x) : i = j := by
    have ha := List.getElem?_eq_some_iff.mp a
    have hb := List.getElem?_eq_some_iff.mp b
    exact (List.getElem_inj hN).mp (ha.2.trans hb.2.symm)
/-- an object that no number stands at is changed -/
theorem Uw.hid {p : Addr} {o : HO} {xs : List V} (e : H p = some (.lst xs)) : Uw K A H A (upd H p o) := by
  refine ⟨List.prefix_refl _, fun a us hh => ?_⟩
  rcases hh with (hh | ⟨ob, hh⟩) | hh
  · exact .inl (.inl (by rw [upd_ne (fun z => by subst z; rw [e] at hh; cases hh)]; exact hh))
  · exact .inl (.inr ⟨ob, by rw [upd_ne (fun z => by subst z; rw [e] at hh; cases hh)]; exact hh⟩)
  · exact .inr hh
theorem MtS.hid (m : MtS K A H S) {p : Addr} {o : HO} {xs : List V} (e : H p = some (.lst xs)) (n : p ∉ A) : MtS K A (upd H p o) S :=
  ⟨m.len, m.nd, fun i ob a e1 e2 => (m.ok i ob a e1 e2).keep (upd_ne fun z => n (z ▸ List.mem_of_getElem? e2)) (Uw.hid e)⟩
/-- a hidden object becomes a number -/
theorem MtS.show (m : MtS K A H S) {p : Addr} {l : List D} {xs : List V} (e : H p = some (.lst xs)) (n : p ∉ A) (r : RpL K A H l xs) : MtS K (A ++ [p]) H (S ++ [.lst l]) := by
  have u : Uw K A H (A ++ [p]) H := ⟨List.prefix_append _ _, fun _ _ h => h⟩
  refine ⟨by simp [m.len], ?_, fun i ob a e1 e2 => ?_⟩
  · rw [List.nodup_append]
    refine ⟨m.nd, by simp, fun x hx y hy z => ?_⟩
    rw [List.mem_singleton.mp hy] at z
    exact n (z ▸ hx)
  · by_cases hi : i < A.length
    · rw [List.getElem?_append_left hi] at e2
      rw [List.getElem?_append_left (by rw [m.len]; exact hi)] at e1
      exact (m.ok i ob a e1 e2).keep rfl u
    · have hi' : i = A.length := by
        have := (List.getElem?_eq_some_iff.mp e2).1
        simp at this; omega
      subst hi'
      rw [List.getElem?_append_right (Nat.le_refl _)] at e2
      rw [List.getElem?_append_right (by rw [m.len]; exact Nat.le_refl _), m.len] at e1
      simp at e1 e2
      subst e1; subst e2
      exact ⟨xs, e, r.monow u⟩
end
end AL
/-! AL1: abstract readings of expressions. -/
namespace AL
open PySem PySem.Spec
open PyProof.Rows L2

/-- an exception: its class's name, its fields -/
structure Exn where
  cls : Str
  fs : List (Str × D)
abbrev VA := D → Sto → Prop
abbrev XA := Exn → Sto → Prop
abbrev ATE := Rho → Sto → XA → VA → Prop
abbrev ATT := Rho → Sto → XA → (Bool → Sto → Prop) → Prop
abbrev ATA := Rho → Sto → XA → (List D → Sto → Prop) → Prop

/-- an exception in the concrete -/
def ExR (K : PySem.W.Frag) (A : List Addr) (H : Hp) (x : Exn) (cls : Value) (d : Option Addr) : Prop :=
  cls = .ref (He.ga K x.cls) ∧ ((x.fs = [] ∧ d = none) ∨ ∃ a gs, d = some a ∧ H a = some (.xd gs) ∧ RpK K A H Str x.fs gs)
section
variable (K : PySem.W.Frag) (A : List Addr) (H : Hp)
def KQ (P : VK) (Q : VA) : Prop := ∀ v H' d A' S', Up K A H A' H' → MtS K A' H' S' → Rp K A' H' d v → Q d S' → P v H'
def KT (P : Bool → Hp → Prop) (Q : Bool → Sto → Prop) : Prop := ∀ b H' A' S', Up K A H A' H' → MtS K A' H' S' → Q b S' → P b H'
def KA (P : List V → Hp → Prop) (Q : List D → Sto → Prop) : Prop := ∀ vs H' ds A' S', Up K A H A' H' → MtS K A' H' S' → RpL K A' H' ds vs → Q ds S' → P vs H'
def KX (W : XK) (E : XA) : Prop := ∀ x cls d H' A' S', Up K A H A' H' → MtS K A' H' S' → ExR K A' H' x cls d → E x S' → W cls d H'
end
section
variable {K : PySem.W.Frag} {A A' : List Addr} {H H' : Hp}
theorem KQ.mono {P : VK} {Q : VA} (k : KQ K A H P Q) (u : Up K A H A' H') : KQ K A' H' P Q := fun v H2 d A2 S2 w m r q => k v H2 d A2 S2 (u.trans w) m r q
theorem KT.mono {P : Bool → Hp → Prop} {Q : Bool → Sto → Prop} (k : KT K A H P Q) (u : Up K A H A' H') : KT K A' H' P Q := fun v H2 A2 S2 w m q => k v H2 A2 S2 (u.trans w) m q
theorem KA.mono {P : List V → Hp → Prop} {Q : List D → Sto → Prop} (k : KA K A H P Q) (u : Up K A H A' H') : KA K A' H' P Q := fun v H2 d A2 S2 w m r q => k v H2 d A2 S2 (u.trans w) m r q
theorem KX.mono {W : XK} {E : XA} (k : KX K A H W E) (u : Up K A H A' H') : KX K A' H' W E := fun x c d H2 A2 S2 w m r q => k x c d H2 A2 S2 (u.trans w) m r q
end
abbrev WE' (W : WX) (σ : L2.St) : XK := fun c d H => W c d σ H
section
variable (K : PySem.W.Frag) (W : WX)
def LE (t : TE) (a : ATE) : Prop := ∀ σ H A ρ S (P : VK) (Q : VA) (E : XA), MtS K A H S → Mt K A H ρ σ → a ρ S E Q → KQ K A H P Q → KX K A H (WE' W σ) E → t σ H P
def LT (t : TT) (a : ATT) : Prop := ∀ σ H A ρ S (P : Bool → Hp → Prop) (Q : Bool → Sto → Prop) (E : XA), MtS K A H S → Mt K A H ρ σ → a ρ S E Q → KT K A H P Q → KX K A H (WE' W σ) E → t σ H P
def LA (t : TA) (a : ATA) : Prop := ∀ σ H A ρ S (P : List V → Hp → Prop) (Q : List D → Sto → Prop) (E : XA), MtS K A H S → Mt K A H ρ σ → a ρ S E Q → KA K A H P Q → KX K A H (WE' W σ) E → t σ H P
end
/-- the judgements -/
def AE (X : Cx) (W : WX) (e : Expr) (a : ATE) : Prop := ∃ t, PE X e t ∧ LE X.K W t a
def AT (X : Cx) (W : WX) (e : Expr) (a : ATT) : Prop := ∃ t, PT X e t ∧ LT X.K W t a
def AW (X : Cx) (W : WX) (e : Expr) (a : ATT) : Prop := ∃ t, PW X e t ∧ LT X.K W t a
def AA (X : Cx) (W : WX) (es : List Expr) (a : ATA) : Prop := ∃ t, PA X es t ∧ LA X.K W t a
theorem AW.at {X : Cx} {W : WX} {e : Expr} {a : ATT} (h : AW X W e a) : AT X W e a := let ⟨t, p, l⟩ := h; ⟨t, p.pt, l⟩

/-! ### names, constants -/
def gt : Rho → Nat → Option D
  | [], _ => none
  | x :: _, 0 => x
  | _ :: r, i + 1 => gt r i
theorem gt_eq : ∀ {ρ : Rho} {i : Nat} {d : D}, gt ρ i = some d → ρ[i]? = some (some d)
  | [], _, _, h => by cases h
  | x :: _, 0, _, h => by
    have h' : x = some _ := h
    simp [h']
  | _ :: r, i + 1, _, h => by simpa using gt_eq (ρ := r) (i := i) h
/-- what must be there -/
def must {α : Type} (o : Option α) (f : α → Prop) : Prop := match o with
  | some x => f x
  | none => False
theorem must_some {α : Type} {x : α} {f : α → Prop} : must (some x) f = f x := rfl
theorem must_none {α : Type} {f : α → Prop} : must none f = False := rfl
theorem of_must {α : Type} {o : Option α} {f : α → Prop} (h : must o f) : ∃ x, o = some x ∧ f x := by
  cases o with
  | none => exact h.elim
  | some x => exact ⟨x, rfl, h⟩
def aVar (i : Nat) : ATE := fun ρ S _ Q => must (gt ρ i) fun d => Q d S
def aC (d : D) : ATE := fun _ S _ Q => Q d S
section
variable {X : Cx} {W : WX} {a b c : Expr} {aa ab ac : ATE} {pos : Pos} {at1 at2 : ATT}
theorem le_var {K : PySem.W.Frag} {i : Nat} : LE K W (tVar i) (aVar i) := fun σ H A ρ S P Q E m mt h kq _ => by
  obtain ⟨d, e, q⟩ := of_must h
  obtain ⟨v, e1, r⟩ := mt.ok i d (gt_eq e)
  exact ⟨v, e1, kq v H d A S Up.refl m r q⟩
theorem av (i : Nat) {x : Str} {pos : Pos} (hN : X.N[i]? = some x := by rfl) (hv : Vis X.env.scope x := by first | exact Or.inl rfl | exact Or.inr (Or.inl rfl) | exact Or.inr (Or.inr rfl)) (hd : (x == ("__debug__" : Str)) = false := by decide)
    (hcd : (x == ("__classdict__" : Str)) = false := by decide) : AE X W (.Name x pos) (aVar i) := ⟨_, pe_var hN hv hd hcd, le_var⟩
theorem le_c {K : PySem.W.Frag} {v : V} {d : D} (r : ∀ A H, Rp K A H d v) : LE K W (tC v) (aC d) := fun σ H A ρ S P Q E m mt h kq _ => kq v H d A S Up.refl m (r A H) h
theorem ae_int {i j pos} : AE X W (.Constant (.int i) j pos) (aC (.int i)) := ⟨_, pe_int, le_c fun _ _ => .int i⟩
theorem ae_bl {b j pos} : AE X W (.Constant (.bool b) j pos) (aC (.bl b)) := ⟨_, pe_bl, le_c fun _ _ => .bl b⟩
theorem ae_non {j pos} : AE X W (.Constant .none j pos) (aC .non) := ⟨_, pe_non, le_c fun _ _ => .non⟩
theorem ae_str {x j pos} : AE X W (.Constant (.str x) j pos) (aC (.str x)) := ⟨_, pe_str, le_c fun _ _ => .str x⟩
/-- a constant of the module -/
def GlD (K : PySem.W.Frag) (mg : Str → Option Value) (x : Str) (d : D) : Prop := ∃ v u, mg x = some u ∧ RelV v u ∧ ∀ A H, Rp K A H d v
theorem ae_glob {x : Str} {d : D} (g : GlD X.K X.mg x d) (hg : Gl X x := by rfl) (hd : (x == ("__debug__" : Str)) = false := by decide) : AE X W (.Name x pos) (aC d) := by
  obtain ⟨v, u, hm, r, h⟩ := g
  exact ⟨_, pe_glob hg hm r hd, le_c h⟩

/-! ### two-place operations -/
abbrev AR2 := D → D → Sto → VA → Prop
def LO (K : PySem.W.Frag) (r' : R2) (r : AR2) : Prop := ∀ x y H A dx dy S (P : VK) (Q : VA), MtS K A H S → Rp K A H dx x → Rp K A H dy y → r dx dy S Q → KQ K A H P Q → r' x y H P
def AOp (X : Cx) (f : Value → Value → Sem Value) (r : AR2) : Prop := ∃ r', OpR X f r' ∧ LO X.K r' r
theorem AOp.or {f : Value → Value → Sem Value} {r1 r2 : AR2} (h1 : AOp X f r1) (h2 : AOp X f r2) : AOp X f (fun x y S Q => r1 x y S Q ∨ r2 x y S Q) := by
  obtain ⟨t1, o1, l1⟩ := h1
  obtain ⟨t2, o2, l2⟩ := h2
  refine ⟨_, o1.or o2, fun x y H A dx dy S P Q m rx ry h k => ?_⟩
  rcases h with h | h
  · exact .inl (l1 x y H A dx dy S P Q m rx ry h k)
  · exact .inr (l2 x y H A dx dy S P Q m rx ry h k)
theorem AOp.imp {f : Value → Value → Sem Value} {r1 r2 : AR2} (h1 : AOp X f r1) (h : ∀ x y S Q, r2 x y S Q → r1 x y S Q) : AOp X f r2 := by
  obtain ⟨t1, o1, l1⟩ := h1
  exact ⟨_, o1, fun x y H A dx dy S P Q m rx ry q k => l1 x y H A dx dy S P Q m rx ry (h _ _ _ _ q) k⟩
def aOp (r : AR2) (a b : ATE) : ATE := fun ρ S E Q => a ρ S E fun x S1 => b ρ S1 E fun y S2 => r x y S2 Q
theorem le_op {K : PySem.W.Frag} {r' : R2} {r : AR2} {ta tb : TE} (lo : LO K r' r) (la : LE K W ta aa) (lb : LE K W tb ab) : LE K W (tOp r' ta tb) (aOp r aa ab) := fun σ H A ρ S P Q E m mt h kq kx =>
  la σ H A ρ S _ _ E m mt h (fun x H1 dx A1 S1 u1 m1 r1 q1 => lb σ H1 A1 ρ S1 _ _ E m1 (mt.mono u1) q1 (fun y H2 dy A2 S2 u2 m2 r2 q2 =>
    lo x y H2 A2 dx dy S2 P Q m2 (r1.mono u2) r2 q2 (kq.mono (u1.trans u2))) (kx.mono u1)) kx
theorem ae_op {op : Operator} {r : AR2} (ho : AOp X (binaryOp op) r) (ha : AE X W a aa) (hb : AE X W b ab) : AE X W (.BinOp a op b pos) (aOp r aa ab) := by
  obtain ⟨r', o, lo⟩ := ho
  obtain ⟨ta, pa, la⟩ := ha
  obtain ⟨tb, pb, lb⟩ := hb
  exact ⟨_, pe_op o pa pb, le_op lo la lb⟩
theorem ae_cmp {op : CmpOp} {r : AR2} (ho : AOp X (compareOp op) r) (ha : AE X W a aa) (hb : AE X W b ab) (hm : behindInMarks op b = false := by first | exact nobehind _ (by decide) (by decide) | rfl) : AE X W (.Compare a [op] [b] pos) (aOp r aa ab) := by
  obtain ⟨r', o, lo⟩ := ho
  obtain ⟨ta, pa, la⟩ := ha
  obtain ⟨tb, pb, lb⟩ := hb
  exact ⟨_, pe_cmpR o pa pb hm, le_op lo la lb⟩
def aChain (r r' : AR2) (a b c : ATE) : ATE := fun ρ S E Q => a ρ S E fun x S1 => b ρ S1 E fun y S2 => r x y S2 fun z S3 => match z with
  | .bl true => c ρ S3 E fun w S4 => r' y w S4 Q
  | .bl false => Q (.bl false) S3
  | _ => False
theorem le_chain {K : PySem.W.Frag} {r1 r1' : R2} {r2 r2' : AR2} {ta tb tc : TE} (lo : LO K r1 r2) (lo' : LO K r1' r2') (la : LE K W ta aa) (lb : LE K W tb ab) (lc : LE K W tc ac) :
    LE K W (tChain r1 r1' ta tb tc) (aChain r2 r2' aa ab ac) := fun σ H A ρ S P Q E m mt h kq kx =>
  la σ H A ρ S _ _ E m mt h (fun x H1 dx A1 S1 u1 m1 x1 q1 => lb σ H1 A1 ρ S1 _ _ E m1 (mt.mono u1) q1 (fun y H2 dy A2 S2 u2 m2 x2 q2 => by
    refine lo x y H2 A2 dx dy S2 _ _ m2 (x1.mono u2) x2 q2 fun z H3 dz A3 S3 u3 m3 x3 q3 => ?_
    have uu := (u1.trans u2).trans u3
    cases dz with
    | bl k =>
      cases x3
      refine ⟨k, rfl, ?_⟩
      cases k with
      | true =>
        show tc σ H3 _
        exact lc σ H3 A3 ρ S3 _ _ E m3 (mt.mono uu) q3 (fun w H4 dw A4 S4 u4 m4 x4 q4 => lo' y w H4 A4 dy dw S4 P Q m4 ((x2.mono u3).mono u4) x4 q4 (kq.mono (uu.trans u4))) (kx.mono uu)
      | false =>
        show P (.bl false) H3
        exact kq _ H3 (.bl false) A3 S3 uu m3 (.bl false) q3
    | _ => exact q3.elim) (kx.mono u1)) kx
theorem ae_chain {op op' : CmpOp} {r r' : AR2} (ho : AOp X (compareOp op) r) (ho' : AOp X (compareOp op') r') (ha : AE X W a aa) (hb : AE X W b ab) (hc : AE X W c ac) (hm : lastMarks [op, op'] [b, c] = false := by rfl) : AE X W (.Compare a [op, op'] [b, c] pos) (aChain r r' aa ab ac) := by
  obtain ⟨r1, o1, l1⟩ := ho
  obtain ⟨r2, o2, l2⟩ := ho'
  obtain ⟨ta, pa, la⟩ := ha
  obtain ⟨tb, pb, lb⟩ := hb
  obtain ⟨tc, pc, lc⟩ := hc
  exact ⟨_, pe_chain o1 o2 pa pb pc hm, le_chain l1 l2 la lb lc⟩

/-! ### tests -/
def aB (a : ATE) : ATT := fun ρ S E Q => a ρ S E fun d S1 => match d with
  | .bl k => Q k S1
  | _ => False
theorem lt_B {K : PySem.W.Frag} {ta : TE} (la : LE K W ta aa) : LT K W (tB ta) (aB aa) := fun σ H A ρ S P Q E m mt h kt kx =>
  la σ H A ρ S _ _ E m mt h (fun x H1 dx A1 S1 u1 m1 r1 q1 => by
    cases dx with
    | bl k => cases r1; exact ⟨k, rfl, kt k H1 A1 S1 u1 m1 q1⟩
    | _ => exact q1.elim) kx
theorem lt_T {K : PySem.W.Frag} {ta : TE} (la : LE K W ta aa) : LT K W (tTest ta) (aB aa) := fun σ H A ρ S P Q E m mt h kt kx =>
  la σ H A ρ S _ _ E m mt h (fun x H1 dx A1 S1 u1 m1 r1 q1 => by
    cases dx with
    | bl k => cases r1; exact ⟨k, rfl, kt k H1 A1 S1 u1 m1 q1⟩
    | _ => exact q1.elim) kx
theorem at_cmp {op : CmpOp} {r : AR2} (ho : AOp X (compareOp op) r) (ha : AE X W a aa) (hb : AE X W b ab) (hm : behindInMarks op b = false := by first | exact nobehind _ (by decide) (by decide) | rfl) : AT X W (.Compare a [op] [b] pos) (aB (aOp r aa ab)) := by
  obtain ⟨r', o, lo⟩ := ho
  obtain ⟨ta, pa, la⟩ := ha
  obtain ⟨tb, pb, lb⟩ := hb
  exact ⟨_, pt_cmpR o pa pb hm, lt_T (le_op lo la lb)⟩
theorem at_chain {op op' : CmpOp} {r r' : AR2} (ho : AOp X (compareOp op) r) (ho' : AOp X (compareOp op') r') (ha : AE X W a aa) (hb : AE X W b ab) (hc : AE X W c ac) (hm : lastMarks [op, op'] [b, c] = false := by rfl) : AT X W (.Compare a [op, op'] [b, c] pos) (aB (aChain r r' aa ab ac)) := by
  obtain ⟨r1, o1, l1⟩ := ho
  obtain ⟨r2, o2, l2⟩ := ho'
  obtain ⟨ta, pa, la⟩ := ha
  obtain ⟨tb, pb, lb⟩ := hb
  obtain ⟨tc, pc, lc⟩ := hc
  exact ⟨_, pt_chain o1 o2 pa pb pc hm, lt_T (le_chain l1 l2 la lb lc)⟩
theorem at_val {e : Expr} (h : AE X W e aa) (he : ∀ whole, isTrue e X.env whole = (do let v ← whole; standAt e.pos; holding [v] (truthy v)) := by intro _; rfl) : AT X W e (aB aa) := by
  obtain ⟨ta, pa, la⟩ := h
  exact ⟨_, pt_val pa he, lt_B la⟩
def aAnd (t u : ATT) : ATT := fun ρ S E Q => t ρ S E fun k S1 => match k with
  | true => u ρ S1 E Q
  | false => Q false S1
def aOr (t u : ATT) : ATT := fun ρ S E Q => t ρ S E fun k S1 => match k with
  | true => Q true S1
  | false => u ρ S1 E Q
def aNot (t : ATT) : ATT := fun ρ S E Q => t ρ S E fun k S1 => Q (!k) S1
theorem lt_and {K : PySem.W.Frag} {t u : TT} (l1 : LT K W t at1) (l2 : LT K W u at2) : LT K W (tAnd t u) (aAnd at1 at2) := fun σ H A ρ S P Q E m mt h kt kx =>
  l1 σ H A ρ S _ _ E m mt h (fun k H1 A1 S1 u1 m1 q1 => by
    cases k with
    | true => exact l2 σ H1 A1 ρ S1 P Q E m1 (mt.mono u1) q1 (kt.mono u1) (kx.mono u1)
    | false => exact kt false H1 A1 S1 u1 m1 q1) kx
theorem lt_or {K : PySem.W.Frag} {t u : TT} (l1 : LT K W t at1) (l2 : LT K W u at2) : LT K W (tOr t u) (aOr at1 at2) := fun σ H A ρ S P Q E m mt h kt kx =>
  l1 σ H A ρ S _ _ E m mt h (fun k H1 A1 S1 u1 m1 q1 => by
    cases k with
    | false => exact l2 σ H1 A1 ρ S1 P Q E m1 (mt.mono u1) q1 (kt.mono u1) (kx.mono u1)
    | true => exact kt true H1 A1 S1 u1 m1 q1) kx
theorem lt_not {K : PySem.W.Frag} {t : TT} (l1 : LT K W t at1) : LT K W (tNot t) (aNot at1) := fun σ H A ρ S P Q E m mt h kt kx =>
  l1 σ H A ρ S _ _ E m mt h (fun k H1 A1 S1 u1 m1 q1 => kt (!k) H1 A1 S1 u1 m1 q1) kx
variable {rest : List Expr}
theorem aw_and1 (h : AT X W a at1) : AW X W (.BoolOp .And [a] pos) at1 := let ⟨t, p, l⟩ := h; ⟨t, pw_and1 p, l⟩
theorem aw_or1 (h : AT X W a at1) : AW X W (.BoolOp .Or [a] pos) at1 := let ⟨t, p, l⟩ := h; ⟨t, pw_or1 p, l⟩
theorem aw_and (h : AT X W a at1) (g : AW X W (.BoolOp .And (b :: rest) pos) at2) : AW X W (.BoolOp .And (a :: b :: rest) pos) (aAnd at1 at2) := let ⟨_, p, l⟩ := h; let ⟨_, q, l'⟩ := g; ⟨_, pw_and p q, lt_and l l'⟩
theorem aw_or (h : AT X W a at1) (g : AW X W (.BoolOp .Or (b :: rest) pos) at2) : AW X W (.BoolOp .Or (a :: b :: rest) pos) (aOr at1 at2) := let ⟨_, p, l⟩ := h; let ⟨_, q, l'⟩ := g; ⟨_, pw_or p q, lt_or l l'⟩
theorem at_not (h : AT X W a at1) : AT X W (.UnaryOp .Not a pos) (aNot at1) := let ⟨_, p, l⟩ := h; ⟨_, pt_not p, lt_not l⟩
/-! .. as values (all but the last True or False) -/
def aAndV (a b : ATE) : ATE := fun ρ S E Q => a ρ S E fun x S1 => match x with
  | .bl true => b ρ S1 E Q
  | .bl false => Q (.bl false) S1
  | _ => False
def aOrV (a b : ATE) : ATE := fun ρ S E Q => a ρ S E fun x S1 => match x with
  | .bl true => Q (.bl true) S1
  | .bl false => b ρ S1 E Q
  | _ => False
def aNotV (a : ATE) : ATE := fun ρ S E Q => a ρ S E fun x S1 => match x with
  | .bl k => Q (.bl (!k)) S1
  | _ => False
theorem ae_one {op} (h : AE X W a aa) : AE X W (.BoolOp op [a] pos) aa := let ⟨_, p, l⟩ := h; ⟨_, pe_one p, l⟩
theorem ae_and (h : AE X W a aa) (g : AE X W (.BoolOp .And (b :: rest) pos) ab) : AE X W (.BoolOp .And (a :: b :: rest) pos) (aAndV aa ab) := by
  obtain ⟨ta, pa, la⟩ := h
  obtain ⟨tb, pb, lb⟩ := g
  refine ⟨_, pe_and pa pb, fun σ H A ρ S P Q E m mt h kq kx => la σ H A ρ S _ _ E m mt h (fun x H1 dx A1 S1 u1 m1 r1 q1 => ?_) kx⟩
  cases dx with
  | bl k =>
    cases r1
    refine ⟨k, rfl, ?_⟩
    cases k with
    | true => exact lb σ H1 A1 ρ S1 P Q E m1 (mt.mono u1) q1 (kq.mono u1) (kx.mono u1)
    | false => exact kq _ H1 _ A1 S1 u1 m1 (.bl false) q1
  | _ => exact q1.elim
theorem ae_or (h : AE X W a aa) (g : AE X W (.BoolOp .Or (b :: rest) pos) ab) : AE X W (.BoolOp .Or (a :: b :: rest) pos) (aOrV aa ab) := by
  obtain ⟨ta, pa, la⟩ := h
  obtain ⟨tb, pb, lb⟩ := g
  refine ⟨_, pe_or pa pb, fun σ H A ρ S P Q E m mt h kq kx => la σ H A ρ S _ _ E m mt h (fun x H1 dx A1 S1 u1 m1 r1 q1 => ?_) kx⟩
  cases dx with
  | bl k =>
    cases r1
    refine ⟨k, rfl, ?_⟩
    cases k with
    | false => exact lb σ H1 A1 ρ S1 P Q E m1 (mt.mono u1) q1 (kq.mono u1) (kx.mono u1)
    | true => exact kq _ H1 _ A1 S1 u1 m1 (.bl true) q1
  | _ => exact q1.elim
theorem ae_not (h : AE X W a aa) : AE X W (.UnaryOp .Not a pos) (aNotV aa) := by
  obtain ⟨ta, pa, la⟩ := h
  refine ⟨_, pe_not pa, fun σ H A ρ S P Q E m mt h kq kx => la σ H A ρ S _ _ E m mt h (fun x H1 dx A1 S1 u1 m1 r1 q1 => ?_) kx⟩
  cases dx with
  | bl k => cases r1; exact ⟨k, rfl, kq _ H1 _ A1 S1 u1 m1 (.bl (!k)) q1⟩
  | _ => exact q1.elim
def aIf (t : ATT) (a b : ATE) : ATE := fun ρ S E Q => t ρ S E fun k S1 => match k with
  | true => a ρ S1 E Q
  | false => b ρ S1 E Q
theorem ae_if {e : Expr} (ht : AT X W e at1) (ha : AE X W a aa) (hb : AE X W b ab) : AE X W (.IfExp e a b pos) (aIf at1 aa ab) := by
  obtain ⟨tt, pt, lt⟩ := ht
  obtain ⟨ta, pa, la⟩ := ha
  obtain ⟨tb, pb, lb⟩ := hb
  refine ⟨_, pe_ifExp pt pa pb, fun σ H A ρ S P Q E m mt h kq kx => lt σ H A ρ S _ _ E m mt h (fun k H1 A1 S1 u1 m1 q1 => ?_) kx⟩
  cases k with
  | true => exact la σ H1 A1 ρ S1 P Q E m1 (mt.mono u1) q1 (kq.mono u1) (kx.mono u1)
  | false => exact lb σ H1 A1 ρ S1 P Q E m1 (mt.mono u1) q1 (kq.mono u1) (kx.mono u1)

/-! ### arguments, displays -/
def aNil : ATA := fun _ S _ Q => Q [] S
def aCons (a : ATE) (t : ATA) : ATA := fun ρ S E Q => a ρ S E fun x S1 => t ρ S1 E fun xs S2 => Q (x :: xs) S2
variable {es : List Expr} {ta' : ATA}
theorem aa_nil : AA X W [] aNil := ⟨_, pa_nil, fun σ H A ρ S P Q E m mt h kq _ => kq [] H [] A S Up.refl m .nil h⟩
theorem aa_cons (ha : AE X W a aa) (hs : AA X W es ta') (he : starEach (a :: es) X.env = (false, eval a X.env) :: starEach es X.env := by rfl) : AA X W (a :: es) (aCons aa ta') := by
  obtain ⟨ta, pa, la⟩ := ha
  obtain ⟨tr, pr, lr⟩ := hs
  exact ⟨_, pa_cons pa pr he, fun σ H A ρ S P Q E m mt h kq kx => la σ H A ρ S _ _ E m mt h (fun x H1 dx A1 S1 u1 m1 r1 q1 =>
    lr σ H1 A1 ρ S1 _ _ E m1 (mt.mono u1) q1 (fun xs H2 ds A2 S2 u2 m2 r2 q2 => kq _ H2 _ A2 S2 (u1.trans u2) m2 (.cons (r1.mono u2) r2) q2) (kx.mono u1)) kx⟩
end
end AL
/-! AL2: displays, operators, subscripts, calls of built-ins, fields. -/
namespace AL
open PySem PySem.Spec
open PyProof.Rows L2
section
variable {X : Cx} {W : WX} {a b c : Expr} {aa ab ac : ATE} {pos : Pos} {es : List Expr} {t' : ATA}

/-! ### displays -/
def aTup (t : ATA) : ATE := fun ρ S E Q => t ρ S E fun ds S1 => ds.length ≤ sizeLine ∧ Q (.tup ds) S1
def aLst (t : ATA) : ATE := fun ρ S E Q => t ρ S E fun ds S1 => ds.length ≤ sizeLine ∧ Q (.ref S1.length) (S1 ++ [.lst ds])
theorem kq_tup {K : PySem.W.Frag} {A : List Addr} {H : Hp} {S : Sto} {P : VK} {Q : VA} {vs : List V} {ds : List D} {p : Addr} (k : KQ K A H P Q) (m : MtS K A H S) (r : RpL K A H ds vs) (q : Q (.tup ds) S) (hp : H p = none) : P (.ref p) (upd H p (.tup vs)) :=
  k _ _ _ A S (Up.lay hp) (m.lay hp) (.tup (SqT.of upd_same) (r.mono (Up.lay hp))) q
theorem kq_lst {K : PySem.W.Frag} {A : List Addr} {H : Hp} {S : Sto} {P : VK} {Q : VA} {vs : List V} {ds : List D} {p : Addr} (k : KQ K A H P Q) (m : MtS K A H S) (r : RpL K A H ds vs) (q : Q (.ref S.length) (S ++ [.lst ds])) (hp : H p = none) : P (.ref p) (upd H p (.lst vs)) :=
  k _ _ _ (A ++ [p]) _ (Up.alloc m hp) (m.alloc (o := .lst ds) hp ⟨vs, upd_same, r.mono (Up.alloc m hp)⟩) (.ref (by rw [m.len]; exact alloc_at)) q
theorem ae_tup {x1} (h : AA X W es t') : AE X W (.Tuple es x1 pos) (aTup t') := by
  obtain ⟨t, p, l⟩ := h
  exact ⟨_, pe_tup p, fun σ H A ρ S P Q E m mt h kq kx => l σ H A ρ S _ _ E m mt h (fun vs H1 ds A1 S1 u1 m1 r1 q1 => ⟨by rw [← r1.length]; exact q1.1, fun p hp => kq_tup (kq.mono u1) m1 r1 q1.2 hp⟩) kx⟩
theorem ae_lst (h : AA X W es t') : AE X W (.List es pos) (aLst t') := by
  obtain ⟨t, p, l⟩ := h
  exact ⟨_, pe_lst p, fun σ H A ρ S P Q E m mt h kq kx => l σ H A ρ S _ _ E m mt h (fun vs H1 ds A1 S1 u1 m1 r1 q1 => ⟨by rw [← r1.length]; exact q1.1, fun p hp => kq_lst (kq.mono u1) m1 r1 q1.2 hp⟩) kx⟩

/-! ### ints and texts by operators -/
def oI (C : Int → Int → Prop) (g : Int → Int → D) : AR2 := fun x y S Q => match x, y with
  | .int i, .int j => C i j ∧ Q (g i j) S
  | _, _ => False
theorem ao_I {f : Value → Value → Sem Value} {C : Int → Int → Prop} {g : Int → Int → V} {g' : Int → Int → D} (h : OpR X f (rI C g)) (hg : ∀ i j A H, Rp X.K A H (g' i j) (g i j)) : AOp X f (oI C g') := by
  refine ⟨_, h, fun x y H A dx dy S P Q m rx ry q k => ?_⟩
  cases rx <;> cases ry <;> first | exact q.elim | skip
  exact ⟨_, _, rfl, rfl, q.1, k _ H _ A S Up.refl m (hg _ _ _ _) q.2⟩
theorem ao_I0 {f : Value → Value → Sem Value} {g : Int → Int → V} {g' : Int → Int → D} (h : OpR X f (rI0 g)) (hg : ∀ i j A H, Rp X.K A H (g' i j) (g i j)) : AOp X f (oI (fun _ _ => True) g') := by
  refine ⟨_, h, fun x y H A dx dy S P Q m rx ry q k => ?_⟩
  cases rx <;> cases ry <;> first | exact q.elim | skip
  exact ⟨_, _, rfl, rfl, k _ H _ A S Up.refl m (hg _ _ _ _) q.2⟩
def oS (C : Str → Str → Prop) (g : Str → Str → D) : AR2 := fun x y S Q => match x, y with
  | .str i, .str j => C i j ∧ Q (g i j) S
  | _, _ => False
theorem ao_S {f : Value → Value → Sem Value} {C : Str → Str → Prop} {g : Str → Str → D} {g' : Str → Str → V} {r : R2} (h : OpR X f r) (hr : ∀ i j H (P : VK), C i j → P (g' i j) H → r (.str i) (.str j) H P) (hg : ∀ i j A H, Rp X.K A H (g i j) (g' i j)) : AOp X f (oS C g) := by
  refine ⟨_, h, fun x y H A dx dy S P Q m rx ry q k => ?_⟩
  cases rx <;> cases ry <;> first | exact q.elim | skip
  exact hr _ _ H P q.1 (k _ H _ A S Up.refl m (hg _ _ _ _) q.2)
/-- the list that stands at a number -/
def lstOf (S : Sto) (i : Nat) : Option (List D) := match S[i]? with
  | some (.lst l) => some l
  | some (.rol l) => some l
  | _ => none
def oCat : AR2 := fun x y S Q => match x, y with
  | .ref i, .ref j => (match S[i]?, S[j]? with
    | some (.lst l), some (.lst n) => l.length + n.length ≤ sizeLine ∧ Q (.ref S.length) (S ++ [.lst (l ++ n)])
    | _, _ => False)
  | _, _ => False
theorem ao_cat : AOp X (binaryOp .Add) oCat := by
  refine ⟨_, op_cat, fun x y H A dx dy S P Q m rx ry q k => ?_⟩
  cases rx <;> cases ry <;> first | exact q.elim | skip
  rename_i i p e1 j p' e2
  simp only [oCat] at q
  split at q
  · rename_i l n h1 h2
    obtain ⟨vs, g1, r1⟩ := m.ok i _ p h1 e1
    obtain ⟨ws, g2, r2⟩ := m.ok j _ p' h2 e2
    refine ⟨p, p', vs, ws, rfl, rfl, g1, g2, by rw [← r1.length, ← r2.length]; exact q.1, fun pp hp => kq_lst k m (r1.append r2) q.2 hp⟩
  · exact q.elim
def oAdd : AR2 := fun x y S Q => match x, y with
  | .int i, .int j => Q (.int (i + j)) S
  | .str s, .str t => s.length + t.length ≤ sizeLine ∧ Q (.str (s ++ t)) S
  | .ref i, .ref j => (match S[i]?, S[j]? with
    | some (.lst l), some (.lst n) => l.length + n.length ≤ sizeLine ∧ Q (.ref S.length) (S ++ [.lst (l ++ n)])
    | _, _ => False)
  | _, _ => False
theorem ao_add : AOp X (binaryOp .Add) oAdd := by
  have h1 : AOp X (binaryOp .Add) (oI (fun _ _ => True) fun i j => .int (i + j)) := ao_I0 op_add fun _ _ _ _ => .int _
  have h2 : AOp X (binaryOp .Add) (oS (fun i j => i.length + j.length ≤ sizeLine) fun i j => .str (i ++ j)) := ao_S (g' := fun i j => .str (i ++ j)) op_add_str (fun i j H P c q => ⟨i, j, rfl, rfl, c, q⟩) fun _ _ _ _ => .str _
  refine (h1.or (h2.or ao_cat)).imp fun x y S Q q => ?_
  cases x <;> cases y <;> first | exact q.elim | skip
  · exact .inl ⟨trivial, q⟩
  · exact .inr (.inl q)
  · exact .inr (.inr q)
def oSub : AR2 := fun x y S Q => match x, y with
  | .int i, .int j => Q (.int (i - j)) S
  | _, _ => False
theorem ao_sub : AOp X (binaryOp .Sub) oSub := (ao_I0 (g' := fun i j => .int (i - j)) op_sub fun _ _ _ _ => .int _).imp fun x y S Q q => by
  cases x <;> cases y <;> first | exact q.elim | exact ⟨trivial, q⟩
def oMul : AR2 := fun x y S Q => match x, y with
  | .int i, .int j => CMul i j ∧ Q (.int (i * j)) S
  | _, _ => False
theorem ao_mul : AOp X (binaryOp .Mult) oMul := (ao_I (g' := fun i j => .int (i * j)) op_mul fun _ _ _ _ => .int _).imp fun x y S Q q => by
  cases x <;> cases y <;> first | exact q.elim | exact q
def oDiv : AR2 := fun x y S Q => match x, y with
  | .int i, .int j => CDiv i j ∧ Q (.int (i / j)) S
  | _, _ => False
theorem ao_div : AOp X (binaryOp .FloorDiv) oDiv := (ao_I (g' := fun i j => .int (i / j)) op_fdiv fun _ _ _ _ => .int _).imp fun x y S Q q => by
  cases x <;> cases y <;> first | exact q.elim | exact q
def oMod : AR2 := fun x y S Q => match x, y with
  | .int i, .int j => 0 < j ∧ Q (.int (i % j)) S
  | _, _ => False
theorem ao_mod : AOp X (binaryOp .Mod) oMod := (ao_I (g' := fun i j => .int (i % j)) op_mod fun _ _ _ _ => .int _).imp fun x y S Q q => by
  cases x <;> cases y <;> first | exact q.elim | exact q
/-! ### order -/
def sLt (s t : Str) : Bool := decide (s.cps.toList < t.cps.toList)
def oLt : AR2 := fun x y S Q => match x, y with
  | .int i, .int j => Q (.bl (decide (i < j))) S
  | .str s, .str t => Q (.bl (sLt s t)) S
  | _, _ => False
def oLe : AR2 := fun x y S Q => match x, y with
  | .int i, .int j => Q (.bl (decide (i ≤ j))) S
  | .str s, .str t => Q (.bl (!sLt t s)) S
  | _, _ => False
def oGt : AR2 := fun x y S Q => match x, y with
  | .int i, .int j => Q (.bl (decide (j < i))) S
  | .str s, .str t => Q (.bl (sLt t s)) S
  | _, _ => False
def oGe : AR2 := fun x y S Q => match x, y with
  | .int i, .int j => Q (.bl (decide (j ≤ i))) S
  | .str s, .str t => Q (.bl (!sLt s t)) S
  | _, _ => False
theorem ao_two {f : Value → Value → Sem Value} {gi : Int → Int → Bool} {gs : Str → Str → Bool} {ri : R2} {rs : R2} (hi : OpR X f ri) (hs : OpR X f rs) (ei : ∀ i j H (P : VK), P (.bl (gi i j)) H → ri (.int i) (.int j) H P) (es : ∀ i j H (P : VK), P (.bl (gs i j)) H → rs (.str i) (.str j) H P) :
    AOp X f (fun x y S Q => match x, y with
      | .int i, .int j => Q (.bl (gi i j)) S
      | .str s, .str t => Q (.bl (gs s t)) S
      | _, _ => False) := by
  refine ⟨_, hi.or hs, fun x y H A dx dy S P Q m rx ry q k => ?_⟩
  cases rx <;> cases ry <;> first | exact q.elim | skip
  · exact .inl (ei _ _ H P (k _ H _ A S Up.refl m (.bl _) q))
  · exact .inr (es _ _ H P (k _ H _ A S Up.refl m (.bl _) q))
theorem ao_lt : AOp X (compareOp .Lt) oLt := (ao_two op_lt op_lt_str (fun i j H P q => ⟨i, j, rfl, rfl, q⟩) (fun i j H P q => ⟨i, j, rfl, rfl, q⟩)).imp fun x y S Q q => by cases x <;> cases y <;> first | exact q.elim | exact q
theorem ao_le : AOp X (compareOp .LtE) oLe := (ao_two op_le op_le_str (fun i j H P q => ⟨i, j, rfl, rfl, q⟩) (fun i j H P q => ⟨i, j, rfl, rfl, q⟩)).imp fun x y S Q q => by cases x <;> cases y <;> first | exact q.elim | exact q
theorem ao_gt : AOp X (compareOp .Gt) oGt := (ao_two op_gt op_gt_str (fun i j H P q => ⟨i, j, rfl, rfl, q⟩) (fun i j H P q => ⟨i, j, rfl, rfl, q⟩)).imp fun x y S Q q => by cases x <;> cases y <;> first | exact q.elim | exact q
theorem ao_ge : AOp X (compareOp .GtE) oGe := (ao_two op_ge op_ge_str (fun i j H P q => ⟨i, j, rfl, rfl, q⟩) (fun i j H P q => ⟨i, j, rfl, rfl, q⟩)).imp fun x y S Q q => by cases x <;> cases y <;> first | exact q.elim | exact q

/-! ### == -/
/-! what is read of data: lists through the store -/
mutual
inductive Py (S : Sto) : D → PyData → Prop
  | non : Py S .non .none
  | bl (b : Bool) : Py S (.bl b) (.bool b)
  | int (i : Int) : Py S (.int i) (.int i)
  | str (x : Str) : Py S (.str x) (.str x)
  | tup {l : List D} {ds : List PyData} : PyL S l ds → Py S (.tup l) (.tuple ds)
  | lst {i : Nat} {l : List D} {ds : List PyData} : lstOf S i = some l → PyL S l ds → Py S (.ref i) (.list ds)
inductive PyL (S : Sto) : List D → List PyData → Prop
  | nil : PyL S [] []
  | cons {d : D} {l : List D} {p : PyData} {ds : List PyData} : Py S d p → PyL S l ds → PyL S (d :: l) (p :: ds)
end
theorem lst_at {K : PySem.W.Frag} {A : List Addr} {H : Hp} {S : Sto} {i : Nat} {l : List D} {a : Addr} (m : MtS K A H S) (e : A[i]? = some a) (h : lstOf S i = some l) : ∃ vs, SqL K H a vs ∧ RpL K A H l vs := by
  unfold lstOf at h
  split at h
  · rename_i l' q
    cases h
    obtain ⟨vs, g, r⟩ := m.ok i _ a q e
    exact ⟨vs, SqL.of g, r⟩
  · rename_i l' q
    cases h
    obtain ⟨vs, g, r⟩ := m.ok i _ a q e
    exact ⟨vs, .inl g, r⟩
  · cases h
mutual
theorem Py.dp {K : PySem.W.Frag} {A : List Addr} {H : Hp} {S : Sto} (m : MtS K A H S) : ∀ (p : PyData) (d : D) (v : V), Py S d p → Rp K A H d v → Dp K H v p
  | .none, _, _, h, r => by cases h; cases r; exact .non
  | .bool b, _, _, h, r => by cases h; cases r; exact .bl b
  | .int i, _, _, h, r => by cases h; cases r; exact .int i
  | .str x, _, _, h, r => by cases h; cases r; exact .str x
  | .tuple ds, _, _, h, r => by
    cases h; rename_i l q
    cases r; rename_i a vs hs rl
    exact .tup hs (PyL.dp m ds l vs q rl)
  | .list ds, _, _, h, r => by
    cases h; rename_i i l e q
    cases r; rename_i a ea
    obtain ⟨vs, hs, rl⟩ := lst_at m ea e
    exact .lst hs (PyL.dp m ds l vs q rl)
  | .dict kvs, _, _, h, _ => by cases h
theorem PyL.dp {K : PySem.W.Frag} {A : List Addr} {H : Hp} {S : Sto} (m : MtS K A H S) : ∀ (ps : List PyData) (l : List D) (vs : List V), PyL S l ps → RpL K A H l vs → DpAll K H vs ps
  | [], _, _, h, r => by cases h; cases r; exact .nil
  | p :: ps, _, _, h, r => by
    cases h; rename_i d l h1 h2
    cases r; rename_i v vs r1 r2
    exact .cons (Py.dp m p d v h1 r1) (PyL.dp m ps l vs h2 r2)
end
/-- == of atoms -/
def eqA : D → D → Option Bool
  | .str x, .str y => some (decide (x = y))
  | .int i, .int j => some (decide (i = j))
  | .bl i, .bl j => some (decide (i = j))
  | .non, .non => some true
  | .non, .int _ => some false
  | .int _, .non => some false
  | .non, .bl _ => some false
  | .bl _, .non => some false
  | .non, .str _ => some false
  | .str _, .non => some false
  | .int _, .str _ => some false
  | .str _, .int _ => some false
  | .bl _, .str _ => some false
  | .str _, .bl _ => some false
  | _, _ => none
theorem eqA_ok {K : PySem.W.Frag} {A : List Addr} {H : Hp} {x y : D} {b : Bool} {v w : V} (h : eqA x y = some b) (rx : Rp K A H x v) (ry : Rp K A H y w) : scal v w = true ∧ decide (v = w) = b := by
  cases rx <;> cases ry <;> simp [eqA] at h <;> subst h <;> first | exact ⟨rfl, rfl⟩ | (refine ⟨rfl, ?_⟩; simp)
/-- == of nested data -/
def eqN (x y : D) (S : Sto) (Q : Bool → Prop) : Prop := ∃ p q, Py S x p ∧ Py S y q ∧ SeqAt.shaped p = true ∧ SeqAt.shaped q = true ∧ Q (PyData.eqv p q)
def oEq : AR2 := fun x y S Q => match eqA x y with
  | some b => Q (.bl b) S
  | none => eqN x y S fun b => Q (.bl b) S
def oNe : AR2 := fun x y S Q => match eqA x y with
  | some b => Q (.bl (!b)) S
  | none => eqN x y S fun b => Q (.bl (!b)) S
theorem ao_eq (hu : X.A.units + 64 < cLine) : AOp X (compareOp .Eq) oEq := by
  refine ⟨_, op_eq.or (op_eqD hu), fun x y H A dx dy S P Q m rx ry q k => ?_⟩
  unfold oEq at q
  split at q
  · rename_i b h
    obtain ⟨h1, h2⟩ := eqA_ok h rx ry
    exact .inl ⟨h1, by rw [h2]; exact k _ H _ A S Up.refl m (.bl _) q⟩
  · obtain ⟨p, p', h1, h2, s1, s2, q⟩ := q
    exact .inr ⟨p, p', Py.dp m p dx x h1 rx, Py.dp m p' dy y h2 ry, s1, s2, k _ H _ A S Up.refl m (.bl _) q⟩
theorem ao_ne (hu : X.A.units + 64 < cLine) : AOp X (compareOp .NotEq) oNe := by
  refine ⟨_, op_ne.or (op_neD hu), fun x y H A dx dy S P Q m rx ry q k => ?_⟩
  unfold oNe at q
  split at q
  · rename_i b h
    obtain ⟨h1, h2⟩ := eqA_ok h rx ry
    exact .inl ⟨h1, by rw [h2]; exact k _ H _ A S Up.refl m (.bl _) q⟩
  · obtain ⟨p, p', h1, h2, s1, s2, q⟩ := q
    exact .inr ⟨p, p', Py.dp m p dx x h1 rx, Py.dp m p' dy y h2 ry, s1, s2, k _ H _ A S Up.refl m (.bl _) q⟩
/-! ### is -/
def isNon : D → Bool
  | .non => true
  | _ => false
def oIs : AR2 := fun x y S Q => match y with
  | .non => Q (.bl (isNon x)) S
  | .bl b => (match x with
    | .bl k => Q (.bl (decide (k = b))) S
    | _ => False)
  | _ => False
def oIsNot : AR2 := fun x y S Q => match y with
  | .non => Q (.bl (!isNon x)) S
  | .bl b => (match x with
    | .bl k => Q (.bl (!decide (k = b))) S
    | _ => False)
  | _ => False
theorem isNon_ok {K : PySem.W.Frag} {A : List Addr} {H : Hp} {x : D} {v : V} (r : Rp K A H x v) : decide (v = V.non) = isNon x := by
  cases r <;> simp [isNon]
theorem ao_is : AOp X (compareOp .Is) oIs := by
  refine ⟨_, op_isN.or op_isBl, fun x y H A dx dy S P Q m rx ry q k => ?_⟩
  cases ry <;> first | exact q.elim | skip
  · exact .inl ⟨rfl, by rw [isNon_ok rx]; exact k _ H _ A S Up.refl m (.bl _) q⟩
  · cases rx <;> first | exact q.elim | skip
    exact .inr ⟨_, _, rfl, rfl, k _ H _ A S Up.refl m (.bl _) q⟩
theorem ao_isnot : AOp X (compareOp .IsNot) oIsNot := by
  refine ⟨_, op_notN.or op_notBl, fun x y H A dx dy S P Q m rx ry q k => ?_⟩
  cases ry <;> first | exact q.elim | skip
  · exact .inl ⟨rfl, by rw [isNon_ok rx]; exact k _ H _ A S Up.refl m (.bl _) q⟩
  · cases rx <;> first | exact q.elim | skip
    exact .inr ⟨_, _, rfl, rfl, k _ H _ A S Up.refl m (.bl _) q⟩
/-! ### in -/
def flatD : D → Bool
  | .non => true
  | .bl _ => true
  | .int _ => true
  | .str _ => true
  | _ => false
def eqF : D → D → Bool
  | .non, .non => true
  | .bl a, .bl b => a == b
  | .bl k, .int i => (if k then 1 else 0) == i
  | .int i, .bl k => i == (if k then 1 else 0)
  | .int a, .int b => a == b
  | .str a, .str b => decide (a = b)
  | _, _ => false
def inF (x : D) (l : List D) : Bool := l.any fun y => eqF y x
theorem flat_ok {K : PySem.W.Frag} {A : List Addr} {H : Hp} {x : D} {v : V} (r : Rp K A H x v) : flatV v = flatD x := by
  cases r <;> rfl
theorem flats_ok {K : PySem.W.Frag} {A : List Addr} {H : Hp} : ∀ {l : List D} {vs : List V}, RpL K A H l vs → vs.all flatV = l.all flatD
  | [], _, h => by cases h; rfl
  | d :: l, _, h => by cases h; rename_i h1 h2; simp [flat_ok h1, flats_ok h2]
theorem eqF_ok {K : PySem.W.Frag} {A : List Addr} {H : Hp} {x y : D} {v w : V} (rx : Rp K A H x v) (ry : Rp K A H y w) (fx : flatD x = true) : eqV v w = eqF x y := by
  cases rx <;> cases ry <;> simp [flatD] at fx <;> first | rfl | (simp [eqV, eqF]; try exact Bool.beq_eq_decide_eq _ _)
theorem inF_ok {K : PySem.W.Frag} {A : List Addr} {H : Hp} {x : D} {v : V} (rx : Rp K A H x v) : ∀ {l : List D} {vs : List V}, RpL K A H l vs → l.all flatD = true → inV v vs = inF x l
  | [], _, h, _ => by cases h; rfl
  | d :: l, _, h, f => by
    cases h; rename_i h1 h2
    simp only [List.all_cons, Bool.and_eq_true] at f
    have ih := inF_ok rx h2 f.2
    unfold inV inF at ih ⊢
    simp only [List.any_cons, eqF_ok h1 rx f.1, ih]
def seqOf (S : Sto) : D → Option (List D)
  | .tup l => some l
  | .kl l => some l
  | .ref i => lstOf S i
  | _ => none
/-- x in s: a flat thing in flat things | data in a list of data -/
def oInB (neg : Bool) : AR2 := fun x y S Q => must (seqOf S y) fun l => (flatD x && l.all flatD) = true ∧ Q (.bl (if neg then !inF x l else inF x l)) S
theorem seq_at {K : PySem.W.Frag} {A : List Addr} {H : Hp} {S : Sto} {d : D} {l : List D} {v : V} (m : MtS K A H S) (r : Rp K A H d v) (h : seqOf S d = some l) : ∃ a vs, v = .ref a ∧ (SqL K H a vs ∨ SqT K H a vs) ∧ RpL K A H l vs := by
  cases r <;> simp [seqOf] at h
  · rename_i i a e
    obtain ⟨vs, hs, rl⟩ := lst_at m e h
    exact ⟨a, vs, rfl, .inl hs, rl⟩
  · rename_i a vs l' hs rl
    subst h
    exact ⟨a, vs, rfl, .inr hs, rl⟩
  · rename_i a vs l' hs rl
    subst h
    exact ⟨a, vs, rfl, .inl (.inr hs), rl⟩
theorem ao_inB : AOp X (compareOp .In) (oInB false) := by
  refine ⟨_, op_in_seq, fun x y H A dx dy S P Q m rx ry q k => ?_⟩
  obtain ⟨l, e, f, q⟩ := of_must q
  obtain ⟨a, vs, rfl, hs, rl⟩ := seq_at m ry e
  simp only [Bool.and_eq_true] at f
  exact ⟨a, vs, rfl, hs, (flat_ok rx).trans f.1, (flats_ok rl).trans f.2, by rw [inF_ok rx rl f.2]; exact k _ H _ A S Up.refl m (.bl _) q⟩
theorem ao_notinB : AOp X (compareOp .NotIn) (oInB true) := by
  refine ⟨_, op_notIn_seq, fun x y H A dx dy S P Q m rx ry q k => ?_⟩
  obtain ⟨l, e, f, q⟩ := of_must q
  obtain ⟨a, vs, rfl, hs, rl⟩ := seq_at m ry e
  simp only [Bool.and_eq_true] at f
  exact ⟨a, vs, rfl, hs, (flat_ok rx).trans f.1, (flats_ok rl).trans f.2, by rw [inF_ok rx rl f.2]; exact k _ H _ A S Up.refl m (.bl _) q⟩
end
end AL
/-! AL3: subscripts, slices, calls of built-ins and of defs, fields, dicts. -/
namespace AL
open PySem PySem.Spec
open PyProof.Rows L2
theorem PE.or {X : Cx} {e : Expr} {t u : TE} (h : PE X e t) (g : PE X e u) : PE X e (fun σ H Q => t σ H Q ∨ u σ H Q) :=
  ⟨fun pins s σ H Q I q => q.elim (h.run pins s σ H Q I) (g.run pins s σ H Q I)⟩
theorem PT.or {X : Cx} {e : Expr} {t u : TT} (h : PT X e t) (g : PT X e u) : PT X e (fun σ H Q => t σ H Q ∨ u σ H Q) :=
  ⟨fun pins s σ H Q I q => q.elim (h.run pins s σ H Q I) (g.run pins s σ H Q I)⟩
section
variable {X : Cx} {W : WX} {a b c : Expr} {aa ab ac : ATE} {pos : Pos} {es : List Expr} {t' : ATA}
/-! ### subscripts -/
def at' {α : Type} (l : List α) (i : Int) : Option α := if 0 ≤ i then l[i.toNat]? else if -(l.length : Int) ≤ i then l[(i + l.length).toNat]? else none
theorem at_ok {α : Type} {l : List α} {i : Int} {d : α} (h : at' l i = some d) : ∃ j, ixN l.length i = some j ∧ l[j]? = some d := by
  unfold at' at h
  split at h
  · rename_i h0
    have hl := (List.getElem?_eq_some_iff.mp h).1
    refine ⟨i.toNat, ?_, h⟩
    unfold ixN
    rw [if_pos h0, if_pos (by omega)]
  · rename_i h0
    split at h
    · rename_i h1
      refine ⟨(i + l.length).toNat, ?_, h⟩
      unfold ixN
      rw [if_neg h0, if_pos h1]
    · cases h
theorem at_vs {K : PySem.W.Frag} {A : List Addr} {H : Hp} {l : List D} {vs : List V} {i : Int} {d : D} (r : RpL K A H l vs) (h : at' l i = some d) : ∃ v, atI vs i = some v ∧ Rp K A H d v := by
  obtain ⟨j, e, g⟩ := at_ok h
  obtain ⟨v, e2, rv⟩ := r.get g
  refine ⟨v, ?_, rv⟩
  unfold atI
  rw [← r.length, e]
  exact e2
def keyD : D → Option Key
  | .int i => some (.inl i)
  | .str x => some (.inr x)
  | _ => none
theorem key_ok {K : PySem.W.Frag} {A : List Addr} {H : Hp} {d : D} {k : Key} {v : V} (h : keyD d = some k) (r : Rp K A H d v) : v = kV k := by
  cases r <;> simp [keyD] at h <;> subst h <;> rfl
def valD {κ : Type} [DecidableEq κ] (kvs : List (κ × D)) (k : κ) : Option D := match kvs with
  | [] => none
  | (q, d) :: r => if q = k then some d else valD r k
theorem valV_cons {κ : Type} [DecidableEq κ] (q : κ) (v : V) (r : List (κ × V)) (k : κ) : valV ((q, v) :: r) k = if q = k then some v else valV r k := by
  unfold valV
  by_cases h : q = k
  · simp [h]
  · simp [h]
theorem val_ok {K : PySem.W.Frag} {A : List Addr} {H : Hp} {κ : Type} [DecidableEq κ] {kvs : List (κ × D)} {ks : List (κ × V)} (r : RpK K A H κ kvs ks) (k : κ) :
    (valD kvs k = none ∧ valV ks k = none) ∨ ∃ d v, valD kvs k = some d ∧ valV ks k = some v ∧ Rp K A H d v := by
  induction r with
  | nil => exact Or.inl ⟨rfl, rfl⟩
  | cons h1 h2 ih =>
    rename_i p q l1 l2
    obtain ⟨p1, p2⟩ := p
    obtain ⟨q1, q2⟩ := q
    obtain ⟨e, rp⟩ := h1
    dsimp only at e rp
    subst e
    rw [valV_cons]
    show ((if p1 = k then some p2 else valD l1 k) = none ∧ _) ∨ ∃ d v, (if p1 = k then some p2 else valD l1 k) = some d ∧ _
    by_cases h : p1 = k
    · rw [if_pos h, if_pos h]; exact .inr ⟨_, _, rfl, rfl, rp⟩
    · rw [if_neg h, if_neg h]; exact ih
def getIx (x y : D) (S : Sto) (Q : VA) : Prop := match x, y with
  | .tup l, .int i => must (at' l i) fun d => Q d S
  | .kl l, .int i => must (at' l i) fun d => Q d S
  | .str s, .int i => s.length ≤ sizeLine ∧ must (at' s.cps.toList i) fun c => Q (.str ⟨#[c]⟩) S
  | .ref k, y => (match S[k]? with
    | some (.lst l) => (match y with
      | .int i => must (at' l i) fun d => Q d S
      | _ => False)
    | some (.rol l) => (match y with
      | .int i => must (at' l i) fun d => Q d S
      | _ => False)
    | some (.dK kvs) => must (keyD y) fun k => must (valD kvs k) fun d => Q d S
    | _ => False)
  | _, _ => False
def aIx (a b : ATE) : ATE := fun ρ S E Q => a ρ S E fun x S1 => b ρ S1 E fun y S2 => getIx x y S2 Q
def rIxD : R2 := fun x y H Q => ∃ a v, x = .ref a ∧ DGet H a y (some v) ∧ Q v H
theorem ix_dict (hu : X.A.units + 1 < cLine) : IxR X rIxD := by
  intro whole part pins s σ H x y v u Q I rx ry h hs
  obtain ⟨a, z, rfl, g, q⟩ := h
  cases rx
  have hT := dict_typeIs I g
  unfold subscriptTail
  refine wpAny_bind ?_
  rw [getitemInPython_of_ne (dict_typeIs I g).not_modules]
  refine wpAny_bind (wpAny_specialOf hT PySem.F.slot_dict_getitem.lookup ?_)
  have got : wpAny (model X.prog X.w) X.A (subscripted part false (.ref a) u) (fun r s₃ => wpAny (model X.prog X.w) X.A (letTemporaryGo whole (.ref a) r >>= fun _ => pure r) (EP X pins σ Q) X.xe s₃) X.xe s := by
    rw [hs]
    exact wpAny_operating (wpAny_mono (d_getItem hu I g ry fun w' s3 I3 rw' => (⟨z, H, I3, rw', q⟩ : EP X pins σ Q w' s3)) (fun r s₃ h₃ => wpAny_bind (wpAny_letTemporaryGo (wpAny_pure h₃))) fun _ _ x => x)
  first
    | exact wpAny_pure (wpAny_bind got)
    | exact wpAny_bind (wpAny_pure (wpAny_bind got))
    | exact wpAny_bind got
theorem getIx_ok {K : PySem.W.Frag} {A : List Addr} {H : Hp} {S : Sto} {x y : D} {v w : V} {P : VK} {Q : VA} (m : MtS K A H S) (rx : Rp K A H x v) (ry : Rp K A H y w) (q : getIx x y S Q) (k : KQ K A H P Q) : rIx K v w H P ∨ rIxD v w H P := by
  cases rx with
  | non => exact q.elim
  | bl b => exact q.elim
  | int i => exact q.elim
  | str z =>
    cases ry <;> first | exact q.elim | skip
    rename_i i
    obtain ⟨h1, q⟩ := q
    obtain ⟨c, e, q⟩ := of_must q
    obtain ⟨j, e1, e2⟩ := at_ok e
    refine .inl (.inr (.inr ⟨z, i, c, rfl, rfl, h1, ?_, k _ H _ A S Up.refl m (.str _) q⟩))
    unfold atI
    rw [e1]; exact e2
  | tup hs rl =>
    rename_i a vs l
    cases ry <;> first | exact q.elim | skip
    rename_i i
    obtain ⟨d, e, q⟩ := of_must q
    obtain ⟨z, e1, rz⟩ := at_vs rl e
    exact .inl (.inr (.inl ⟨a, vs, i, z, rfl, rfl, hs, e1, k _ H _ A S Up.refl m rz q⟩))
  | kl hs rl =>
    rename_i a vs l
    cases ry <;> first | exact q.elim | skip
    rename_i i
    obtain ⟨d, e, q⟩ := of_must q
    obtain ⟨z, e1, rz⟩ := at_vs rl e
    exact .inl (.inl ⟨a, vs, i, z, rfl, rfl, .inr hs, e1, k _ H _ A S Up.refl m rz q⟩)
  | ref ea =>
    rename_i j a
    simp only [getIx] at q
    split at q
    · rename_i l e
      obtain ⟨vs, g, rl⟩ := m.ok j _ a e ea
      cases ry <;> first | exact q.elim | skip
      rename_i i
      obtain ⟨d, e, q⟩ := of_must q
      obtain ⟨z, e1, rz⟩ := at_vs rl e
      exact .inl (.inl ⟨a, vs, i, z, rfl, rfl, SqL.of g, e1, k _ H _ A S Up.refl m rz q⟩)
    · rename_i l e
      obtain ⟨vs, g, rl⟩ := m.ok j _ a e ea
      cases ry <;> first | exact q.elim | skip
      rename_i i
      obtain ⟨d, e, q⟩ := of_must q
      obtain ⟨z, e1, rz⟩ := at_vs rl e
      exact .inl (.inl ⟨a, vs, i, z, rfl, rfl, .inl g, e1, k _ H _ A S Up.refl m rz q⟩)
    · rename_i kvs e
      obtain ⟨ks, g, rk⟩ := m.ok j _ a e ea
      obtain ⟨key, ek, q⟩ := of_must q
      obtain ⟨d, ed, q⟩ := of_must q
      have ev := key_ok ek ry
      subst ev
      rcases val_ok rk key with ⟨h1, _⟩ | ⟨d', z, h1, h2, rz⟩
      · rw [h1] at ed; cases ed
      · rw [h1] at ed; cases ed
        exact .inr ⟨a, z, rfl, by have := DGet.k (k := key) g; rw [h2] at this; exact this, k _ H _ A S Up.refl m rz q⟩
    · exact q.elim
theorem ae_ix (hu : X.A.units + 1 < cLine) (ha : AE X W a aa) (hb : AE X W b ab) (hs : PlainIx b := by intro _ _; rfl) : AE X W (.Subscript a b pos) (aIx aa ab) := by
  obtain ⟨ta, pa, la⟩ := ha
  obtain ⟨tb, pb, lb⟩ := hb
  exact ⟨_, pe_ix (ix_seq.or (ix_dict hu)) pa pb hs, fun σ H A ρ S P Q E m mt h kq kx => la σ H A ρ S _ _ E m mt h (fun x H1 dx A1 S1 u1 m1 r1 q1 => lb σ H1 A1 ρ S1 _ _ E m1 (mt.mono u1) q1 (fun y H2 dy A2 S2 u2 m2 r2 q2 =>
    getIx_ok m2 (r1.mono u2) r2 q2 (kq.mono (u1.trans u2))) (kx.mono u1)) kx⟩

/-! ### in: a sequence of flat things, data in data, a sign in a text, a key in a dict -/
def opInD : R2 := fun x y H Q => ∃ a o, y = .ref a ∧ DGet H a x o ∧ Q (.bl o.isSome) H
def opNotInD : R2 := fun x y H Q => ∃ a o, y = .ref a ∧ DGet H a x o ∧ Q (.bl (!o.isSome)) H
theorem op_inDict (hu : X.A.units + 1 < cLine) : OpR X (compareOp .In) opInD := by
  intro pins s σ H x y v u Q inv rx ry h
  obtain ⟨a, o, rfl, g, q⟩ := h
  cases ry
  exact d_in hu inv g rx fun s3 I3 => ⟨.bl o.isSome, H, I3, rfl, q⟩
theorem op_notinDict (hu : X.A.units + 1 < cLine) : OpR X (compareOp .NotIn) opNotInD := by
  intro pins s σ H x y v u Q inv rx ry h
  obtain ⟨a, o, rfl, g, q⟩ := h
  cases ry
  exact d_notIn hu inv g rx fun s3 I3 => ⟨.bl (!o.isSome), H, I3, rfl, q⟩
def isIn (x y : D) (S : Sto) (Q : Bool → Prop) : Prop := match y with
  | .str t => (match x with
    | .str s => (match s.cps.toList with
      | [c] => Q (decide (c ∈ t.cps.toList))
      | _ => False)
    | _ => False)
  | y => (match y with
    | .ref j => (match S[j]? with
      | some (.dK kvs) => must (keyD x) fun k => Q (valD kvs k).isSome
      | _ => must (lstOf S j) fun l => if (flatD x && l.all flatD) = true then Q (inF x l) else ∃ p ps, Py S x p ∧ PyL S l ps ∧ SeqAt.shaped p = true ∧ SeqAt.shaped (.list ps) = true ∧ Q (ps.any fun z => PyData.eqv z p))
    | .tup l => (flatD x && l.all flatD) = true ∧ Q (inF x l)
    | _ => False)
def oIn : AR2 := fun x y S Q => isIn x y S fun b => Q (.bl b) S
def oNotIn : AR2 := fun x y S Q => isIn x y S fun b => Q (.bl (!b)) S
theorem isIn_ok {K : PySem.W.Frag} {A : List Addr} {H : Hp} {S : Sto} {x y : D} {v w : V} {Q : Bool → Prop} (m : MtS K A H S) (rx : Rp K A H x v) (ry : Rp K A H y w) (q : isIn x y S Q) {G : Prop}
    (g1 : ∀ (p : Addr) (vs : List V), w = .ref p → (SqL K H p vs ∨ SqT K H p vs) → flatV v = true → vs.all flatV = true → Q (inV v vs) → G)
    (g2 : ∀ d ds, Dp K H v d → Dp K H w (.list ds) → SeqAt.shaped d = true → SeqAt.shaped (.list ds) = true → Q (ds.any fun z => PyData.eqv z d) → G)
    (g3 : ∀ (c : Nat) (z : Str), v = .str ⟨#[c]⟩ → w = .str z → Q (decide (c ∈ z.cps.toList)) → G)
    (g4 : ∀ a o, w = .ref a → DGet H a v o → Q o.isSome → G) : G := by
  cases ry with
  | non => exact q.elim
  | bl b => exact q.elim
  | int i => exact q.elim
  | str t =>
    cases rx <;> first | exact q.elim | skip
    rename_i s
    simp only [isIn] at q
    split at q
    · rename_i c e
      refine g3 c t ?_ rfl q
      obtain ⟨⟨l⟩⟩ := s
      simp at e; subst e; rfl
    · exact q.elim
  | tup hs rl =>
    simp only [isIn, Bool.and_eq_true] at q
    obtain ⟨⟨f1, f2⟩, q⟩ := q
    exact g1 _ _ rfl (.inr hs) ((flat_ok rx).trans f1) ((flats_ok rl).trans f2) (by rw [inF_ok rx rl f2]; exact q)
  | kl hs rl => exact q.elim
  | ref ea =>
    rename_i j a
    simp only [isIn] at q
    split at q
    · rename_i kvs e
      obtain ⟨ks, g, rk⟩ := m.ok j _ a e ea
      obtain ⟨k, ek, q⟩ := of_must q
      have ev := key_ok ek rx
      subst ev
      rcases val_ok rk k with ⟨h1, h2⟩ | ⟨d', z, h1, h2, rz⟩
      · rw [h1] at q
        exact g4 a none rfl (by have := DGet.k (k := k) g; rw [h2] at this; exact this) q
      · rw [h1] at q
        exact g4 a (some z) rfl (by have := DGet.k (k := k) g; rw [h2] at this; exact this) q
    · obtain ⟨l, e, q⟩ := of_must q
      obtain ⟨vs, hs, rl⟩ := lst_at m ea e
      by_cases f : (flatD x && l.all flatD) = true
      · rw [if_pos f] at q
        simp only [Bool.and_eq_true] at f
        exact g1 a vs rfl (.inl hs) ((flat_ok rx).trans f.1) ((flats_ok rl).trans f.2) (by rw [inF_ok rx rl f.2]; exact q)
      · rw [if_neg f] at q
        obtain ⟨p, ps, h1, h2, s1, s2, q⟩ := q
        exact g2 p ps (Py.dp m p x v h1 rx) (.lst hs (PyL.dp m ps l vs h2 rl)) s1 s2 q
theorem ao_in (hu : X.A.units + 65 < cLine) : AOp X (compareOp .In) oIn := by
  refine ⟨_, (op_in_seq (X := X)).or ((op_inD hu).or (op_in_sign.or (op_inDict (by omega)))), fun x y H A dx dy S P Q m rx ry q k => ?_⟩
  refine isIn_ok m rx ry q (fun p vs e h f1 f2 z => .inl ⟨p, vs, e, h, f1, f2, ?_⟩) (fun d ds h1 h2 s1 s2 z => .inr (.inl ⟨d, ds, h1, h2, s1, s2, ?_⟩)) (fun c z e1 e2 q => .inr (.inr (.inl ⟨c, z, e1, e2, ?_⟩))) (fun a o e g q => .inr (.inr (.inr ⟨a, o, e, g, ?_⟩)))
  all_goals exact k _ H _ A S Up.refl m (.bl _) (by assumption)
theorem ao_notin (hu : X.A.units + 65 < cLine) : AOp X (compareOp .NotIn) oNotIn := by
  refine ⟨_, (op_notIn_seq (X := X)).or ((op_notInD hu).or (op_notIn_sign.or (op_notinDict (by omega)))), fun x y H A dx dy S P Q m rx ry q k => ?_⟩
  refine isIn_ok m rx ry q (fun p vs e h f1 f2 z => .inl ⟨p, vs, e, h, f1, f2, ?_⟩) (fun d ds h1 h2 s1 s2 z => .inr (.inl ⟨d, ds, h1, h2, s1, s2, ?_⟩)) (fun c z e1 e2 q => .inr (.inr (.inl ⟨c, z, e1, e2, ?_⟩))) (fun a o e g q => .inr (.inr (.inr ⟨a, o, e, g, ?_⟩)))
  all_goals exact k _ H _ A S Up.refl m (.bl _) (by assumption)
end
end AL
/-! AL4: slices, calls of built-ins, of defs, methods, makers; fields. -/
namespace AL
open PySem PySem.Spec
open PyProof.Rows L2
section
variable {X : Cx} {W : WX} {a b c : Expr} {aa ab ac : ATE} {pos : Pos} {es : List Expr} {t' : ATA}
/-! ### slices -/
abbrev ATO := Rho → Sto → XA → (Option Int → Sto → Prop) → Prop
def KO (K : PySem.W.Frag) (A : List Addr) (H : Hp) (P : Option Int → Hp → Prop) (Q : Option Int → Sto → Prop) : Prop := ∀ v H' A' S', Up K A H A' H' → MtS K A' H' S' → Q v S' → P v H'
def LPo (K : PySem.W.Frag) (W : WX) (t : TO) (a : ATO) : Prop := ∀ σ H A ρ S (P : Option Int → Hp → Prop) (Q : Option Int → Sto → Prop) (E : XA), MtS K A H S → Mt K A H ρ σ → a ρ S E Q → KO K A H P Q → KX K A H (WE' W σ) E → t σ H P
def AO (X : Cx) (W : WX) (e : Option Expr) (a : ATO) : Prop := ∃ t, PO X e t ∧ LPo X.K W t a
def aNoPart : ATO := fun _ S _ Q => Q none S
def aPart (a : ATE) : ATO := fun ρ S E Q => a ρ S E fun x S1 => match x with
  | .int i => Q (some i) S1
  | _ => False
theorem ao_none : AO X W none aNoPart := ⟨_, po_none, fun σ H A ρ S P Q E m mt h kq _ => kq none H A S Up.refl m h⟩
theorem ao_some (h : AE X W a aa) : AO X W (some a) (aPart aa) := by
  obtain ⟨t, p, l⟩ := h
  refine ⟨_, po_some p, fun σ H A ρ S P Q E m mt h kq kx => l σ H A ρ S _ _ E m mt h (fun x H1 dx A1 S1 u1 m1 r1 q1 => ?_) kx⟩
  cases r1 <;> first | exact q1.elim | exact ⟨_, rfl, kq _ H1 A1 S1 u1 m1 q1⟩
def cutL {α : Type} (xs : List α) (lo hi : Option Int) : List α := (xs.drop (HT.sIx xs.length 0 lo)).take (HT.sIx xs.length xs.length hi - HT.sIx xs.length 0 lo)
def getSl (x : D) (lo hi : Option Int) (S : Sto) (Q : VA) : Prop := match x with
  | .str s => s.length ≤ sizeLine ∧ Q (.str (cutS s lo hi)) S
  | .ref i => must (lstOf S i) fun l => Q (.ref S.length) (S ++ [.lst (cutL l lo hi)])
  | _ => False
variable {lo hi : Option Expr} {tl th : ATO} {p2 : Pos}
def aSl (a : ATE) (lo hi : ATO) : ATE := fun ρ S E Q => a ρ S E fun x S1 => lo ρ S1 E fun l S2 => hi ρ S2 E fun h S3 => getSl x l h S3 Q
theorem ae_slice (ha : AE X W a aa) (hl : AO X W lo tl) (hu : AO X W hi th) : AE X W (.Subscript a (.Slice lo hi none p2) pos) (aSl aa tl th) := by
  obtain ⟨ta, pa, la⟩ := ha
  obtain ⟨t1, p1, l1⟩ := hl
  obtain ⟨t2, q2, l2⟩ := hu
  refine ⟨_, pe_slice ((sl_str (X := X)).or sl_list) pa p1 q2, fun σ H A ρ S P Q E m mt h kq kx => la σ H A ρ S _ _ E m mt h (fun x H1 dx A1 S1 u1 m1 r1 q1 => l1 σ H1 A1 ρ S1 _ _ E m1 (mt.mono u1) q1 (fun l H2 A2 S2 u2 m2 q2 =>
    l2 σ H2 A2 ρ S2 _ _ E m2 ((mt.mono u1).mono u2) q2 (fun u H3 A3 S3 u3 m3 q3 => ?_) (kx.mono (u1.trans u2))) (kx.mono u1)) kx⟩
  have uu := (u1.trans u2).trans u3
  have r3 := (r1.mono u2).mono u3
  cases r3 <;> first | exact q3.elim | skip
  · rename_i s
    exact .inl ⟨s, rfl, q3.1, kq _ H3 _ A3 S3 uu m3 (.str _) q3.2⟩
  · rename_i i ad e
    obtain ⟨ls, e1, q⟩ := of_must q3
    obtain ⟨vs, hs, rl⟩ := lst_at m3 e e1
    refine .inr ⟨ad, vs, rfl, hs, fun pp hp => ?_⟩
    refine kq_lst (kq.mono uu) m3 ?_ q hp
    unfold cutV cutL
    rw [← rl.length]
    exact (rl.drop _).take _

/-! ### built-ins -/
def LC (K : PySem.W.Frag) (r' : List V → Hp → VK → Prop) (r : List D → Sto → VA → Prop) : Prop := ∀ vs H A ds S (P : VK) (Q : VA), MtS K A H S → RpL K A H ds vs → r ds S Q → KQ K A H P Q → r' vs H P
def ACall (X : Cx) (f : Value) (r : List D → Sto → VA → Prop) : Prop := ∃ r', CallR X f r' ∧ LC X.K r' r
theorem CallR.or {f : Value} {r r' : List V → Hp → VK → Prop} (h : CallR X f r) (h' : CallR X f r') : CallR X f (fun xs H Q => r xs H Q ∨ r' xs H Q) := fun pins s σ H xs us Q I rv q =>
  q.elim (h pins s σ H xs us Q I rv) (h' pins s σ H xs us Q I rv)
def aCB (r : List D → Sto → VA → Prop) (t : ATA) : ATE := fun ρ S E Q => t ρ S E fun ds S1 => r ds S1 Q
theorem le_cb {K : PySem.W.Frag} {r' : List V → Hp → VK → Prop} {r : List D → Sto → VA → Prop} {t : TA} (lc : LC K r' r) (l : LA K W t t') : LE K W (tCB r' t) (aCB r t') := fun σ H A ρ S P Q E m mt h kq kx =>
  l σ H A ρ S _ _ E m mt h (fun vs H1 ds A1 S1 u1 m1 r1 q1 => lc vs H1 A1 ds S1 P Q m1 r1 q1 (kq.mono u1)) kx
variable {x : Str} {e : Expr} {p : Pos} {r : List D → Sto → VA → Prop} {id T : String}
theorem ae_callB (hc : ACall X (.builtin id) r) (hm : X.mg x = none) (ha : AA X W (e :: es) t') (hv : bootBuiltins x = some (.builtin id) := by decide +kernel) (hg : Gl X x := by rfl) (hn : x ≠ "__name__" := by decide) (hdb : (x == ("__debug__" : Str)) = false := by decide)
    (he : starEach (e :: es) X.env = (false, eval e X.env) :: starEach es X.env := by rfl) (hpl : (backTo pos (starEach es X.env)).any (·.1) = false := by rfl) : AE X W (.Call (.Name x p) (e :: es) [] pos) (aCB r t') := by
  obtain ⟨r', o, lc⟩ := hc
  obtain ⟨t, pa, l⟩ := ha
  exact ⟨_, pe_callB o hg hm hv pa hn hdb he hpl, le_cb lc l⟩
theorem ae_callTy (hc : ACall X (.type T) r) (hm : X.mg x = none) (ha : AA X W (e :: es) t') (hv : bootBuiltins x = some (.type T) := by decide +kernel) (hg : Gl X x := by rfl) (hn : x ≠ "__name__" := by decide) (hdb : (x == ("__debug__" : Str)) = false := by decide)
    (he : starEach (e :: es) X.env = (false, eval e X.env) :: starEach es X.env := by rfl) (hpl : (backTo pos (starEach es X.env)).any (·.1) = false := by rfl) : AE X W (.Call (.Name x p) (e :: es) [] pos) (aCB r t') := by
  obtain ⟨r', o, lc⟩ := hc
  obtain ⟨t, pa, l⟩ := ha
  exact ⟨_, pe_callTy o hg hm hv pa hn hdb he hpl, le_cb lc l⟩
theorem rp1 {K : PySem.W.Frag} {A : List Addr} {H : Hp} {d : D} {vs : List V} (h : RpL K A H [d] vs) : ∃ v, vs = [v] ∧ Rp K A H d v := by
  cases h; rename_i h1 h2; cases h2; exact ⟨_, rfl, h1⟩
theorem rp2 {K : PySem.W.Frag} {A : List Addr} {H : Hp} {d d' : D} {vs : List V} (h : RpL K A H [d, d'] vs) : ∃ v w, vs = [v, w] ∧ Rp K A H d v ∧ Rp K A H d' w := by
  cases h; rename_i h1 h2; obtain ⟨w, rfl, h3⟩ := rp1 h2; exact ⟨_, _, rfl, h1, h3⟩
def cLen : List D → Sto → VA → Prop := fun ds S Q => match ds with
  | [.str s] => s.length ≤ sizeLine ∧ Q (.int (s.length : Int)) S
  | [.tup l] => Q (.int (l.length : Int)) S
  | [.kl l] => Q (.int (l.length : Int)) S
  | [.ref i] => (match S[i]? with
    | some (.lst l) => Q (.int (l.length : Int)) S
    | some (.rol l) => Q (.int (l.length : Int)) S
    | some (.dK kvs) => Q (.int (kvs.length : Int)) S
    | _ => False)
  | _ => False
theorem RpK.length {K : PySem.W.Frag} {A : List Addr} {H : Hp} {κ : Type} {kvs : List (κ × D)} {ks : List (κ × V)} (h : RpK K A H κ kvs ks) : kvs.length = ks.length := Paired.length h
theorem ac_len : ACall X (.builtin "len") cLen := by
  refine ⟨_, CallR.or call_len_str (CallR.or call_len_seq call_lenD), fun vs H A ds S P Q m r q k => ?_⟩
  match ds, q with
  | [.str s], q =>
    obtain ⟨v, rfl, rv⟩ := rp1 r
    cases rv
    exact .inl ⟨s, rfl, q.1, k _ H _ A S Up.refl m (.int _) q.2⟩
  | [.tup l], q =>
    obtain ⟨v, rfl, rv⟩ := rp1 r
    cases rv; rename_i ad ws hs rl
    refine .inr (.inl ⟨ad, ws, rfl, .inr hs, ?_⟩)
    rw [← rl.length]; exact k _ H _ A S Up.refl m (.int _) q
  | [.kl l], q =>
    obtain ⟨v, rfl, rv⟩ := rp1 r
    cases rv; rename_i ad ws hs rl
    refine .inr (.inl ⟨ad, ws, rfl, .inl (.inr hs), ?_⟩)
    rw [← rl.length]; exact k _ H _ A S Up.refl m (.int _) q
  | [.ref i], q =>
    obtain ⟨v, rfl, rv⟩ := rp1 r
    cases rv; rename_i ad e
    simp only [cLen] at q
    split at q
    · rename_i l h
      obtain ⟨ws, g, rl⟩ := m.ok i _ ad h e
      refine .inr (.inl ⟨ad, ws, rfl, .inl (SqL.of g), ?_⟩)
      rw [← rl.length]; exact k _ H _ A S Up.refl m (.int _) q
    · rename_i l h
      obtain ⟨ws, g, rl⟩ := m.ok i _ ad h e
      refine .inr (.inl ⟨ad, ws, rfl, .inl (.inl g), ?_⟩)
      rw [← rl.length]; exact k _ H _ A S Up.refl m (.int _) q
    · rename_i l h
      obtain ⟨ks, g, rl⟩ := m.ok i _ ad h e
      refine .inr (.inr ⟨ad, ks, rfl, g, ?_⟩)
      rw [← RpK.length rl]; exact k _ H _ A S Up.refl m (.int _) q
    · exact q.elim
def cInt : List D → Sto → VA → Prop := fun ds S Q => match ds with
  | [.int i] => Q (.int i) S
  | [.bl k] => Q (.int (if k then 1 else 0)) S
  | [.str s] => s.length ≤ 640 ∧ must (PySem.intText? s) fun n => Q (.int n) S
  | _ => False
theorem ac_int : ACall X (.type "int") cInt := by
  refine ⟨_, CallR.or call_int1 call_int_str, fun vs H A ds S P Q m r q k => ?_⟩
  match ds, q with
  | [.int i], q => obtain ⟨v, rfl, rv⟩ := rp1 r; cases rv; exact .inl (.inl ⟨i, rfl, k _ H _ A S Up.refl m (.int _) q⟩)
  | [.bl b], q => obtain ⟨v, rfl, rv⟩ := rp1 r; cases rv; exact .inl (.inr ⟨b, rfl, k _ H _ A S Up.refl m (.int _) q⟩)
  | [.str s], q =>
    obtain ⟨v, rfl, rv⟩ := rp1 r; cases rv
    obtain ⟨n, e, q2⟩ := of_must q.2
    exact .inr ⟨s, n, rfl, e, q.1, k _ H _ A S Up.refl m (.int _) q2⟩
def cStr : List D → Sto → VA → Prop := fun ds S Q => match ds with
  | [.int i] => i.natAbs.log2 < 1920 ∧ Q (.str (toString i)) S
  | _ => False
theorem ac_str : ACall X (.type "str") cStr := by
  refine ⟨_, call_str_int, fun vs H A ds S P Q m r q k => ?_⟩
  match ds, q with
  | [.int i], q => obtain ⟨v, rfl, rv⟩ := rp1 r; cases rv; exact ⟨i, rfl, q.1, k _ H _ A S Up.refl m (.str _) q.2⟩
def cAbs : List D → Sto → VA → Prop := fun ds S Q => match ds with
  | [.int i] => Q (.int (if i < 0 then -i else i)) S
  | _ => False
theorem ac_abs : ACall X (.builtin "abs") cAbs := by
  refine ⟨_, call_abs, fun vs H A ds S P Q m r q k => ?_⟩
  match ds, q with
  | [.int i], q => obtain ⟨v, rfl, rv⟩ := rp1 r; cases rv; exact ⟨i, rfl, k _ H _ A S Up.refl m (.int _) q⟩
def cMin : List D → Sto → VA → Prop := fun ds S Q => match ds with
  | [.int i, .int j] => Q (.int (if j < i then j else i)) S
  | _ => False
theorem ac_min (hc : X.calm = true) : ACall X (.builtin "min") cMin := by
  refine ⟨_, call_min2 hc, fun vs H A ds S P Q m r q k => ?_⟩
  match ds, q with
  | [.int i, .int j], q => obtain ⟨v, w, rfl, rv, rw'⟩ := rp2 r; cases rv; cases rw'; exact ⟨i, j, rfl, k _ H _ A S Up.refl m (.int _) q⟩
theorem map_int {K : PySem.W.Frag} {A : List Addr} {H : Hp} : ∀ {ns : List Int} {vs : List V}, RpL K A H (ns.map D.int) vs → vs = ns.map V.int
  | [], _, h => by cases h; rfl
  | n :: ns, _, h => by cases h; rename_i h1 h2; cases h1; rw [map_int h2]; rfl
theorem map_bl {K : PySem.W.Frag} {A : List Addr} {H : Hp} : ∀ {ns : List Bool} {vs : List V}, RpL K A H (ns.map D.bl) vs → vs = ns.map V.bl
  | [], _, h => by cases h; rfl
  | n :: ns, _, h => by cases h; rename_i h1 h2; cases h1; rw [map_bl h2]; rfl
theorem map_str {K : PySem.W.Frag} {A : List Addr} {H : Hp} : ∀ {ns : List Str} {vs : List V}, RpL K A H (ns.map D.str) vs → vs = ns.map V.str
  | [], _, h => by cases h; rfl
  | n :: ns, _, h => by cases h; rename_i h1 h2; cases h1; rw [map_str h2]; rfl
/-- max: of two ints, of a list of ints -/
def cMax : List D → Sto → VA → Prop := fun ds S Q => match ds with
  | [.int i, .int j] => Q (.int (if j > i then j else i)) S
  | [.ref a] => must (lstOf S a) fun l => ∃ ns : List Int, l = ns.map .int ∧ 0 < ns.length ∧ ∀ m, m ∈ ns → (∀ y, y ∈ ns → y ≤ m) → Q (.int m) S
  | _ => False
theorem ac_max (hc : X.calm = true) : ACall X (.builtin "max") cMax := by
  refine ⟨_, CallR.or (call_max2 hc) (cr_max hc), fun vs H A ds S P Q m r q k => ?_⟩
  match ds, q with
  | [.int i, .int j], q => obtain ⟨v, w, rfl, rv, rw'⟩ := rp2 r; cases rv; cases rw'; exact .inl ⟨i, j, rfl, k _ H _ A S Up.refl m (.int _) q⟩
  | [.ref i], q =>
    obtain ⟨v, rfl, rv⟩ := rp1 r
    cases rv; rename_i ad e
    obtain ⟨l, h, ns, rfl, h0, q⟩ := of_must q
    obtain ⟨ws, hs, rl⟩ := lst_at m e h
    have ew := map_int rl
    subst ew
    exact .inr ⟨ad, ns, rfl, hs, h0, fun y hy hle => k _ H _ A S Up.refl m (.int _) (q y hy hle)⟩
def cAll : List D → Sto → VA → Prop := fun ds S Q => match ds with
  | [.ref a] => must (lstOf S a) fun l => ∃ bs : List Bool, l = bs.map .bl ∧ Q (.bl (bs.all _root_.id)) S
  | _ => False
theorem ac_all (hc : X.calm = true) : ACall X (.builtin "all") cAll := by
  refine ⟨_, cr_all hc, fun vs H A ds S P Q m r q k => ?_⟩
  match ds, q with
  | [.ref i], q =>
    obtain ⟨v, rfl, rv⟩ := rp1 r
    cases rv; rename_i ad e
    obtain ⟨l, h, ns, rfl, q⟩ := of_must q
    obtain ⟨ws, hs, rl⟩ := lst_at m e h
    have ew := map_bl rl
    subst ew
    exact ⟨ad, ns, rfl, hs, k _ H _ A S Up.refl m (.bl _) q⟩
def cAny : List D → Sto → VA → Prop := fun ds S Q => match ds with
  | [.ref a] => must (lstOf S a) fun l => ∃ bs : List Bool, l = bs.map .bl ∧ Q (.bl (bs.any _root_.id)) S
  | _ => False
theorem ac_any (hc : X.calm = true) : ACall X (.builtin "any") cAny := by
  refine ⟨_, cr_any hc, fun vs H A ds S P Q m r q k => ?_⟩
  match ds, q with
  | [.ref i], q =>
    obtain ⟨v, rfl, rv⟩ := rp1 r
    cases rv; rename_i ad e
    obtain ⟨l, h, ns, rfl, q⟩ := of_must q
    obtain ⟨ws, hs, rl⟩ := lst_at m e h
    have ew := map_bl rl
    subst ew
    exact ⟨ad, ns, rfl, hs, k _ H _ A S Up.refl m (.bl _) q⟩
def cTuple : List D → Sto → VA → Prop := fun ds S Q => match ds with
  | [d] => must (seqOf S d) fun l => Q (.tup l) S
  | _ => False
theorem ac_tuple : ACall X (.type "tuple") cTuple := by
  refine ⟨_, call_tuple_of, fun vs H A ds S P Q m r q k => ?_⟩
  match ds, q with
  | [d], q =>
    obtain ⟨v, rfl, rv⟩ := rp1 r
    obtain ⟨l, h, q2⟩ := of_must q
    cases rv <;> simp [seqOf] at h
    · rename_i i ad e
      obtain ⟨ws, hs, rl⟩ := lst_at m e h
      exact ⟨ad, ws, rfl, .inl ⟨hs, fun pp hp => kq_tup k m rl q2 hp⟩⟩
    · rename_i ad ws l' hs rl
      subst h
      exact ⟨ad, ws, rfl, .inr ⟨hs, k _ H _ A S Up.refl m (.tup hs rl) q2⟩⟩
    · rename_i ad ws l' hs rl
      subst h
      exact ⟨ad, ws, rfl, .inl ⟨.inr hs, fun pp hp => kq_tup k m rl q2 hp⟩⟩
def cList : List D → Sto → VA → Prop := fun ds S Q => match ds with
  | [d] => must (seqOf S d) fun l => Q (.ref S.length) (S ++ [.lst l])
  | _ => False
theorem ac_list : ACall X (.type "list") cList := by
  refine ⟨_, call_list_of, fun vs H A ds S P Q m r q k => ?_⟩
  match ds, q with
  | [d], q =>
    obtain ⟨v, rfl, rv⟩ := rp1 r
    obtain ⟨l, h, q2⟩ := of_must q
    cases rv <;> simp [seqOf] at h
    · rename_i i ad e
      obtain ⟨ws, hs, rl⟩ := lst_at m e h
      exact ⟨ad, ws, rfl, .inl hs, fun pp hp => kq_lst k m rl q2 hp⟩
    · rename_i ad ws l' hs rl
      subst h
      exact ⟨ad, ws, rfl, .inr hs, fun pp hp => kq_lst k m rl q2 hp⟩
    · rename_i ad ws l' hs rl
      subst h
      exact ⟨ad, ws, rfl, .inl (.inr hs), fun pp hp => kq_lst k m rl q2 hp⟩

/-! ### defs -/
/-- room, and no repr under way -/
structure RG (k : Nat) (A : Around) : Prop where
  rm : Room k A
  gs : A.guards = some []
theorem RG.mono {j k : Nat} {A : Around} (r : RG k A) (h : j ≤ k) : RG j A := ⟨r.rm.mono h, r.gs⟩
theorem RG.deeper {k : Nat} {A : Around} (r : RG (k + 1) A) (env : Env) : RG k (A.deeper env) := ⟨r.rm.deeper env, r.gs⟩
theorem RG.make {k : Nat} {A : Around} (r : RG (k + 1) A) (C : Addr) (us : List Value) (kw : List (Str × Value)) : RG k (A.under (.builtin "type.__call__" ⟨.ref C :: us, kw⟩)) := ⟨r.rm.make C us kw, r.gs⟩
/-- a def's promise, wherever no repr is under way -/
structure FnG (P : Program) (w : World) (K : PySem.W.Frag) (mg : Str → Option Value) (base : Heap) (CX : CXT) (k : Nat) (f : Addr) (fd : FuncData) (ps : List Str) (sp : Sp) : Prop where
  few : ∀ vs H Q E, sp vs H Q E → vs.length = ps.length
  go : ∀ (A : Around) (outer : List Env) (s : Shared) (H : Hp) (args : Args) (us : List Value) (vs : List V) (Q : VK) (E : XK), RG k A → Env0 P w K mg base A outer s H →
    BindsTo s fd args (ps.zip us) → Vals vs us → sp vs H Q E → codeAny (model P w) A (.call (.ref f) args) (CR CX outer P w H s Q E) s
section
variable {P : Program} {w : World} {K : PySem.W.Frag} {mg : Str → Option Value} {base : Heap} {CX : CXT} {j k : Nat} {f : Addr} {fd : FuncData} {ps : List Str} {sp sp' : Sp}
theorem FnG.mono (o : FnG P w K mg base CX j f fd ps sp) (h : j ≤ k) : FnG P w K mg base CX k f fd ps sp := ⟨o.few, fun A outer s H args us vs Q E r => o.go A outer s H args us vs Q E (r.mono h)⟩
theorem FnG.imp (o : FnG P w K mg base CX k f fd ps sp) (h : ∀ vs H Q E, sp' vs H Q E → sp vs H Q E) : FnG P w K mg base CX k f fd ps sp' :=
  ⟨fun vs H Q E q => o.few vs H Q E (h _ _ _ _ q), fun A outer s H args us vs Q E r e0 b rv q => o.go A outer s H args us vs Q E r e0 b rv (h _ _ _ _ q)⟩
end
theorem run_fnG {CX : CXT} {k : Nat} {f : Addr} {fd : FuncData} {ps : List Str} {sp : Sp} {ex : XK} {pins : List (Addr × Obj)} {σ : L2.St} {H : Hp} {s : Shared} {Q : VK} {us : List Value} {vs : List V} (o : FnG X.prog X.w X.K X.mg X.base CX k f fd ps sp) (hr : RG k X.A) (hb : Binds X.K fd ps [])
    (hx : PassesAt CX X σ ex) (I : Inv X pins σ H s) (rv : Vals vs us) (q : sp vs H Q ex) : wpAny (model X.prog X.w) X.A (call (.ref f) us) (EP X pins σ Q) X.xe s := by
  have many : us.length = ps.length := rv.length.symm.trans (o.few _ _ _ _ q)
  have bnd := hb s us I.kIn (by simpa using many)
  simp only [List.append_nil] at bnd
  have main := o.go X.A X.stack s H ⟨us, []⟩ us vs Q ex hr I.env0 bnd rv q
  refine wpAny_call (codeAny_mono main fun res s2 got => ?_)
  match res, got with
  | .error e, got => exact hx pins H s e s2 I got
  | .ok (.ret u), got => exact I.after got
theorem pe_callG {CX : CXT} {k : Nat} {f : Addr} {fd : FuncData} {ps : List Str} {sp : Sp} {ex : L2.St → XK} {t : TA} (o : FnG X.prog X.w X.K X.mg X.base CX k f fd ps sp) (hr : RG k X.A) (hg : Gl X x) (hm : X.mg x = some (.ref f)) (hk : PySem.W.keepIn X.K (.ref f) = true) (hb : Binds X.K fd ps [])
    (hx : ∀ σ, PassesAt CX X σ (ex σ)) (ha : PA X (e :: es) t) (hdb : (x == ("__debug__" : Str)) = false) (he : starEach (e :: es) X.env = (false, eval e X.env) :: starEach es X.env) (hpl : (backTo pos (starEach es X.env)).any (·.1) = false) :
    PE X (.Call (.Name x p) (e :: es) [] pos) (tCallS sp ex t) := by
  refine ⟨fun pins s σ H Q inv h => wpAny_Call_Name_kw (ld_glob inv hg hm ?_ hdb)⟩
  have args := ha.run pos pins s σ H _ inv h
  exact PySem.W.callWith_K (h₀ := X.base) inv.ok.mod.kin hk (thn args fun us s1 ⟨vs, H1, inv1, rv, q⟩ => ⟨inv1.kIn, run_fnG o hr hb (hx σ) inv1 rv q⟩) he hpl
abbrev AFn := List D → Sto → XA → VA → Prop
def spOf (K : PySem.W.Frag) (F : AFn) : Sp := fun vs H Q E => ∃ (A : List Addr) (S : Sto) (ds : List D) (Qa : VA) (Ea : XA), MtS K A H S ∧ RpL K A H ds vs ∧ F ds S Ea Qa ∧ KQ K A H Q Qa ∧ KX K A H E Ea
/-- a def of the module keeps F -/
def FD (P : Program) (w : World) (K : PySem.W.Frag) (mg : Str → Option Value) (base : Heap) (x : Str) (k : Nat) (F : AFn) : Prop :=
  ∃ (f : Addr) (fd : FuncData) (ps : List Str), FnG P w K mg base (L2.CX P w) k f fd ps (spOf K F) ∧ mg x = some (.ref f) ∧ PySem.W.keepIn K (.ref f) = true ∧ Binds K fd ps []
/-- a method of a class -/
def MD (P : Program) (w : World) (K : PySem.W.Frag) (mg : Str → Option Value) (base : Heap) (cl mt : Str) (k : Nat) (F : AFn) : Prop :=
  ∃ (f : Addr) (fd : FuncData) (ps : List Str), FnG P w K mg base (L2.CX P w) k f fd ps (spOf K F) ∧ Cls K (He.ga K cl) ∧ Meth K (He.ga K cl) mt f ∧ Binds K fd ps []
/-- a class that is made by its __init__ -/
def CD (P : Program) (w : World) (K : PySem.W.Frag) (mg : Str → Option Value) (base : Heap) (cl : Str) (k : Nat) (F : AFn) : Prop :=
  ∃ (f : Addr) (fd : FuncData) (ps : List Str), FnG P w K mg base (L2.CX P w) k f fd ps (spOf K F) ∧ mg cl = some (.ref (He.ga K cl)) ∧ Mk K (He.ga K cl) f ∧ Binds K fd ps []
theorem FD.mono {P : Program} {w : World} {K : PySem.W.Frag} {mg : Str → Option Value} {base : Heap} {x : Str} {j k : Nat} {F : AFn} (h : FD P w K mg base x j F) (hj : j ≤ k) : FD P w K mg base x k F := let ⟨f, fd, ps, o, r⟩ := h; ⟨f, fd, ps, o.mono hj, r⟩
theorem MD.mono {P : Program} {w : World} {K : PySem.W.Frag} {mg : Str → Option Value} {base : Heap} {cl x : Str} {j k : Nat} {F : AFn} (h : MD P w K mg base cl x j F) (hj : j ≤ k) : MD P w K mg base cl x k F := let ⟨f, fd, ps, o, r⟩ := h; ⟨f, fd, ps, o.mono hj, r⟩
theorem FD.imp {P : Program} {w : World} {K : PySem.W.Frag} {mg : Str → Option Value} {base : Heap} {x : Str} {k : Nat} {F G : AFn} (h : FD P w K mg base x k F) (hg : ∀ ds S E Q, G ds S E Q → F ds S E Q) : FD P w K mg base x k G := by
  obtain ⟨f, fd, ps, o, r⟩ := h
  exact ⟨f, fd, ps, o.imp fun vs H Q E ⟨A, S, ds, Qa, Ea, m, rl, g, k1, k2⟩ => ⟨A, S, ds, Qa, Ea, m, rl, hg _ _ _ _ g, k1, k2⟩, r⟩
theorem MD.imp {P : Program} {w : World} {K : PySem.W.Frag} {mg : Str → Option Value} {base : Heap} {cl x : Str} {k : Nat} {F G : AFn} (h : MD P w K mg base cl x k F) (hg : ∀ ds S E Q, G ds S E Q → F ds S E Q) : MD P w K mg base cl x k G := by
  obtain ⟨f, fd, ps, o, r⟩ := h
  exact ⟨f, fd, ps, o.imp fun vs H Q E ⟨A, S, ds, Qa, Ea, m, rl, g, k1, k2⟩ => ⟨A, S, ds, Qa, Ea, m, rl, hg _ _ _ _ g, k1, k2⟩, r⟩
def aCall (F : AFn) (t : ATA) : ATE := fun ρ S E Q => t ρ S E fun ds S1 => F ds S1 E Q
theorem sp_mk {K : PySem.W.Frag} {A : List Addr} {H : Hp} {S : Sto} {ds : List D} {vs : List V} {F : AFn} {P : VK} {Q : VA} {E : XA} {W' : XK} (m : MtS K A H S) (r : RpL K A H ds vs) (h : F ds S E Q) (kq : KQ K A H P Q) (kx : KX K A H W' E) : spOf K F vs H P W' := ⟨A, S, ds, Q, E, m, r, h, kq, kx⟩
variable {k : Nat} {F : AFn} {m cl : Str} {apos : Pos} {o : Expr} {ao : ATE}
theorem ae_call (h : FD X.prog X.w X.K X.mg X.base x k F) (hr : RG k X.A) (tk : Takes X W) (ha : AA X W (e :: es) t') (hg : Gl X x := by rfl) (hdb : (x == ("__debug__" : Str)) = false := by decide)
    (he : starEach (e :: es) X.env = (false, eval e X.env) :: starEach es X.env := by rfl) (hpl : (backTo pos (starEach es X.env)).any (·.1) = false := by rfl) : AE X W (.Call (.Name x p) (e :: es) [] pos) (aCall F t') := by
  obtain ⟨f, fd, ps, ok, hm, hk, hb⟩ := h
  obtain ⟨t, pa, l⟩ := ha
  exact ⟨_, pe_callG ok hr hg hm hk hb (fun σ => passAt tk σ) pa hdb he hpl, fun σ H A ρ S P Q E mm mt h kq kx => l σ H A ρ S _ _ E mm mt h (fun vs H1 ds A1 S1 u1 m1 r1 q1 => sp_mk m1 r1 q1 (kq.mono u1) (kx.mono u1)) kx⟩
theorem ae_call0 (h : FD X.prog X.w X.K X.mg X.base x k F) (hr : RG k X.A) (tk : Takes X W) (hg : Gl X x := by rfl) (hdb : (x == ("__debug__" : Str)) = false := by decide) : AE X W (.Call (.Name x p) [] [] pos) (aCall F aNil) := by
  obtain ⟨f, fd, ps, ok, hm, hk, hb⟩ := h
  refine ⟨tCallS (spOf X.K F) (WE W) tNil, ⟨fun pins s σ H Q inv h => ?_⟩, fun σ H A ρ S P Q E mm mt h kq kx => sp_mk mm .nil h kq kx⟩
  exact wpAny_Call_Name_kw (ld_glob inv hg hm (PySem.W.callWith_K0 inv.kIn hk (run_fnG (us := []) ok hr hb (passAt tk σ) inv .nil h)) hdb)
def tMethS (C : Addr) (m : Str) (sp : Sp) (E : L2.St → XK) (ta : TE) (t : TA) : TE := fun σ H Q => ta σ H fun x H1 => ∃ a dx fs, x = .ref a ∧ H1 a = some (.ins C dx fs) ∧ fs.lookup m = none ∧
  t σ H1 fun vs H2 => sp (x :: vs) H2 Q (E σ)
theorem pe_methS {CX : CXT} {C f : Addr} {fd : FuncData} {ps : List Str} {sp : Sp} {E : L2.St → XK} {ta : TE} {t : TA} {pl : Sem Bool} (he : PE X o ta) (c : Cls X.K C) (hm : Meth X.K C m f) (F : FnG X.prog X.w X.K X.mg X.base CX k f fd ps sp) (hr : RG k X.A) (hb : Binds X.K fd ps []) (hx : ∀ σ, PassesAt CX X σ (E σ)) (ha : PA X (e :: es) t) (hst : starEach (e :: es) X.env = (false, eval e X.env) :: starEach es X.env := by rfl) (hpl : (backTo pos (starEach es X.env)).any (·.1) = false := by rfl) (ht : eval (.Call (.Attribute o m apos) (e :: es) [] pos) X.env = (do let ov ← eval o X.env; standAt apos.atName; let (f, first) ← holding [ov] (getMethod ov m pl); callWith pos f first (backTo pos (starEach (e :: es) X.env)) (backToKw pos (keywordEach [] X.env))) := by rfl) :
    PE X (.Call (.Attribute o m apos) (e :: es) [] pos) (tMethS C m sp E ta t) := ⟨fun pins s σ H Q inv h => by
  refine PySem.W.methodCall_KW (pl := pl) (thn (he.run pins s σ H _ inv h) fun u s1 ⟨x, H1, J, rx, a, dx, fs, ex, ea, l, q⟩ => ?_) ht
  subst ex
  have eu : u = Value.ref a := rx
  subst eu
  refine getmeth_ok J ea c hm l (PySem.W.callWith_K (first := [.ref a]) (h₀ := X.base) inv.ok.mod.kin hm.kp (thn (ha.run pos pins s1 σ H1 _ J q) fun us s2 ⟨vs, H2, I2, r, q2⟩ => ⟨I2.kIn, ?_⟩) hst hpl)
  exact run_fnG (us := .ref a :: us) (vs := .ref a :: vs) F hr hb (hx σ) I2 (.cons rfl r) q2⟩
theorem pe_meth0S {CX : CXT} {C f : Addr} {fd : FuncData} {ps : List Str} {sp : Sp} {E : L2.St → XK} {ta : TE} {pl : Sem Bool} (he : PE X o ta) (c : Cls X.K C) (hm : Meth X.K C m f) (F : FnG X.prog X.w X.K X.mg X.base CX k f fd ps sp) (hr : RG k X.A) (hb : Binds X.K fd ps []) (hx : ∀ σ, PassesAt CX X σ (E σ)) (ht : eval (.Call (.Attribute o m apos) [] [] pos) X.env = (do let ov ← eval o X.env; standAt apos.atName; let (f, first) ← holding [ov] (getMethod ov m pl); callWith pos f first (backTo pos (starEach [] X.env)) (backToKw pos (keywordEach [] X.env))) := by rfl) :
    PE X (.Call (.Attribute o m apos) [] [] pos) (tMethS C m sp E ta tNil) := ⟨fun pins s σ H Q inv h => by
  refine PySem.W.methodCall_KW (pl := pl) (thn (he.run pins s σ H _ inv h) fun u s1 ⟨x, H1, J, rx, a, dx, fs, ex, ea, l, q⟩ => ?_) ht
  subst ex
  have eu : u = Value.ref a := rx
  subst eu
  exact getmeth_ok J ea c hm l (PySem.W.callWith_K0 (first := [.ref a]) J.kIn hm.kp (run_fnG (us := [.ref a]) (vs := [.ref a]) F hr hb (hx σ) J (.cons rfl .nil) q))⟩
/-- the instance of the class cl at d, its fields -/
def insOf (S : Sto) (cl : Str) (d : D) : Option (List (Str × D)) := match d with
  | .ref i => (match S[i]? with
    | some (.ins c fs) => if c = cl then some fs else none
    | _ => none)
  | _ => none
theorem ins_at {K : PySem.W.Frag} {A : List Addr} {H : Hp} {S : Sto} {d : D} {v : V} {fs : List (Str × D)} (m : MtS K A H S) (r : Rp K A H d v) (h : insOf S cl d = some fs) : ∃ a dx gs i, d = .ref i ∧ A[i]? = some a ∧ S[i]? = some (.ins cl fs) ∧ v = .ref a ∧ H a = some (.ins (He.ga K cl) dx gs) ∧ RpK K A H Str fs gs := by
  cases r <;> simp [insOf] at h
  rename_i i a e
  split at h
  · rename_i c fs' es'
    split at h
    · rename_i ec
      cases h
      subst ec
      obtain ⟨dx, gs, g, rk⟩ := m.ok i _ a es' e
      exact ⟨a, dx, gs, i, rfl, e, es', rfl, g, rk⟩
    · cases h
  · cases h
def lookF (f : Str) : List (Str × D) → Option D
  | [] => none
  | (g, d) :: r => if f = g then some d else lookF f r
theorem look_ok {K : PySem.W.Frag} {A : List Addr} {H : Hp} {f : Str} {fs : List (Str × D)} {gs : List (Str × V)} (r : RpK K A H Str fs gs) : (lookF f fs = none ∧ gs.lookup f = none) ∨ ∃ d v, lookF f fs = some d ∧ gs.lookup f = some v ∧ Rp K A H d v := by
  induction r with
  | nil => exact Or.inl ⟨rfl, rfl⟩
  | cons h1 h2 ih =>
    rename_i p q l1 l2
    obtain ⟨p1, p2⟩ := p
    obtain ⟨q1, q2⟩ := q
    obtain ⟨e, rp⟩ := h1
    dsimp only at e rp
    subst e
    show ((if f = p1 then some p2 else lookF f l1) = none ∧ (match f == p1 with | true => some q2 | false => l2.lookup f) = none) ∨ ∃ d v, (if f = p1 then some p2 else lookF f l1) = some d ∧ (match f == p1 with | true => some q2 | false => l2.lookup f) = some v ∧ Rp K A H d v
    by_cases h : f = p1
    · have hb : (f == p1) = true := by simpa using h
      rw [if_pos h, hb]; exact .inr ⟨_, _, rfl, rfl, rp⟩
    · have hb : (f == p1) = false := by simpa using h
      rw [if_neg h, hb]; exact ih
def aMeth (cl m : Str) (F : AFn) (a : ATE) (t : ATA) : ATE := fun ρ S E Q => a ρ S E fun x S1 => must (insOf S1 cl x) fun fs => lookF m fs = none ∧ t ρ S1 E fun ds S2 => F (x :: ds) S2 E Q
theorem le_meth {K : PySem.W.Frag} {ta : TE} {t : TA} (la : LE K W ta ao) (l : LA K W t t') : LE K W (tMethS (He.ga K cl) m (spOf K F) (WE W) ta t) (aMeth cl m F ao t') := fun σ H A ρ S P Q E mm mt h kq kx =>
  la σ H A ρ S _ _ E mm mt h (fun x H1 dx A1 S1 u1 m1 r1 q1 => by
    obtain ⟨fs, e, hl, q⟩ := of_must q1
    obtain ⟨a, dxx, gs, i, ed, ea, es', ev, g, rk⟩ := ins_at m1 r1 e
    subst ev
    refine ⟨a, dxx, gs, rfl, g, ?_, ?_⟩
    · rcases look_ok (f := m) rk with ⟨_, h2⟩ | ⟨d, v, h1, _, _⟩
      · exact h2
      · rw [hl] at h1; cases h1
    · exact l σ H1 A1 ρ S1 _ _ E m1 (mt.mono u1) q (fun vs H2 ds A2 S2 u2 m2 r2 q2 => sp_mk m2 (.cons (r1.mono u2) r2) q2 (kq.mono (u1.trans u2)) (kx.mono (u1.trans u2))) (kx.mono u1)) kx
theorem ae_meth {pl : Sem Bool} (h : MD X.prog X.w X.K X.mg X.base cl m k F) (hr : RG k X.A) (tk : Takes X W) (ho : AE X W o ao) (ha : AA X W (e :: es) t') (hst : starEach (e :: es) X.env = (false, eval e X.env) :: starEach es X.env := by rfl) (hpl : (backTo pos (starEach es X.env)).any (·.1) = false := by rfl) (ht : eval (.Call (.Attribute o m apos) (e :: es) [] pos) X.env = (do let ov ← eval o X.env; standAt apos.atName; let (f, first) ← holding [ov] (getMethod ov m pl); callWith pos f first (backTo pos (starEach (e :: es) X.env)) (backToKw pos (keywordEach [] X.env))) := by rfl) : AE X W (.Call (.Attribute o m apos) (e :: es) [] pos) (aMeth cl m F ao t') := by
  obtain ⟨f, fd, ps, ok, hc, hm, hb⟩ := h
  obtain ⟨ta, po, la⟩ := ho
  obtain ⟨t, pa, l⟩ := ha
  exact ⟨_, pe_methS (pl := pl) po hc hm ok hr hb (fun σ => passAt tk σ) pa hst hpl ht, le_meth la l⟩
theorem ae_meth0 {pl : Sem Bool} (h : MD X.prog X.w X.K X.mg X.base cl m k F) (hr : RG k X.A) (tk : Takes X W) (ho : AE X W o ao) (ht : eval (.Call (.Attribute o m apos) [] [] pos) X.env = (do let ov ← eval o X.env; standAt apos.atName; let (f, first) ← holding [ov] (getMethod ov m pl); callWith pos f first (backTo pos (starEach [] X.env)) (backToKw pos (keywordEach [] X.env))) := by rfl) : AE X W (.Call (.Attribute o m apos) [] [] pos) (aMeth cl m F ao aNil) := by
  obtain ⟨f, fd, ps, ok, hc, hm, hb⟩ := h
  obtain ⟨ta, po, la⟩ := ho
  exact ⟨_, pe_meth0S (pl := pl) po hc hm ok hr hb (fun σ => passAt tk σ) ht, le_meth la (fun σ H A ρ S P Q E m mt h kq _ => kq [] H [] A S Up.refl m .nil h)⟩
/-! ### fields -/
/-- the class keeps the field in its instances -/
def FieldOk (K : PySem.W.Frag) (cl f : Str) : Prop := Cls K (He.ga K cl) ∧ NoAttr K (He.ga K cl) f
/-- o.f, o of the class cl -/
def aFld (cl f : Str) (a : ATE) : ATE := fun ρ S E Q => a ρ S E fun x S1 => must (insOf S1 cl x) fun fs => must (lookF f fs) fun d => Q d S1
theorem ae_fld {f : Str} (hf : FieldOk X.K cl f) (ho : AE X W o ao) (hb : attributeBase o f X.env (eval o X.env) = eval o X.env := by rfl) : AE X W (.Attribute o f pos) (aFld cl f ao) := by
  obtain ⟨ta, po, la⟩ := ho
  refine ⟨_, pe_fld po hb, fun σ H A ρ S P Q E mm mt h kq kx => la σ H A ρ S _ _ E mm mt h (fun x H1 dx A1 S1 u1 m1 r1 q1 => ?_) kx⟩
  obtain ⟨fs, e, q⟩ := of_must q1
  obtain ⟨d, el, q⟩ := of_must q
  obtain ⟨a, dxx, gs, i, ed, ea, es', ev, g, rk⟩ := ins_at m1 r1 e
  subst ev
  rcases look_ok (f := f) rk with ⟨h1, _⟩ | ⟨d', v, h1, h2, rv⟩
  · rw [el] at h1; cases h1
  · rw [el] at h1; cases h1
    exact ⟨a, _, dxx, gs, v, rfl, g, hf.1, hf.2, h2, kq _ H1 _ A1 S1 u1 m1 rv q⟩
/-! ### dict displays (empty) -/
def aDNew : ATE := fun _ S _ Q => Q (.ref S.length) (S ++ [.dK []])
theorem ae_dnew : AE X W (.Dict [] [] pos) aDNew := ⟨_, pe_dnewK, fun σ H A ρ S P Q E m mt h kq kx pp hp => kq _ _ _ (A ++ [pp]) _ (Up.alloc m hp) (m.alloc (o := .dK []) hp ⟨[], upd_same, .nil⟩) (.ref (by rw [m.len]; exact alloc_at)) h⟩
end
end AL
/-! AL5: statements. -/
namespace AL
open PySem PySem.Spec
open PyProof.Rows L2
structure AEnds where
  nx : Rho → Sto → Prop
  rt : VA
  ex : Exn → Rho → Sto → Prop
  bk : Rho → Sto → Prop := fun _ _ => False
  ct : Rho → Sto → Prop := fun _ _ => False
abbrev ATS := AEnds → Rho → Sto → Prop
section
variable (K : PySem.W.Frag) (A : List Addr) (H : Hp)
def KN (P : L2.St → Hp → Prop) (Q : Rho → Sto → Prop) : Prop := ∀ σ' H' ρ' A' S', Up K A H A' H' → MtS K A' H' S' → Mt K A' H' ρ' σ' → Q ρ' S' → P σ' H'
def KXS (W : WX) (Q : Exn → Rho → Sto → Prop) : Prop := ∀ x c d σ' H' ρ' A' S', Up K A H A' H' → MtS K A' H' S' → Mt K A' H' ρ' σ' → ExR K A' H' x c d → Q x ρ' S' → W c d σ' H'
structure KS (W : WX) (D : Ends) (AD : AEnds) : Prop where
  nx : KN K A H D.nx AD.nx
  rt : KQ K A H D.rt AD.rt
  bk : KN K A H D.bk AD.bk
  ct : KN K A H D.ct AD.ct
  ex : KXS K A H W AD.ex
end
section
variable {K : PySem.W.Frag} {A A' : List Addr} {H H' : Hp} {W : WX}
theorem KN.mono {P : L2.St → Hp → Prop} {Q : Rho → Sto → Prop} (k : KN K A H P Q) (u : Up K A H A' H') : KN K A' H' P Q := fun s h r a t w m mt q => k s h r a t (u.trans w) m mt q
theorem KXS.mono {Q : Exn → Rho → Sto → Prop} (k : KXS K A H W Q) (u : Up K A H A' H') : KXS K A' H' W Q := fun x c d s h r a t w m mt e q => k x c d s h r a t (u.trans w) m mt e q
theorem KXS.at {Q : Exn → Rho → Sto → Prop} {ρ : Rho} {σ : L2.St} (k : KXS K A H W Q) (mt : Mt K A H ρ σ) : KX K A H (WE' W σ) (fun x S => Q x ρ S) := fun x c d H' A' S' u m r q => k x c d σ H' ρ A' S' u m (mt.mono u) r q
theorem KS.mono {D : Ends} {AD : AEnds} (k : KS K A H W D AD) (u : Up K A H A' H') : KS K A' H' W D AD := ⟨k.nx.mono u, k.rt.mono u, k.bk.mono u, k.ct.mono u, k.ex.mono u⟩
end
def LS (K : PySem.W.Frag) (W : WX) (t : TS) (a : ATS) : Prop := ∀ σ H A ρ S (D : Ends) (AD : AEnds), MtS K A H S → Mt K A H ρ σ → a AD ρ S → KS K A H W D AD → t D σ H
def AS (X : Cx) (W : WX) (st : Stmt) (a : ATS) : Prop := ∃ t, PS X st t ∧ LS X.K W t a
def ASs (X : Cx) (W : WX) (st : List Stmt) (a : ATS) : Prop := ∃ t, PSs X st t ∧ LS X.K W t a

section
variable {X : Cx} {W : WX} {a b c e : Expr} {aa ab ac : ATE} {pos pos' : Pos} {es : List Expr} {t' : ATA} {st : Stmt} {rest sts sts' : List Stmt} {as1 as2 : ATS} {at1 : ATT}
def aNext : ATS := fun D ρ S => D.nx ρ S
def aSeq (t u : ATS) : ATS := fun D ρ S => t { D with nx := u D } ρ S
theorem ass_nil : ASs X W [] aNext := ⟨_, pss_nil, fun σ H A ρ S D AD m mt h k => k.nx σ H ρ A S Up.refl m mt h⟩
theorem ass_one (h : AS X W st as1) : ASs X W [st] as1 := let ⟨_, p, l⟩ := h; ⟨_, pss_one p, l⟩
theorem ls_seq {K : PySem.W.Frag} {t u : TS} (l1 : LS K W t as1) (l2 : LS K W u as2) : LS K W (tSeq t u) (aSeq as1 as2) := fun σ H A ρ S D AD m mt h k =>
  l1 σ H A ρ S _ _ m mt h ⟨fun σ' H' ρ' A' S' u m' mt' q => l2 σ' H' A' ρ' S' D AD m' mt' q (k.mono u), k.rt, k.bk, k.ct, k.ex⟩
theorem ass_cons (h : AS X W st as1) (g : ASs X W rest as2) : ASs X W (st :: rest) (aSeq as1 as2) := let ⟨_, p, l⟩ := h; let ⟨_, q, l'⟩ := g; ⟨_, pss_cons p q, ls_seq l l'⟩
theorem as_pass : AS X W (.Pass pos) aNext := ⟨_, ps_pass, fun σ H A ρ S D AD m mt h k => k.nx σ H ρ A S Up.refl m mt h⟩
def aBreak : ATS := fun D ρ S => D.bk ρ S
def aCont : ATS := fun D ρ S => D.ct ρ S
theorem as_break : AS X W (.Break pos) aBreak := ⟨_, ps_break, fun σ H A ρ S D AD m mt h k => k.bk σ H ρ A S Up.refl m mt h⟩
theorem as_continue : AS X W (.Continue pos) aCont := ⟨_, ps_continue, fun σ H A ρ S D AD m mt h k => k.ct σ H ρ A S Up.refl m mt h⟩
theorem as_doc {x j} : AS X W (.Expr (.Constant (.str x) j pos) pos') aNext := ⟨_, ps_doc, fun σ H A ρ S D AD m mt h k => k.nx σ H ρ A S Up.refl m mt h⟩
def aDrop (a : ATE) : ATS := fun D ρ S => a ρ S (fun x S1 => D.ex x ρ S1) fun _ S1 => D.nx ρ S1
theorem as_expr (h : AE X W e aa) (hs : swapsWith e none pos.line X.env = pure false := by rfl) : AS X W (.Expr e pos) (aDrop aa) := by
  obtain ⟨t, p, l⟩ := h
  exact ⟨_, ps_expr p hs, fun σ H A ρ S D AD m mt h k => l σ H A ρ S _ _ _ m mt h (fun v H1 d A1 S1 u m1 r q => k.nx σ H1 ρ A1 S1 u m1 (mt.mono u) q) (k.ex.at mt)⟩
def aRet (a : ATE) : ATS := fun D ρ S => a ρ S (fun x S1 => D.ex x ρ S1) D.rt
theorem as_ret (h : AE X W e aa) : AS X W (.Return (some e) pos) (aRet aa) := by
  obtain ⟨t, p, l⟩ := h
  exact ⟨_, ps_ret p, fun σ H A ρ S D AD m mt h k => l σ H A ρ S _ _ _ m mt h k.rt (k.ex.at mt)⟩
def aRetN : ATS := fun D _ S => D.rt .non S
theorem as_retN : AS X W (.Return none pos) aRetN := ⟨_, ps_retN, fun σ H A ρ S D AD m mt h k => k.rt _ H _ A S Up.refl m .non h⟩
def aIfS (t : ATT) (a b : ATS) : ATS := fun D ρ S => t ρ S (fun x S1 => D.ex x ρ S1) fun k S1 => match k with
  | true => a D ρ S1
  | false => b D ρ S1
theorem as_if (h : AT X W c at1) (h1 : ASs X W sts as1) (h2 : ASs X W sts' as2) : AS X W (.If c sts sts' pos) (aIfS at1 as1 as2) := by
  obtain ⟨t, p, l⟩ := h
  obtain ⟨t1, p1, l1⟩ := h1
  obtain ⟨t2, p2, l2⟩ := h2
  refine ⟨_, ps_if p p1 p2, fun σ H A ρ S D AD m mt h k => l σ H A ρ S _ _ _ m mt h (fun b H1 A1 S1 u m1 q => ?_) (k.ex.at mt)⟩
  cases b with
  | true => exact l1 σ H1 A1 ρ S1 D AD m1 (mt.mono u) q (k.mono u)
  | false => exact l2 σ H1 A1 ρ S1 D AD m1 (mt.mono u) q (k.mono u)
/-! ### targets -/
abbrev ATG := D → Rho → Sto → (Rho → Sto → Prop) → Prop
def LG (K : PySem.W.Frag) (g : TG) (ag : ATG) : Prop := ∀ σ H A ρ S d v (P : L2.St → Hp → Prop) (Q : Rho → Sto → Prop), MtS K A H S → Mt K A H ρ σ → Rp K A H d v → ag d ρ S Q → KN K A H P Q → g v σ H P
def AG (X : Cx) (tg : Expr) (ag : ATG) : Prop := ∃ g, PG X tg g ∧ LG X.K g ag
abbrev ATGs := List D → Rho → Sto → (Rho → Sto → Prop) → Prop
def LGs (K : PySem.W.Frag) (g : TGs) (ag : ATGs) : Prop := ∀ σ H A ρ S ds vs (P : L2.St → Hp → Prop) (Q : Rho → Sto → Prop), MtS K A H S → Mt K A H ρ σ → RpL K A H ds vs → ag ds ρ S Q → KN K A H P Q → g vs σ H P
def AGs (X : Cx) (tgs : List Expr) (ag : ATGs) : Prop := ∃ g, PGs X tgs g ∧ LGs X.K g ag
def sset (ρ : Rho) (i : Nat) (d : D) : Rho := ρ.set i (some d)
def agName (i : Nat) : ATG := fun d ρ S Q => Q (sset ρ i d) S
theorem lg_name {K : PySem.W.Frag} {i : Nat} : LG K (gName i) (agName i) := fun σ H A ρ S d v P Q m mt r q k => k _ H _ A S Up.refl m (mt.set r) q
theorem ag_name {i : Nat} {x : Str} (hN : X.N.Nodup) (hi : X.N[i]? = some x := by rfl) (hx : Loc X.env.scope x := by first | exact Or.inl rfl | exact Or.inr rfl) (hf : X.fn x = true ∨ X.env.scope.names.lookup x = some .local := by first | exact .inl rfl | exact .inr rfl | assumption) : AG X (.Name x pos) (agName i) :=
  ⟨_, pg_name hN hi hx hf, lg_name⟩
def agNil : ATGs := fun ds ρ S Q => match ds with
  | [] => Q ρ S
  | _ => False
def agCons (t : ATG) (u : ATGs) : ATGs := fun ds ρ S Q => match ds with
  | d :: r => t d ρ S fun ρ1 S1 => u r ρ1 S1 Q
  | _ => False
theorem ags_nil : AGs X [] agNil := ⟨_, pgs_nil, fun σ H A ρ S ds vs P Q m mt r q k => by
  cases r with
  | nil => exact ⟨rfl, k σ H ρ A S Up.refl m mt q⟩
  | cons _ _ => exact q.elim⟩
theorem ags_cons {tg : Expr} {tgs : List Expr} {g1 : ATG} {g2 : ATGs} (h : AG X tg g1) (h2 : AGs X tgs g2) (hs : (assignEach (tg :: tgs) X.env).map (·.2) = assign tg X.env :: (assignEach tgs X.env).map (·.2) := by rfl) : AGs X (tg :: tgs) (agCons g1 g2) := by
  obtain ⟨t1, p1, l1⟩ := h
  obtain ⟨t2, p2, l2⟩ := h2
  refine ⟨_, pgs_cons p1 p2 hs, fun σ H A ρ S ds vs P Q m mt r q k => ?_⟩
  cases r with
  | nil => exact q.elim
  | cons r1 r2 => exact ⟨_, _, rfl, l1 σ H A ρ S _ _ _ _ m mt r1 q fun σ' H' ρ' A' S' u m' mt' q' => l2 σ' H' A' ρ' S' _ _ P Q m' mt' (r2.mono u) q' (k.mono u)⟩
/-- a tuple or a list is unpacked -/
def agTup (n : Nat) (u : ATGs) : ATG := fun d ρ S Q => must (seqOf S d) fun l => l.length = n ∧ u l ρ S Q
theorem ag_tup {tgs : List Expr} {k : Nat} {n : Nat} {g2 : ATGs} (hc : X.calm = true) (h : AGs X tgs g2) (hn : (assignEach tgs X.env).length = n := by rfl) (hst : (assignEach tgs X.env).findIdx? (·.1) = none := by rfl) : AG X (.Tuple tgs k pos) (agTup n g2) := by
  obtain ⟨t2, p2, l2⟩ := h
  have p : PG X (.Tuple tgs k pos) (fun v σ H Q => gTup X.K n t2 v σ H Q ∨ gUnl X.K n t2 v σ H Q) := ⟨fun pins s σ H v u Q I r q => q.elim ((pg_tup hc p2 hn hst).run pins s σ H v u Q I r) ((pg_unl hc p2 hn hst).run pins s σ H v u Q I r)⟩
  refine ⟨_, p, fun σ H A ρ S d v P Q m mt r q k => ?_⟩
  obtain ⟨l, h, hl, q2⟩ := of_must q
  cases r <;> simp [seqOf] at h
  · rename_i i ad e'
    obtain ⟨ws, hs, rl⟩ := lst_at m e' h
    exact .inr ⟨ad, ws, rfl, hs, by rw [← rl.length]; exact hl, l2 σ H A ρ S l ws P Q m mt rl q2 k⟩
  · rename_i ad ws l' hs rl
    subst h
    exact .inl ⟨ad, ws, rfl, hs, by rw [← rl.length]; exact hl, l2 σ H A ρ S _ ws P Q m mt rl q2 k⟩
  · rename_i ad ws l' hs rl
    subst h
    exact .inr ⟨ad, ws, rfl, .inr hs, by rw [← rl.length]; exact hl, l2 σ H A ρ S _ ws P Q m mt rl q2 k⟩
def aAsg (a : ATE) (g : ATG) : ATS := fun D ρ S => a ρ S (fun x S1 => D.ex x ρ S1) fun d S1 => g d ρ S1 D.nx
theorem ls_asg {K : PySem.W.Frag} {t : TE} {g : TG} {ag : ATG} (l : LE K W t aa) (lg : LG K g ag) : LS K W (tAsg t g) (aAsg aa ag) := fun σ H A ρ S D AD m mt h k =>
  l σ H A ρ S _ _ _ m mt h (fun v H1 d A1 S1 u m1 r q => lg σ H1 A1 ρ S1 d v _ _ m1 (mt.mono u) r q (k.nx.mono u)) (k.ex.at mt)
theorem as_asg {tg : Expr} {ag : ATG} (h : AE X W e aa) (hg : AG X tg ag) (hs : swapsWithSole [tg] e pos.line X.env = pure false := by rfl) (hw : swappedStores [tg] e X.env = pure none := by rfl)
    (h1 : (assignEach [tg] X.env).map (·.2) = [assign tg X.env] := by rfl) : AS X W (.Assign [tg] e pos) (aAsg aa ag) := by
  obtain ⟨t, p, l⟩ := h
  obtain ⟨g, pg, lg⟩ := hg
  exact ⟨_, ps_asg p pg hs hw h1, ls_asg l lg⟩
theorem as_set {i : Nat} {x : Str} (hN : X.N.Nodup) (h : AE X W e aa) (hi : X.N[i]? = some x := by rfl) (hx : Loc X.env.scope x := by first | exact Or.inl rfl | exact Or.inr rfl) (hs : swapsWith e (some (.Name x pos')) pos.line X.env = pure false := by rfl)
    (hf : X.fn x = true ∨ X.env.scope.names.lookup x = some .local := by first | exact .inl rfl | exact .inr rfl | assumption) : AS X W (.Assign [.Name x pos'] e pos) (aAsg aa (agName i)) := by
  obtain ⟨t, p, l⟩ := h
  exact ⟨_, ps_set hN hi hx p hs hf, ls_asg l lg_name⟩
/-! ### xs.append(e), xs.extend(ys) -/
def mAppend (o d : D) (S : Sto) (Q : Sto → Prop) : Prop := match o with
  | .ref i => (match S[i]? with
    | some (.lst l) => l.length < sizeLine ∧ Q (S.set i (.lst (l ++ [d])))
    | _ => False)
  | _ => False
/-- what is known to be a list when the method is looked up -/
def isLst (S : Sto) (o : D) : Bool := match o with
  | .ref i => (lstOf S i).isSome
  | _ => false
def aAppend (ao a : ATE) : ATE := fun ρ S E Q => ao ρ S E fun o S1 => isLst S1 o = true ∧ a ρ S1 E fun d S2 => mAppend o d S2 fun S3 => Q .non S3
theorem tyl_ok {K : PySem.W.Frag} {A : List Addr} {H : Hp} {S : Sto} {o : D} {v : V} (m : MtS K A H S) (r : Rp K A H o v) (h : isLst S o = true) : tyV K "list" v H := by
  cases r <;> simp [isLst] at h
  rename_i i a e
  obtain ⟨l, hl⟩ := Option.isSome_iff_exists.mp h
  obtain ⟨vs, hs, _⟩ := lst_at m e hl
  exact Or.inl ⟨rfl, vs, hs⟩
theorem ae_append {o : Expr} {ao : ATE} {apos cpos : Pos} (ho : AE X W o ao) (ha : AE X W e aa)
    (hbase : attributeBase o "append" X.env (eval o X.env) = eval o X.env := by rfl) (hfew : ((backTo cpos (starEach [e] X.env)).all (fun x => !x.1) && (backToKw cpos (keywordEach [] X.env)).all (fun x => x.1.isSome) && decide ([e].length + ([] : List Keyword).length + (if ([] : List Keyword).isEmpty then 0 else 1) < 30)) = true := by rfl) (hline : (apos.endLine == cpos.line) = true := by rfl) (hs : starEach [e] X.env = (false, eval e X.env) :: starEach [] X.env := by rfl) (hplain : (backTo cpos (starEach [] X.env)).any (·.1) = false := by rfl) :
    AE X W (.Call (.Attribute o "append" apos) [e] [] cpos) (aAppend ao aa) := by
  obtain ⟨to, po, lo⟩ := ho
  obtain ⟨ta, pa, la⟩ := ha
  refine ⟨_, pe_bm PySem.F.plainAttrs_list PySem.F.slot_list_append PySem.F.type_list_append mt_append po (pa_cons pa pa_nil hs) hbase hfew hline hs hplain, fun σ H A ρ S P Q E m mt h kq kx => lo σ H A ρ S _ _ E m mt h (fun x H1 dx A1 S1 u1 m1 r1 q1 => ?_) kx⟩
  refine ⟨tyl_ok m1 r1 q1.1, la σ H1 A1 ρ S1 _ _ E m1 (mt.mono u1) q1.2 (fun y H2 dy A2 S2 u2 m2 r2 q2 => ?_) (kx.mono u1)⟩
  have r1' := r1.mono u2
  cases r1' <;> first | exact q2.elim | skip
  rename_i i ad e'
  simp only [mAppend] at q2
  split at q2
  · rename_i l es'
    obtain ⟨vs, g, rl⟩ := m2.ok i _ ad es' e'
    have uw : Up X.K A2 H2 A2 (upd H2 ad (.lst (vs ++ [y]))) := Up.write m2 e'
    refine ⟨ad, vs, y, rfl, rfl, g, by rw [← rl.length]; exact q2.1, ?_⟩
    exact kq _ _ .non A2 _ ((u1.trans u2).trans uw) (m2.write (o := .lst (l ++ [dy])) e' ⟨_, upd_same, (rl.append (RpL.one r2)).mono uw⟩) .non q2.2
  · exact q2.elim
/-! ### o.f = e -/
def setF (f : Str) (d : D) : List (Str × D) → List (Str × D)
  | [] => [(f, d)]
  | (g, x) :: r => if g = f then (g, d) :: r else (g, x) :: setF f d r
theorem setF_ok {K : PySem.W.Frag} {A : List Addr} {H : Hp} {f : Str} {d : D} {v : V} (r : Rp K A H d v) : ∀ {fs : List (Str × D)} {gs : List (Str × V)}, RpK K A H Str fs gs → RpK K A H Str (setF f d fs) (putF f v gs) := by
  intro fs gs h
  induction h with
  | nil => exact .cons ⟨rfl, r⟩ .nil
  | cons h1 h2 ih =>
    rename_i p q l1 l2
    obtain ⟨p1, p2⟩ := p
    obtain ⟨q1, q2⟩ := q
    obtain ⟨e, rp⟩ := h1
    dsimp only at e rp
    subst e
    show RpK K A H Str (if p1 = f then (p1, d) :: l1 else (p1, p2) :: setF f d l1) (if p1 = f then (p1, v) :: l2 else (p1, q2) :: putF f v l2)
    by_cases hh : p1 = f
    · rw [if_pos hh, if_pos hh]; exact .cons ⟨rfl, r⟩ h2
    · rw [if_neg hh, if_neg hh]; exact .cons ⟨rfl, rp⟩ ih
/-- o.f = e, o an instance of cl -/
def aFldSet (cl f : Str) (ao a : ATE) : ATS := fun D ρ S => a ρ S (fun x S1 => D.ex x ρ S1) fun d S1 => ao ρ S1 (fun x S2 => D.ex x ρ S2) fun o S2 => must (insOf S2 cl o) fun fs => fs.length < 1000 ∧ (match o with
  | .ref i => D.nx ρ (S2.set i (.ins cl (setF f d fs)))
  | _ => False)
theorem as_fld {cl f : Str} {o : Expr} {ao : ATE} (hf : FieldOk X.K cl f) (ho : AE X W o ao) (hv : AE X W e aa) (hs : swapsWith e (some (.Attribute o f pos')) pos.line X.env = pure false := by rfl) : AS X W (.Assign [.Attribute o f pos'] e pos) (aFldSet cl f ao aa) := by
  obtain ⟨to, po, lo⟩ := ho
  obtain ⟨tv, pv, lv⟩ := hv
  refine ⟨_, ps_fld po pv hs, fun σ H A ρ S D AD m mt h k => lv σ H A ρ S _ _ _ m mt h (fun v H1 d A1 S1 u1 m1 r1 q1 => lo σ H1 A1 ρ S1 _ _ _ m1 (mt.mono u1) q1 (fun x H2 dx A2 S2 u2 m2 r2 q2 => ?_) ((k.ex.mono u1).at (mt.mono u1))) (k.ex.at mt)⟩
  obtain ⟨fs, ei, hl, q⟩ := of_must q2
  obtain ⟨ad, dxx, gs, i, ed, ea, es', ev, g, rk⟩ := ins_at m2 r2 ei
  subst ev; subst ed
  have uw : Up X.K A2 H2 A2 (upd H2 ad (.ins (He.ga X.K cl) dxx (putF f v gs))) := Up.write m2 ea
  refine ⟨ad, _, dxx, gs, rfl, g, hf.1, hf.2, by rw [← RpK.length rk]; exact hl, ?_⟩
  exact k.nx _ _ ρ A2 _ ((u1.trans u2).trans uw) (m2.write (o := .ins cl (setF f d fs)) ea ⟨dxx, _, upd_same, (setF_ok (r1.mono u2) rk).mono uw⟩) ((mt.mono (u1.trans u2)).mono uw) q
/-! ### d[k] = e -/
def setK {κ : Type} [DecidableEq κ] (k : κ) (d : D) : List (κ × D) → List (κ × D)
  | [] => [(k, d)]
  | (g, x) :: r => if g = k then (g, d) :: setMore k d r else (g, x) :: setK k d r
where
  setMore (k : κ) (d : D) : List (κ × D) → List (κ × D)
    | [] => []
    | (g, x) :: r => if g = k then (g, d) :: setMore k d r else (g, x) :: setMore k d r
theorem putK_cons {κ : Type} [DecidableEq κ] (k g : κ) (x v : V) (r : List (κ × V)) : putK ((g, x) :: r) k v = if g = k then (g, v) :: r.map (fun kv => if kv.1 = k then (kv.1, v) else kv) else (g, x) :: putK r k v := by
  unfold putK
  by_cases h : g = k
  · simp [h]
  · simp only [List.any_cons, h, decide_false, Bool.false_or, if_false, List.map_cons, List.cons_append]
    split <;> simp [h]
theorem setMore_ok {K : PySem.W.Frag} {A : List Addr} {H : Hp} {κ : Type} [DecidableEq κ] {k : κ} {d : D} {v : V} (r : Rp K A H d v) {kvs : List (κ × D)} {ks : List (κ × V)} (h : RpK K A H κ kvs ks) : RpK K A H κ (setK.setMore k d kvs) (ks.map fun kv => if kv.1 = k then (kv.1, v) else kv) := by
  induction h with
  | nil => exact .nil
  | cons h1 h2 ih =>
    rename_i p q l1 l2
    obtain ⟨p1, p2⟩ := p
    obtain ⟨q1, q2⟩ := q
    obtain ⟨e, rp⟩ := h1
    dsimp only at e rp
    subst e
    rw [List.map_cons]
    show RpK K A H κ (if p1 = k then (p1, d) :: setK.setMore k d l1 else (p1, p2) :: setK.setMore k d l1) ((if p1 = k then (p1, v) else (p1, q2)) :: _)
    by_cases hh : p1 = k
    · rw [if_pos hh, if_pos hh]; exact .cons ⟨rfl, r⟩ ih
    · rw [if_neg hh, if_neg hh]; exact .cons ⟨rfl, rp⟩ ih
theorem setK_ok {K : PySem.W.Frag} {A : List Addr} {H : Hp} {κ : Type} [DecidableEq κ] {k : κ} {d : D} {v : V} (r : Rp K A H d v) {kvs : List (κ × D)} {ks : List (κ × V)} (h : RpK K A H κ kvs ks) : RpK K A H κ (setK k d kvs) (putK ks k v) := by
  induction h with
  | nil =>
    show RpK K A H κ [(k, d)] (putK [] k v)
    exact .cons ⟨rfl, r⟩ .nil
  | cons h1 h2 ih =>
    rename_i p q l1 l2
    obtain ⟨p1, p2⟩ := p
    obtain ⟨q1, q2⟩ := q
    obtain ⟨e, rp⟩ := h1
    dsimp only at e rp
    subst e
    rw [putK_cons]
    show RpK K A H κ (if p1 = k then (p1, d) :: setK.setMore k d l1 else (p1, p2) :: setK k d l1) _
    by_cases hh : p1 = k
    · rw [if_pos hh, if_pos hh]; exact .cons ⟨rfl, r⟩ (setMore_ok r h2)
    · rw [if_neg hh, if_neg hh]; exact .cons ⟨rfl, rp⟩ ih
def mPut (o k d : D) (S : Sto) (Q : Sto → Prop) : Prop := match o with
  | .ref i => (match S[i]? with
    | some (.dK kvs) => must (keyD k) fun key => kvs.length < sizeLine ∧ Q (S.set i (.dK (setK key d kvs)))
    | _ => False)
  | _ => False
def aDPut (ao ak a : ATE) : ATS := fun D ρ S => a ρ S (fun x S1 => D.ex x ρ S1) fun d S1 => ao ρ S1 (fun x S2 => D.ex x ρ S2) fun o S2 => ak ρ S2 (fun x S3 => D.ex x ρ S3) fun k S3 => mPut o k d S3 (D.nx ρ)
theorem as_dput {o i : Expr} {ao ai : ATE} (hu : X.A.units + 1 < cLine) (ho : AE X W o ao) (hi : AE X W i ai) (hv : AE X W e aa) (hs : swapsWith e (some (.Subscript o i pos')) pos.line X.env = pure false := by rfl) : AS X W (.Assign [.Subscript o i pos'] e pos) (aDPut ao ai aa) := by
  obtain ⟨to, po, lo⟩ := ho
  obtain ⟨ti, pi', li⟩ := hi
  obtain ⟨tv, pv, lv⟩ := hv
  refine ⟨_, ps_dput hu po pi' pv hs, fun σ H A ρ S D AD m mt h k => lv σ H A ρ S _ _ _ m mt h (fun v H1 d A1 S1 u1 m1 r1 q1 => lo σ H1 A1 ρ S1 _ _ _ m1 (mt.mono u1) q1 (fun x H2 dx A2 S2 u2 m2 r2 q2 =>
    li σ H2 A2 ρ S2 _ _ _ m2 ((mt.mono u1).mono u2) q2 (fun y H3 dy A3 S3 u3 m3 r3 q3 => ?_) ((k.ex.mono (u1.trans u2)).at ((mt.mono u1).mono u2))) ((k.ex.mono u1).at (mt.mono u1))) (k.ex.at mt)⟩
  have r2' := r2.mono u3
  cases r2' <;> first | exact q3.elim | skip
  rename_i j ad ea
  simp only [mPut] at q3
  split at q3
  · rename_i kvs es'
    obtain ⟨key, ek, hl, q⟩ := of_must q3
    have ev := key_ok ek r3
    subst ev
    obtain ⟨ks, g, rk⟩ := m3.ok j _ ad es' ea
    have uw : Up X.K A3 H3 A3 (upd H3 ad (.dK (putK ks key v))) := Up.write m3 ea
    refine ⟨ad, _, rfl, DPut.k g (by rw [← RpK.length rk]; exact hl), ?_⟩
    exact k.nx _ _ ρ A3 _ (((u1.trans u2).trans u3).trans uw) (m3.write (o := .dK (setK key d kvs)) ea ⟨_, upd_same, (setK_ok ((r1.mono u2).mono u3) rk).mono uw⟩) ((mt.mono ((u1.trans u2).trans u3)).mono uw) q
  · exact q3.elim
end
end AL
/-! AL6: loops, comprehensions. -/
namespace AL
open PySem PySem.Spec
open PyProof.Rows L2
/-- what is walked -/
inductive Src where
  | fix (l : List D)
  | lst (i : Nat) (l : List D)
  | rvl (i : Nat) (l : List D)
  | rng (lo : Int) (n : Nat)
def Src.items : Src → List D
  | .fix l => l
  | .lst _ l => l
  | .rvl _ l => l.reverse
  | .rng lo n => (List.range n).map fun (k : Nat) => D.int (lo + (k : Int))
def Src.ok (S : Sto) : Src → Prop
  | .fix _ => True
  | .lst i l => lstOf S i = some l
  | .rvl i l => lstOf S i = some l
  | .rng _ _ => True
structure JOk (K : PySem.W.Frag) (A : List Addr) (H : Hp) (src : Src) (J : It) : Prop where
  stop : ∀ k A' H' S', Up K A H A' H' → MtS K A' H' S' → src.ok S' → src.items.length ≤ k → J.stop k H'
  go : ∀ k A' H' S', Up K A H A' H' → MtS K A' H' S' → src.ok S' → k < src.items.length → J.go k H'
  yld : ∀ k A' H' S' x H2, Up K A H A' H' → MtS K A' H' S' → src.ok S' → k < src.items.length → J.yld k H' x H2 → H2 = H' ∧ ∃ d, src.items[k]? = some d ∧ Rp K A' H' d x
theorem JOk.mono {K : PySem.W.Frag} {A A' : List Addr} {H H' : Hp} {src : Src} {J : It} (j : JOk K A H src J) (u : Up K A H A' H') : JOk K A' H' src J :=
  ⟨fun k A2 H2 S2 w => j.stop k A2 H2 S2 (u.trans w), fun k A2 H2 S2 w => j.go k A2 H2 S2 (u.trans w), fun k A2 H2 S2 x H3 w => j.yld k A2 H2 S2 x H3 (u.trans w)⟩
abbrev ATI := Rho → Sto → XA → (Src → Sto → Prop) → Prop
def LI (K : PySem.W.Frag) (W : WX) (wi : TI) (ai : ATI) : Prop := ∀ σ H A ρ S (R : It → Hp → Prop) (Q : Src → Sto → Prop) (E : XA), MtS K A H S → Mt K A H ρ σ → ai ρ S E Q →
  (∀ J H' src A' S', Up K A H A' H' → MtS K A' H' S' → JOk K A' H' src J → src.ok S' → Q src S' → R J H') → KX K A H (WE' W σ) E → wi σ H R
def AI (X : Cx) (W : WX) (tg iter : Expr) (ai : ATI) : Prop := ∃ wi, PI X tg iter wi ∧ LI X.K W wi ai
section
variable {K : PySem.W.Frag} {A : List Addr} {H : Hp} {S : Sto}
theorem jok_tup {a : Addr} {vs : List V} {l : List D} (hs : SqT K H a vs) (rl : RpL K A H l vs) : JOk K A H (.fix l) (Itt K a) := by
  refine ⟨fun k A' H' S' u m ok hk => ⟨vs, u.tup _ _ hs, by rw [← rl.length]; exact hk⟩, fun k A' H' S' u m ok hk => ?_, fun k A' H' S' x H2 u m ok hk y => ?_⟩
  · have hk' : k < l.length := hk
    obtain ⟨v, e, _⟩ := rl.get (List.getElem?_eq_getElem hk')
    exact ⟨vs, v, u.tup _ _ hs, e⟩
  · have hk' : k < l.length := hk
    obtain ⟨v, e, r⟩ := rl.get (List.getElem?_eq_getElem hk')
    obtain ⟨e1, e2⟩ := y
    have := e2 vs (u.tup _ _ hs)
    rw [e] at this
    cases this
    exact ⟨e1, _, List.getElem?_eq_getElem hk', r.mono u⟩
theorem jok_str {x : Str} : JOk K A H (.fix (x.cps.toList.map fun c => D.str ⟨#[c]⟩)) (Its x) := by
  refine ⟨fun k A' H' S' u m ok hk => ?_, fun k A' H' S' u m ok hk => ?_, fun k A' H' S' v H2 u m ok hk y => ?_⟩
  · show x.cps.size ≤ k
    simpa [Src.items] using hk
  · show k < x.cps.size
    simpa [Src.items] using hk
  · obtain ⟨e1, c, e2, rfl⟩ := y
    refine ⟨e1, _, ?_, .str _⟩
    show (x.cps.toList.map fun c => D.str ⟨#[c]⟩)[k]? = _
    rw [List.getElem?_map, Array.getElem?_toList, e2]; rfl
theorem jok_lst {i : Nat} {a : Addr} {l : List D} (e : A[i]? = some a) : JOk K A H (.lst i l) (Itl K a) := by
  refine ⟨fun k A' H' S' u m ok hk => ?_, fun k A' H' S' u m ok hk => ?_, fun k A' H' S' x H2 u m ok hk y => ?_⟩
  · obtain ⟨vs, hs, rl⟩ := lst_at m (pre_get u.pre e) ok
    exact ⟨vs, hs, by rw [← rl.length]; exact hk⟩
  · obtain ⟨vs, hs, rl⟩ := lst_at m (pre_get u.pre e) ok
    have hk' : k < l.length := hk
    obtain ⟨v, e', _⟩ := rl.get (List.getElem?_eq_getElem hk')
    exact ⟨vs, v, hs, e'⟩
  · obtain ⟨vs, hs, rl⟩ := lst_at m (pre_get u.pre e) ok
    have hk' : k < l.length := hk
    obtain ⟨v, e', r⟩ := rl.get (List.getElem?_eq_getElem hk')
    obtain ⟨e1, e2⟩ := y
    have := e2 vs hs
    rw [e'] at this
    cases this
    exact ⟨e1, _, List.getElem?_eq_getElem hk', r⟩
theorem jok_rng {lo : Int} {n : Nat} : JOk K A H (.rng lo n) (Itr lo n) := by
  refine ⟨fun k A' H' S' u m ok hk => ?_, fun k A' H' S' u m ok hk => ?_, fun k A' H' S' x H2 u m ok hk y => ?_⟩
  · show n ≤ k
    simpa [Src.items] using hk
  · show k < n
    simpa [Src.items] using hk
  · obtain ⟨e1, rfl⟩ := y
    have hk' : k < n := by simpa [Src.items] using hk
    refine ⟨e1, _, ?_, .int _⟩
    show ((List.range n).map fun (k : Nat) => D.int (lo + (k : Int)))[k]? = _
    rw [List.getElem?_map, List.getElem?_range hk']; rfl
end
section
variable {X : Cx} {W : WX} {a b c e tg iter : Expr} {aa ab ac : ATE} {pos : Pos} {es : List Expr} {t' : ATA} {sts : List Stmt} {as1 : ATS} {at1 : ATT} {ai : ATI} {ag : ATG}
/-- what a value gives to walk -/
def srcOf (S : Sto) : D → Option Src
  | .tup l => some (.fix l)
  | .str x => some (.fix (x.cps.toList.map fun c => D.str ⟨#[c]⟩))
  | .ref i => (lstOf S i).map (Src.lst i)
  | _ => none
def aiAny (a : ATE) : ATI := fun ρ S E Q => a ρ S E fun d S1 => must (srcOf S1 d) fun src => Q src S1
theorem ai_any (ha : AE X W iter aa) : AI X W tg iter (aiAny aa) := by
  obtain ⟨t, pa, la⟩ := ha
  have h1 : PI X tg iter (iList X.K t) := pi_list pa
  refine ⟨fun σ H R => t σ H fun x H1 => (∃ a, x = .ref a ∧ (∃ xs, SqL X.K H1 a xs) ∧ R (Itl X.K a) H1) ∨ (∃ a, x = .ref a ∧ (∃ xs, SqT X.K H1 a xs) ∧ R (Itt X.K a) H1) ∨ ∃ z, x = .str z ∧ R (Its z) H1, ⟨fun pins s σ H R I h => ?_⟩, fun σ H A ρ S R Q E m mt h hR kx => ?_⟩
  · refine thn (pa.run pins s σ H _ I h) fun v s1 ⟨x, H1, J, r1, q1⟩ => ?_
    rcases q1 with ⟨a, ex, ⟨xs, hq⟩, q⟩ | ⟨a, ex, ⟨xs, hq⟩, q⟩ | ⟨z, ex, q⟩
    · subst ex
      cases r1
      obtain ⟨its, rv, pl, hz⟩ := J.list hq
      refine wpAny_pyIter_list pl.isList ?_
      refine ⟨s1.heap.objs.size, [s1.heap.objs.size], _, _, H1, rfl, J.kept (t' := s1.toks) fun b o e => Heap.get?_push_of_some _ e, turn_list a _, ⟨_, Heap.get?_push_size _ rfl, rfl, rfl⟩, fun b hb => ?_, q⟩
      have eb : b = s1.heap.objs.size := by simpa using hb
      subst eb
      exact J.fpOk (Nat.le_refl _) (J.hok.fresh (Nat.le_refl _))
    · subst ex
      cases r1
      obtain ⟨its, rv, pl, hz⟩ := J.tuple hq
      refine wpAny_pyIter_tuple (show s1.heap.IsTuple a its.toArray from pl) ?_
      refine ⟨s1.heap.objs.size, [s1.heap.objs.size], _, _, H1, rfl, J.kept (t' := s1.toks) fun b o e => Heap.get?_push_of_some _ e, turn_tuple a _, ⟨_, Heap.get?_push_size _ rfl, rfl, rfl⟩, fun b hb => ?_, q⟩
      have eb : b = s1.heap.objs.size := by simpa using hb
      subst eb
      exact J.fpOk (Nat.le_refl _) (J.hok.fresh (Nat.le_refl _))
    · subst ex
      obtain ⟨t, rfl⟩ := r1
      cases ha : z.cps.all (· < 128)
      · exact wpAny_pyIter_wide ha (pi_one (tk := s1.toks) J _ (turn_str _ z t "str_iterator" (.inr rfl)) ⟨_, Heap.get?_push_size _ rfl, rfl, rfl⟩ q)
      · exact wpAny_pyIter_ascii ha (pi_one (tk := s1.toks) J _ (turn_str _ z t "str_ascii_iterator" (.inl rfl)) ⟨_, Heap.get?_push_size _ rfl, rfl, rfl⟩ q)
  · refine la σ H A ρ S _ _ E m mt h (fun x H1 dx A1 S1 u1 m1 r1 q1 => ?_) kx
    obtain ⟨src, es', q⟩ := of_must q1
    cases r1 <;> simp [srcOf] at es'
    · rename_i z
      subst es'
      exact .inr (.inr ⟨z, rfl, hR _ H1 _ A1 S1 u1 m1 jok_str trivial q⟩)
    · rename_i i ad ea
      obtain ⟨l, hl, rfl⟩ := es'
      obtain ⟨vs, hs, rl⟩ := lst_at m1 ea hl
      exact .inl ⟨ad, rfl, ⟨vs, hs⟩, hR _ H1 _ A1 S1 u1 m1 (jok_lst ea) hl q⟩
    · rename_i ad vs l hs rl
      subst es'
      exact .inr (.inl ⟨ad, rfl, ⟨vs, hs⟩, hR _ H1 _ A1 S1 u1 m1 (jok_tup hs rl) trivial q⟩)
def aiRng1 (t : ATA) : ATI := fun ρ S E Q => t ρ S E fun ds S1 => match ds with
  | [.int j] => (-(2 ^ 62) ≤ j ∧ j < 2 ^ 62) ∧ Q (.rng 0 j.toNat) S1
  | _ => False
theorem ai_range1 {p : Pos} (hm : X.mg "range" = none) (ha : AA X W [a] t') (hg : Gl X "range" := by rfl) (hs : starEach [a] X.env = [(false, eval a X.env)] := by rfl) : AI X W tg (.Call (.Name "range" p) [a] [] pos) (aiRng1 t') := by
  obtain ⟨t, pa, la⟩ := ha
  refine ⟨_, pi_range1 hg hm pa hs, fun σ H A ρ S R Q E m mt h hR kx => la σ H A ρ S _ _ E m mt h (fun vs H1 ds A1 S1 u1 m1 r1 q1 => ?_) kx⟩
  match ds, q1 with
  | [.int j], q1 =>
    obtain ⟨v, rfl, rv⟩ := rp1 r1
    cases rv
    exact ⟨j, rfl, q1.1.1, q1.1.2, hR _ H1 _ A1 S1 u1 m1 jok_rng trivial q1.2⟩
def aiRng2 (t : ATA) : ATI := fun ρ S E Q => t ρ S E fun ds S1 => match ds with
  | [.int i, .int j] => (-(2 ^ 62) ≤ i ∧ i < 2 ^ 62 ∧ -(2 ^ 62) ≤ j ∧ j < 2 ^ 62) ∧ Q (.rng i (j - i).toNat) S1
  | _ => False
theorem ai_range2 {p : Pos} (hm : X.mg "range" = none) (ha : AA X W [a, b] t') (hg : Gl X "range" := by rfl) (hs : starEach [a, b] X.env = [(false, eval a X.env), (false, eval b X.env)] := by rfl) (hs2 : starEach [b] X.env = [(false, eval b X.env)] := by rfl) : AI X W tg (.Call (.Name "range" p) [a, b] [] pos) (aiRng2 t') := by
  obtain ⟨t, pa, la⟩ := ha
  refine ⟨_, pi_range2 hg hm pa hs hs2, fun σ H A ρ S R Q E m mt h hR kx => la σ H A ρ S _ _ E m mt h (fun vs H1 ds A1 S1 u1 m1 r1 q1 => ?_) kx⟩
  match ds, q1 with
  | [.int i, .int j], q1 =>
    obtain ⟨v, w, rfl, rv, rw'⟩ := rp2 r1
    cases rv; cases rw'
    exact ⟨i, j, rfl, q1.1, hR _ H1 _ A1 S1 u1 m1 jok_rng trivial q1.2⟩

/-! ### while -/
def aWhile (t : ATT) (body : ATS) : ATS := fun D ρ S => ∃ Wv : Nat → Rho → Sto → Prop, (∃ m, Wv m ρ S) ∧ ∀ m ρ S, Wv m ρ S → t ρ S (fun x S1 => D.ex x ρ S1) fun k S1 => match k with
  | true => body { D with nx := fun ρ' S' => ∃ m', m' < m ∧ Wv m' ρ' S', ct := fun ρ' S' => ∃ m', m' < m ∧ Wv m' ρ' S', bk := D.nx } ρ S1
  | false => D.nx ρ S1
theorem as_while (hp : PassesOwn (model X.prog X.w) X.A X.env X.xe) (hc : AT X W c at1) (hb : ASs X W sts as1) : AS X W (.While c sts [] pos) (aWhile at1 as1) := by
  obtain ⟨t, p, l⟩ := hc
  obtain ⟨t1, p1, l1⟩ := hb
  refine ⟨_, ps_while hp p p1, fun σ H A ρ S D AD m mt h k => ?_⟩
  obtain ⟨Wv, ⟨m0, w0⟩, turn⟩ := h
  refine ⟨fun n σ' H' => ∃ A' ρ' S', Up X.K A H A' H' ∧ MtS X.K A' H' S' ∧ Mt X.K A' H' ρ' σ' ∧ Wv n ρ' S', ⟨m0, A, ρ, S, Up.refl, m, mt, w0⟩, ?_⟩
  rintro n σ1 H1 ⟨A1, ρ1, S1, u1, m1, mt1, w1⟩
  have k1 := k.mono u1
  refine l σ1 H1 A1 ρ1 S1 _ _ _ m1 mt1 (turn n ρ1 S1 w1) (fun bb H2 A2 S2 u2 m2 q2 => ?_) (k1.ex.at mt1)
  have k2 := k1.mono u2
  have mt2 := mt1.mono u2
  cases bb with
  | true =>
    refine ⟨_, fun _ _ z => z, l1 σ1 H2 A2 ρ1 S2 _ _ m2 mt2 q2 ⟨?_, k2.rt, k2.nx, ?_, k2.ex⟩⟩
    · rintro σ' H' ρ' A' S' u m' mt' ⟨j, hj, wj⟩
      exact ⟨j, hj, A', ρ', S', (u1.trans u2).trans u, m', mt', wj⟩
    · rintro σ' H' ρ' A' S' u m' mt' ⟨j, hj, wj⟩
      exact ⟨j, hj, A', ρ', S', (u1.trans u2).trans u, m', mt', wj⟩
  | false => exact k2.nx σ1 H2 ρ1 A2 S2 Up.refl m2 mt2 q2
/-! ### for -/
def aFor (ai : ATI) (ag : ATG) (body : ATS) : ATS := fun D ρ S => ai ρ S (fun x S1 => D.ex x ρ S1) fun src S1 => ∃ Wv : Nat → Rho → Sto → Prop, Wv 0 ρ S1 ∧ (∀ k ρ S, k ≤ src.items.length → Wv k ρ S → src.ok S) ∧
  (∀ k d ρ S, src.items[k]? = some d → Wv k ρ S → ag d ρ S fun ρ2 S2 => body { D with nx := Wv (k + 1), ct := Wv (k + 1), bk := D.nx } ρ2 S2) ∧ ∀ ρ S, Wv src.items.length ρ S → D.nx ρ S
theorem as_for (hp : PassesOwn (model X.prog X.w) X.A X.env X.xe) (hc : X.calm = true) (hi : AI X W tg iter ai) (hg : AG X tg ag) (hb : ASs X W sts as1) (hs : ∀ x, foldedSetIterable iter X.env x = pure x := by intro _; rfl) : AS X W (.For tg iter sts [] pos) (aFor ai ag as1) := by
  obtain ⟨wi, pi', li⟩ := hi
  obtain ⟨g, pg, lg⟩ := hg
  obtain ⟨t1, p1, l1⟩ := hb
  refine ⟨_, ps_for hp hc pi' pg p1 hs, fun σ H A ρ S D AD m mt h k => li σ H A ρ S _ _ _ m mt h (fun J H1 src A1 S1 u1 m1 jok ok1 q1 => ?_) (k.ex.at mt)⟩
  obtain ⟨Wv, w0, stays, turn, done⟩ := q1
  have k1 := k.mono u1
  have mt1 := mt.mono u1
  refine ⟨fun i n σ' H' => i ≤ src.items.length ∧ n = src.items.length - i ∧ ∃ A' ρ' S', Up X.K A1 H1 A' H' ∧ MtS X.K A' H' S' ∧ Mt X.K A' H' ρ' σ' ∧ Wv i ρ' S', ⟨_, Nat.zero_le _, rfl, A1, ρ, S1, Up.refl, m1, mt1, w0⟩, ?_⟩
  rintro i n σ2 H2 ⟨hi, hn, A2, ρ2, S2, u2, m2, mt2, w2⟩
  have ok2 := stays i ρ2 S2 hi w2
  have k2 := k1.mono u2
  by_cases hlt : i < src.items.length
  · refine .inr ⟨jok.go i A2 H2 S2 u2 m2 ok2 hlt, fun σ' H' => i + 1 ≤ src.items.length ∧ ∃ A' ρ' S', Up X.K A1 H1 A' H' ∧ MtS X.K A' H' S' ∧ Mt X.K A' H' ρ' σ' ∧ Wv (i + 1) ρ' S', ?_, ?_⟩
    · rintro σ' H' ⟨h1, h2⟩
      exact ⟨src.items.length - (i + 1), by omega, h1, rfl, h2⟩
    · intro x H3 y
      obtain ⟨rfl, d, ed, rx⟩ := jok.yld i A2 H2 S2 x H3 u2 m2 ok2 hlt y
      refine lg σ2 H3 A2 ρ2 S2 d x _ _ m2 mt2 rx (turn i d ρ2 S2 ed w2) fun σ4 H4 ρ4 A4 S4 u4 m4 mt4 q4 => ?_
      have k4 := k2.mono u4
      refine l1 σ4 H4 A4 ρ4 S4 _ _ m4 mt4 q4 ⟨?_, k4.rt, k4.nx, ?_, k4.ex⟩
      · intro σ' H' ρ' A' S' u m' mt' wj
        exact ⟨hlt, A', ρ', S', (u2.trans u4).trans u, m', mt', wj⟩
      · intro σ' H' ρ' A' S' u m' mt' wj
        exact ⟨hlt, A', ρ', S', (u2.trans u4).trans u, m', mt', wj⟩
  · have hi' : i = src.items.length := by omega
    exact .inl ⟨jok.stop i A2 H2 S2 u2 m2 ok2 (by omega), k2.nx σ2 H2 ρ2 A2 S2 Up.refl m2 mt2 (done ρ2 S2 (hi' ▸ w2))⟩

/-! ### comprehensions -/
/-- the reading that the abstract one gives -/
def cE (K : PySem.W.Frag) (W : WX) (a : ATE) : TE := fun σ H P => ∃ A ρ S Q E, MtS K A H S ∧ Mt K A H ρ σ ∧ a ρ S E Q ∧ KQ K A H P Q ∧ KX K A H (WE' W σ) E
def cT (K : PySem.W.Frag) (W : WX) (a : ATT) : TT := fun σ H P => ∃ A ρ S Q E, MtS K A H S ∧ Mt K A H ρ σ ∧ a ρ S E Q ∧ KT K A H P Q ∧ KX K A H (WE' W σ) E
theorem AE.can (h : AE X W e aa) : PE X e (cE X.K W aa) := by
  obtain ⟨t, p, l⟩ := h
  exact ⟨fun pins s σ H P I ⟨A, ρ, S, Q, E, m, mt, q, kq, kx⟩ => p.run pins s σ H P I (l σ H A ρ S P Q E m mt q kq kx)⟩
theorem AT.can (h : AT X W e at1) : PT X e (cT X.K W at1) := by
  obtain ⟨t, p, l⟩ := h
  exact ⟨fun pins s σ H P I ⟨A, ρ, S, Q, E, m, mt, q, kq, kx⟩ => p.run pins s σ H P I (l σ H A ρ S P Q E m mt q kq kx)⟩
theorem LE.can {K : PySem.W.Frag} : LE K W (cE K W aa) aa := fun σ H A ρ S P Q E m mt h kq kx => ⟨A, ρ, S, Q, E, m, mt, h, kq, kx⟩
theorem LT.can {K : PySem.W.Frag} : LT K W (cT K W at1) at1 := fun σ H A ρ S P Q E m mt h kq kx => ⟨A, ρ, S, Q, E, m, mt, h, kq, kx⟩
abbrev W0 : WX := fun _ _ _ _ => False
/-- tests of a comprehension -/
def AIfs (X : Cx) (ifs : List Expr) (a : ATT) : Prop := PTs X ifs (cT X.K W0 a)
def aYes : ATT := fun _ S _ Q => Q true S
theorem aifs_nil : AIfs X [] aYes := ⟨fun pins s σ H P I ⟨A, ρ, S, Q, E, m, mt, q, kq, _⟩ => (pts_nil (X := X)).run pins s σ H P I (kq true H A S Up.refl m q)⟩
theorem aifs_one (h : AT X W0 c at1) : AIfs X [c] at1 := pts_one h.can
/-- a comprehension's own targets -/
def LGc (g : TG) (vs : List Nat) : Prop := ∀ v σ H (P : L2.St → Hp → Prop), g v (wipe σ vs) H P → g v (wipe σ vs) H fun σ2 H2 => wipe σ2 vs = wipe σ vs ∧ P σ2 H2
theorem wipe_set {σ : L2.St} {j : Nat} {x : Option V} : ∀ {vs : List Nat}, j ∈ vs → wipe (σ.set j x) vs = wipe σ vs
  | v :: vs, h => by
    unfold wipe
    by_cases hj : j ∈ vs
    · rw [wipe_set hj]
    · have e : j = v := by
        obtain z | z := List.mem_cons.mp h
        · exact z
        · exact absurd z hj
      subst e
      exact aux hj
where
  aux {σ : L2.St} {j : Nat} {x : Option V} : ∀ {vs : List Nat}, j ∉ vs → (wipe (σ.set j x) vs).set j none = (wipe σ vs).set j none
    | [], _ => by unfold wipe; rw [List.set_set]
    | v :: vs, h => by
      unfold wipe
      have hne : v ≠ j := fun e => h (by rw [e]; exact List.mem_cons_self)
      rw [List.set_comm _ _ hne, aux fun z => h (List.mem_cons_of_mem _ z), List.set_comm _ _ hne.symm]
theorem wipe_wipe {σ : L2.St} : ∀ {vs : List Nat}, wipe (wipe σ vs) vs = wipe σ vs := by
  have key : ∀ (ws vs : List Nat), (∀ w ∈ ws, w ∈ vs) → wipe (wipe σ ws) vs = wipe σ vs := by
    intro ws
    induction ws with
    | nil => intro vs _; rfl
    | cons w ws ih =>
      intro vs h
      show wipe ((wipe σ ws).set w none) vs = _
      rw [wipe_set (h w List.mem_cons_self), ih vs fun z hz => h z (List.mem_cons_of_mem _ hz)]
  intro vs
  exact key vs vs fun _ h => h
theorem lgc_name {j : Nat} {vs : List Nat} (h : j ∈ vs) : LGc (gName j) vs := fun v σ H P q => ⟨by rw [wipe_set h, wipe_wipe], q⟩
/-- .. several names -/
def Wip (g : TGs) (vs : List Nat) : Prop := ∀ us σ σ0 H (P : L2.St → Hp → Prop), wipe σ vs = wipe σ0 vs → g us σ H P → g us σ H fun σ2 H2 => wipe σ2 vs = wipe σ0 vs ∧ P σ2 H2
theorem wip_nil {vs : List Nat} : Wip gNil vs := fun us σ σ0 H P e ⟨h1, h2⟩ => ⟨h1, e, h2⟩
theorem wip_cons {j : Nat} {vs : List Nat} {u : TGs} (h : j ∈ vs) (hu : Wip u vs) : Wip (gCons (gName j) u) vs := fun us σ σ0 H P e ⟨v, r, eu, q⟩ => ⟨v, r, eu, hu r _ σ0 H P (by rw [wipe_set h, e]) q⟩
structure AGc (X : Cx) (scope : Scope) (tg : Expr) (vs : List Nat) (ag : ATG) : Prop where
  ex : ∃ g, (∀ (s : Shared) (H : Hp) (C : Addr) (cl : List (Str × Addr)) (fp : List Addr), PG (X.blk s H scope (compEnvC scope cl C X.env) fp) tg g) ∧ LG X.K g ag ∧ LGc g vs
theorem agc_name {scope : Scope} {i : Nat} {x : Str} {vs : List Nat} (hv : i ∈ vs) (hN : X.N.Nodup) (hi : X.N[i]? = some x := by rfl) (hx : ∀ cl C, (compEnvC scope cl C X.env).scope.names.lookup x = some .local := by intro _ _; rfl) : AGc X scope (.Name x pos) vs (agName i) :=
  ⟨_, fun s H C cl fp => pg_name (X := X.blk s H scope (compEnvC scope cl C X.env) fp) hN hi (.inl (hx cl C)) (.inr (hx cl C)), lg_name, lgc_name hv⟩
structure AGcs (X : Cx) (scope : Scope) (tgs : List Expr) (vs : List Nat) (ag : ATGs) : Prop where
  ex : ∃ g, (∀ (s : Shared) (H : Hp) (C : Addr) (cl : List (Str × Addr)) (fp : List Addr), PGs (X.blk s H scope (compEnvC scope cl C X.env) fp) tgs g) ∧ LGs X.K g ag ∧ Wip g vs
theorem agcs_nil {scope : Scope} {vs : List Nat} : AGcs X scope [] vs agNil := by
  refine ⟨_, fun s H C cl fp => pgs_nil, fun σ H A ρ S ds vs P Q m mt r q k => ?_, wip_nil⟩
  cases r with
  | nil => exact ⟨rfl, k σ H ρ A S Up.refl m mt q⟩
  | cons _ _ => exact q.elim
theorem agcs_cons {scope : Scope} {i : Nat} {x : Str} {vs : List Nat} {tgs : List Expr} {g2 : ATGs} (hv : i ∈ vs) (hN : X.N.Nodup) (h2 : AGcs X scope tgs vs g2) (hi : X.N[i]? = some x := by rfl) (hx : ∀ cl C, (compEnvC scope cl C X.env).scope.names.lookup x = some .local := by intro _ _; rfl)
    (hs : ∀ cl C, (assignEach (.Name x pos :: tgs) (compEnvC scope cl C X.env)).map (·.2) = assign (.Name x pos) (compEnvC scope cl C X.env) :: (assignEach tgs (compEnvC scope cl C X.env)).map (·.2) := by intro _ _; rfl) : AGcs X scope (.Name x pos :: tgs) vs (agCons (agName i) g2) := by
  obtain ⟨t2, p2, l2, w2⟩ := h2.ex
  refine ⟨gCons (gName i) t2, fun s H C cl fp => pgs_cons (pg_name (X := X.blk s H scope (compEnvC scope cl C X.env) fp) hN hi (.inl (hx cl C)) (.inr (hx cl C))) (p2 s H C cl fp) (hs cl C), fun σ H A ρ S ds vs P Q m mt r q k => ?_, wip_cons hv w2⟩
  cases r with
  | nil => exact q.elim
  | cons r1 r2 => exact ⟨_, _, rfl, lg_name σ H A ρ S _ _ _ (fun ρ1 S1 => g2 _ ρ1 S1 Q) m mt r1 q fun σ' H' ρ' A' S' u m' mt' q' => l2 σ' H' A' ρ' S' _ _ P Q m' mt' (r2.mono u) q' (k.mono u)⟩
theorem agc_tup {scope : Scope} {tgs : List Expr} {vs : List Nat} {k : Nat} {n : Nat} {g2 : ATGs} (hc : X.calm = true) (h : AGcs X scope tgs vs g2) (hn : ∀ cl C, (assignEach tgs (compEnvC scope cl C X.env)).length = n := by intro _ _; rfl)
    (hst : ∀ cl C, (assignEach tgs (compEnvC scope cl C X.env)).findIdx? (·.1) = none := by intro _ _; rfl) : AGc X scope (.Tuple tgs k pos) vs (agTup n g2) := by
  obtain ⟨t2, p2, l2, w2⟩ := h.ex
  refine ⟨fun v σ H Q => gTup X.K n t2 v σ H Q ∨ gUnl X.K n t2 v σ H Q, fun s H C cl fp => ⟨fun pins s1 σ H v u Q I r q => q.elim ((pg_tup (X := X.blk s _ scope (compEnvC scope cl C X.env) fp) hc (p2 s _ C cl fp) (hn cl C) (hst cl C)).run pins s1 σ H v u Q I r) ((pg_unl (X := X.blk s _ scope (compEnvC scope cl C X.env) fp) hc (p2 s _ C cl fp) (hn cl C) (hst cl C)).run pins s1 σ H v u Q I r)⟩, fun σ H A ρ S d v P Q m mt r q k => ?_, ?_⟩
  · obtain ⟨l, h, hl, q2⟩ := of_must q
    cases r <;> simp [seqOf] at h
    · rename_i i ad e'
      obtain ⟨ws, hs, rl⟩ := lst_at m e' h
      exact .inr ⟨ad, ws, rfl, hs, by rw [← rl.length]; exact hl, l2 σ H A ρ S l ws P Q m mt rl q2 k⟩
    · rename_i ad ws l' hs rl
      subst h
      exact .inl ⟨ad, ws, rfl, hs, by rw [← rl.length]; exact hl, l2 σ H A ρ S _ ws P Q m mt rl q2 k⟩
    · rename_i ad ws l' hs rl
      subst h
      exact .inr ⟨ad, ws, rfl, .inr hs, by rw [← rl.length]; exact hl, l2 σ H A ρ S _ ws P Q m mt rl q2 k⟩
  · rintro v σ H P (⟨a1, xs, e1, e2, e3, q⟩ | ⟨a1, xs, e1, e2, e3, q⟩)
    · exact .inl ⟨a1, xs, e1, e2, e3, w2 xs _ σ H P wipe_wipe q⟩
    · exact .inr ⟨a1, xs, e1, e2, e3, w2 xs _ σ H P wipe_wipe q⟩
def wipeA (ρ : Rho) : List Nat → Rho
  | [] => ρ
  | v :: vs => (wipeA ρ vs).set v none
theorem Mt.wipe {K : PySem.W.Frag} {A : List Addr} {H : Hp} {ρ : Rho} {σ : L2.St} (h : Mt K A H ρ σ) : ∀ vs : List Nat, Mt K A H (wipeA ρ vs) (L2.wipe σ vs)
  | [] => h
  | v :: vs => (Mt.wipe h vs).unset
/-- [elt for target in iter if test]: Wv says what is made so far (places, the items made, the store) -/
def aLc (ai : ATI) (ag : ATG) (t : ATT) (elt : ATE) (vs : List Nat) : ATE := fun ρ S E Q => ai ρ S E fun src S1 => ∃ Wv : Nat → List D → Sto → Prop, Wv 0 [] S1 ∧ (∀ k acc S, k ≤ src.items.length → Wv k acc S → src.ok S ∧ acc.length ≤ k) ∧ src.items.length < sizeLine ∧
  (∀ k d acc S, src.items[k]? = some d → Wv k acc S → ag d (wipeA ρ vs) S fun ρ2 S2 => t ρ2 S2 (fun _ _ => False) fun b S3 => match b with
    | true => elt ρ2 S3 (fun _ _ => False) fun y S4 => Wv (k + 1) (acc ++ [y]) S4
    | false => Wv (k + 1) acc S3) ∧ ∀ acc S, Wv src.items.length acc S → Q (.ref S.length) (S ++ [.lst acc])
theorem kx0 {K : PySem.W.Frag} {A : List Addr} {H : Hp} {σ : L2.St} : KX K A H (WE' W0 σ) (fun _ _ => False) := fun _ _ _ _ _ _ _ _ _ q => q.elim
theorem le_lc {K : PySem.W.Frag} {wi : TI} {g : TG} {vs : List Nat} (li : LI K W wi ai) (lg : LG K g ag) (lw : LGc g vs) : LE K W (tLc wi g (cT K W0 at1) (cE K W0 aa) vs) (aLc ai ag at1 aa vs) := fun σ H A ρ S P Q E m mt h kq kx => by
  refine li σ H A ρ S _ _ E m mt h (fun J H1 src A1 S1 u1 m1 jok ok1 q1 => ?_) kx
  obtain ⟨Wv, w0, stays, hlen, turn, done⟩ := q1
  intro Dl hD
  have uD : Up K A1 H1 A1 (upd H1 Dl (.lst [])) := Up.lay hD
  have nDA : Dl ∉ A1 := m1.notin hD
  -- the list that is made stands at Dl, unknown to the store
  refine ⟨fun i n H' => i ≤ src.items.length ∧ n = src.items.length - i ∧ ∃ A' S' acc ws, Up K A1 H1 A' H' ∧ MtS K A' H' S' ∧ Dl ∉ A' ∧ H' Dl = some (.lst ws) ∧ RpL K A' H' acc ws ∧ Wv i acc S', ⟨_, Nat.zero_le _, rfl, A1, S1, [], [], uD, m1.lay hD, nDA, upd_same, .nil, w0⟩, ?_⟩
  rintro i n H2 ⟨hi, hn, A2, S2, acc, ws, uu, m2, nD2, e2, r2, w2⟩
  obtain ⟨ok2, hacc⟩ := stays i acc S2 hi w2
  by_cases hlt : i < src.items.length
  · refine .inr ⟨jok.go i A2 H2 S2 uu m2 ok2 hlt, fun H' => i + 1 ≤ src.items.length ∧ ∃ A' S' acc ws, Up K A1 H1 A' H' ∧ MtS K A' H' S' ∧ Dl ∉ A' ∧ H' Dl = some (.lst ws) ∧ RpL K A' H' acc ws ∧ Wv (i + 1) acc S', ?_, ?_⟩
    · rintro H' ⟨h1, h2⟩
      exact ⟨src.items.length - (i + 1), by omega, h1, rfl, h2⟩
    · intro x H3 y
      obtain ⟨rfl, d, ed, rx⟩ := jok.yld i A2 H2 S2 x H3 uu m2 ok2 hlt y
      have mt2 : Mt K A2 H3 (wipeA ρ vs) (wipe σ vs) := ((mt.mono u1).mono uu).wipe vs
      refine lw x σ H3 _ (lg (wipe σ vs) H3 A2 (wipeA ρ vs) S2 d x _ _ m2 mt2 rx (turn i d acc S2 ed w2) fun σ4 H4 ρ4 A4 S4 u4 m4 mt4 q4 => ?_)
      refine ⟨A4, ρ4, S4, _, _, m4, mt4, q4, fun b H5 A5 S5 u5 m5 q5 => ?_, kx0⟩
      have keepD : ∀ {A' : List Addr} {H' : Hp}, Up K A2 H3 A' H' → Dl ∉ A' ∧ H' Dl = some (.lst ws) := fun {A' H'} u => by
        refine ⟨fun z => ?_, u.fr Dl _ e2 nD2⟩
        have := u.new Dl z nD2
        rw [e2] at this; cases this
      have u25 := u4.trans u5
      cases b with
      | true =>
        refine ⟨A5, ρ4, S5, _, _, m5, mt4.mono u5, q5, fun y H6 dy A6 S6 u6 m6 ry q6 => ?_, kx0⟩
        have u26 := u25.trans u6
        obtain ⟨nD6, e6⟩ := keepD u26
        have hz : ws.length < sizeLine := by rw [← r2.length]; omega
        have uw : Uw K A6 H6 A6 (upd H6 Dl (.lst (ws ++ [y]))) := Uw.hid e6
        have u16 := uu.trans u26
        refine ⟨ws, e6, hz, hlt, A6, S6, acc ++ [dy], ws ++ [y], ⟨⟨u16.pre, fun a us hh => uw.tup a us (u16.tup a us hh)⟩, fun b o hb nb => ?_, u16.new⟩, m6.hid e6 nD6, nD6, upd_same, ((r2.mono u26).append (RpL.one ry)).monow uw, q6⟩
        rw [upd_ne (ne_of_none hb hD)]
        exact u16.fr b o hb nb
      | false =>
        obtain ⟨nD5, e5⟩ := keepD u25
        exact ⟨hlt, A5, S5, acc, ws, uu.trans u25, m5, nD5, e5, r2.mono u25, q5⟩
  · have hi' : i = src.items.length := by omega
    refine .inl ⟨jok.stop i A2 H2 S2 uu m2 ok2 (by omega), ?_⟩
    have u3 : Up K A1 H1 (A2 ++ [Dl]) H2 := ⟨⟨uu.pre.trans (List.prefix_append _ _), uu.tup⟩, uu.fr, fun b hb nb => by
      obtain hb | hb := List.mem_append.mp hb
      · exact uu.new b hb nb
      · rw [List.mem_singleton.mp hb]; exact hD⟩
    exact kq _ _ (.ref S2.length) (A2 ++ [Dl]) (S2 ++ [.lst acc]) (u1.trans u3) (m2.show e2 nD2 r2) (.ref (by rw [m2.len]; exact alloc_at)) (done acc S2 (hi' ▸ w2))
variable {elt : Expr} {ifs : List Expr} {scope : Scope} {own : List (Str × Nat)} {k : Nat}
theorem ae_lc (hc : X.calm = true) (hN : X.N.Nodup) (own : List (Str × Nat)) (hi : AI X W tg iter ai) (hg : AGc X scope tg (own.map (·.2)) ag)
    (ht : ∀ (s : Shared) (H : Hp) (C : Addr) (cl : List (Str × Addr)) (fp : List Addr), AIfs (X.blk s H scope (compEnvC scope cl C X.env) fp) ifs at1)
    (he : ∀ (s : Shared) (H : Hp) (C : Addr) (cl : List (Str × Addr)) (fp : List Addr), AE (X.blk s H scope (compEnvC scope cl C X.env) fp) W0 elt aa) (ok : BlkOk X.N X.env.scope scope own := by exact blkOk_by (by first | (with_unfolding_all exact Eq.refl true) | decide +kernel)) (hs : ∀ x, foldedSetIterable iter X.env x = pure x := by intro _; rfl) :
    AE X W (.ListComp elt [⟨tg, iter, ifs, 0⟩] scope pos) (aLc ai ag at1 aa (own.map (·.2))) := by
  obtain ⟨wi, pi', li⟩ := hi
  obtain ⟨g, pg, lg, lw⟩ := hg.ex
  exact ⟨_, pe_lc (tt := cT X.K W0 at1) (te := cE X.K W0 aa) hc hN pi' ok pg (fun s H C cl fp => ht s H C cl fp) (fun s H C cl fp => (he s H C cl fp).can) hs, le_lc li lg lw⟩
theorem as_setLc {i : Nat} {y : Str} {py spos : Pos} (hc : X.calm = true) (hN : X.N.Nodup) (own : List (Str × Nat)) (hi : AI X W tg iter ai) (hg : AGc X scope tg (own.map (·.2)) ag)
    (ht : ∀ (s : Shared) (H : Hp) (C : Addr) (cl : List (Str × Addr)) (fp : List Addr), AIfs (X.blk s H scope (compEnvC scope cl C X.env) fp) ifs at1)
    (he : ∀ (s : Shared) (H : Hp) (C : Addr) (cl : List (Str × Addr)) (fp : List Addr), AE (X.blk s H scope (compEnvC scope cl C X.env) fp) W0 elt aa) (hy : X.N[i]? = some y := by rfl) (hyl : X.env.scope.names.lookup y = some .local := by rfl)
    (hsw : swapsWith (.ListComp elt [⟨tg, iter, ifs, 0⟩] scope pos) (some (.Name y py)) spos.line X.env = pure true := by exact sw_true rfl rfl rfl (by decide +kernel))
    (ok : BlkOk X.N X.env.scope scope own := by exact blkOk_by (by first | (with_unfolding_all exact Eq.refl true) | decide +kernel)) (hs : ∀ x, foldedSetIterable iter X.env x = pure x := by intro _; rfl) :
    AS X W (.Assign [.Name y py] (.ListComp elt [⟨tg, iter, ifs, 0⟩] scope pos) spos) (aAsg (aLc ai ag at1 aa (own.map (·.2))) (agName i)) := by
  obtain ⟨wi, pi', li⟩ := hi
  obtain ⟨g, pg, lg, lw⟩ := hg.ex
  exact ⟨_, ps_setLc (tt := cT X.K W0 at1) (te := cE X.K W0 aa) hc hN hy hyl hsw pi' ok pg (fun s H C cl fp => ht s H C cl fp) (fun s H C cl fp => (he s H C cl fp).can) hs, ls_asg (le_lc li lg lw) lg_name⟩
theorem takesB {s : Shared} {H : Hp} {scope : Scope} {cenv : Env} {fp : List Addr} : Takes (X.blk s H scope cenv fp) W0 := takes0
end
end AL
/-! AL7: defs by their bodies; the law's end. -/
namespace AL
open PySem PySem.Spec
open PyProof.Rows L2
def startA (n : Nat) (ds : List D) : Rho := ds.map some ++ List.replicate (n - ds.length) none
theorem mt_start {K : PySem.W.Frag} {A : List Addr} {H : Hp} {N : List Str} {ds : List D} {vs : List V} (r : RpL K A H ds vs) : Mt K A H (startA N.length ds) (L2.start N vs) := by
  have hl := r.length
  refine ⟨by unfold startA L2.start; simp [hl], fun i d e => ?_⟩
  unfold startA at e
  have hi : i < ds.length := by
    by_cases hi : i < ds.length
    · exact hi
    · rw [List.getElem?_append_right (by simpa using hi), List.getElem?_replicate] at e
      split at e <;> cases e
  rw [List.getElem?_append_left (by simpa using hi), List.getElem?_map, List.getElem?_eq_getElem hi] at e
  cases e
  obtain ⟨v, e2, rv⟩ := r.get (List.getElem?_eq_getElem hi)
  refine ⟨v, ?_, rv⟩
  unfold L2.start
  rw [List.getElem?_append_left (by simpa using (List.getElem?_eq_some_iff.mp e2).1), List.getElem?_map, e2]; rfl
/-- what a body must do -/
def bodyEnds (Qa : VA) (Ea : XA) : AEnds := { nx := fun _ S => Qa .non S, rt := Qa, ex := fun x _ S => Ea x S }
section
variable {P : Program} {w : World} {K : PySem.W.Frag} {mg : Str → Option Value} {base : Heap} {x qual : Str} {params : Arguments} {body : List Stmt} {scope : Scope} {f : Addr} {fd : FuncData}
theorem run_body {N : List Str} {t : TS} {a : ATS} {W : WX} {E : XK} (l : LS K W t a) (hW : ∀ c d σ H, E c d H → W c d σ H) {A : List Addr} {H : Hp} {S : Sto} {ds : List D} {vs : List V} {Q : VK} {Qa : VA} {Ea : XA}
    (m : MtS K A H S) (r : RpL K A H ds vs) (q : a (bodyEnds Qa Ea) (startA N.length ds) S) (kq : KQ K A H Q Qa) (kx : KX K A H E Ea) : t { nx := fun _ H' => Q .non H', rt := Q } (L2.start N vs) H :=
  l _ H A _ S _ _ m (mt_start r) q ⟨fun σ' H' ρ' A' S' u m' mt' q' => kq _ H' .non A' S' u m' .non q', kq, fun _ _ _ _ _ _ _ _ z => z.elim, fun _ _ _ _ _ _ _ _ z => z.elim, fun x c d σ' H' ρ' A' S' u m' mt' e q' => hW _ _ _ _ (kx x c d H' A' S' u m' e q')⟩
/-- THE RULE: a def of the module or a method, by its body -/
theorem fn_ok {N ps : List Str} {k : Nat} {Fs : AFn} (F : FunD K x qual params body scope [] [] f fd) (Sc : FnScope N ps scope) (len : ∀ ds S E Q, Fs ds S E Q → ds.length = ps.length)
    (hb : ∀ (cdv : Value) (A : Around) (outer : List Env) (s : Shared) (H : Hp) (E : XK), RG k (A.deeper (envOfC qual scope s.heap.objs.size f cdv)) →
      ∃ a, ASs (cxOf (L2.CX P w) P w K mg base N qual scope f cdv A outer s H E) (fun c d _ H => E c d H) body a ∧ ∀ ds S Ea Qa, Fs ds S Ea Qa → a (bodyEnds Qa Ea) (startA N.length ds) S) :
    FnG P w K mg base (L2.CX P w) (k + 1) f fd ps (spOf K Fs) := by
  obtain ⟨oc, od, dV, kV, doc, pm, an, cdv, ct, osl, efd, found, isCode, _, _⟩ := F.ex
  subst efd
  refine ⟨fun vs H Q E ⟨A, S, ds, Qa, Ea, m, r, h, _⟩ => by rw [← r.length]; exact len _ _ _ _ h, fun A outer s H args us vs Q E room e0 bnd rv want => ?_⟩
  have want' := want
  obtain ⟨A0, S0, ds, Qa, Ea, m0, r0, h0, kq, kx⟩ := want'
  have many : vs.length = ps.length := by rw [← r0.length]; exact len _ _ _ _ h0
  have inH : K.In s.heap := e0.mod.kin.keeps fun b o e => (e0.bs b o e).1
  have noLim : s.heap.NoLimit := e0.mod.nolimit.keeps fun b o e => (e0.bs b o e).1
  have kinds : ∀ y ∈ ps.zip us, scope.names.lookup y.1 = some .local ∨ (scope.names.lookup y.1 = some .cell ∧ ((cellsFrom (s.heap.objs.size + 1) scope.names []).lookup y.1).isSome = true) := by
    intro y hy
    obtain ⟨n, v⟩ := y
    cases Sc.par n (List.of_mem_zip hy).1 with
    | inl q => exact .inl q
    | inr q => exact .inr ⟨q, PySem.W.cellsFrom_some _ _ _ (.inl q)⟩
  refine codeAny_call_function room.rm.depth (inH _ _ found) rfl Sc.co Sc.gen rfl (PySem.W.codeRec_of inH isCode) (bnd _ _ _ _ ?_)
  refine wpAny_newFunctionEnv_cells Sc.kind kinds fun env he s1 inCall => ?_
  subst he
  refine ⟨noLim.keeps inCall.toInCall.keep, codeAny_func ?_⟩
  obtain ⟨a, ⟨t, walk, lift⟩, body⟩ := hb cdv A outer s H E (room.deeper _)
  have inv0 : Inv (cxOf (L2.CX P w) P w K mg base N qual scope f cdv A outer s H E) [] (L2.start N vs) H s1 := inv_start Sc room.rm.hd e0 many rv inCall
  refine wpAny_mono (walk.run [] s1 (L2.start N vs) H _ inv0 (run_body lift (fun _ _ _ _ z => z) m0 r0 (body ds S0 Ea Qa h0) kq kx)) (fun fl s2 got => ?_) fun _ _ got => got
  cases fl with
  | ret u =>
    obtain ⟨v, σ', H2, J, ru, q⟩ := got
    exact ⟨v, H2, J.os, J.bare, J.base, J.hok, ru, q⟩
  | next =>
    obtain ⟨σ', H2, J, q⟩ := got
    exact ⟨V.non, H2, J.os, J.bare, J.base, J.hok, rfl, q⟩
  | brk => exact let ⟨_, _, _, z⟩ := got; (z : False).elim
  | cont => exact let ⟨_, _, _, z⟩ := got; (z : False).elim
theorem never_ok {CX : CXT} {k : Nat} {ps : List Str} : FnG P w K mg base CX k f fd ps (spOf K fun _ _ _ _ => False) :=
  ⟨fun vs H Q E ⟨_, _, _, _, _, _, _, z, _⟩ => z.elim, fun A outer s H args us vs Q E _ _ _ _ ⟨_, _, _, _, _, _, _, z, _⟩ => z.elim⟩
theorem takesE {N : List Str} {cdv : Value} {A : Around} {outer : List Env} {s : Shared} {H : Hp} {E : XK} : Takes (cxOf (L2.CX P w) P w K mg base N qual scope f cdv A outer s H E) (fun c d _ H => E c d H) := takes_of rfl rfl rfl rfl
theorem passesE {N : List Str} {cdv : Value} {A : Around} {outer : List Env} {s : Shared} {H : Hp} {E : XK} :
    PassesOwn (model P w) (A.deeper (envOfC qual scope s.heap.objs.size f cdv)) (envOfC qual scope s.heap.objs.size f cdv) (cxOf (L2.CX P w) P w K mg base N qual scope f cdv A outer s H E).xe := passes_of (X := cxOf (L2.CX P w) P w K mg base N qual scope f cdv A outer s H E) rfl
end
theorem ru1 {k : Nat} {A : Around} (hr : RG k A) : A.units + 1 < cLine := by have := hr.rm.un; omega
theorem ru64 {k : Nat} {A : Around} (hr : RG k A) : A.units + 64 < cLine := by have := hr.rm.un; omega
theorem ru65 {k : Nat} {A : Around} (hr : RG k A) : A.units + 65 < cLine := by have := hr.rm.un; omega
theorem ru66 {k : Nat} {A : Around} (hr : RG k A) : A.units + 66 < cLine := by have := hr.rm.un; omega
/-- the script: a read-only list of the store, or a list of the written part -/
def IsScript (d : D) (S : Sto) (ns : List Int) : Prop := (d = .ref 0 ∧ S = [.rol (ns.map .int)]) ∨ (d = .kl (ns.map .int) ∧ S = [])
/-- the law's spec: a list of ints is handed in, True comes out -/
def lawF : AFn := fun ds S E Q => ∃ (d : D) (ns : List Int), ns.length ≤ 63 ∧ ds = [d] ∧ IsScript d S ns ∧ ∀ S', Q (.bl true) S'
theorem rp_ints {K : PySem.W.Frag} {H : Hp} (A : List Addr) : ∀ ns : List Int, RpL K A H (ns.map D.int) (ns.map V.int)
    | [] => .nil
    | n :: ns => .cons (.int n) (rp_ints A ns)
theorem law_sp {K : PySem.W.Frag} {H : Hp} {a : Addr} {ns : List Int} (hl : ns.length ≤ 63) (hS : SqL K H a (ns.map V.int)) : spOf K lawF [.ref a] H (fun v _ => v = .bl true) fun _ _ _ => False := by
  rcases hS with hS | hS
  · refine ⟨[a], [.rol (ns.map .int)], [.ref 0], fun d _ => d = .bl true, fun _ _ => False, ⟨rfl, by simp, fun i o b e1 e2 => ?_⟩, .cons (.ref rfl) .nil, ⟨_, ns, hl, rfl, .inl ⟨rfl, rfl⟩, fun _ => rfl⟩, fun v H' d A' S' _ _ rp q => ?_, fun _ _ _ _ _ _ _ _ _ q => q⟩
    · match i, e1, e2 with
      | 0, e1, e2 =>
        cases e1; cases e2
        exact ⟨_, hS, rp_ints _ ns⟩
    · subst q; cases rp; rfl
  · refine ⟨[], [], [.kl (ns.map .int)], fun d _ => d = .bl true, fun _ _ => False, ⟨rfl, by simp, fun i o b e1 e2 => ?_⟩, .cons (.kl hS (rp_ints _ ns)) .nil, ⟨_, ns, hl, rfl, .inr ⟨rfl, rfl⟩, fun _ => rfl⟩, fun v H' d A' S' _ _ rp q => ?_, fun _ _ _ _ _ _ _ _ _ q => q⟩
    · simp at e1
    · subst q; cases rp; rfl
/-! ### the law's end -/
/-- the law's def is called at the top; nothing but the script may be tracked there -/
theorem law_top {P : Program} {w : World} {K : PySem.W.Frag} {mg mb : Str → Option Value} {k : Nat} {fa a : Addr} {x : Str} {s₁ : Shared} {ns : List Int} {H : Hp}
    (kin : K.In s₁.heap) (hns : s₁.heap.Ns mainGlobals mg) (hb : s₁.heap.Ns builtinsNs mb) (hbb : ∀ x : Str, x ≠ "__name__" → mb x = bootBuiltins x) (lim : s₁.heap.NoLimit) (nogen : s₁.gens = #[]) (room : RG k callerA)
    (F : ∀ base : Heap, FD P w K mg base x k lawF) (hmg : mg x = some (.ref fa)) (few : ns.length ≤ 63)
    (script : SqL K H a (ns.map V.int)) (hok : HOk P w H s₁.heap) (only : Only H) (hK : ∀ b o, K.lookup b = some o → H b = none) (hD : ∀ b o es ep, s₁.heap.get? b = some o → o.data = .dict es ep → H b = none) : codeAny (model P w) callerA (.call (.ref fa) ⟨[.ref a], []⟩) (fun r s' => r = .ok (.ret (.bool true)) ∧ OldK s₁.heap s'.heap ∧ s'.os = s₁.os ∧ AllBare s'.gens) s₁ := by
  have ns' : ∀ {b : Addr} {m : Str → Option Value}, s₁.heap.Ns b m → (hidT s₁.heap H).Ns b m := by
    intro b m ⟨o, es, ep, e, d, r⟩
    exact ⟨o, es, ep, hidT_get e (hD b o es ep e d), d, r⟩
  have kin' : K.In (hidT s₁.heap H) := fun b o e => hidT_get (kin b o e) (hK b o e)
  have env : Env0 P w K mg (hidT s₁.heap H) callerA [] s₁ H := by
    obtain ⟨ml, l1, l2⟩ := lim
    exact ⟨rfl, ⟨kin', ns' hns, ⟨mb, ns' hb, hbb⟩, ⟨ml, ns' l1, l2⟩⟩, fun b o e => of_hidT e, Nat.le_of_eq (hidT_size _ _), trivial, fun b z => absurd (show b ∈ ([] : List Addr) from z) List.not_mem_nil, hok, .of_eq nogen⟩
  obtain ⟨f, fd, ps, rule, hf, _, bind⟩ := F (hidT s₁.heap H)
  rw [hmg] at hf
  cases hf
  have want := law_sp few script
  have many := rule.few _ _ _ _ want
  have bnd := bind s₁ [.ref a] kin (by simpa using many)
  simp only [List.append_nil] at bnd
  refine codeAny_mono (rule.go callerA [] s₁ H ⟨[.ref a], []⟩ [.ref a] [.ref a] _ _ room env bnd (.cons rfl .nil) want) fun r s2 got => ?_
  match r, got with
  | .error e, ⟨_, _, _, _, _, _, _, _, _, _, _, _, z⟩ => exact z.elim
  | .ok (.ret u), ⟨v, H2, sameOs, noGens, un, hok2, rv, ev⟩ =>
    have ev : v = .bl true := ev
    subst ev
    obtain rfl : u = Value.bool true := rv
    refine ⟨rfl, OldK.of_keep fun b o e => ?_, sameOs, noGens⟩
    rcases only b with z | ⟨ob, xs, z⟩
    · exact un.keep b o e z (fun y => absurd (show b ∈ ([] : List Addr) from y) List.not_mem_nil) (by simp)
    · obtain ⟨e1, _⟩ := hok b _ z
      obtain ⟨e2, _⟩ := hok2 b _ (un.frzs b ob _ z)
      rw [e] at e1
      cases e1
      exact e2
theorem law_end {P : Program} {w : World} {K : PySem.W.Frag} {mg mb : Str → Option Value} {k : Nat} {fa a : Addr} {x : Str} {s₁ : Shared} {vs : List Value} {ns : List Int}
    (kin : K.In s₁.heap) (hns : s₁.heap.Ns mainGlobals mg) (hb : s₁.heap.Ns builtinsNs mb) (hbb : ∀ x : Str, x ≠ "__name__" → mb x = bootBuiltins x) (lim : s₁.heap.NoLimit) (nogen : s₁.gens = #[]) (room : RG k callerA)
    (F : ∀ base : Heap, FD P w K mg base x k lawF) (hmg : mg x = some (.ref fa)) (few : ns.length ≤ 63)
    (at_a : s₁.heap.get? a = some { cls := .type "list", data := .seq vs.toArray }) (isInts : IntsAre vs ns) : codeAny (model P w) callerA (.call (.ref fa) ⟨[.ref a], []⟩) (fun r s' => r = .ok (.ret (.bool true)) ∧ OldK s₁.heap s'.heap ∧ s'.os = s₁.os ∧ AllBare s'.gens) s₁ := by
  have small : ns.length ≤ sizeLine := Nat.le_trans few (by decide)
  have rv := vals_ints isInts
  match hk : K.lookup a with
  | some o =>
    have same := (kin a o hk).symm.trans at_a
    cases same
    refine law_top (H := fun _ => none) kin hns hb hbb lim nogen room F hmg few (.inr ⟨_, vs.toArray, _, hk, rfl, rfl, rfl, by rw [List.size_toArray, isInts.length]; exact small, by simpa using rv⟩) (fun _ _ z => by cases z) (fun _ => .inl rfl) (fun _ _ _ => rfl) fun _ _ _ _ _ _ => rfl
  | none =>
    have off : ∀ b, b ≠ a → (fun b => if b = a then some (HO.frz { cls := .type "list", data := .seq vs.toArray } (.lst (ns.map V.int))) else none : Hp) b = none := fun b hb => if_neg hb
    have on : (fun b => if b = a then some (HO.frz { cls := .type "list", data := .seq vs.toArray } (.lst (ns.map V.int))) else none : Hp) a = some _ := if_pos rfl
    refine law_top (H := fun b => if b = a then some (.frz { cls := .type "list", data := .seq vs.toArray } (.lst (ns.map V.int))) else none) kin hns hb hbb lim nogen room F hmg few (.inl (.inr ⟨_, on⟩)) (fun b u z => ?_) (fun b => ?_) (fun b o e => off b fun z => ?_) fun b o es ep e d => off b fun z => ?_
    · by_cases h : b = a
      · subst h
        have z' := on.symm.trans z
        cases z'
        exact ⟨at_a, by rw [List.length_map]; exact small, vs, _, rv, at_a⟩
      · rw [off b h] at z; cases z
    · by_cases h : b = a
      · exact .inr ⟨_, _, by rw [h]; exact on⟩
      · exact .inl (off b h)
    · subst z; rw [hk] at e; cases e
    · subst z
      rw [at_a] at e
      cases e
      cases (d : Data.seq vs.toArray _ = Data.dict es ep)
/-- a law over a head: F gives the written part and the law's def -/
theorem law_walk {l : PySem.W.OpenLaw} {k : Nat} {q : Program} {loose : List Str} {XP : (Str → Option Value) → Heap → Prop} {YP : World → Heap → Prop} {d : DefRec}
    (hn : l.most = some 63) (hdf : d.params.defaults = []) (room : RG k callerA) (F : ∀ (w : World) (mg : Str → Option Value) (fa : Addr) (h : Heap), YP w h → h.Ns mainGlobals mg → mg d.name = some (.ref fa) →
      ∃ (K : PySem.W.Frag), K.In h ∧ ∀ base : Heap, FD l.prog w K mg base d.name k lawF) : PySem.W.WalkO q loose XP YP l.row.toRowW d [] (fun f vs => PySem.call f vs) := by
  refine Att.attach_call hn hdf fun w s₀ s₁ mg mb fa o pm cd doc a vs ns top Y ho hd hcd hmg hobj hints hlen hg => ?_
  obtain ⟨K, kin, rules⟩ := F w mg fa _ Y top.T.g hmg
  exact law_end kin top.T.g top.T.b top.T.builtins top.T.nolimit hg room rules hmg hlen hobj hints
end AL
/-! AL8: dict displays, makers, repr, the law's own end. -/
namespace AL
open PySem PySem.Spec
open PyProof.Rows L2
section
variable {X : Cx} {W : WX} {a b c e : Expr} {aa ab ac : ATE} {pos : Pos} {es : List Expr} {t' : ATA}
/-! ### {k: v, ..} -/
def aPairs : List (ATE × ATE) → Rho → Sto → XA → (List (D × D) → Sto → Prop) → Prop
  | [], _, S, _, Q => Q [] S
  | (k, v) :: r, ρ, S, E, Q => k ρ S E fun x S1 => v ρ S1 E fun y S2 => aPairs r ρ S2 E fun ps S3 => Q ((x, y) :: ps) S3
def keysD : List (D × D) → Option (List (Key × D))
  | [] => some []
  | (k, v) :: r => (keyD k).bind fun q => (keysD r).map fun l => (q, v) :: l
def mergeD (kvs more : List (Key × D)) : List (Key × D) := more.foldl (fun acc kv => setK kv.1 kv.2 acc) kvs
def aDisp (ps : List (ATE × ATE)) : ATE := fun ρ S E Q => aPairs ps ρ S E fun l S1 => must (keysD l) fun kvs => kvs.length ≤ 15 ∧ Q (.ref S1.length) (S1 ++ [.dK (mergeD [] kvs)])
inductive APs (X : Cx) (W : WX) (pos : Pos) : List (Option Expr) → List Expr → List (TE × TE) → List (ATE × ATE) → Prop
  | nil : APs X W pos [] [] [] []
  | cons {k v : Expr} {ks : List (Option Expr)} {vs : List Expr} {tk tv : TE} {trs : List (TE × TE)} {ak av : ATE} {ars : List (ATE × ATE)} : PE X k tk → LE X.K W tk ak → PE X v tv → LE X.K W tv av → APs X W pos ks vs trs ars → APs X W pos (some k :: ks) (v :: vs) ((tk, tv) :: trs) ((ak, av) :: ars)
theorem APs.pps {ks : List (Option Expr)} {vs : List Expr} {trs : List (TE × TE)} {ars : List (ATE × ATE)} (h : APs X W pos ks vs trs ars) : PPs X pos ks vs trs := by
  induction h with
  | nil => exact pps_nil
  | cons p1 _ p2 _ _ ih => exact pps_cons p1 p2 ih
def APx (X : Cx) (W : WX) (pos : Pos) (ks : List (Option Expr)) (vs : List Expr) (ars : List (ATE × ATE)) : Prop := ∃ trs, APs X W pos ks vs trs ars
theorem apx_nil : APx X W pos [] [] [] := ⟨[], .nil⟩
theorem apx_cons {k v : Expr} {ks : List (Option Expr)} {vs : List Expr} {ak av : ATE} {ars : List (ATE × ATE)} (hk : AE X W k ak) (hv : AE X W v av) (hr : APx X W pos ks vs ars) : APx X W pos (some k :: ks) (v :: vs) ((ak, av) :: ars) := by
  obtain ⟨t1, p1, l1⟩ := hk
  obtain ⟨t2, p2, l2⟩ := hv
  obtain ⟨trs, h⟩ := hr
  exact ⟨_, .cons p1 l1 p2 l2 h⟩
def RpP (K : PySem.W.Frag) (A : List Addr) (H : Hp) : List (D × D) → List (V × V) → Prop := Paired fun p q => Rp K A H p.1 q.1 ∧ Rp K A H p.2 q.2
theorem RpP.mono {K : PySem.W.Frag} {A A' : List Addr} {H H' : Hp} {l : List (D × D)} {vs : List (V × V)} (h : RpP K A H l vs) (u : Uw K A H A' H') : RpP K A' H' l vs := Paired.mapP h fun _ _ z => ⟨z.1.monow u, z.2.monow u⟩
theorem APs.lift {ks : List (Option Expr)} {vs : List Expr} {trs : List (TE × TE)} {ars : List (ATE × ATE)} (h : APs X W pos ks vs trs ars) : ∀ (σ : L2.St) (H : Hp) (A : List Addr) (ρ : Rho) (S : Sto) (P : List (V × V) → Hp → Prop) (Q : List (D × D) → Sto → Prop) (E : XA), MtS X.K A H S → Mt X.K A H ρ σ → aPairs ars ρ S E Q →
    (∀ ws H' l A' S', Up X.K A H A' H' → MtS X.K A' H' S' → RpP X.K A' H' l ws → Q l S' → P ws H') → KX X.K A H (WE' W σ) E → tPairs trs σ H P := by
  induction h with
  | nil => exact fun σ H A ρ S P Q E m mt h k _ => k [] H [] A S Up.refl m .nil h
  | cons p1 l1 p2 l2 _ ih =>
    intro σ H A ρ S P Q E m mt h k kx
    refine l1 σ H A ρ S _ _ E m mt h (fun x H1 dx A1 S1 u1 m1 r1 q1 => l2 σ H1 A1 ρ S1 _ _ E m1 (mt.mono u1) q1 (fun y H2 dy A2 S2 u2 m2 r2 q2 => ?_) (kx.mono u1)) kx
    refine ih σ H2 A2 ρ S2 _ _ E m2 (mt.mono (u1.trans u2)) q2 (fun ws H3 l A3 S3 u3 m3 r3 q3 => ?_) (kx.mono (u1.trans u2))
    exact k _ H3 _ A3 S3 ((u1.trans u2).trans u3) m3 (.cons ⟨(r1.mono u2).mono u3, r2.mono u3⟩ r3) q3
theorem keys_ok {K : PySem.W.Frag} {A : List Addr} {H : Hp} {l : List (D × D)} {ws : List (V × V)} (r : RpP K A H l ws) : ∀ {kvs : List (Key × D)}, keysD l = some kvs → ∃ ks : List (Key × V), ws = ks.map (fun kv => (kV kv.1, kv.2)) ∧ RpK K A H Key kvs ks ∧ kvs.length = l.length := by
  induction r with
  | nil => intro kvs h; cases h; exact ⟨[], rfl, .nil, rfl⟩
  | cons h1 h2 ih =>
    rename_i p q l1 l2
    obtain ⟨p1, p2⟩ := p
    obtain ⟨q1, q2⟩ := q
    intro kvs h
    simp only [keysD, Option.bind_eq_some_iff, Option.map_eq_some_iff] at h
    obtain ⟨k, ek, l, el, rfl⟩ := h
    obtain ⟨ks, e1, r2, e3⟩ := ih el
    have ev := key_ok ek h1.1
    dsimp only at ev
    exact ⟨(k, q2) :: ks, by rw [e1, ev]; rfl, .cons ⟨rfl, h1.2⟩ r2, by simp [e3]⟩
theorem merge_ok {K : PySem.W.Frag} {A : List Addr} {H : Hp} {more : List (Key × D)} {ms : List (Key × V)} (r : RpK K A H Key more ms) : ∀ {kvs : List (Key × D)} {ks : List (Key × V)}, RpK K A H Key kvs ks → RpK K A H Key (mergeD kvs more) (mergeK ks ms) := by
  induction r with
  | nil => exact fun h => h
  | cons h1 h2 ih =>
    rename_i p q l1 l2
    obtain ⟨p1, p2⟩ := p
    obtain ⟨q1, q2⟩ := q
    obtain ⟨e, rp⟩ := h1
    dsimp only at e rp
    subst e
    intro kvs ks h
    exact ih (setK_ok rp h)
/-- a hidden object, filled, becomes a number -/
theorem MtS.showW {K : PySem.W.Frag} {A : List Addr} {H : Hp} {S : Sto} (m : MtS K A H S) {p : Addr} {ho : HO} {o : O} (n : p ∉ A) (u : Uw K A H (A ++ [p]) (upd H p ho)) (ok : OR K (A ++ [p]) (upd H p ho) o p) : MtS K (A ++ [p]) (upd H p ho) (S ++ [o]) := by
  refine ⟨by simp [m.len], ?_, fun i ob x e1 e2 => ?_⟩
  · rw [List.nodup_append]
    refine ⟨m.nd, by simp, fun x hx y hy z => ?_⟩
    rw [List.mem_singleton.mp hy] at z
    exact n (z ▸ hx)
  · by_cases hi : i < A.length
    · rw [List.getElem?_append_left hi] at e2
      rw [List.getElem?_append_left (by rw [m.len]; exact hi)] at e1
      exact (m.ok i ob x e1 e2).keep (upd_ne fun z => n (z ▸ List.mem_of_getElem? e2)) u
    · have hi' : i = A.length := by
        have := (List.getElem?_eq_some_iff.mp e2).1
        simp at this; omega
      subst hi'
      rw [List.getElem?_append_right (Nat.le_refl _)] at e2
      rw [List.getElem?_append_right (by rw [m.len]; exact Nat.le_refl _), m.len] at e1
      simp at e1 e2
      subst e1; subst e2
      exact ok
theorem ae_disp {keys : List (Option Expr)} {values : List Expr} {ars : List (ATE × ATE)} (h : APx X W pos keys values ars) (hall : keys.all (·.isSome) = true := by rfl) (hl : keys.length = values.length := by rfl) (h0 : keys ≠ [] := by intro z; cases z) (h15 : keys.length ≤ 15 := by decide) :
    AE X W (.Dict keys values pos) (aDisp ars) := by
  obtain ⟨trs, hp⟩ := h
  refine ⟨_, pe_disp hp.pps hall hl h0 h15, fun σ H A ρ S P Q E m mt h kq kx p0 hp0 => ?_⟩
  have u0 : Up X.K A H A (upd H p0 (.dK [])) := Up.lay hp0
  refine hp.lift σ _ A ρ S _ _ E (m.lay hp0) (mt.mono u0) h (fun ws H2 l A2 S2 u2 m2 r2 q2 => ?_) (kx.mono u0)
  have nA : p0 ∉ A := m.notin hp0
  have e2 : H2 p0 = some (.dK []) := u2.fr p0 _ upd_same nA
  have n2 : p0 ∉ A2 := fun z => by
    have := u2.new p0 z nA
    rw [upd_same] at this; cases this
  obtain ⟨kvs, ek, hz, q⟩ := of_must q2
  obtain ⟨ks, ew, rk, el⟩ := keys_ok r2 ek
  refine ⟨e2, ks, ew, by rw [← RpK.length rk]; exact hz, ?_⟩
  have un : Uw X.K A2 H2 (A2 ++ [p0]) (upd H2 p0 (.dK (mergeK [] ks))) := by
    refine ⟨List.prefix_append _ _, fun x vs hh => ?_⟩
    rcases hh with (hh | ⟨ob, hh⟩) | hh
    · exact .inl (.inl (by rw [upd_ne (fun z => by subst z; rw [e2] at hh; cases hh)]; exact hh))
    · exact .inl (.inr ⟨ob, by rw [upd_ne (fun z => by subst z; rw [e2] at hh; cases hh)]; exact hh⟩)
    · exact .inr hh
  have uu := u0.trans u2
  have u3 : Up X.K A H (A2 ++ [p0]) (upd H2 p0 (.dK (mergeK [] ks))) := by
    refine ⟨⟨uu.pre.trans un.pre, fun x vs hh => un.tup x vs (uu.tup x vs hh)⟩, fun b o hb nb => ?_, fun b hb nb => ?_⟩
    · rw [upd_ne (ne_of_none hb hp0)]; exact uu.fr b o hb nb
    · obtain hb | hb := List.mem_append.mp hb
      · exact uu.new b hb nb
      · rw [List.mem_singleton.mp hb]; exact hp0
  exact kq _ _ (.ref S2.length) (A2 ++ [p0]) (S2 ++ [.dK (mergeD [] kvs)]) u3 (m2.showW (o := .dK (mergeD [] kvs)) n2 un ⟨_, upd_same, (merge_ok rk .nil).monow un⟩) (.ref (by rw [m2.len]; exact alloc_at)) q
/-! ### C(e, ..) -/
variable {x cl : Str} {p : Pos} {k : Nat} {F : AFn}
theorem run_makeS {CX : CXT} {C f : Addr} {fd : FuncData} {ps : List Str} {sp : Sp} {E : XK} {pins : List (Addr × Obj)} {σ : L2.St} {H : Hp} {s : Shared} {Q : VK} {us : List Value} {vs : List V} (M : Mk X.K C f) (Fk : FnG X.prog X.w X.K X.mg X.base CX k f fd ps sp) (hr : RG (k + 1) X.A) (hb : Binds X.K fd ps [])
    (hx : ∀ (pins : List (Addr × Obj)) (H : Hp) (s : Shared) (e : Value) (s' : Shared), Inv X pins σ H s → CX X.stack H s E e s' → X.xe e s') (I : Inv X pins σ H s) (r : Vals vs us)
    (h : ∀ x dx, H x = none → H dx = none → dx ≠ x → sp (.ref x :: vs) (upd (upd H dx (.own x)) x (.ins C dx [])) (fun v H2 => v = .non ∧ Q (.ref x) H2) E) : wpAny (model X.prog X.w) X.A (call (.ref C) us) (EP X pins σ Q) X.xe s := by
  have new1 : H (s.heap.objs.size + 1) = none := I.hok.fresh (Nat.le_succ _)
  have new0 : H s.heap.objs.size = none := I.hok.fresh (Nat.le_refl _)
  have want := h (s.heap.objs.size + 1) s.heap.objs.size new1 new0 (Nat.ne_of_lt (Nat.lt_succ_self _))
  have J := Inv.made (C := C) I
  have rs : Vals (V.ref (s.heap.objs.size + 1) :: vs) (Value.ref (s.heap.objs.size + 1) :: us) := .cons rfl r
  have hl : (Value.ref (s.heap.objs.size + 1) :: us).length = ps.length := rs.length.symm.trans (Fk.few _ _ _ _ want)
  have bnd := hb _ (Value.ref (s.heap.objs.size + 1) :: us) J.kIn (by rw [List.append_nil]; exact hl)
  rw [List.append_nil] at bnd
  refine wpAny_call (make_map (f := f) I.kIn M.makes M.init (beq_iff_eq.mp M.fn) (codeAny_mono (Fk.go _ X.stack _ _ _ _ _ _ E (hr.make C us []) (J.env0.make C us []) bnd rs want) fun res s2 got => ?_))
  cases res with
  | error e => exact hx pins _ _ e s2 J got
  | ok fl =>
    cases fl with
    | ret u =>
      obtain ⟨v, H3, I3, rv, ev, q3⟩ := J.after got
      subst ev
      exact ⟨rv, ⟨V.ref (s.heap.objs.size + 1), H3, I3, rfl, q3⟩⟩
    | next => exact got.elim
    | brk => exact got.elim
    | cont => exact got.elim
def tMakeS (C : Addr) (sp : Sp) (E : L2.St → XK) (t : TA) : TE := fun σ H Q => t σ H fun vs H1 => ∀ x dx, H1 x = none → H1 dx = none → dx ≠ x →
  sp (.ref x :: vs) (upd (upd H1 dx (.own x)) x (.ins C dx [])) (fun v H2 => v = .non ∧ Q (.ref x) H2) (E σ)
/-- a new instance of cl, then its __init__ -/
def aMake (cl : Str) (F : AFn) (t : ATA) : ATE := fun ρ S E Q => t ρ S E fun ds S1 => F (.ref S1.length :: ds) (S1 ++ [.ins cl []]) E fun v S2 => v = .non ∧ Q (.ref S1.length) S2
theorem make_sp {K : PySem.W.Frag} {A : List Addr} {H : Hp} {S : Sto} {ds : List D} {vs : List V} {P : VK} {Q : VA} {E : XA} {W' : XK} (m : MtS K A H S) (r : RpL K A H ds vs) (h : F (.ref S.length :: ds) (S ++ [.ins cl []]) E fun v S2 => v = .non ∧ Q (.ref S.length) S2) (kq : KQ K A H P Q) (kx : KX K A H W' E)
    {x dx : Addr} (hx : H x = none) (hd : H dx = none) (hne : dx ≠ x) : spOf K F (.ref x :: vs) (upd (upd H dx (.own x)) x (.ins (He.ga K cl) dx [])) (fun v H2 => v = .non ∧ P (.ref x) H2) W' := by
  have u1 : Up K A H A (upd H dx (.own x)) := Up.lay hd
  have m1 := m.lay (o := .own x) hd
  have hx1 : upd H dx (.own x) x = none := by rw [upd_ne (Ne.symm hne)]; exact hx
  have u2 := u1.trans (Up.alloc (o := .ins (He.ga K cl) dx []) m1 hx1)
  have m2 : MtS K (A ++ [x]) (upd (upd H dx (.own x)) x (.ins (He.ga K cl) dx [])) (S ++ [.ins cl []]) := m1.alloc hx1 ⟨dx, [], upd_same, .nil⟩
  have rx : A.length = S.length := m.len.symm
  refine ⟨A ++ [x], S ++ [.ins cl []], .ref S.length :: ds, _, E, m2, .cons (.ref (by rw [← rx]; exact alloc_at)) (r.mono u2), h, fun v H' d A' S' u mm rv q => ?_, kx.mono u2⟩
  obtain ⟨rfl, q⟩ := q
  cases rv
  exact ⟨rfl, kq _ _ _ A' S' (u2.trans u) mm (.ref (pre_get u.pre (by rw [← rx]; exact alloc_at))) q⟩
theorem ae_make (h : CD X.prog X.w X.K X.mg X.base cl k F) (hr : RG (k + 1) X.A) (tk : Takes X W) (ha : AA X W (e :: es) t') (hg : Gl X cl := by rfl) (hdb : (cl == ("__debug__" : Str)) = false := by decide)
    (he : starEach (e :: es) X.env = (false, eval e X.env) :: starEach es X.env := by rfl) (hpl : (backTo pos (starEach es X.env)).any (·.1) = false := by rfl) : AE X W (.Call (.Name cl p) (e :: es) [] pos) (aMake cl F t') := by
  obtain ⟨f, fd, ps, ok, hm, M, hb⟩ := h
  obtain ⟨t, pa, l⟩ := ha
  refine ⟨tMakeS (He.ga X.K cl) (spOf X.K F) (WE W) t, ⟨fun pins s σ H Q inv h => ?_⟩, fun σ H A ρ S P Q E mm mt h kq kx => l σ H A ρ S _ _ E mm mt h (fun vs H1 ds A1 S1 u1 m1 r1 q1 x dx hx hd hne => make_sp m1 r1 q1 (kq.mono u1) (kx.mono u1) hx hd hne) kx⟩
  refine wpAny_Call_Name_kw (ld_glob inv hg hm ?_ hdb)
  refine PySem.W.callWith_K (h₀ := X.base) inv.ok.mod.kin M.kp (thn (pa.run pos pins s σ H _ inv h) fun us s1 ⟨vs, H1, I1, r, q⟩ => ⟨I1.kIn, ?_⟩) he hpl
  exact run_makeS M ok hr hb (passAt tk σ) I1 r q
/-! ### repr -/
def cRepr : List D → Sto → VA → Prop := fun ds S Q => match ds with
  | [d] => ∃ pd, Py S d pd ∧ pd.showable = true ∧ pd.canLay0 = true ∧ pd.depth ≤ 64 ∧ pd.shown.length ≤ sizeLine ∧ Q (.str pd.shown) S
  | _ => False
theorem ac_repr (hg : X.A.guards = some []) (hu : X.A.units + 66 < cLine) : ACall X (.builtin "repr") cRepr := by
  refine ⟨fun vs H P => ∃ v pd, vs = [v] ∧ Dp X.K H v pd ∧ pd.showable = true ∧ pd.canLay0 = true ∧ pd.depth ≤ 64 ∧ pd.shown.length ≤ sizeLine ∧ P (.str pd.shown) H, fun pins s σ H xs us Q I r h => ?_, fun vs H A ds S P Q m r q k => ?_⟩
  · obtain ⟨v, pd, rfl, hd, h1, h2, h3, h4, q⟩ := h
    obtain ⟨u, eu, ru⟩ := vals1 r
    subst eu
    obtain ⟨as, rd⟩ := Dp.reads I pd v u hd ru
    cases rd with
    | none => exact PySem.P.repr_of_none ⟨.str _, H, I.tok _, ⟨_, rfl⟩, by simpa [PyData.shown] using q⟩
    | bool b => exact PySem.P.repr_of_bool ⟨.str _, H, I.tok _, ⟨_, rfl⟩, by simpa [PyData.shown] using q⟩
    | int i t => exact PySem.P.repr_of_int (by simpa [PyData.showable] using h1) ⟨.str _, H, I.tok _, ⟨_, rfl⟩, by simpa [PyData.shown] using q⟩
    | str z t => exact PySem.P.repr_of_str ⟨.str _, H, I.tok _, ⟨_, rfl⟩, by simpa [PyData.shown] using q⟩ (by simpa [PyData.shown] using h4)
    | list e1 e2 e3 e4 => exact PySem.repr_of_reads' (.list e1 e2 e3 e4) h1 (PyData.noDict_hsm (PyData.hasDict_of_canLay _ h2)) hg (by omega) (fun _ _ z => z) (fun h' t tk hk => ⟨.str _, H, I.kept hk, ⟨_, rfl⟩, q⟩) h4
    | tuple e1 e2 e3 e4 => exact PySem.repr_of_reads' (.tuple e1 e2 e3 e4) h1 (PyData.noDict_hsm (PyData.hasDict_of_canLay _ h2)) hg (by omega) (fun _ _ z => z) (fun h' t tk hk => ⟨.str _, H, I.kept hk, ⟨_, rfl⟩, q⟩) h4
    | dict _ _ _ _ _ => simp [PyData.canLay0] at h2
  · match ds, q with
    | [d], ⟨pd, h0, h1, h2, h3, h4, q⟩ =>
      obtain ⟨v, rfl, rv⟩ := rp1 r
      exact ⟨v, pd, rfl, Py.dp m pd d v h0 rv, h1, h2, h3, h4, k _ H _ A S Up.refl m (.str _) q⟩
end
end AL
/-! AL9: the head: constants by a Bool, a Hook of its own. -/
namespace AL
open PySem PySem.Spec
open PyProof.Rows L2
mutual
/-- the value u is the datum d (constants of the module: no object is changed) -/
def dB (K : PySem.W.Frag) : D → Value → Bool
  | .non, u => (match u with
    | .none => true
    | _ => false)
  | .bl b, u => (match u with
    | .bool c => decide (b = c)
    | _ => false)
  | .int i, u => (match u with
    | .int j _ => decide (i = j)
    | _ => false)
  | .str x, u => (match u with
    | .str y _ => decide (x = y)
    | _ => false)
  | .tup l, u => (match u with
    | .ref p => (match K.lookup p with
      | some ⟨.type c, _, .seq its _, _⟩ => decide (c = "tuple") && (decide (its.size ≤ sizeLine) && dsB K l its.toList)
      | _ => false)
    | _ => false)
  | .kl l, u => (match u with
    | .ref p => (match K.lookup p with
      | some ⟨.type c, none, .seq its _, _⟩ => decide (c = "list") && (decide (its.size ≤ sizeLine) && dsB K l its.toList)
      | _ => false)
    | _ => false)
  | .ref _, _ => false
def dsB (K : PySem.W.Frag) : List D → List Value → Bool
  | [], us => us.isEmpty
  | d :: l, us => (match us with
    | u :: r => dB K d u && dsB K l r
    | [] => false)
end
mutual
theorem dB_ok {K : PySem.W.Frag} : ∀ (d : D) (u : Value), dB K d u = true → ∃ v, RelV v u ∧ ∀ A H, Rp K A H d v
  | .non, u, h => by
    cases u <;> simp [dB] at h
    exact ⟨.non, rfl, fun _ _ => .non⟩
  | .bl b, u, h => by
    cases u <;> simp [dB] at h
    subst h
    exact ⟨.bl _, rfl, fun _ _ => .bl _⟩
  | .int i, u, h => by
    cases u <;> simp [dB] at h
    subst h
    exact ⟨.int _, ⟨_, rfl⟩, fun _ _ => .int _⟩
  | .str x, u, h => by
    cases u <;> simp [dB] at h
    subst h
    exact ⟨.str _, ⟨_, rfl⟩, fun _ _ => .str _⟩
  | .ref _, u, h => by simp [dB] at h
  | .tup l, u, h => by
    cases u <;> simp [dB] at h
    rename_i a
    split at h
    · rename_i c od its n osl e
      simp only [decide_eq_true_eq, Bool.and_eq_true] at h
      obtain ⟨h1, h2, h3⟩ := h
      subst h1
      obtain ⟨vs, rv, rp⟩ := dsB_ok l its.toList h3
      exact ⟨.ref a, rfl, fun A H => .tup (.inr ⟨_, its, n, e, rfl, rfl, h2, rv⟩) (rp A H)⟩
    · cases h
  | .kl l, u, h => by
    cases u <;> simp [dB] at h
    rename_i a
    split at h
    · rename_i c its n osl e
      simp only [decide_eq_true_eq, Bool.and_eq_true] at h
      obtain ⟨h1, h2, h3⟩ := h
      subst h1
      obtain ⟨vs, rv, rp⟩ := dsB_ok l its.toList h3
      exact ⟨.ref a, rfl, fun A H => .kl ⟨_, its, n, e, rfl, rfl, rfl, h2, rv⟩ (rp A H)⟩
    · cases h
theorem dsB_ok {K : PySem.W.Frag} : ∀ (l : List D) (us : List Value), dsB K l us = true → ∃ vs, Vals vs us ∧ ∀ A H, RpL K A H l vs
  | [], us, h => by
    cases us <;> simp [dsB] at h
    exact ⟨[], .nil, fun _ _ => .nil⟩
  | d :: l, us, h => by
    cases us <;> simp [dsB] at h
    rename_i u r
    obtain ⟨v, rv, rp⟩ := dB_ok d u h.1
    obtain ⟨vs, rvs, rps⟩ := dsB_ok l r h.2
    exact ⟨v :: vs, .cons rv rvs, fun A H => .cons (rp A H) (rps A H)⟩
end
/-- the module's constants -/
def csB (K : PySem.W.Frag) : List (Str × D) → Bool
  | [] => true
  | (x, d) :: r => (match PySem.W.nsIn K mainGlobals x with
    | some (some u) => dB K d u
    | _ => false) && csB K r
theorem csB_ok {K : PySem.W.Frag} {h : Heap} {mg : Str → Option Value} (X : K.In h) (G : h.Ns mainGlobals mg) : ∀ {l : List (Str × D)} (_ : csB K l = true) (i : Nat) {x : Str} {d : D} (_ : l[i]? = some (x, d)), GlD K mg x d
  | [], _, _, _, _, e => by simp at e
  | (y, c) :: r, hb, i, x, d, e => by
    simp only [csB, Bool.and_eq_true] at hb
    cases i with
    | succ i => exact csB_ok X G hb.2 i (by simpa using e)
    | zero =>
      simp at e
      obtain ⟨rfl, rfl⟩ := e
      have h1 := hb.1
      split at h1
      · rename_i u en
        obtain ⟨v, rv, rp⟩ := dB_ok _ _ h1
        exact ⟨v, u, PySem.W.mg_of X G en, rv, rp⟩
      · cases h1
/-! ### the Hook -/
structure SaysC (fa : List He.Fa) (fn : List He.DefD) (cs : List (Str × D)) (K : PySem.W.Frag) : Prop where
  t : He.SaysD fa fn K
  c : csB K cs = true
def obsC (n : Nat) (fa : List He.Fa) (fn : List He.DefD) (cs : List (Str × D)) (g : Addr → Option Obj) : He.AlD × Bool := (He.obsD fa fn (He.frG g (He.asD g n)), csB (He.frG g (He.asD g n)) cs)
def hookC (n : Nat) (fa : List He.Fa) (fn : List He.DefD) (cs : List (Str × D)) : PySem.W.Hook where
  α := He.AlD × Bool
  obs := fun s => obsC n fa fn cs s.heap.get?
  val := fun _ => (He.valD fn, true)
  says := fun _ h => ∃ K : PySem.W.Frag, K.In h ∧ SaysC fa fn cs K
  of := fun _ _ e => ⟨_, He.frG_in, ⟨congrArg (fun z : He.AlD × Bool => z.1) e, congrArg (fun z : He.AlD × Bool => z.2) e⟩⟩
  keeps := fun _ _ _ ⟨K0, kin, c⟩ k => ⟨K0, PySem.W.Frag.In.keeps kin k, c⟩
theorem obsC_eq {n : Nat} {fa : List He.Fa} {fn : List He.DefD} {cs : List (Str × D)} {g : Addr → Option Obj} {s : Shared} (h : ∀ a, g a = s.heap.get? a) : obsC n fa fn cs g = (hookC n fa fn cs).obs s := by
  have eg : g = s.heap.get? := funext h
  subst eg
  rfl
theorem field_ok {K : PySem.W.Frag} {cl f : Str} (h1 : (He.Fa.cls cl).ok K = true) (h2 : (He.Fa.noat cl f).ok K = true) : FieldOk K cl f := ⟨He.cls_ok h1, He.noat_ok h2⟩
end AL
/-! AL10: reading abstract programs: equations for simp; plain data. -/
namespace AL
open PySem PySem.Spec
open PyProof.Rows L2
theorem ofS_inj {a b : String} : (Str.ofString a = Str.ofString b) ↔ a = b := by
  constructor
  · intro h
    rw [Str.ofString_eq_toList, Str.ofString_eq_toList] at h
    have h1 : (a.toList.map Char.toNat) = b.toList.map Char.toNat := by simpa using h
    have h2 : a.toList = b.toList := by
      have inj : Function.Injective Char.toNat := fun x y e => by
        have := congrArg Char.ofNat e
        simpa [Char.ofNat_toNat] using this
      generalize a.toList = la at h1 ⊢
      generalize b.toList = lb at h1 ⊢
      induction la generalizing lb with
      | nil => cases lb <;> simp_all
      | cons x la ih =>
        cases lb with
        | nil => simp at h1
        | cons y lb =>
          simp only [List.map_cons, List.cons.injEq] at h1
          rw [inj h1.1, ih lb h1.2]
    exact String.toList_inj.mp h2
  · intro h; rw [h]
section
variable {S : Sto} {Q : VA} {E : XA} {ρ : Rho} {D0 : AEnds} {a b : ATE} {t u : ATT} {ta : ATA} {s1 s2 : ATS} {g : ATG} {r : AR2} {F : AFn} {ds : List D} {o : O}
theorem at_end : (S ++ [o])[S.length]? = some o := by simp
/-- reading statements and expressions -/
theorem ev : (∀ D0 ρ S, aNext D0 ρ S = D0.nx ρ S) ∧ (∀ t u D0 ρ S, aSeq t u D0 ρ S = t { D0 with nx := u D0 } ρ S) ∧ (∀ a D0 ρ S, aDrop a D0 ρ S = a ρ S (fun x S1 => D0.ex x ρ S1) fun _ S1 => D0.nx ρ S1) ∧
    (∀ a D0 ρ S, aRet a D0 ρ S = a ρ S (fun x S1 => D0.ex x ρ S1) D0.rt) ∧ (∀ D0 ρ S, aRetN D0 ρ S = D0.rt .non S) ∧
    (∀ t a b D0 ρ S, aIfS t a b D0 ρ S = t ρ S (fun x S1 => D0.ex x ρ S1) fun k S1 => match k with | true => a D0 ρ S1 | false => b D0 ρ S1) ∧
    (∀ a g D0 ρ S, aAsg a g D0 ρ S = a ρ S (fun x S1 => D0.ex x ρ S1) fun d S1 => g d ρ S1 D0.nx) ∧ (∀ i d ρ S Q, agName i d ρ S Q = Q (sset ρ i d) S) ∧
    (∀ i ρ S E Q, aVar i ρ S E Q = must (gt ρ i) fun d => Q d S) ∧ (∀ d ρ S E Q, aC d ρ S E Q = Q d S) ∧ (∀ r a b ρ S E Q, aOp r a b ρ S E Q = a ρ S E fun x S1 => b ρ S1 E fun y S2 => r x y S2 Q) ∧
    (∀ a ρ S E Q, aB a ρ S E Q = a ρ S E fun d S1 => match d with | .bl k => Q k S1 | _ => False) ∧
    (∀ t u ρ S E Q, aAnd t u ρ S E Q = t ρ S E fun k S1 => match k with | true => u ρ S1 E Q | false => Q false S1) ∧
    (∀ t u ρ S E Q, aOr t u ρ S E Q = t ρ S E fun k S1 => match k with | true => Q true S1 | false => u ρ S1 E Q) ∧ (∀ t ρ S E Q, aNot t ρ S E Q = t ρ S E fun k S1 => Q (!k) S1) ∧
    (∀ a b ρ S E Q, aAndV a b ρ S E Q = a ρ S E fun x S1 => match x with | .bl true => b ρ S1 E Q | .bl false => Q (.bl false) S1 | _ => False) ∧
    (∀ a b ρ S E Q, aOrV a b ρ S E Q = a ρ S E fun x S1 => match x with | .bl true => Q (.bl true) S1 | .bl false => b ρ S1 E Q | _ => False) ∧
    (∀ a ρ S E Q, aNotV a ρ S E Q = a ρ S E fun x S1 => match x with | .bl k => Q (.bl (!k)) S1 | _ => False) ∧
    (∀ t a b ρ S E Q, aIf t a b ρ S E Q = t ρ S E fun k S1 => match k with | true => a ρ S1 E Q | false => b ρ S1 E Q) ∧
    (∀ ρ S E Q, aNil ρ S E Q = Q [] S) ∧ (∀ a t ρ S E Q, aCons a t ρ S E Q = a ρ S E fun x S1 => t ρ S1 E fun xs S2 => Q (x :: xs) S2) ∧
    (∀ t ρ S E Q, aTup t ρ S E Q = t ρ S E fun ds S1 => ds.length ≤ sizeLine ∧ Q (.tup ds) S1) ∧ (∀ t ρ S E Q, aLst t ρ S E Q = t ρ S E fun ds S1 => ds.length ≤ sizeLine ∧ Q (.ref S1.length) (S1 ++ [.lst ds])) ∧
    (∀ a b ρ S E Q, aIx a b ρ S E Q = a ρ S E fun x S1 => b ρ S1 E fun y S2 => getIx x y S2 Q) ∧ (∀ F t ρ S E Q, aCall F t ρ S E Q = t ρ S E fun ds S1 => F ds S1 E Q) ∧
    (∀ r t ρ S E Q, aCB r t ρ S E Q = t ρ S E fun ds S1 => r ds S1 Q) ∧
    (∀ ao a ρ S E Q, aAppend ao a ρ S E Q = ao ρ S E fun o S1 => isLst S1 o = true ∧ a ρ S1 E fun d S2 => mAppend o d S2 fun S3 => Q .non S3) ∧
    (∀ a ρ S E Q, aiAny a ρ S E Q = a ρ S E fun d S1 => must (srcOf S1 d) fun src => Q src S1) := by
  refine ⟨?_, ?_, ?_, ?_, ?_, ?_, ?_, ?_, ?_, ?_, ?_, ?_, ?_, ?_, ?_, ?_, ?_, ?_, ?_, ?_, ?_, ?_, ?_, ?_, ?_, ?_, ?_, ?_⟩ <;> intros <;> rfl
/-- slots, positions -/
theorem ev2 : (∀ {α : Type} (x : α) f, must (some x) f = f x) ∧ (∀ {α : Type} f, must (none : Option α) f = False) ∧ (∀ x (r : Rho), gt (x :: r) 0 = x) ∧ (∀ x (r : Rho) i, gt (x :: r) (i + 1) = gt r i) ∧
    (∀ x (r : Rho) d, sset (x :: r) 0 d = some d :: r) ∧ (∀ x (r : Rho) i d, sset (x :: r) (i + 1) d = x :: sset r i d) ∧
    (∀ l i S Q, getIx (.tup l) (.int i) S Q = must (at' l i) fun d => Q d S) ∧ (∀ l i S Q, getIx (.kl l) (.int i) S Q = must (at' l i) fun d => Q d S) ∧
    (∀ (d : D) l, at' (d :: l) 0 = some d) ∧ (∀ (d e : D) l, at' (d :: e :: l) 1 = some e) ∧ (∀ (d e f : D) l, at' (d :: e :: f :: l) 2 = some f) ∧ (∀ (d e f g : D) l, at' (d :: e :: f :: g :: l) 3 = some g) ∧
    (∀ (d e f g h : D) l, at' (d :: e :: f :: g :: h :: l) 4 = some h) ∧ (∀ (d e f g h i : D) l, at' (d :: e :: f :: g :: h :: i :: l) 5 = some i) ∧ (∀ (d e f g h i j : D) l, at' (d :: e :: f :: g :: h :: i :: j :: l) 6 = some j) := by
  refine ⟨fun _ _ => rfl, fun _ => rfl, fun _ _ => rfl, fun _ _ _ => rfl, fun _ _ _ => rfl, fun _ _ _ _ => rfl, fun _ _ _ _ => rfl, fun _ _ _ _ => rfl, ?_, ?_, ?_, ?_, ?_, ?_, ?_⟩ <;> intros <;> simp [at']
/-- comparisons of atoms -/
theorem ev3 : (∀ x y S Q, oEq (.str x) (.str y) S Q = Q (.bl (decide (x = y))) S) ∧ (∀ x y S Q, oEq (.int x) (.int y) S Q = Q (.bl (decide (x = y))) S) ∧ (∀ x y S Q, oEq (.bl x) (.bl y) S Q = Q (.bl (decide (x = y))) S) ∧
    (∀ x y S Q, oNe (.str x) (.str y) S Q = Q (.bl (!decide (x = y))) S) ∧ (∀ x y S Q, oNe (.int x) (.int y) S Q = Q (.bl (!decide (x = y))) S) ∧ (∀ x y S Q, oNe (.bl x) (.bl y) S Q = Q (.bl (!decide (x = y))) S) ∧
    (∀ x y S Q, oLt (.int x) (.int y) S Q = Q (.bl (decide (x < y))) S) ∧ (∀ x y S Q, oLe (.int x) (.int y) S Q = Q (.bl (decide (x ≤ y))) S) ∧ (∀ x y S Q, oGt (.int x) (.int y) S Q = Q (.bl (decide (y < x))) S) ∧ (∀ x y S Q, oGe (.int x) (.int y) S Q = Q (.bl (decide (y ≤ x))) S) ∧
    (∀ x y S Q, oAdd (.int x) (.int y) S Q = Q (.int (x + y)) S) ∧ (∀ x y S Q, oSub (.int x) (.int y) S Q = Q (.int (x - y)) S) ∧ (∀ x y S Q, oMul (.int x) (.int y) S Q = (CMul x y ∧ Q (.int (x * y)) S)) ∧
    (∀ x y S Q, oMod (.int x) (.int y) S Q = (0 < y ∧ Q (.int (x % y)) S)) ∧ (∀ x l S Q, oIn x (.tup l) S Q = ((flatD x && l.all flatD) = true ∧ Q (.bl (inF x l)) S)) := by
  refine ⟨?_, ?_, ?_, ?_, ?_, ?_, ?_, ?_, ?_, ?_, ?_, ?_, ?_, ?_, ?_⟩ <;> intros <;> rfl
end
end AL
/-! AL11: plain data as PyData: ==, repr. -/
namespace AL
open PySem PySem.Spec
open PyProof.Rows L2
mutual
def pyD : D → PyData
  | .non => .none
  | .bl b => .bool b
  | .int i => .int i
  | .str x => .str x
  | .tup l => .tuple (pyL l)
  | .ref _ => .none
  | .kl _ => .none
def pyL : List D → List PyData
  | [] => []
  | d :: l => pyD d :: pyL l
end
mutual
/-- plain: no object, short ints -/
def okD : D → Bool
  | .non => true
  | .bl _ => true
  | .int i => decide (i.natAbs < 10 ^ 6)
  | .str x => PyData.strOk x
  | .tup l => okL l
  | .ref _ => false
  | .kl _ => false
def okL : List D → Bool
  | [] => true
  | d :: l => okD d && okL l
end
mutual
def dpD : D → Nat
  | .tup l => dpL l + 1
  | _ => 0
def dpL : List D → Nat
  | [] => 0
  | d :: l => max (dpD d) (dpL l)
end
mutual
def wtD : D → Nat
  | .str x => x.cps.size
  | .tup l => wtL l
  | .int _ => 20
  | _ => 0
def wtL : List D → Nat
  | [] => 0
  | d :: l => wtD d + 1 + wtL l
end
mutual
theorem py_ok {S : Sto} : ∀ d : D, okD d = true → Py S d (pyD d)
  | .non, _ => .non
  | .bl b, _ => .bl b
  | .int i, _ => .int i
  | .str x, _ => .str x
  | .tup l, h => .tup (pyL_ok l (by simpa [okD] using h))
  | .ref _, h => by simp [okD] at h
  | .kl _, h => by simp [okD] at h
theorem pyL_ok {S : Sto} : ∀ l : List D, okL l = true → PyL S l (pyL l)
  | [], _ => .nil
  | d :: l, h => by
    simp only [okL, Bool.and_eq_true] at h
    exact .cons (py_ok d h.1) (pyL_ok l h.2)
end
mutual
theorem lay_ok : ∀ d : D, okD d = true → (pyD d).canLay0 = true ∧ (pyD d).showable = true ∧ (pyD d).intsShort 13 = true
  | .non, _ => by simp [pyD, PyData.canLay0, PyData.showable, PyData.intsShort]
  | .bl b, _ => by simp [pyD, PyData.canLay0, PyData.showable, PyData.intsShort]
  | .int i, h => by
    have h1 : i.natAbs < 10 ^ 6 := by simpa [okD] using h
    have h2 : (toString i).length ≤ 7 := int_text_length_le10 (by decide) h1
    refine ⟨by simp [pyD, PyData.canLay0], ?_, ?_⟩
    · simp only [pyD, PyData.showable, decide_eq_true_eq]
      have : i.natAbs.log2 ≤ i.natAbs := Nat.log2_le_self _
      by_cases z : i.natAbs = 0
      · rw [z]; decide
      · have : i.natAbs.log2 < 20 := (Nat.log2_lt z).mpr (by omega)
        omega
    · simp only [pyD, PyData.intsShort, PyData.shown, decide_eq_true_eq]
      have : (Str.ofString (toString i)).length = (toString i).length := by
        rw [Str.ofString_eq_toList]
        show ((toString i).toList.map Char.toNat).toArray.size = _
        rw [List.size_toArray, List.length_map, String.length_toList]
      exact decide_eq_true (Nat.le_trans (Nat.le_of_eq this) (Nat.le_trans h2 (show 7 ≤ 13 by decide)))
  | .str x, h => by
    refine ⟨by simpa [pyD, PyData.canLay0, okD] using h, by simp [pyD, PyData.showable], by simp [pyD, PyData.intsShort]⟩
  | .tup l, h => by
    have := layL_ok l (by simpa [okD] using h)
    simpa [pyD, PyData.canLay0, PyData.showable, PyData.intsShort] using this
  | .ref _, h => by simp [okD] at h
  | .kl _, h => by simp [okD] at h
theorem layL_ok : ∀ l : List D, okL l = true → PyData.canLayAll0 (pyL l) = true ∧ PyData.showableAll (pyL l) = true ∧ PyData.intsShortAll 13 (pyL l) = true
  | [], _ => by simp [pyL, PyData.canLayAll0, PyData.showableAll, PyData.intsShortAll]
  | d :: l, h => by
    simp only [okL, Bool.and_eq_true] at h
    obtain ⟨a1, a2, a3⟩ := lay_ok d h.1
    obtain ⟨b1, b2, b3⟩ := layL_ok l h.2
    simp [pyL, PyData.canLayAll0, PyData.showableAll, PyData.intsShortAll, a1, a2, a3, b1, b2, b3]
end
mutual
theorem dp_eq : ∀ d : D, (pyD d).depth ≤ dpD d
  | .non => by simp [pyD, PyData.depth]
  | .bl b => by simp [pyD, PyData.depth]
  | .int i => by simp [pyD, PyData.depth]
  | .str x => by simp [pyD, PyData.depth]
  | .tup l => by
    have := dpL_eq l
    simp only [pyD, dpD, PyData.depth]
    omega
  | .ref _ => by simp [pyD, PyData.depth]
  | .kl _ => by simp [pyD, PyData.depth]
theorem dpL_eq : ∀ l : List D, PyData.depthAll (pyL l) ≤ dpL l
  | [] => by simp [pyL, PyData.depthAll]
  | d :: l => by
    have h1 := dp_eq d
    have h2 := dpL_eq l
    simp only [pyL, dpL, PyData.depthAll]
    omega
end
mutual
theorem wt_le : ∀ d : D, okD d = true → (pyD d).weight ≤ wtD d
  | .non, _ => by simp [pyD, PyData.weight]
  | .bl b, _ => by simp [pyD, PyData.weight]
  | .int i, h => by
    have h1 : i.natAbs < 10 ^ 6 := by simpa [okD] using h
    simp only [pyD, PyData.weight, wtD]
    split
    · omega
    · rename_i z
      have z' : i.natAbs ≠ 0 := by simpa using z
      have : i.natAbs.log2 < 20 := (Nat.log2_lt z').mpr (by omega)
      omega
  | .str x, _ => by simp [pyD, PyData.weight, wtD]
  | .tup l, h => by
    have := wtL_le l (by simpa [okD] using h)
    simpa [pyD, PyData.weight, wtD] using this
  | .ref _, h => by simp [okD] at h
  | .kl _, h => by simp [okD] at h
theorem wtL_le : ∀ l : List D, okL l = true → PyData.weightAll (pyL l) ≤ wtL l
  | [], _ => by simp [pyL, PyData.weightAll]
  | d :: l, h => by
    simp only [okL, Bool.and_eq_true] at h
    have h1 := wt_le d h.1
    have h2 := wtL_le l h.2
    simp only [pyL, wtL, PyData.weightAll]
    omega
end
/-- a datum that can be shown -/
structure Fine (d : D) : Prop where
  ok : okD d = true
  dp : dpD d ≤ 60
  wt : wtD d ≤ 1000000
theorem Fine.shaped {d : D} (f : Fine d) : SeqAt.shaped (pyD d) = true := by
  have h1 := (lay_ok d f.ok).1
  have h2 := dp_eq d
  have h3 := f.dp
  unfold SeqAt.shaped
  simp only [h1, Bool.true_and, decide_eq_true_eq]
  omega
theorem shown_le {p : PyData} (h1 : p.canLay0 = true) (h2 : p.intsShort 13 = true) (h3 : p.depth ≤ 64) (h4 : p.weight ≤ 2 ^ 20) : p.shown.length ≤ sizeLine :=
  Nat.le_trans (shown_le13 (by unfold PyData.layable0; simp only [h1, Bool.true_and, Bool.and_eq_true, decide_eq_true_eq]; exact ⟨h3, h4⟩) h2) (by decide)
theorem repr_fine {d : D} (f : Fine d) {S : Sto} {Q : VA} (q : Q (.str (pyD d).shown) S) : cRepr [d] S Q := by
  obtain ⟨h1, h2, h3⟩ := lay_ok d f.ok
  have h4 := dp_eq d
  have h5 := wt_le d f.ok
  have h6 := f.dp
  have h7 := f.wt
  exact ⟨pyD d, py_ok d f.ok, h2, h1, by omega, shown_le h1 h3 (by omega) (by omega), q⟩
/-- a list of such in the store -/
theorem repr_list {l : List D} {i : Nat} {S : Sto} {Q : VA} (e : lstOf S i = some l) (ok : okL l = true) (dp : dpL l ≤ 60) (wt : wtL l ≤ 1000000) (q : Q (.str (PyData.list (pyL l)).shown) S) : cRepr [.ref i] S Q := by
  obtain ⟨h1, h2, h3⟩ := layL_ok l ok
  have h4 := dpL_eq l
  have h5 := wtL_le l ok
  have c1 : (PyData.list (pyL l)).canLay0 = true := by simpa [PyData.canLay0] using h1
  have c2 : (PyData.list (pyL l)).showable = true := by simpa [PyData.showable] using h2
  have c3 : (PyData.list (pyL l)).intsShort 13 = true := by simpa [PyData.intsShort] using h3
  have c4 : (PyData.list (pyL l)).depth ≤ 64 := by simp only [PyData.depth]; omega
  have c5 : (PyData.list (pyL l)).weight ≤ 2 ^ 20 := by simp only [PyData.weight]; omega
  exact ⟨_, .lst e (pyL_ok l ok), c2, c1, c4, shown_le c1 c3 c4 c5, q⟩
/-- == of plain data that no atom is -/
theorem eqN_fine {x y : D} (fx : Fine x) (fy : Fine y) {S : Sto} {Q : Bool → Prop} (q : Q (PyData.eqv (pyD x) (pyD y))) : eqN x y S Q := ⟨_, _, py_ok x fx.ok, py_ok y fy.ok, fx.shaped, fy.shaped, q⟩
theorem eq_tups {l l' : List D} (fx : Fine (.tup l)) (fy : Fine (.tup l')) {S : Sto} {Q : VA} (q : Q (.bl (PyData.eqvAll (pyL l) (pyL l'))) S) : oEq (.tup l) (.tup l') S Q := by
  show eqN (.tup l) (.tup l') S fun b => Q (.bl b) S
  refine eqN_fine fx fy ?_
  simpa only [pyD, PyData.eqv] using q
end AL
/-! AL12: comprehensions and loops over what only lets the store grow. -/
namespace AL
open PySem PySem.Spec
open PyProof.Rows L2
theorem pre_refl {S : Sto} : S <+: S := List.prefix_refl _
theorem pre_app {S : Sto} {o : O} : S <+: S ++ [o] := List.prefix_append _ _
theorem Src.ok_mono {src : Src} {S S' : Sto} (h : src.ok S) (p : S <+: S') : src.ok S' := by
  have key : ∀ i l, lstOf S i = some l → lstOf S' i = some l := fun i l e => by
    unfold lstOf at e ⊢
    cases q : S[i]? with
    | none => rw [q] at e; exact nomatch e
    | some o => rw [pre_get p q]; rw [q] at e; exact e
  cases src with
  | fix l => trivial
  | lst i l => exact key _ _ h
  | rvl i l => exact key _ _ h
  | rng a n => trivial
section
variable {ai : ATI} {ag : ATG} {elt : ATE} {vs : List Nat} {ρ : Rho} {S S0 : Sto} {E : XA} {Q : VA} {src : Src} {out : List D}
/-- [elt for target in iter], each item made by what lets the store grow -/
theorem lc_map (hai : ∀ Q' : Src → Sto → Prop, Q' src S0 → ai ρ S E Q') (ok : src.ok S0) (few : src.items.length < sizeLine) (len : out.length = src.items.length)
    (he : ∀ (k : Nat) (d : D), src.items[k]? = some d → ∃ y : D, out[k]? = some y ∧ ∀ S1 (Q1 : VA), S0 <+: S1 → (∀ S2, S1 <+: S2 → Q1 y S2) → ag d (wipeA ρ vs) S1 fun ρ2 S2 => elt ρ2 S2 (fun _ _ => False) Q1)
    (q : ∀ S1, S0 <+: S1 → Q (.ref S1.length) (S1 ++ [.lst out])) : aLc ai ag aYes elt vs ρ S E Q := by
  refine hai _ ⟨fun k acc S1 => S0 <+: S1 ∧ acc = out.take k, ⟨pre_refl, by simp⟩, ?_, few, ?_, ?_⟩
  · rintro k acc S1 hk ⟨p, rfl⟩
    exact ⟨Src.ok_mono ok p, by rw [List.length_take]; omega⟩
  · rintro k d acc S1 hd ⟨p, rfl⟩
    obtain ⟨y, hy, body⟩ := he k d hd
    refine body S1 _ p fun S2 p2 => ?_
    refine ⟨p.trans p2, ?_⟩
    rw [List.take_add_one, hy]; rfl
  · rintro acc S1 ⟨p, rfl⟩
    rw [← len, List.take_length]
    exact q S1 p
end
end AL
/-! AL13: what is not reached; isinstance; startswith; dicts of the written part; xs[i] = v. -/
namespace AL
open PySem PySem.Spec
open PyProof.Rows L2
section
variable {X : Cx} {W : WX} {a b c e : Expr} {aa ab ac : ATE} {pos pos' : Pos} {es : List Expr} {st : Stmt}
theorem inCons {α : Type} {a b : α} {l : List α} (h : a ∈ b :: l) : a = b ∨ a ∈ l := List.mem_cons.mp h
theorem inApp {α : Type} {a : α} {l m : List α} (h : a ∈ l ++ m) : a ∈ l ∨ a ∈ m := List.mem_append.mp h
theorem ltOf {α : Type} {a : α} {l : List α} {i : Nat} (h : l[i]? = some a) : i < l.length := let ⟨h1, _⟩ := List.getElem?_eq_some_iff.mp h; h1
/-- a statement that is not reached -/
def aNever : ATS := fun _ _ _ => False
theorem as_never : AS X W st aNever := ⟨fun _ _ _ => False, ⟨fun _ _ _ _ _ _ h => h.elim⟩, fun _ _ _ _ _ _ _ _ _ h _ => h.elim⟩
/-! ### isinstance(e, T), T a built-in type -/
theorem pe_tyName {x : Str} {p : Pos} {n : String} (hg : Gl X x) (hm : X.mg x = none) (hv : bootBuiltins x = some (.type n)) (hn : x ≠ "__name__" := by decide) (hd : (x == ("__debug__" : Str)) = false := by decide) : PE X (.Name x p) (tC (.ty n)) :=
  ⟨fun pins s σ H Q inv h => ld_blt inv hg hm hv ⟨.ty n, H, inv, rfl, h⟩ hn hd⟩
/-- the type of a datum -/
def tyD (S : Sto) : D → Option String
  | .non => some "NoneType"
  | .bl _ => some "bool"
  | .int _ => some "int"
  | .str _ => some "str"
  | .tup _ => some "tuple"
  | .kl _ => some "list"
  | .ref i => (lstOf S i).map fun _ => "list"
theorem ty_of {K : PySem.W.Frag} {A : List Addr} {H : Hp} {S : Sto} {d : D} {v : V} {n : String} (m : MtS K A H S) (r : Rp K A H d v) (h : tyD S d = some n) : TyX K H v (.type n) := by
  cases r <;> simp [tyD] at h
  case non => subst h; exact .base .non
  case bl => subst h; exact .base (.bl _)
  case int => subst h; exact .base (.int _)
  case str => subst h; exact .base (.str _)
  case ref i ad e =>
    obtain ⟨⟨l, hl⟩, rfl⟩ := h
    obtain ⟨vs, hs, _⟩ := lst_at m e hl
    rcases hs with (hs | ⟨ob, hs⟩) | ⟨ob, its, cap, hk, hc, _⟩
    · exact .base (.lst hs)
    · exact .base (.frz hs)
    · exact .kList hk hc
  case tup ad ws l' hs rl =>
    subst h
    rcases hs with (hs | ⟨ob, hs⟩) | ⟨ob, its, cap, hk, hc, _⟩
    · exact .base (.tup hs)
    · exact .fTuple hs
    · exact .kTuple hk hc
  case kl ad ws l' hs rl =>
    subst h
    obtain ⟨ob, its, cap, hk, hc, _⟩ := hs
    exact .kList hk hc
def aIsi (T : String) (a : ATE) : ATE := fun ρ S E Q => a ρ S E fun d S1 => must (tyD S1 d) fun n => Q (.bl (decide (n = T))) S1
theorem kit_list {K : PySem.W.Frag} {S : Sto} {d : D} {n : String} (h : tyD S d = some n) : PySem.W.kitOne K (.type n) (.type "list") = some (decide (n = "list")) := by
  cases d <;> simp only [tyD, Option.some.injEq, Option.map_eq_some_iff] at h <;> first
    | (subst h; first | rfl | kernel_rfl)
    | (obtain ⟨_, _, rfl⟩ := h; first | rfl | kernel_rfl)
theorem kit_str {K : PySem.W.Frag} {S : Sto} {d : D} {n : String} (h : tyD S d = some n) : PySem.W.kitOne K (.type n) (.type "str") = some (decide (n = "str")) := by
  cases d <;> simp only [tyD, Option.some.injEq, Option.map_eq_some_iff] at h <;> first
    | (subst h; first | rfl | kernel_rfl)
    | (obtain ⟨_, _, rfl⟩ := h; first | rfl | kernel_rfl)
theorem ae_isi {T : String} {x : Str} {p p2 : Pos} (hT : T = "list" ∨ T = "str") (hi : X.mg "isinstance" = none) (hx : X.mg x = none) (hv : bootBuiltins x = some (.type T)) (ha : AE X W a aa) (hg : Gl X "isinstance" := by rfl) (hgx : Gl X x := by rfl)
    (hs : starEach [a, .Name x p2] X.env = (false, eval a X.env) :: starEach [.Name x p2] X.env := by rfl) (hs2 : starEach [.Name x p2] X.env = (false, eval (.Name x p2) X.env) :: starEach [] X.env := by rfl)
    (hpl : (backTo pos (starEach [.Name x p2] X.env)).any (·.1) = false := by rfl) (hn : x ≠ "__name__" := by decide) (hd : (x == ("__debug__" : Str)) = false := by decide) : AE X W (.Call (.Name "isinstance" p) [a, .Name x p2] [] pos) (aIsi T aa) := by
  obtain ⟨ta, pa, la⟩ := ha
  refine ⟨_, pe_callB call_isi hg hi Boot.«isinstance» (pa_cons pa (pa_cons (pe_tyName hgx hx hv hn hd) pa_nil hs2) hs) (by decide) (by decide) hs hpl, fun σ H A ρ S P Q E m mt h kq kx => la σ H A ρ S _ _ E m mt h (fun v H1 d A1 S1 u1 m1 r1 q1 => ?_) kx⟩
  obtain ⟨n, hn, q⟩ := of_must q1
  have ty := ty_of m1 r1 hn
  refine ⟨v, .ty T, .type n, .type T, decide (n = T), rfl, .ty T, ty, ?_, kq _ H1 _ A1 S1 u1 m1 (.bl _) q⟩
  rcases hT with rfl | rfl
  · exact kit_list hn
  · exact kit_str hn
/-! ### text.startswith(sign, at) -/
def isTxt : D → Bool
  | .str _ => true
  | _ => false
def aStarts (ao a b : ATE) : ATE := fun ρ S E Q => ao ρ S E fun x S1 => isTxt x = true ∧ a ρ S1 E fun y S2 => b ρ S2 E fun z S3 => match x, y, z with
  | .str s, .str t, .int i => Q (.bl (Txt.startswith3 s t i)) S3
  | _, _, _ => False
theorem ae_starts {o : Expr} {ao : ATE} {apos cpos : Pos} (ho : AE X W o ao) (ha : AE X W a aa) (hb : AE X W b ab)
    (hbase : attributeBase o "startswith" X.env (eval o X.env) = eval o X.env := by rfl)
    (hfew : ((backTo cpos (starEach [a, b] X.env)).all (fun x => !x.1) && (backToKw cpos (keywordEach [] X.env)).all (fun x => x.1.isSome) && decide ([a, b].length + ([] : List Keyword).length + (if ([] : List Keyword).isEmpty then 0 else 1) < 30)) = true := by rfl)
    (hline : (apos.endLine == cpos.line) = true := by rfl) (hs : starEach [a, b] X.env = (false, eval a X.env) :: starEach [b] X.env := by rfl) (hs2 : starEach [b] X.env = (false, eval b X.env) :: starEach [] X.env := by rfl)
    (hplain : (backTo cpos (starEach [b] X.env)).any (·.1) = false := by rfl) : AE X W (.Call (.Attribute o "startswith" apos) [a, b] [] cpos) (aStarts ao aa ab) := by
  obtain ⟨to, po, lo⟩ := ho
  obtain ⟨ta, pa, la⟩ := ha
  obtain ⟨tb, pb, lb⟩ := hb
  refine ⟨_, pe_bm PySem.F.plainAttrs_str PySem.F.slot_str_startswith PySem.F.type_str_startswith mt_startswith3 po (pa_cons pa (pa_cons pb pa_nil hs2) hs) hbase hfew hline hs hplain, fun σ H A ρ S P Q E m mt h kq kx => lo σ H A ρ S _ _ E m mt h (fun x H1 dx A1 S1 u1 m1 r1 q1 => ?_) kx⟩
  refine ⟨?_, la σ H1 A1 ρ S1 _ _ E m1 (mt.mono u1) q1.2 (fun y H2 dy A2 S2 u2 m2 r2 q2 => lb σ H2 A2 ρ S2 _ _ E m2 ((mt.mono u1).mono u2) q2 (fun z H3 dz A3 S3 u3 m3 r3 q3 => ?_) ((kx.mono u1).mono u2)) (kx.mono u1)⟩
  · have h1 := q1.1
    cases r1 <;> simp [isTxt] at h1
    rfl
  · cases r1 <;> cases r2 <;> cases r3 <;> first | exact q3.elim | skip
    exact ⟨_, _, _, rfl, rfl, kq _ H3 _ A3 S3 ((u1.trans u2).trans u3) m3 (.bl _) q3⟩
/-! ### dicts of the written part -/
/-- the module's name x stands for such a dict: keys in order, their values -/
def GlK (K : PySem.W.Frag) (mg : Str → Option Value) (w : World) (x : Str) (kvs : List (Str × D)) : Prop :=
  ∃ (ad : Addr) (es : Array DictEntry) (n : Nat), mg x = some (.ref ad) ∧ KDict K w ad es n ∧ es.toList.map He.keyOf = He.keysIn w.params (kvs.map (·.1)) ∧ ∀ p ∈ kvs, ∃ u v, PySem.W.nsIn K ad p.1 = some (some u) ∧ RelV v u ∧ ∀ A H, Rp K A H p.2 v
theorem look_mem {f : Str} {d : D} : ∀ {fs : List (Str × D)}, lookF f fs = some d → (f, d) ∈ fs
  | [], h => by cases h
  | (g, x) :: r, h => by
    unfold lookF at h
    split at h
    · rename_i e
      cases h
      subst e
      exact List.mem_cons_self
    · exact List.mem_cons_of_mem _ (look_mem h)
/-- TABLE[e] -/
def aKd (kvs : List (Str × D)) (a : ATE) : ATE := fun ρ S E Q => a ρ S E fun y S1 => match y with
  | .str z => must (lookF z kvs) fun d => Q d S1
  | _ => False
theorem ix_kd {es : Array DictEntry} {n : Nat} {ad : Addr} (D : KDict X.K X.w ad es n) : IxR X (fun x y H Q => ∃ (z : Str) (u0 : Value) (v0 : V), x = .ref ad ∧ y = .str z ∧ PySem.W.nsIn X.K ad z = some (some u0) ∧ RelV v0 u0 ∧ Q v0 H) := by
  intro whole part pins s σ H x y v u Q inv rx ry h hs
  have hx : x = .ref ad := by obtain ⟨_, _, _, e, _⟩ := h; exact e
  subst hx
  have rx' := rx
  cases rx
  have hT := kd_type D inv
  unfold subscriptTail
  refine wpAny_bind ?_
  rw [getitemInPython_of_ne (kd_type D inv).not_modules]
  refine wpAny_bind (wpAny_specialOf hT PySem.F.slot_dict_getitem.lookup ?_)
  have got : wpAny (model X.prog X.w) X.A (subscripted part false (.ref ad) u) (fun r s₃ => wpAny (model X.prog X.w) X.A (letTemporaryGo whole (.ref ad) r >>= fun _ => pure r) (EP X pins σ Q) X.xe s₃) X.xe s := by
    rw [hs]
    exact wpAny_operating (wpAny_mono (op_item_kd D pins s σ H _ _ _ _ Q inv rx' ry h) (fun r s₃ h₃ => wpAny_bind (wpAny_letTemporaryGo (wpAny_pure h₃))) fun _ _ x => x)
  first
    | exact wpAny_pure (wpAny_bind got)
    | exact wpAny_bind (wpAny_pure (wpAny_bind got))
    | exact wpAny_bind got
theorem ae_kd {x : Str} {p : Pos} {kvs : List (Str × D)} (T : GlK X.K X.mg X.w x kvs) (hb : AE X W b ab) (hg : Gl X x := by rfl) (hd : (x == ("__debug__" : Str)) = false := by decide) (hs : PlainIx b := by intro _ _; rfl) : AE X W (.Subscript (.Name x p) b pos) (aKd kvs ab) := by
  obtain ⟨ad, es, n, hm, D, hk, vals⟩ := T
  obtain ⟨tb, pb, lb⟩ := hb
  refine ⟨_, pe_ix (ix_kd D) (pe_glob hg hm (v := .ref ad) rfl hd) pb hs, fun σ H A ρ S P Q E m mt h kq kx => lb σ H A ρ S _ _ E m mt h (fun y H2 dy A2 S2 u2 m2 r2 q2 => ?_) kx⟩
  cases dy <;> first | exact q2.elim | skip
  rename_i z
  obtain ⟨d, hl, q⟩ := of_must q2
  obtain ⟨u, v, h1, h2, h3⟩ := vals _ (look_mem hl)
  cases r2
  exact ⟨z, u, v, rfl, rfl, h1, h2, kq _ H2 _ A2 S2 u2 m2 (h3 _ _) q⟩
/-- the keys of such a dict, in their order -/
def Itw (ks : List Str) : It := ⟨fun i _ => i < ks.length, fun i H x H' => H' = H ∧ ∃ k, ks[i]? = some k ∧ x = .str k, fun i _ => ks.length ≤ i⟩
theorem keyOf_at {P : Params} {l : List DictEntry} {ks : List Str} (h : l.map He.keyOf = He.keysIn P ks) {i : Nat} {k : Str} (hk : ks[i]? = some k) : ∃ e t, l[i]? = some e ∧ e.key = .str k t := by
  have h2 := congrArg (fun z => z[i]?) h
  simp only [He.keysIn, List.getElem?_map, hk, Option.map_some] at h2
  obtain ⟨e, he, h3⟩ := Option.map_eq_some_iff.mp h2
  unfold He.keyOf at h3
  split at h3
  · rename_i x t q
    have h4 := Option.some.inj h3
    obtain ⟨h5, _⟩ := Prod.mk.inj h4
    exact ⟨e, t, he, by rw [q, h5]⟩
  · cases h3
theorem turn_kd {P : Program} {w : World} {K : PySem.W.Frag} {tg : Expr} {ad : Addr} {es : Array DictEntry} {n : Nat} {ks : List Str} (D : KDict K w ad es n) (hk : es.toList.map He.keyOf = He.keysIn w.params ks) (it : Addr) :
    Turn P w K tg (Itw ks) [it] it (fun i h => h.IsKeyIter it ad i es.size n) where
  mem := List.mem_singleton.mpr rfl
  obj := fun i h st b hb => by
    obtain rfl : b = it := List.mem_singleton.mp hb
    obtain ⟨oi, e, c, dd⟩ := st
    exact ⟨oi, e, fun v z => (by rw [dd] at z; cases z)⟩
  keep := fun i h h' st k => by
    obtain ⟨oi, e, r⟩ := st
    exact ⟨oi, k it (List.mem_singleton.mpr rfl) oi e, r⟩
  item := by
    intro X hP hw hK hc i pins s σ H E inv hf st hg
    subst hP hw hK
    obtain ⟨f0, f1, f2, f3, f4, f5⟩ := hf it (List.mem_singleton.mpr rfl)
    have hlt : i < ks.length := hg
    have hsz : es.size = ks.length := by
      have := congrArg List.length hk
      simpa [He.keysIn] using this
    obtain ⟨en, t, he, hkey⟩ := keyOf_at hk (List.getElem?_eq_getElem hlt)
    have hi : i < es.size := by omega
    have ee : es[i] = en := by
      have h2 : es.toList[i]? = some es[i] := by simp [hi]
      rw [he] at h2
      exact (Option.some.inj h2).symm
    refine wpAny_pyNext_keys_item_raw st ⟨_, inv.kIn _ _ D.at_, ⟨rfl, rfl, rfl⟩, rfl⟩ hi fun h' st' sb => ?_
    have I1 : Inv X pins σ H { s with heap := h' } := inv.turned (t' := s.toks) (fun b ob hb e => (sb.2 b hb).trans e) f0 f1 f3 f4 f5
    have ⟨oi, e, c, dd⟩ := st'
    rw [ee, hkey]
    exact ⟨_, rfl, go_of (s := { s with heap := h' }) e c dd (by decide) ⟨.str ks[i], H, I1, ⟨t, rfl⟩, ⟨rfl, _, List.getElem?_eq_getElem hlt, rfl⟩, st', fun b hb => (hf b hb).1⟩⟩
  done := by
    intro X hP hw hK hc i pins s σ H E inv hf st hg
    subst hP hw hK
    obtain ⟨f0, f1, f2, f3, f4, f5⟩ := hf it (List.mem_singleton.mpr rfl)
    have hsz : es.size = ks.length := by
      have := congrArg List.length hk
      simpa [He.keysIn] using this
    exact next_key_end (inv.ok.hd hc) st (inv.kIn _ _ D.at_) rfl rfl (by have h2 : ks.length ≤ i := hg; omega) fun h' eb => ⟨rfl, inv.turned (t' := s.toks) (fun b ob hb e => eb b ob hb e) f0 f1 f3 f4 f5⟩
  self := fun _ _ _ _ _ st h => wpAny_pyIter_keyiter st h
theorem pi_kd {tg : Expr} {x : Str} {p : Pos} {ad : Addr} {es : Array DictEntry} {n : Nat} {ks : List Str} (D : KDict X.K X.w ad es n) (hk : es.toList.map He.keyOf = He.keysIn X.w.params ks) (hg : Gl X x) (hm : X.mg x = some (.ref ad)) (hd : (x == ("__debug__" : Str)) = false) :
    PI X tg (.Name x p) (fun σ H R => R (Itw ks) H) :=
  ⟨fun pins s σ H R inv h => ld_glob inv hg hm (iter_keys D.low (inv.kIn _ _ D.at_) ⟨rfl, rfl, rfl⟩ rfl (pi_one (tk := s.toks) inv _ (turn_kd D hk _) ⟨_, Heap.get?_push_size _ rfl, rfl, rfl⟩ h)) hd⟩
theorem jok_kd {K : PySem.W.Frag} {A : List Addr} {H : Hp} {ks : List Str} : JOk K A H (.fix (ks.map D.str)) (Itw ks) := by
  refine ⟨fun k A' H' S' u m ok hk => ?_, fun k A' H' S' u m ok hk => ?_, fun k A' H' S' x H2 u m ok hk y => ?_⟩
  · show ks.length ≤ k
    simpa [Src.items] using hk
  · show k < ks.length
    simpa [Src.items] using hk
  · obtain ⟨e, z, hz, rfl⟩ := y
    exact ⟨e, .str z, by simp [Src.items, hz], .str z⟩
def aiKd (kvs : List (Str × D)) : ATI := fun _ S _ Q => Q (.fix ((kvs.map (·.1)).map D.str)) S
theorem ai_kd {tg : Expr} {x : Str} {p : Pos} {kvs : List (Str × D)} (T : GlK X.K X.mg X.w x kvs) (hg : Gl X x := by rfl) (hd : (x == ("__debug__" : Str)) = false := by decide) : AI X W tg (.Name x p) (aiKd kvs) := by
  obtain ⟨ad, es, n, hm, D, hk, vals⟩ := T
  exact ⟨_, pi_kd D hk hg hm hd, fun σ H A ρ S R Q E m mt h hR kx => hR _ H _ A S Up.refl m jok_kd trivial h⟩
/-! ### xs[i] = v, d[k] = v -/
def mPut2 (o k d : D) (S : Sto) (Q : Sto → Prop) : Prop := match o with
  | .ref i => (match S[i]? with
    | some (.dK kvs) => must (keyD k) fun key => kvs.length < sizeLine ∧ Q (S.set i (.dK (setK key d kvs)))
    | some (.lst l) => (match k with
      | .int j => must (ixN l.length j) fun p => Q (S.set i (.lst (l.set p d)))
      | _ => False)
    | _ => False)
  | _ => False
def rSet2 : TSet := fun o i v H Q => rSetL o i v H Q ∨ rSetD o i v H Q
theorem set2 (hu : X.A.units + 1 < cLine) : PSet X rSet2 := fun pins s σ H o i v ov iv u Q inv ro ri rv h => h.elim (set_list pins s σ H o i v ov iv u Q inv ro ri rv) (set_dict hu pins s σ H o i v ov iv u Q inv ro ri rv)
theorem RpL.setAt {K : PySem.W.Frag} {A : List Addr} {H : Hp} {d : D} {v : V} (r : Rp K A H d v) : ∀ {l : List D} {vs : List V} {p : Nat}, RpL K A H l vs → RpL K A H (l.set p d) (vs.set p v)
  | [], _, _, h => by cases h; exact .nil
  | _ :: l, _, 0, h => by cases h; rename_i h1 h2; exact .cons r h2
  | _ :: l, _, p + 1, h => by cases h; rename_i h1 h2; exact .cons h1 (RpL.setAt r h2)
def aPut2 (ao ak a : ATE) : ATS := fun D ρ S => a ρ S (fun x S1 => D.ex x ρ S1) fun d S1 => ao ρ S1 (fun x S2 => D.ex x ρ S2) fun o S2 => ak ρ S2 (fun x S3 => D.ex x ρ S3) fun k S3 => mPut2 o k d S3 (D.nx ρ)
theorem as_put2 {o i : Expr} {ao ai : ATE} (hu : X.A.units + 1 < cLine) (ho : AE X W o ao) (hi : AE X W i ai) (hv : AE X W e aa)
    (ha : ∀ v, assign (.Subscript o i pos') X.env v = (do let ov ← holding [v] (eval o X.env); let iv ← holding [v, ov] (eval i X.env); standAt pos'; holding [v, ov, iv] (setItem ov iv v); release [v, ov, iv] []) := by intro _; rfl)
    (hs : swapsWithSole [.Subscript o i pos'] e pos.line X.env = pure false := by rfl) (hw : swappedStores [.Subscript o i pos'] e X.env = pure none := by rfl)
    (h1 : (assignEach [.Subscript o i pos'] X.env).map (·.2) = [assign (.Subscript o i pos') X.env] := by rfl) : AS X W (.Assign [.Subscript o i pos'] e pos) (aPut2 ao ai aa) := by
  obtain ⟨to, po, lo⟩ := ho
  obtain ⟨ti, pi', li⟩ := hi
  obtain ⟨tv, pv, lv⟩ := hv
  refine ⟨_, ps_asg pv (pg_sub po pi' (set2 hu) ha) hs hw h1, fun σ H A ρ S D AD m mt h k => lv σ H A ρ S _ _ _ m mt h (fun v H1 d A1 S1 u1 m1 r1 q1 => lo σ H1 A1 ρ S1 _ _ _ m1 (mt.mono u1) q1 (fun x H2 dx A2 S2 u2 m2 r2 q2 =>
    li σ H2 A2 ρ S2 _ _ _ m2 ((mt.mono u1).mono u2) q2 (fun y H3 dy A3 S3 u3 m3 r3 q3 => ?_) ((k.ex.mono (u1.trans u2)).at ((mt.mono u1).mono u2))) ((k.ex.mono u1).at (mt.mono u1))) (k.ex.at mt)⟩
  have r2' := r2.mono u3
  have rv := (r1.mono u2).mono u3
  have mt3 := mt.mono ((u1.trans u2).trans u3)
  cases r2' <;> first | exact q3.elim | skip
  rename_i j ad ea
  simp only [mPut2] at q3
  split at q3
  · rename_i kvs es'
    obtain ⟨key, ek, hl, q⟩ := of_must q3
    have ev := key_ok ek r3
    subst ev
    obtain ⟨ks, g, rk⟩ := m3.ok j _ ad es' ea
    have uw : Up X.K A3 H3 A3 (upd H3 ad (.dK (putK ks key v))) := Up.write m3 ea
    refine .inr ⟨ad, _, rfl, DPut.k g (by rw [← RpK.length rk]; exact hl), ?_⟩
    exact k.nx _ _ ρ A3 _ (((u1.trans u2).trans u3).trans uw) (m3.write (o := .dK (setK key d kvs)) ea ⟨_, upd_same, (setK_ok rv rk).mono uw⟩) (mt3.mono uw) q
  · rename_i l es'
    cases dy <;> first | exact q3.elim | skip
    rename_i jj
    cases r3
    obtain ⟨p, ep, q⟩ := of_must q3
    obtain ⟨vs, g, rl⟩ := m3.ok j _ ad es' ea
    have uw : Up X.K A3 H3 A3 (upd H3 ad (.lst (vs.set p v))) := Up.write m3 ea
    refine .inl ⟨ad, vs, jj, p, rfl, rfl, g, by rw [← rl.length]; exact ep, ?_⟩
    exact k.nx _ _ ρ A3 _ (((u1.trans u2).trans u3).trans uw) (m3.write (o := .lst (l.set p d)) ea ⟨_, upd_same, (RpL.setAt rv rl).mono uw⟩) (mt3.mono uw) q
  · exact q3.elim
end
end AL
/-! AL14: the head with dicts. -/
namespace AL
open PySem PySem.Spec
open PyProof.Rows L2
/-- a dict's values -/
def vsB (K : PySem.W.Frag) (ad : Addr) : List (Str × D) → Bool
  | [] => true
  | (x, d) :: r => (match PySem.W.nsIn K ad x with
    | some (some u) => dB K d u
    | _ => false) && vsB K ad r
theorem vsB_ok {K : PySem.W.Frag} {ad : Addr} : ∀ {l : List (Str × D)} (_ : vsB K ad l = true), ∀ p ∈ l, ∃ u v, PySem.W.nsIn K ad p.1 = some (some u) ∧ RelV v u ∧ ∀ A H, Rp K A H p.2 v
  | [], _, p, h => by simp at h
  | (y, c) :: r, hb, p, h => by
    simp only [vsB, Bool.and_eq_true] at hb
    obtain rfl | h := List.mem_cons.mp h
    · have h1 := hb.1
      split at h1
      · rename_i u en
        obtain ⟨v, rv, rp⟩ := dB_ok _ _ h1
        exact ⟨u, v, en, rv, rp⟩
      · cases h1
    · exact vsB_ok hb.2 p h
def ksB (K : PySem.W.Frag) : List (Str × List (Str × D)) → Bool
  | [] => true
  | (x, kvs) :: r => (He.Fa.glo x).ok K && vsB K (He.ga K x) kvs && ksB K r
theorem ksB_at {K : PySem.W.Frag} : ∀ {l : List (Str × List (Str × D))} (_ : ksB K l = true) (i : Nat) {x : Str} {kvs : List (Str × D)} (_ : l[i]? = some (x, kvs)), (He.Fa.glo x).ok K = true ∧ vsB K (He.ga K x) kvs = true
  | [], _, _, _, _, e => by simp at e
  | (y, c) :: r, hb, i, x, d, e => by
    simp only [ksB, Bool.and_eq_true] at hb
    cases i with
    | succ i => exact ksB_at hb.2 i (by simpa using e)
    | zero =>
      simp at e
      obtain ⟨rfl, rfl⟩ := e
      exact hb.1
def tabsOf (ks : List (Str × List (Str × D))) : List He.Tab := ks.map fun p => (fun K => He.ga K p.1, p.2.map (·.1))
structure SaysK (fa : List He.Fa) (fn : List He.DefD) (cs : List (Str × D)) (ks : List (Str × List (Str × D))) (w : World) (K : PySem.W.Frag) : Prop where
  tt : He.SaysT fa fn (tabsOf ks) w K
  c : csB K cs = true
  k : ksB K ks = true
section
variable {fa : List He.Fa} {fn : List He.DefD} {cs : List (Str × D)} {ks : List (Str × List (Str × D))} {w : World} {K : PySem.W.Frag}
theorem SaysK.t (s : SaysK fa fn cs ks w K) : He.SaysD fa fn K := s.tt.d
theorem dic_both {ad : Addr} {l : List Str} (h : He.dicW K ad = some (He.keysIn w.params l)) : ∃ es n, KDict K w ad es n ∧ es.toList.map He.keyOf = He.keysIn w.params l := by
  obtain ⟨es, n, D⟩ := He.dicW_ok h
  refine ⟨es, n, D, ?_⟩
  unfold He.dicW at h
  rw [D.at_] at h
  dsimp only at h
  split at h
  · exact Option.some.inj h
  · cases h
theorem glk_ok {h : Heap} {mg : Str → Option Value} (X : K.In h) (G : h.Ns mainGlobals mg) (s : SaysK fa fn cs ks w K) (i : Nat) {x : Str} {kvs : List (Str × D)} (e : ks[i]? = some (x, kvs)) : GlK K mg w x kvs := by
  obtain ⟨h1, h2⟩ := ksB_at s.k i e
  have e1 : (tabsOf ks).map (fun t => He.dicW K (t.1 K)) = (tabsOf ks).map fun t => some (He.keysIn w.params t.2) := congrArg (fun z : He.AlT => z.2) s.tt
  have e2 : ((tabsOf ks).map (fun t => He.dicW K (t.1 K)))[i]? = ((tabsOf ks).map fun t => some (He.keysIn w.params t.2))[i]? := by rw [e1]
  simp only [tabsOf, List.map_map, List.getElem?_map, e, Option.map_some, Function.comp] at e2
  obtain ⟨es, n, D, hk⟩ := dic_both (Option.some.inj e2)
  exact ⟨_, es, n, He.glo_ok X G h1, D, hk, vsB_ok h2⟩
def obsK (n : Nat) (fa : List He.Fa) (fn : List He.DefD) (cs : List (Str × D)) (ks : List (Str × List (Str × D))) (g : Addr → Option Obj) : He.AlT × Bool :=
  (He.obsT fa fn (tabsOf ks) (He.frG g (He.asD g n)), csB (He.frG g (He.asD g n)) cs && ksB (He.frG g (He.asD g n)) ks)
def hookK (n : Nat) (fa : List He.Fa) (fn : List He.DefD) (cs : List (Str × D)) (ks : List (Str × List (Str × D))) : PySem.W.Hook where
  α := He.AlT × Bool
  obs := fun s => obsK n fa fn cs ks s.heap.get?
  val := fun w => (He.valT fn (tabsOf ks) w, true)
  says := fun w h => ∃ K : PySem.W.Frag, K.In h ∧ SaysK fa fn cs ks w K
  of := fun _ _ e => ⟨_, He.frG_in, ⟨congrArg (fun z : He.AlT × Bool => z.1) e, (Bool.and_eq_true_iff.mp (congrArg (fun z : He.AlT × Bool => z.2) e)).1, (Bool.and_eq_true_iff.mp (congrArg (fun z : He.AlT × Bool => z.2) e)).2⟩⟩
  keeps := fun _ _ _ ⟨K0, kin, c⟩ k => ⟨K0, PySem.W.Frag.In.keeps kin k, c⟩
theorem obsK_eq {n : Nat} {g : Addr → Option Obj} {s : Shared} (h : ∀ a, g a = s.heap.get? a) : obsK n fa fn cs ks g = (hookK n fa fn cs ks).obs s := by
  have eg : g = s.heap.get? := funext h
  subst eg
  rfl
end
end AL
/-! AL15: texts as lists of code points. -/
namespace AL
open PySem PySem.Spec
open PyProof.Rows L2
theorem szs : (0 ≤ sizeLine) ∧ (1 ≤ sizeLine) ∧ (2 ≤ sizeLine) ∧ (3 ≤ sizeLine) ∧ (4 ≤ sizeLine) ∧ (5 ≤ sizeLine) ∧ (6 ≤ sizeLine) ∧ (7 ≤ sizeLine) ∧ (8 ≤ sizeLine) := by decide
def txt (l : List Nat) : Str := ⟨l.toArray⟩
theorem txt_len (l : List Nat) : (txt l).length = l.length := by show l.toArray.size = _; simp
theorem txt_cps (l : List Nat) : (txt l).cps.toList = l := rfl
theorem txt_inj {l m : List Nat} : txt l = txt m ↔ l = m := by
  constructor
  · intro h
    have := congrArg (fun s : Str => s.cps.toList) h
    exact this
  · intro h; rw [h]
theorem txt_of (s : Str) : s = txt s.cps.toList := by cases s; rfl
theorem lt_one (m c : Nat) : sLt (txt [c]) (txt [m]) = decide (c < m) := by
  unfold sLt
  rw [txt_cps, txt_cps]
  apply decide_eq_decide.mpr
  constructor
  · intro h
    cases h with
    | rel h => exact h
    | cons h => cases h
  · intro h; exact .rel h
section
variable {S : Sto} {Q : VA}
/-- more equations -/
theorem ev4 : (∀ r r' a b c ρ S E Q, aChain r r' a b c ρ S E Q = a ρ S E fun x S1 => b ρ S1 E fun y S2 => r x y S2 fun z S3 => match z with | .bl true => c ρ S3 E fun w S4 => r' y w S4 Q | .bl false => Q (.bl false) S3 | _ => False) ∧
    (∀ m c S Q, oLe (.str (txt [m])) (.str (txt [c])) S Q = Q (.bl (decide (m ≤ c))) S) ∧
    (∀ s S Q, cLen [.str s] S Q = (s.length ≤ sizeLine ∧ Q (.int (s.length : Int)) S)) ∧ (∀ l S Q, cLen [.tup l] S Q = Q (.int (l.length : Int)) S) ∧
    (∀ a ρ S E Q, aPart a ρ S E Q = a ρ S E fun x S1 => match x with | .int i => Q (some i) S1 | _ => False) ∧ (∀ ρ S E Q, aNoPart ρ S E Q = Q none S) ∧
    (∀ a lo hi ρ S E Q, aSl a lo hi ρ S E Q = a ρ S E fun x S1 => lo ρ S1 E fun l S2 => hi ρ S2 E fun h S3 => getSl x l h S3 Q) ∧
    (∀ s lo hi S Q, getSl (.str s) lo hi S Q = (s.length ≤ sizeLine ∧ Q (.str (cutS s lo hi)) S)) ∧
    (∀ ao a b ρ S E Q, aStarts ao a b ρ S E Q = ao ρ S E fun x S1 => isTxt x = true ∧ a ρ S1 E fun y S2 => b ρ S2 E fun z S3 => match x, y, z with | .str s, .str t, .int i => Q (.bl (Txt.startswith3 s t i)) S3 | _, _, _ => False) ∧
    (∀ kvs a ρ S E Q, aKd kvs a ρ S E Q = a ρ S E fun y S1 => match y with | .str z => must (lookF z kvs) fun d => Q d S1 | _ => False) := by
  refine ⟨?_, ?_, ?_, ?_, ?_, ?_, ?_, ?_, ?_, ?_⟩
  case refine_2 =>
    intro m c S Q
    show Q (.bl (!sLt (txt [c]) (txt [m]))) S = _
    rw [lt_one]
    congr 2
    by_cases h : c < m
    · simp [h]
    · simp [h]
      omega
  all_goals intros; first | rfl | skip
theorem ix_txt {l : List Nat} {i : Int} {c : Nat} (h0 : 0 ≤ i) (hl : l.length ≤ sizeLine) (h : l[i.toNat]? = some c) (q : Q (.str (txt [c])) S) : getIx (.str (txt l)) (.int i) S Q := by
  refine ⟨by rw [txt_len]; exact hl, ?_⟩
  rw [txt_cps]
  have e : at' l i = some c := by unfold at'; rw [if_pos h0]; exact h
  rw [e]
  exact q
theorem cut_txt {l : List Nat} {i j : Nat} (h : i ≤ j) (hj : j ≤ l.length) : cutS (txt l) (some (i : Int)) (some (j : Int)) = txt ((l.drop i).take (j - i)) := by
  unfold cutS
  rw [txt_cps, txt_len, HT.sIx_nat, HT.sIx_nat, Nat.min_eq_left hj, Nat.min_eq_left (Nat.le_trans h hj)]
  rfl
/-- a text with a word in it -/
theorem cut_mid {p w r : List Nat} : cutS (txt (p ++ w ++ r)) (some (p.length : Int)) (some ((p.length + w.length : Nat) : Int)) = txt w := by
  rw [cut_txt (by omega) (by simp)]
  congr 1
  rw [List.append_assoc, List.drop_left, Nat.add_sub_cancel_left, List.take_left]
theorem get_mid {p r : List Nat} {c : Nat} : (p ++ c :: r)[p.length]? = some c := by
  rw [List.getElem?_append_right (Nat.le_refl _), Nat.sub_self]; rfl
theorem lst_set {S' : Sto} {i : Nat} {l : List D} (h : S'[i]? = some (.lst l)) {d : D} {Q : Sto → Prop} (hl : l.length < sizeLine) (q : Q (S'.set i (.lst (l ++ [d])))) : mAppend (.ref i) d S' Q := by
  unfold mAppend
  simp only [h]
  exact ⟨hl, q⟩
theorem is_lst {S' : Sto} {i : Nat} {l : List D} (h : S'[i]? = some (.lst l)) : isLst S' (.ref i) = true := by
  unfold isLst lstOf
  simp only [h]
  rfl
theorem set_pre {S S1 : Sto} {i : Nat} {o : O} (p : S <+: S1) (h : S.length ≤ i) : S <+: S1.set i o := by
  obtain ⟨t, rfl⟩ := p
  rw [List.set_append_right _ _ h]
  exact List.prefix_append _ _
end
/-- all but the object f is kept -/
structure Kp (f : Nat) (S S' : Sto) : Prop where
  len : S.length ≤ S'.length
  get : ∀ i, i < S.length → i ≠ f → S'[i]? = S[i]?
theorem Kp.refl {f : Nat} {S : Sto} : Kp f S S := ⟨Nat.le_refl _, fun _ _ _ => rfl⟩
theorem Kp.trans {f : Nat} {S S1 S2 : Sto} (h : Kp f S S1) (g : Kp f S1 S2) : Kp f S S2 :=
  ⟨Nat.le_trans h.len g.len, fun i hi hf => by rw [g.get i (Nat.lt_of_lt_of_le hi h.len) hf, h.get i hi hf]⟩
theorem Kp.of {f : Nat} {S S' : Sto} (p : S <+: S') : Kp f S S' := ⟨p.length_le, fun i hi _ => by rw [List.getElem?_eq_getElem hi]; exact pre_get p (List.getElem?_eq_getElem hi)⟩
theorem Kp.at {f : Nat} {S S' : Sto} (h : Kp f S S') {i : Nat} {o : O} (e : S[i]? = some o) (hf : i ≠ f) : S'[i]? = some o := by
  rw [h.get i (List.getElem?_eq_some_iff.mp e).1 hf]; exact e
theorem Kp.own {f : Nat} {S : Sto} {o : O} : Kp f S (S.set f o) := ⟨by simp, fun i hi hf => List.getElem?_set_ne (Ne.symm hf)⟩
theorem Kp.set {f : Nat} {S S1 : Sto} {r : Nat} {o : O} (h : Kp f S S1) (hr : S.length ≤ r) : Kp f S (S1.set r o) :=
  ⟨by simpa using h.len, fun i hi hf => by rw [List.getElem?_set_ne (by omega)]; exact h.get i hi hf⟩
section
/-- fields, methods -/
theorem ev5 : (∀ cl f a ρ S E Q, aFld cl f a ρ S E Q = a ρ S E fun x S1 => must (insOf S1 cl x) fun fs => must (lookF f fs) fun d => Q d S1) ∧
    (∀ cl m F a t ρ S E Q, aMeth cl m F a t ρ S E Q = a ρ S E fun x S1 => must (insOf S1 cl x) fun fs => lookF m fs = none ∧ t ρ S1 E fun ds S2 => F (x :: ds) S2 E Q) ∧
    (∀ f g d r, lookF f ((g, d) :: r) = if f = g then some d else lookF f r) ∧ (∀ f, lookF f [] = none) ∧
    (∀ cl f ao a D0 ρ S, aFldSet cl f ao a D0 ρ S = a ρ S (fun x S1 => D0.ex x ρ S1) fun d S1 => ao ρ S1 (fun x S2 => D0.ex x ρ S2) fun o S2 => must (insOf S2 cl o) fun fs => fs.length < 1000 ∧ (match o with | .ref i => D0.nx ρ (S2.set i (.ins cl (setF f d fs))) | _ => False)) ∧
    (∀ f d, setF f d [] = [(f, d)]) ∧ (∀ f d g x r, setF f d ((g, x) :: r) = if g = f then (g, d) :: r else (g, x) :: setF f d r) := by
  refine ⟨?_, ?_, ?_, ?_, ?_, ?_, ?_⟩ <;> intros <;> rfl
theorem ix_lst {S : Sto} {r : Nat} {l : List D} {i : Int} {d : D} {Q : VA} (e : S[r]? = some (.lst l)) (h0 : 0 ≤ i) (h : l[i.toNat]? = some d) (q : Q d S) : getIx (.ref r) (.int i) S Q := by
  unfold getIx
  have ea : at' l i = some d := by unfold at'; rw [if_pos h0]; exact h
  simp only [e, ea, ev2]
  exact q
theorem len_lst {S : Sto} {r : Nat} {l : List D} {Q : VA} (e : S[r]? = some (.lst l)) (q : Q (.int (l.length : Int)) S) : cLen [.ref r] S Q := by
  unfold cLen
  simp only [e]
  exact q
end
end AL
namespace Ab
open PySem PySem.Spec
open PyProof.Rows L2 AL
abbrev C_MAX_TEXT : D := (D.int 20000)
abbrev C_MAX_NAME : D := (D.int 20)
abbrev C_RESERVED : D := (D.tup [(D.str "and"), (D.str "as"), (D.str "ask"), (D.str "catch"), (D.str "else"), (D.str "export"), (D.str "false"), (D.str "from"), (D.str "fun"), (D.str "if"), (D.str "import"), (D.str "let"), (D.str "none"), (D.str "not"), (D.str "or"), (D.str "repeat"), (D.str "return"), (D.str "tell"), (D.str "throw"), (D.str "true"), (D.str "try")])
abbrev C_SIGNS : D := (D.tup [(D.str "=="), (D.str "="), (D.str "<"), (D.str "+"), (D.str "-"), (D.str "*"), (D.str "."), (D.str ","), (D.str ";"), (D.str "("), (D.str ")"), (D.str "{"), (D.str "}")])
abbrev C_MAX_NESTING : D := (D.int 40)
abbrev C_MAX_DEPTH : D := (D.int 12)
abbrev K_SUMS : List (Str × D) := [("+", (D.str "add")), ("-", (D.str "sub"))]
abbrev K_COMPARISONS : List (Str × D) := [("<", (D.str "lt")), ("==", (D.str "eq"))]
def a_is_letter : ATS :=
    (aRet (aOrV (aChain oLe oLe (aC (.str "a")) (aVar 0) (aC (.str "z"))) (aChain oLe oLe (aC (.str "A")) (aVar 0) (aC (.str "Z")))))
abbrev n_is_letter : Nat := 1
def a_is_digit : ATS :=
    (aRet (aChain oLe oLe (aC (.str "0")) (aVar 0) (aC (.str "9"))))
abbrev n_is_digit : Nat := 1
def a_in_name (F_is_letter F_is_digit : AFn) : ATS :=
    (aRet (aOrV (aCall F_is_letter (aCons (aVar 0) aNil)) (aOrV (aCall F_is_digit (aCons (aVar 0) aNil)) (aOp oEq (aVar 0) (aC (.str "_"))))))
abbrev n_in_name : Nat := 1
def a_run_end (F_in_name : AFn) : ATS :=
    (aSeq (aWhile (aAnd (aB (aOp oLt (aVar 1) (aCB cLen (aCons (aVar 0) aNil)))) (aB (aCall F_in_name (aCons (aIx (aVar 0) (aVar 1)) aNil)))) (aAsg (aOp oAdd (aVar 1) (aC (.int 1))) (agName 1)))
    (aRet (aVar 1)))
abbrev n_run_end : Nat := 2
def a_comment_end : ATS :=
    (aSeq (aWhile (aAnd (aB (aOp oLt (aVar 1) (aCB cLen (aCons (aVar 0) aNil)))) (aB (aOp oNe (aIx (aVar 0) (aVar 1)) (aC (.str "\n"))))) (aAsg (aOp oAdd (aVar 1) (aC (.int 1))) (agName 1)))
    (aRet (aVar 1)))
abbrev n_comment_end : Nat := 2
def a_read_word (F_run_end : AFn) : ATS :=
    (aSeq (aAsg (aCall F_run_end (aCons (aVar 0) (aCons (aVar 1) aNil))) (agName 3))
    (aSeq (aAsg (aSl (aVar 0) (aPart (aVar 1)) (aPart (aVar 3))) (agName 4))
    (aSeq (aIfS (aB (aOp oIn (aVar 4) (aC C_RESERVED))) (aRet (aTup (aCons (aTup (aCons (aC (.str "word")) (aCons (aVar 4) (aCons (aVar 1) aNil)))) (aCons (aVar 3) aNil)))) aNext)
    (aSeq (aIfS (aB (aOp oGt (aCB cLen (aCons (aVar 4) aNil)) (aC C_MAX_NAME))) aNever aNext)
    (aRet (aTup (aCons (aTup (aCons (aC (.str "name")) (aCons (aVar 4) (aCons (aVar 1) aNil)))) (aCons (aVar 3) aNil))))))))
abbrev n_read_word : Nat := 5
def a_read_number (F_run_end F_is_digit : AFn) : ATS :=
    (aSeq (aAsg (aCall F_run_end (aCons (aVar 0) (aCons (aVar 1) aNil))) (agName 3))
    (aSeq (aAsg (aSl (aVar 0) (aPart (aVar 1)) (aPart (aVar 3))) (agName 4))
    (aSeq (aIfS (aOr (aB (aOp oGt (aCB cLen (aCons (aVar 4) aNil)) (aC (.int 5)))) (aNot (aB (aCB cAll (aCons (aLc (aiAny (aVar 4)) (agName 5) aYes (aCall F_is_digit (aCons (aVar 5) aNil)) [5]) aNil))))) aNever aNext)
    (aSeq (aIfS (aOr (aB (aOp oGt (aCB cInt (aCons (aVar 4) aNil)) (aC (.int 65535)))) (aAnd (aB (aOp oEq (aIx (aVar 4) (aC (.int 0))) (aC (.str "0")))) (aB (aOp oGt (aCB cLen (aCons (aVar 4) aNil)) (aC (.int 1)))))) aNever aNext)
    (aRet (aTup (aCons (aTup (aCons (aC (.str "number")) (aCons (aCB cInt (aCons (aVar 4) aNil)) (aCons (aVar 1) aNil)))) (aCons (aVar 3) aNil))))))))
abbrev n_read_number : Nat := 6
def a_read_string (F_run_end : AFn) : ATS :=
    (aSeq (aAsg (aCall F_run_end (aCons (aVar 0) (aCons (aOp oAdd (aVar 1) (aC (.int 1))) aNil))) (agName 3))
    (aSeq (aIfS (aOr (aB (aOp oEq (aVar 3) (aOp oAdd (aVar 1) (aC (.int 1))))) (aOr (aB (aOp oGt (aOp oSub (aOp oSub (aVar 3) (aVar 1)) (aC (.int 1))) (aC C_MAX_NAME))) (aOr (aB (aOp oGe (aVar 3) (aCB cLen (aCons (aVar 0) aNil)))) (aB (aOp oNe (aIx (aVar 0) (aVar 3)) (aC (.str "\""))))))) aNever aNext)
    (aRet (aTup (aCons (aTup (aCons (aC (.str "string")) (aCons (aSl (aVar 0) (aPart (aOp oAdd (aVar 1) (aC (.int 1)))) (aPart (aVar 3))) (aCons (aVar 1) aNil)))) (aCons (aOp oAdd (aVar 3) (aC (.int 1))) aNil))))))
abbrev n_read_string : Nat := 4
def a_read_sign : ATS :=
    (aSeq (aFor (aiAny (aC C_SIGNS)) (agName 3) (aIfS (aB (aStarts (aVar 0) (aVar 3) (aVar 1))) (aRet (aTup (aCons (aTup (aCons (aC (.str "sign")) (aCons (aVar 3) (aCons (aVar 1) aNil)))) (aCons (aOp oAdd (aVar 1) (aCB cLen (aCons (aVar 3) aNil))) aNil)))) aNext))
    aNever)
abbrev n_read_sign : Nat := 4
def a_read_token (F_is_letter F_read_word F_is_digit F_read_number F_read_string F_read_sign : AFn) : ATS :=
    (aSeq (aIfS (aB (aCall F_is_letter (aCons (aIx (aVar 0) (aVar 1)) aNil))) (aRet (aCall F_read_word (aCons (aVar 0) (aCons (aVar 1) (aCons (aVar 2) aNil))))) aNext)
    (aSeq (aIfS (aB (aCall F_is_digit (aCons (aIx (aVar 0) (aVar 1)) aNil))) (aRet (aCall F_read_number (aCons (aVar 0) (aCons (aVar 1) (aCons (aVar 2) aNil))))) aNext)
    (aSeq (aIfS (aB (aOp oEq (aIx (aVar 0) (aVar 1)) (aC (.str "\"")))) (aRet (aCall F_read_string (aCons (aVar 0) (aCons (aVar 1) (aCons (aVar 2) aNil))))) aNext)
    (aRet (aCall F_read_sign (aCons (aVar 0) (aCons (aVar 1) (aCons (aVar 2) aNil))))))))
abbrev n_read_token : Nat := 3
def a_tokens (F_comment_end F_read_token : AFn) : ATS :=
    (aSeq (aIfS (aB (aOp oGt (aCB cLen (aCons (aVar 0) aNil)) (aC C_MAX_TEXT))) aNever aNext)
    (aSeq (aAsg (aLst aNil) (agName 2))
    (aSeq (aAsg (aC (.int 0)) (agName 3))
    (aSeq (aWhile (aB (aOp oLt (aVar 3) (aCB cLen (aCons (aVar 0) aNil)))) (aIfS (aB (aOp oIn (aIx (aVar 0) (aVar 3)) (aTup (aCons (aC (.str " ")) (aCons (aC (.str "\t")) (aCons (aC (.str "\n")) aNil)))))) (aAsg (aOp oAdd (aVar 3) (aC (.int 1))) (agName 3)) (aIfS (aB (aOp oEq (aIx (aVar 0) (aVar 3)) (aC (.str "#")))) (aAsg (aCall F_comment_end (aCons (aVar 0) (aCons (aVar 3) aNil))) (agName 3)) (aSeq (aAsg (aCall F_read_token (aCons (aVar 0) (aCons (aVar 3) (aCons (aVar 1) aNil)))) (agTup 2 (agCons (agName 4) (agCons (agName 3) agNil))))
    (aDrop (aAppend (aVar 2) (aVar 4)))))))
    (aRet (aVar 2))))))
abbrev n_tokens : Nat := 5
def a_Reader_init (F_tokens : AFn) : ATS :=
    (aSeq (aFldSet "Reader" "rest" (aVar 0) (aCall F_tokens (aCons (aVar 1) (aCons (aVar 2) aNil))))
    (aSeq (aFldSet "Reader" "module" (aVar 0) (aVar 2))
    (aSeq (aFldSet "Reader" "place" (aVar 0) (aC (.int 0)))
    (aSeq (aFldSet "Reader" "limit" (aVar 0) (aCB cLen (aCons (aVar 1) aNil)))
    (aFldSet "Reader" "inside" (aVar 0) (aC (.int 0)))))))
abbrev n_Reader_init : Nat := 3
def a_Reader_at : ATS :=
    (aSeq (aIfS (aB (aOp oLt (aFld "Reader" "place" (aVar 0)) (aCB cLen (aCons (aFld "Reader" "rest" (aVar 0)) aNil)))) (aRet (aIx (aIx (aFld "Reader" "rest" (aVar 0)) (aFld "Reader" "place" (aVar 0))) (aC (.int 2)))) aNext)
    (aRet (aFld "Reader" "limit" (aVar 0))))
abbrev n_Reader_at : Nat := 1
def a_Reader_sees : ATS :=
    (aSeq (aIfS (aB (aOp oGe (aFld "Reader" "place" (aVar 0)) (aCB cLen (aCons (aFld "Reader" "rest" (aVar 0)) aNil)))) (aRet (aC (.bl false))) aNext)
    (aRet (aAndV (aOp oEq (aIx (aIx (aFld "Reader" "rest" (aVar 0)) (aFld "Reader" "place" (aVar 0))) (aC (.int 0))) (aVar 1)) (aOp oEq (aIx (aIx (aFld "Reader" "rest" (aVar 0)) (aFld "Reader" "place" (aVar 0))) (aC (.int 1))) (aVar 2)))))
abbrev n_Reader_sees : Nat := 3
def a_Reader_sees_kind : ATS :=
    (aRet (aAndV (aOp oLt (aFld "Reader" "place" (aVar 0)) (aCB cLen (aCons (aFld "Reader" "rest" (aVar 0)) aNil))) (aOp oEq (aIx (aIx (aFld "Reader" "rest" (aVar 0)) (aFld "Reader" "place" (aVar 0))) (aC (.int 0))) (aVar 1))))
abbrev n_Reader_sees_kind : Nat := 2
def a_Reader_follows : ATS :=
    (aSeq (aIfS (aOr (aB (aOp oGe (aOp oAdd (aFld "Reader" "place" (aVar 0)) (aC (.int 1))) (aCB cLen (aCons (aFld "Reader" "rest" (aVar 0)) aNil)))) (aB (aOp oNe (aIx (aIx (aFld "Reader" "rest" (aVar 0)) (aOp oAdd (aFld "Reader" "place" (aVar 0)) (aC (.int 1)))) (aC (.int 0))) (aVar 1)))) (aRet (aC (.bl false))) aNext)
    (aRet (aOrV (aOp oIs (aVar 2) (aC .non)) (aOp oEq (aIx (aIx (aFld "Reader" "rest" (aVar 0)) (aOp oAdd (aFld "Reader" "place" (aVar 0)) (aC (.int 1)))) (aC (.int 1))) (aVar 2)))))
abbrev n_Reader_follows : Nat := 3
def a_Reader_accept (F_Reader_sees : AFn) : ATS :=
    (aSeq (aIfS (aB (aMeth "Reader" "sees" F_Reader_sees (aVar 0) (aCons (aVar 1) (aCons (aVar 2) aNil)))) (aSeq (aFldSet "Reader" "place" (aVar 0) (aOp oAdd (aFld "Reader" "place" (aVar 0)) (aC (.int 1))))
    (aRet (aC (.bl true)))) aNext)
    (aRet (aC (.bl false))))
abbrev n_Reader_accept : Nat := 3
def a_Reader_expect (F_Reader_accept : AFn) : ATS :=
    (aIfS (aNot (aB (aMeth "Reader" "accept" F_Reader_accept (aVar 0) (aCons (aVar 1) (aCons (aVar 2) aNil))))) aNever aNext)
abbrev n_Reader_expect : Nat := 3
def a_Reader_read (F_Reader_sees_kind : AFn) : ATS :=
    (aSeq (aIfS (aNot (aB (aMeth "Reader" "sees_kind" F_Reader_sees_kind (aVar 0) (aCons (aVar 1) aNil)))) aNever aNext)
    (aSeq (aFldSet "Reader" "place" (aVar 0) (aOp oAdd (aFld "Reader" "place" (aVar 0)) (aC (.int 1))))
    (aRet (aIx (aIx (aFld "Reader" "rest" (aVar 0)) (aOp oSub (aFld "Reader" "place" (aVar 0)) (aC (.int 1)))) (aC (.int 1))))))
abbrev n_Reader_read : Nat := 2
def a_Reader_deeper : ATS :=
    (aSeq (aIfS (aB (aOp oGe (aVar 1) (aC C_MAX_NESTING))) aNever aNext)
    (aRet (aOp oAdd (aVar 1) (aC (.int 1)))))
abbrev n_Reader_deeper : Nat := 2
def a_read_parameters (F_Reader_expect F_Reader_accept F_Reader_read : AFn) : ATS :=
    (aSeq (aDrop (aMeth "Reader" "expect" F_Reader_expect (aVar 0) (aCons (aC (.str "sign")) (aCons (aC (.str "(")) aNil))))
    (aSeq (aAsg (aLst aNil) (agName 1))
    (aSeq (aIfS (aNot (aB (aMeth "Reader" "accept" F_Reader_accept (aVar 0) (aCons (aC (.str "sign")) (aCons (aC (.str ")")) aNil))))) (aSeq (aDrop (aAppend (aVar 1) (aMeth "Reader" "read" F_Reader_read (aVar 0) (aCons (aC (.str "name")) aNil))))
    (aSeq (aWhile (aB (aMeth "Reader" "accept" F_Reader_accept (aVar 0) (aCons (aC (.str "sign")) (aCons (aC (.str ",")) aNil)))) (aDrop (aAppend (aVar 1) (aMeth "Reader" "read" F_Reader_read (aVar 0) (aCons (aC (.str "name")) aNil)))))
    (aDrop (aMeth "Reader" "expect" F_Reader_expect (aVar 0) (aCons (aC (.str "sign")) (aCons (aC (.str ")")) aNil)))))) aNext)
    (aRet (aCB cTuple (aCons (aVar 1) aNil))))))
abbrev n_read_parameters : Nat := 2
def a_read_body (F_Reader_deeper F_read_block : AFn) : ATS :=
    (aSeq (aFldSet "Reader" "inside" (aVar 0) (aOp oAdd (aFld "Reader" "inside" (aVar 0)) (aC (.int 1))))
    (aSeq (aAsg (aCall F_read_block (aCons (aVar 0) (aCons (aMeth "Reader" "deeper" F_Reader_deeper (aVar 0) (aCons (aVar 1) aNil)) aNil))) (agName 2))
    (aSeq (aFldSet "Reader" "inside" (aVar 0) (aOp oSub (aFld "Reader" "inside" (aVar 0)) (aC (.int 1))))
    (aRet (aVar 2)))))
abbrev n_read_body : Nat := 3
def a_read_arguments (F_Reader_accept F_Reader_deeper F_read_expression F_Reader_expect : AFn) : ATS :=
    (aSeq (aAsg (aLst aNil) (agName 2))
    (aSeq (aIfS (aNot (aB (aMeth "Reader" "accept" F_Reader_accept (aVar 0) (aCons (aC (.str "sign")) (aCons (aC (.str ")")) aNil))))) (aSeq (aDrop (aAppend (aVar 2) (aCall F_read_expression (aCons (aVar 0) (aCons (aMeth "Reader" "deeper" F_Reader_deeper (aVar 0) (aCons (aVar 1) aNil)) aNil)))))
    (aSeq (aWhile (aB (aMeth "Reader" "accept" F_Reader_accept (aVar 0) (aCons (aC (.str "sign")) (aCons (aC (.str ",")) aNil)))) (aDrop (aAppend (aVar 2) (aCall F_read_expression (aCons (aVar 0) (aCons (aMeth "Reader" "deeper" F_Reader_deeper (aVar 0) (aCons (aVar 1) aNil)) aNil))))))
    (aDrop (aMeth "Reader" "expect" F_Reader_expect (aVar 0) (aCons (aC (.str "sign")) (aCons (aC (.str ")")) aNil)))))) aNext)
    (aRet (aCB cTuple (aCons (aVar 2) aNil)))))
abbrev n_read_arguments : Nat := 3
def a_read_primary (F_Reader_at F_Reader_accept F_Reader_expect F_Reader_deeper F_read_expression F_read_parameters F_read_body F_Reader_sees_kind F_Reader_read : AFn) : ATS :=
    (aSeq (aAsg (aMeth "Reader" "at" F_Reader_at (aVar 0) aNil) (agName 2))
    (aSeq (aIfS (aB (aMeth "Reader" "accept" F_Reader_accept (aVar 0) (aCons (aC (.str "word")) (aCons (aC (.str "true")) aNil)))) (aRet (aTup (aCons (aC (.str "bool")) (aCons (aC (.bl true)) aNil)))) aNext)
    (aSeq (aIfS (aB (aMeth "Reader" "accept" F_Reader_accept (aVar 0) (aCons (aC (.str "word")) (aCons (aC (.str "false")) aNil)))) (aRet (aTup (aCons (aC (.str "bool")) (aCons (aC (.bl false)) aNil)))) aNext)
    (aSeq (aIfS (aB (aMeth "Reader" "accept" F_Reader_accept (aVar 0) (aCons (aC (.str "word")) (aCons (aC (.str "none")) aNil)))) (aRet (aTup (aCons (aC (.str "none")) aNil))) aNext)
    (aSeq (aIfS (aB (aMeth "Reader" "accept" F_Reader_accept (aVar 0) (aCons (aC (.str "word")) (aCons (aC (.str "ask")) aNil)))) (aSeq (aDrop (aMeth "Reader" "expect" F_Reader_expect (aVar 0) (aCons (aC (.str "sign")) (aCons (aC (.str "(")) aNil))))
    (aSeq (aAsg (aCall F_read_expression (aCons (aVar 0) (aCons (aMeth "Reader" "deeper" F_Reader_deeper (aVar 0) (aCons (aVar 1) aNil)) aNil))) (agName 3))
    (aSeq (aDrop (aMeth "Reader" "expect" F_Reader_expect (aVar 0) (aCons (aC (.str "sign")) (aCons (aC (.str ")")) aNil))))
    (aRet (aTup (aCons (aC (.str "ask")) (aCons (aVar 3) (aCons (aVar 2) aNil)))))))) aNext)
    (aSeq (aIfS (aB (aMeth "Reader" "accept" F_Reader_accept (aVar 0) (aCons (aC (.str "word")) (aCons (aC (.str "fun")) aNil)))) (aSeq (aAsg (aCall F_read_parameters (aCons (aVar 0) aNil)) (agName 4))
    (aRet (aTup (aCons (aC (.str "lambda")) (aCons (aVar 4) (aCons (aCall F_read_body (aCons (aVar 0) (aCons (aVar 1) aNil))) aNil)))))) aNext)
    (aSeq (aIfS (aB (aMeth "Reader" "accept" F_Reader_accept (aVar 0) (aCons (aC (.str "sign")) (aCons (aC (.str "(")) aNil)))) (aSeq (aAsg (aCall F_read_expression (aCons (aVar 0) (aCons (aMeth "Reader" "deeper" F_Reader_deeper (aVar 0) (aCons (aVar 1) aNil)) aNil))) (agName 3))
    (aSeq (aDrop (aMeth "Reader" "expect" F_Reader_expect (aVar 0) (aCons (aC (.str "sign")) (aCons (aC (.str ")")) aNil))))
    (aRet (aVar 3)))) aNext)
    (aSeq (aIfS (aB (aMeth "Reader" "sees_kind" F_Reader_sees_kind (aVar 0) (aCons (aC (.str "number")) aNil))) (aRet (aTup (aCons (aC (.str "int")) (aCons (aMeth "Reader" "read" F_Reader_read (aVar 0) (aCons (aC (.str "number")) aNil)) aNil)))) aNext)
    (aSeq (aAsg (aMeth "Reader" "read" F_Reader_read (aVar 0) (aCons (aC (.str "name")) aNil)) (agName 5))
    (aSeq (aIfS (aB (aMeth "Reader" "accept" F_Reader_accept (aVar 0) (aCons (aC (.str "sign")) (aCons (aC (.str ".")) aNil)))) (aRet (aTup (aCons (aC (.str "member")) (aCons (aVar 5) (aCons (aMeth "Reader" "read" F_Reader_read (aVar 0) (aCons (aC (.str "name")) aNil)) aNil))))) aNext)
    (aRet (aTup (aCons (aC (.str "var")) (aCons (aVar 5) aNil))))))))))))))
abbrev n_read_primary : Nat := 6
def a_read_call (F_read_primary F_Reader_accept F_Reader_deeper F_read_arguments : AFn) : ATS :=
    (aSeq (aAsg (aCall F_read_primary (aCons (aVar 0) (aCons (aVar 1) aNil))) (agName 2))
    (aSeq (aWhile (aB (aMeth "Reader" "accept" F_Reader_accept (aVar 0) (aCons (aC (.str "sign")) (aCons (aC (.str "(")) aNil)))) (aSeq (aAsg (aMeth "Reader" "deeper" F_Reader_deeper (aVar 0) (aCons (aVar 1) aNil)) (agName 1))
    (aAsg (aTup (aCons (aC (.str "call")) (aCons (aVar 2) (aCons (aCall F_read_arguments (aCons (aVar 0) (aCons (aVar 1) aNil))) aNil)))) (agName 2))))
    (aRet (aVar 2))))
abbrev n_read_call : Nat := 3
def a_read_product (F_read_call F_Reader_accept F_Reader_deeper : AFn) : ATS :=
    (aSeq (aAsg (aCall F_read_call (aCons (aVar 0) (aCons (aVar 1) aNil))) (agName 2))
    (aSeq (aWhile (aB (aMeth "Reader" "accept" F_Reader_accept (aVar 0) (aCons (aC (.str "sign")) (aCons (aC (.str "*")) aNil)))) (aSeq (aAsg (aMeth "Reader" "deeper" F_Reader_deeper (aVar 0) (aCons (aVar 1) aNil)) (agName 1))
    (aAsg (aTup (aCons (aC (.str "mul")) (aCons (aVar 2) (aCons (aCall F_read_call (aCons (aVar 0) (aCons (aVar 1) aNil))) aNil)))) (agName 2))))
    (aRet (aVar 2))))
abbrev n_read_product : Nat := 3
def a_read_sum (F_read_product F_Reader_sees F_Reader_read F_Reader_deeper : AFn) : ATS :=
    (aSeq (aAsg (aCall F_read_product (aCons (aVar 0) (aCons (aVar 1) aNil))) (agName 2))
    (aSeq (aWhile (aOr (aB (aMeth "Reader" "sees" F_Reader_sees (aVar 0) (aCons (aC (.str "sign")) (aCons (aC (.str "+")) aNil)))) (aB (aMeth "Reader" "sees" F_Reader_sees (aVar 0) (aCons (aC (.str "sign")) (aCons (aC (.str "-")) aNil))))) (aSeq (aAsg (aMeth "Reader" "read" F_Reader_read (aVar 0) (aCons (aC (.str "sign")) aNil)) (agName 3))
    (aSeq (aAsg (aMeth "Reader" "deeper" F_Reader_deeper (aVar 0) (aCons (aVar 1) aNil)) (agName 1))
    (aAsg (aTup (aCons (aKd K_SUMS (aVar 3)) (aCons (aVar 2) (aCons (aCall F_read_product (aCons (aVar 0) (aCons (aVar 1) aNil))) aNil)))) (agName 2)))))
    (aRet (aVar 2))))
abbrev n_read_sum : Nat := 4
def a_read_plain (F_Reader_accept F_Reader_deeper F_read_plain F_read_sum : AFn) : ATS :=
    (aSeq (aIfS (aB (aMeth "Reader" "accept" F_Reader_accept (aVar 0) (aCons (aC (.str "word")) (aCons (aC (.str "not")) aNil)))) (aRet (aTup (aCons (aC (.str "not")) (aCons (aCall F_read_plain (aCons (aVar 0) (aCons (aMeth "Reader" "deeper" F_Reader_deeper (aVar 0) (aCons (aVar 1) aNil)) aNil))) aNil)))) aNext)
    (aSeq (aAsg (aCall F_read_sum (aCons (aVar 0) (aCons (aVar 1) aNil))) (agName 2))
    (aSeq (aFor (aiKd K_COMPARISONS) (agName 3) (aIfS (aB (aMeth "Reader" "accept" F_Reader_accept (aVar 0) (aCons (aC (.str "sign")) (aCons (aVar 3) aNil)))) (aRet (aTup (aCons (aKd K_COMPARISONS (aVar 3)) (aCons (aVar 2) (aCons (aCall F_read_sum (aCons (aVar 0) (aCons (aMeth "Reader" "deeper" F_Reader_deeper (aVar 0) (aCons (aVar 1) aNil)) aNil))) aNil))))) aNext))
    (aRet (aVar 2)))))
abbrev n_read_plain : Nat := 4
def a_read_both (F_read_plain F_Reader_accept F_Reader_deeper : AFn) : ATS :=
    (aSeq (aAsg (aCall F_read_plain (aCons (aVar 0) (aCons (aVar 1) aNil))) (agName 2))
    (aSeq (aWhile (aB (aMeth "Reader" "accept" F_Reader_accept (aVar 0) (aCons (aC (.str "word")) (aCons (aC (.str "and")) aNil)))) (aSeq (aAsg (aMeth "Reader" "deeper" F_Reader_deeper (aVar 0) (aCons (aVar 1) aNil)) (agName 1))
    (aAsg (aTup (aCons (aC (.str "and")) (aCons (aVar 2) (aCons (aCall F_read_plain (aCons (aVar 0) (aCons (aVar 1) aNil))) aNil)))) (agName 2))))
    (aRet (aVar 2))))
abbrev n_read_both : Nat := 3
def a_read_expression (F_read_both F_Reader_accept F_Reader_deeper : AFn) : ATS :=
    (aSeq (aAsg (aCall F_read_both (aCons (aVar 0) (aCons (aVar 1) aNil))) (agName 2))
    (aSeq (aWhile (aB (aMeth "Reader" "accept" F_Reader_accept (aVar 0) (aCons (aC (.str "word")) (aCons (aC (.str "or")) aNil)))) (aSeq (aAsg (aMeth "Reader" "deeper" F_Reader_deeper (aVar 0) (aCons (aVar 1) aNil)) (agName 1))
    (aAsg (aTup (aCons (aC (.str "or")) (aCons (aVar 2) (aCons (aCall F_read_both (aCons (aVar 0) (aCons (aVar 1) aNil))) aNil)))) (agName 2))))
    (aRet (aVar 2))))
abbrev n_read_expression : Nat := 3
def a_read_block (F_Reader_expect F_Reader_accept F_read_statement : AFn) : ATS :=
    (aSeq (aDrop (aMeth "Reader" "expect" F_Reader_expect (aVar 0) (aCons (aC (.str "sign")) (aCons (aC (.str "{")) aNil))))
    (aSeq (aAsg (aLst aNil) (agName 2))
    (aSeq (aWhile (aNot (aB (aMeth "Reader" "accept" F_Reader_accept (aVar 0) (aCons (aC (.str "sign")) (aCons (aC (.str "}")) aNil))))) (aDrop (aAppend (aVar 2) (aCall F_read_statement (aCons (aVar 0) (aCons (aVar 1) aNil))))))
    (aRet (aCB cTuple (aCons (aVar 2) aNil))))))
abbrev n_read_block : Nat := 3
def a_read_let (F_Reader_read F_Reader_expect F_read_expression : AFn) : ATS :=
    (aSeq (aAsg (aMeth "Reader" "read" F_Reader_read (aVar 0) (aCons (aC (.str "name")) aNil)) (agName 3))
    (aSeq (aDrop (aMeth "Reader" "expect" F_Reader_expect (aVar 0) (aCons (aC (.str "sign")) (aCons (aC (.str "=")) aNil))))
    (aSeq (aAsg (aCall F_read_expression (aCons (aVar 0) (aCons (aVar 2) aNil))) (agName 4))
    (aSeq (aDrop (aMeth "Reader" "expect" F_Reader_expect (aVar 0) (aCons (aC (.str "sign")) (aCons (aC (.str ";")) aNil))))
    (aRet (aTup (aCons (aC (.str "let")) (aCons (aVar 3) (aCons (aVar 4) (aCons (aVar 1) aNil))))))))))
abbrev n_read_let : Nat := 5
def a_read_fun (F_Reader_read F_read_parameters F_read_body : AFn) : ATS :=
    (aSeq (aAsg (aMeth "Reader" "read" F_Reader_read (aVar 0) (aCons (aC (.str "name")) aNil)) (agName 3))
    (aSeq (aAsg (aCall F_read_parameters (aCons (aVar 0) aNil)) (agName 4))
    (aRet (aTup (aCons (aC (.str "fun")) (aCons (aVar 3) (aCons (aVar 4) (aCons (aCall F_read_body (aCons (aVar 0) (aCons (aVar 2) aNil))) (aCons (aVar 1) aNil)))))))))
abbrev n_read_fun : Nat := 5
def a_read_compound (F_Reader_accept F_read_expression F_Reader_deeper F_read_block F_Reader_expect F_Reader_read F_Reader_sees : AFn) : ATS :=
    (aSeq (aIfS (aB (aMeth "Reader" "accept" F_Reader_accept (aVar 0) (aCons (aC (.str "word")) (aCons (aC (.str "if")) aNil)))) (aSeq (aAsg (aCall F_read_expression (aCons (aVar 0) (aCons (aVar 2) aNil))) (agName 3))
    (aSeq (aAsg (aCall F_read_block (aCons (aVar 0) (aCons (aMeth "Reader" "deeper" F_Reader_deeper (aVar 0) (aCons (aVar 2) aNil)) aNil))) (agName 4))
    (aSeq (aAsg (aTup aNil) (agName 5))
    (aSeq (aIfS (aB (aMeth "Reader" "accept" F_Reader_accept (aVar 0) (aCons (aC (.str "word")) (aCons (aC (.str "else")) aNil)))) (aAsg (aCall F_read_block (aCons (aVar 0) (aCons (aMeth "Reader" "deeper" F_Reader_deeper (aVar 0) (aCons (aVar 2) aNil)) aNil))) (agName 5)) aNext)
    (aRet (aTup (aCons (aC (.str "if")) (aCons (aVar 3) (aCons (aVar 4) (aCons (aVar 5) (aCons (aVar 1) aNil))))))))))) aNext)
    (aSeq (aIfS (aB (aMeth "Reader" "accept" F_Reader_accept (aVar 0) (aCons (aC (.str "word")) (aCons (aC (.str "repeat")) aNil)))) (aSeq (aAsg (aCall F_read_expression (aCons (aVar 0) (aCons (aVar 2) aNil))) (agName 6))
    (aRet (aTup (aCons (aC (.str "repeat")) (aCons (aVar 6) (aCons (aCall F_read_block (aCons (aVar 0) (aCons (aMeth "Reader" "deeper" F_Reader_deeper (aVar 0) (aCons (aVar 2) aNil)) aNil))) (aCons (aVar 1) aNil))))))) aNext)
    (aSeq (aIfS (aB (aMeth "Reader" "accept" F_Reader_accept (aVar 0) (aCons (aC (.str "word")) (aCons (aC (.str "try")) aNil)))) (aSeq (aAsg (aCall F_read_block (aCons (aVar 0) (aCons (aMeth "Reader" "deeper" F_Reader_deeper (aVar 0) (aCons (aVar 2) aNil)) aNil))) (agName 4))
    (aSeq (aDrop (aMeth "Reader" "expect" F_Reader_expect (aVar 0) (aCons (aC (.str "word")) (aCons (aC (.str "catch")) aNil))))
    (aSeq (aAsg (aMeth "Reader" "read" F_Reader_read (aVar 0) (aCons (aC (.str "name")) aNil)) (agName 7))
    (aRet (aTup (aCons (aC (.str "try")) (aCons (aVar 4) (aCons (aVar 7) (aCons (aCall F_read_block (aCons (aVar 0) (aCons (aMeth "Reader" "deeper" F_Reader_deeper (aVar 0) (aCons (aVar 2) aNil)) aNil))) (aCons (aVar 1) aNil)))))))))) aNext)
    (aSeq (aIfS (aB (aMeth "Reader" "sees" F_Reader_sees (aVar 0) (aCons (aC (.str "sign")) (aCons (aC (.str "{")) aNil)))) (aRet (aTup (aCons (aC (.str "block")) (aCons (aCall F_read_block (aCons (aVar 0) (aCons (aMeth "Reader" "deeper" F_Reader_deeper (aVar 0) (aCons (aVar 2) aNil)) aNil))) (aCons (aVar 1) aNil))))) aNext)
    (aRet (aC .non))))))
abbrev n_read_compound : Nat := 8
def a_read_simple (F_Reader_accept F_read_expression F_Reader_sees_kind F_Reader_follows F_Reader_read F_Reader_expect : AFn) : ATS :=
    (aSeq (aIfS (aB (aMeth "Reader" "accept" F_Reader_accept (aVar 0) (aCons (aC (.str "word")) (aCons (aC (.str "tell")) aNil)))) (aAsg (aTup (aCons (aC (.str "tell")) (aCons (aCall F_read_expression (aCons (aVar 0) (aCons (aVar 2) aNil))) (aCons (aVar 1) aNil)))) (agName 3)) (aIfS (aB (aMeth "Reader" "accept" F_Reader_accept (aVar 0) (aCons (aC (.str "word")) (aCons (aC (.str "throw")) aNil)))) (aAsg (aTup (aCons (aC (.str "throw")) (aCons (aCall F_read_expression (aCons (aVar 0) (aCons (aVar 2) aNil))) (aCons (aVar 1) aNil)))) (agName 3)) (aIfS (aAnd (aB (aOp oGt (aFld "Reader" "inside" (aVar 0)) (aC (.int 0)))) (aB (aMeth "Reader" "accept" F_Reader_accept (aVar 0) (aCons (aC (.str "word")) (aCons (aC (.str "return")) aNil))))) (aAsg (aTup (aCons (aC (.str "return")) (aCons (aCall F_read_expression (aCons (aVar 0) (aCons (aVar 2) aNil))) (aCons (aVar 1) aNil)))) (agName 3)) (aIfS (aAnd (aB (aMeth "Reader" "sees_kind" F_Reader_sees_kind (aVar 0) (aCons (aC (.str "name")) aNil))) (aB (aMeth "Reader" "follows" F_Reader_follows (aVar 0) (aCons (aC (.str "sign")) (aCons (aC (.str "=")) aNil))))) (aSeq (aAsg (aMeth "Reader" "read" F_Reader_read (aVar 0) (aCons (aC (.str "name")) aNil)) (agName 4))
    (aSeq (aDrop (aMeth "Reader" "expect" F_Reader_expect (aVar 0) (aCons (aC (.str "sign")) (aCons (aC (.str "=")) aNil))))
    (aAsg (aTup (aCons (aC (.str "set")) (aCons (aVar 4) (aCons (aCall F_read_expression (aCons (aVar 0) (aCons (aVar 2) aNil))) (aCons (aVar 1) aNil))))) (agName 3)))) (aAsg (aTup (aCons (aC (.str "do")) (aCons (aCall F_read_expression (aCons (aVar 0) (aCons (aVar 2) aNil))) (aCons (aVar 1) aNil)))) (agName 3))))))
    (aSeq (aDrop (aMeth "Reader" "expect" F_Reader_expect (aVar 0) (aCons (aC (.str "sign")) (aCons (aC (.str ";")) aNil))))
    (aRet (aVar 3))))
abbrev n_read_simple : Nat := 5
def a_read_statement (F_Reader_at F_Reader_accept F_read_let F_Reader_sees F_Reader_follows F_Reader_expect F_read_fun F_read_compound F_read_simple : AFn) : ATS :=
    (aSeq (aAsg (aMeth "Reader" "at" F_Reader_at (aVar 0) aNil) (agName 2))
    (aSeq (aIfS (aB (aMeth "Reader" "accept" F_Reader_accept (aVar 0) (aCons (aC (.str "word")) (aCons (aC (.str "let")) aNil)))) (aRet (aCall F_read_let (aCons (aVar 0) (aCons (aVar 2) (aCons (aVar 1) aNil))))) aNext)
    (aSeq (aIfS (aAnd (aB (aMeth "Reader" "sees" F_Reader_sees (aVar 0) (aCons (aC (.str "word")) (aCons (aC (.str "fun")) aNil)))) (aB (aMeth "Reader" "follows" F_Reader_follows (aVar 0) (aCons (aC (.str "name")) (aCons (aC .non) aNil))))) (aSeq (aDrop (aMeth "Reader" "expect" F_Reader_expect (aVar 0) (aCons (aC (.str "word")) (aCons (aC (.str "fun")) aNil))))
    (aRet (aCall F_read_fun (aCons (aVar 0) (aCons (aVar 2) (aCons (aVar 1) aNil)))))) aNext)
    (aSeq (aAsg (aCall F_read_compound (aCons (aVar 0) (aCons (aVar 2) (aCons (aVar 1) aNil)))) (agName 3))
    (aSeq (aIfS (aB (aOp oIsNot (aVar 3) (aC .non))) (aRet (aVar 3)) aNext)
    (aRet (aCall F_read_simple (aCons (aVar 0) (aCons (aVar 2) (aCons (aVar 1) aNil))))))))))
abbrev n_read_statement : Nat := 4
def a_read_pairs (F_Reader_expect F_Reader_accept F_Reader_read : AFn) : ATS :=
    (aSeq (aDrop (aMeth "Reader" "expect" F_Reader_expect (aVar 0) (aCons (aC (.str "sign")) (aCons (aC (.str "{")) aNil))))
    (aSeq (aAsg (aLst aNil) (agName 1))
    (aSeq (aIfS (aNot (aB (aMeth "Reader" "accept" F_Reader_accept (aVar 0) (aCons (aC (.str "sign")) (aCons (aC (.str "}")) aNil))))) (aSeq (aAsg (aC (.bl true)) (agName 2))
    (aSeq (aWhile (aB (aVar 2)) (aSeq (aAsg (aMeth "Reader" "read" F_Reader_read (aVar 0) (aCons (aC (.str "name")) aNil)) (agName 3))
    (aSeq (aAsg (aVar 3) (agName 4))
    (aSeq (aIfS (aB (aMeth "Reader" "accept" F_Reader_accept (aVar 0) (aCons (aC (.str "word")) (aCons (aC (.str "as")) aNil)))) (aAsg (aMeth "Reader" "read" F_Reader_read (aVar 0) (aCons (aC (.str "name")) aNil)) (agName 4)) aNext)
    (aSeq (aDrop (aAppend (aVar 1) (aTup (aCons (aVar 3) (aCons (aVar 4) aNil)))))
    (aAsg (aMeth "Reader" "accept" F_Reader_accept (aVar 0) (aCons (aC (.str "sign")) (aCons (aC (.str ",")) aNil))) (agName 2)))))))
    (aDrop (aMeth "Reader" "expect" F_Reader_expect (aVar 0) (aCons (aC (.str "sign")) (aCons (aC (.str "}")) aNil)))))) aNext)
    (aRet (aCB cTuple (aCons (aVar 1) aNil))))))
abbrev n_read_pairs : Nat := 5
def a_read_from (F_Reader_expect F_Reader_read : AFn) : ATS :=
    (aSeq (aDrop (aMeth "Reader" "expect" F_Reader_expect (aVar 0) (aCons (aC (.str "word")) (aCons (aC (.str "from")) aNil))))
    (aSeq (aAsg (aMeth "Reader" "read" F_Reader_read (aVar 0) (aCons (aC (.str "string")) aNil)) (agName 1))
    (aSeq (aDrop (aMeth "Reader" "expect" F_Reader_expect (aVar 0) (aCons (aC (.str "sign")) (aCons (aC (.str ";")) aNil))))
    (aRet (aVar 1)))))
abbrev n_read_from : Nat := 2
def a_read_import (F_Reader_sees_kind F_Reader_read F_Reader_expect F_Reader_accept F_read_from F_read_pairs : AFn) : ATS :=
    (aSeq (aIfS (aB (aMeth "Reader" "sees_kind" F_Reader_sees_kind (aVar 0) (aCons (aC (.str "string")) aNil))) (aSeq (aAsg (aMeth "Reader" "read" F_Reader_read (aVar 0) (aCons (aC (.str "string")) aNil)) (agName 2))
    (aSeq (aDrop (aMeth "Reader" "expect" F_Reader_expect (aVar 0) (aCons (aC (.str "sign")) (aCons (aC (.str ";")) aNil))))
    (aRet (aTup (aCons (aC (.str "need")) (aCons (aVar 2) (aCons (aVar 1) aNil))))))) aNext)
    (aSeq (aIfS (aB (aMeth "Reader" "accept" F_Reader_accept (aVar 0) (aCons (aC (.str "sign")) (aCons (aC (.str "*")) aNil)))) (aSeq (aDrop (aMeth "Reader" "expect" F_Reader_expect (aVar 0) (aCons (aC (.str "word")) (aCons (aC (.str "as")) aNil))))
    (aSeq (aAsg (aMeth "Reader" "read" F_Reader_read (aVar 0) (aCons (aC (.str "name")) aNil)) (agName 3))
    (aRet (aTup (aCons (aC (.str "space")) (aCons (aCall F_read_from (aCons (aVar 0) aNil)) (aCons (aVar 3) (aCons (aVar 1) aNil)))))))) aNext)
    (aSeq (aAsg (aCall F_read_pairs (aCons (aVar 0) aNil)) (agName 4))
    (aRet (aTup (aCons (aC (.str "import")) (aCons (aCall F_read_from (aCons (aVar 0) aNil)) (aCons (aVar 4) (aCons (aVar 1) aNil)))))))))
abbrev n_read_import : Nat := 5
def a_read_export (F_Reader_accept F_read_from F_Reader_sees F_read_pairs F_Reader_expect F_Reader_at F_read_let F_read_fun : AFn) : ATS :=
    (aSeq (aIfS (aB (aMeth "Reader" "accept" F_Reader_accept (aVar 0) (aCons (aC (.str "sign")) (aCons (aC (.str "*")) aNil)))) (aRet (aLst (aCons (aTup (aCons (aC (.str "star")) (aCons (aCall F_read_from (aCons (aVar 0) aNil)) (aCons (aVar 1) aNil)))) aNil))) aNext)
    (aSeq (aIfS (aB (aMeth "Reader" "sees" F_Reader_sees (aVar 0) (aCons (aC (.str "sign")) (aCons (aC (.str "{")) aNil)))) (aSeq (aAsg (aCall F_read_pairs (aCons (aVar 0) aNil)) (agName 2))
    (aSeq (aIfS (aB (aMeth "Reader" "sees" F_Reader_sees (aVar 0) (aCons (aC (.str "word")) (aCons (aC (.str "from")) aNil)))) (aRet (aLst (aCons (aTup (aCons (aC (.str "from")) (aCons (aCall F_read_from (aCons (aVar 0) aNil)) (aCons (aVar 2) (aCons (aVar 1) aNil))))) aNil))) aNext)
    (aSeq (aDrop (aMeth "Reader" "expect" F_Reader_expect (aVar 0) (aCons (aC (.str "sign")) (aCons (aC (.str ";")) aNil))))
    (aRet (aLst (aCons (aTup (aCons (aC (.str "export")) (aCons (aVar 2) (aCons (aVar 1) aNil)))) aNil)))))) aNext)
    (aSeq (aAsg (aMeth "Reader" "at" F_Reader_at (aVar 0) aNil) (agName 3))
    (aSeq (aIfS (aB (aMeth "Reader" "accept" F_Reader_accept (aVar 0) (aCons (aC (.str "word")) (aCons (aC (.str "let")) aNil)))) (aAsg (aCall F_read_let (aCons (aVar 0) (aCons (aVar 3) (aCons (aC (.int 1)) aNil)))) (agName 4)) (aSeq (aDrop (aMeth "Reader" "expect" F_Reader_expect (aVar 0) (aCons (aC (.str "word")) (aCons (aC (.str "fun")) aNil))))
    (aAsg (aCall F_read_fun (aCons (aVar 0) (aCons (aVar 3) (aCons (aC (.int 1)) aNil)))) (agName 4))))
    (aRet (aLst (aCons (aVar 4) (aCons (aTup (aCons (aC (.str "export")) (aCons (aTup (aCons (aTup (aCons (aIx (aVar 4) (aC (.int 1))) (aCons (aIx (aVar 4) (aC (.int 1))) aNil))) aNil)) (aCons (aVar 1) aNil)))) aNil))))))))
abbrev n_read_export : Nat := 5
def a_expression_depth (F_block_depth F_expression_depth : AFn) : ATS :=
    (aSeq (aAsg (aIx (aVar 0) (aC (.int 0))) (agName 1))
    (aSeq (aIfS (aB (aOp oIn (aVar 1) (aTup (aCons (aC (.str "int")) (aCons (aC (.str "bool")) (aCons (aC (.str "none")) (aCons (aC (.str "var")) (aCons (aC (.str "member")) aNil)))))))) (aRet (aC (.int 1))) aNext)
    (aSeq (aIfS (aB (aOp oEq (aVar 1) (aC (.str "lambda")))) (aRet (aOp oAdd (aC (.int 1)) (aCall F_block_depth (aCons (aIx (aVar 0) (aC (.int 2))) aNil)))) aNext)
    (aSeq (aIfS (aB (aOp oEq (aVar 1) (aC (.str "call")))) (aRet (aOp oAdd (aC (.int 1)) (aCB cMax (aCons (aOp oAdd (aLst (aCons (aCall F_expression_depth (aCons (aIx (aVar 0) (aC (.int 1))) aNil)) aNil)) (aLc (aiAny (aIx (aVar 0) (aC (.int 2)))) (agName 2) aYes (aCall F_expression_depth (aCons (aVar 2) aNil)) [2])) aNil)))) aNext)
    (aSeq (aIfS (aOr (aB (aOp oEq (aVar 1) (aC (.str "ask")))) (aB (aOp oEq (aVar 1) (aC (.str "not"))))) (aRet (aOp oAdd (aC (.int 1)) (aCall F_expression_depth (aCons (aIx (aVar 0) (aC (.int 1))) aNil)))) aNext)
    (aRet (aOp oAdd (aC (.int 1)) (aCB cMax (aCons (aCall F_expression_depth (aCons (aIx (aVar 0) (aC (.int 1))) aNil)) (aCons (aCall F_expression_depth (aCons (aIx (aVar 0) (aC (.int 2))) aNil)) aNil))))))))))
abbrev n_expression_depth : Nat := 3
def a_block_depth (F_depth : AFn) : ATS :=
    (aRet (aCB cMax (aCons (aOp oAdd (aLst (aCons (aC (.int 0)) aNil)) (aLc (aiAny (aVar 0)) (agName 1) aYes (aCall F_depth (aCons (aVar 1) aNil)) [1])) aNil)))
abbrev n_block_depth : Nat := 2
def a_depth (F_expression_depth F_block_depth : AFn) : ATS :=
    (aSeq (aAsg (aIx (aVar 0) (aC (.int 0))) (agName 1))
    (aSeq (aIfS (aOr (aB (aOp oEq (aVar 1) (aC (.str "let")))) (aB (aOp oEq (aVar 1) (aC (.str "set"))))) (aRet (aOp oAdd (aC (.int 1)) (aCall F_expression_depth (aCons (aIx (aVar 0) (aC (.int 2))) aNil)))) aNext)
    (aSeq (aIfS (aB (aOp oEq (aVar 1) (aC (.str "fun")))) (aRet (aOp oAdd (aC (.int 1)) (aCall F_block_depth (aCons (aIx (aVar 0) (aC (.int 3))) aNil)))) aNext)
    (aSeq (aIfS (aB (aOp oIn (aVar 1) (aTup (aCons (aC (.str "do")) (aCons (aC (.str "tell")) (aCons (aC (.str "return")) (aCons (aC (.str "throw")) aNil))))))) (aRet (aOp oAdd (aC (.int 1)) (aCall F_expression_depth (aCons (aIx (aVar 0) (aC (.int 1))) aNil)))) aNext)
    (aSeq (aIfS (aB (aOp oEq (aVar 1) (aC (.str "if")))) (aRet (aOp oAdd (aC (.int 1)) (aCB cMax (aCons (aCall F_expression_depth (aCons (aIx (aVar 0) (aC (.int 1))) aNil)) (aCons (aCall F_block_depth (aCons (aIx (aVar 0) (aC (.int 2))) aNil)) (aCons (aCall F_block_depth (aCons (aIx (aVar 0) (aC (.int 3))) aNil)) aNil)))))) aNext)
    (aSeq (aIfS (aB (aOp oEq (aVar 1) (aC (.str "repeat")))) (aRet (aOp oAdd (aC (.int 1)) (aCB cMax (aCons (aCall F_expression_depth (aCons (aIx (aVar 0) (aC (.int 1))) aNil)) (aCons (aCall F_block_depth (aCons (aIx (aVar 0) (aC (.int 2))) aNil)) aNil))))) aNext)
    (aSeq (aIfS (aB (aOp oEq (aVar 1) (aC (.str "block")))) (aRet (aOp oAdd (aC (.int 1)) (aCall F_block_depth (aCons (aIx (aVar 0) (aC (.int 1))) aNil)))) aNext)
    (aSeq (aIfS (aB (aOp oEq (aVar 1) (aC (.str "try")))) (aRet (aOp oAdd (aC (.int 1)) (aCB cMax (aCons (aCall F_block_depth (aCons (aIx (aVar 0) (aC (.int 1))) aNil)) (aCons (aCall F_block_depth (aCons (aIx (aVar 0) (aC (.int 3))) aNil)) aNil))))) aNext)
    (aRet (aC (.int 1)))))))))))
abbrev n_depth : Nat := 2
def a_parse (F_Reader F_Reader_at F_Reader_accept F_read_import F_read_export F_read_statement F_depth : AFn) : ATS :=
    (aSeq (aAsg (aMake "Reader" F_Reader (aCons (aVar 0) (aCons (aVar 1) aNil))) (agName 2))
    (aSeq (aAsg (aLst aNil) (agName 3))
    (aSeq (aWhile (aB (aOp oLt (aFld "Reader" "place" (aVar 2)) (aCB cLen (aCons (aFld "Reader" "rest" (aVar 2)) aNil)))) (aSeq (aAsg (aMeth "Reader" "at" F_Reader_at (aVar 2) aNil) (agName 4))
    (aSeq (aIfS (aB (aMeth "Reader" "accept" F_Reader_accept (aVar 2) (aCons (aC (.str "word")) (aCons (aC (.str "import")) aNil)))) (aDrop (aAppend (aVar 3) (aCall F_read_import (aCons (aVar 2) (aCons (aVar 4) aNil))))) (aIfS (aB (aMeth "Reader" "accept" F_Reader_accept (aVar 2) (aCons (aC (.str "word")) (aCons (aC (.str "export")) aNil)))) (aAsg (aOp oAdd (aVar 3) (aCall F_read_export (aCons (aVar 2) (aCons (aVar 4) aNil)))) (agName 3)) (aDrop (aAppend (aVar 3) (aCall F_read_statement (aCons (aVar 2) (aCons (aC (.int 1)) aNil)))))))
    (aIfS (aOr (aB (aOp oGt (aCall F_depth (aCons (aIx (aVar 3) (aOp oSub (aCB cLen (aCons (aVar 3) aNil)) (aC (.int 1)))) aNil)) (aC C_MAX_DEPTH))) (aAnd (aB (aOp oGt (aCB cLen (aCons (aVar 3) aNil)) (aC (.int 1)))) (aB (aOp oGt (aCall F_depth (aCons (aIx (aVar 3) (aOp oSub (aCB cLen (aCons (aVar 3) aNil)) (aC (.int 2)))) aNil)) (aC C_MAX_DEPTH))))) aNever aNext))))
    (aRet (aVar 3)))))
abbrev n_parse : Nat := 5
def a__law_cell : ATS :=
    (aSeq (aIfS (aB (aOp oLt (aVar 1) (aCB cLen (aCons (aVar 0) aNil)))) (aRet (aCB cInt (aCons (aIx (aVar 0) (aVar 1)) aNil))) aNext)
    (aRet (aC (.int 0))))
abbrev n__law_cell : Nat := 2
def a__law_operand : ATS :=
    (aSeq (aAsg (aOp oMod (aCB cInt (aCons (aVar 0) aNil)) (aC (.int 6))) (agName 1))
    (aSeq (aAsg (aOp oMod (aCB cInt (aCons (aOp oDiv (aVar 0) (aC (.int 6))) aNil)) (aC (.int 65536))) (agName 2))
    (aSeq (aAsg (aIx (aLst (aCons (aC (.str "a")) (aCons (aC (.str "b")) (aCons (aC (.str "xy")) (aCons (aC (.str "f_1")) aNil))))) (aOp oMod (aCB cInt (aCons (aOp oDiv (aVar 0) (aC (.int 6))) aNil)) (aC (.int 4)))) (agName 3))
    (aSeq (aIfS (aB (aOp oLt (aVar 1) (aC (.int 2)))) (aRet (aLst (aCons (aCB cStr (aCons (aVar 2) aNil)) (aCons (aTup (aCons (aC (.str "int")) (aCons (aVar 2) aNil))) aNil)))) aNext)
    (aSeq (aIfS (aB (aOp oEq (aVar 1) (aC (.int 2)))) (aRet (aLst (aCons (aVar 3) (aCons (aTup (aCons (aC (.str "var")) (aCons (aVar 3) aNil))) aNil)))) aNext)
    (aSeq (aIfS (aB (aOp oEq (aVar 1) (aC (.int 3)))) (aRet (aLst (aCons (aOp oAdd (aC (.str "s.")) (aVar 3)) (aCons (aTup (aCons (aC (.str "member")) (aCons (aC (.str "s")) (aCons (aVar 3) aNil)))) aNil)))) aNext)
    (aSeq (aIfS (aB (aOp oEq (aVar 1) (aC (.int 4)))) (aRet (aLst (aCons (aOp oAdd (aOp oAdd (aOp oAdd (aVar 3) (aC (.str "("))) (aCB cStr (aCons (aVar 2) aNil))) (aC (.str ", b)"))) (aCons (aTup (aCons (aC (.str "call")) (aCons (aTup (aCons (aC (.str "var")) (aCons (aVar 3) aNil))) (aCons (aTup (aCons (aTup (aCons (aC (.str "int")) (aCons (aVar 2) aNil))) (aCons (aTup (aCons (aC (.str "var")) (aCons (aC (.str "b")) aNil))) aNil))) aNil)))) aNil)))) aNext)
    (aRet (aLst (aCons (aC (.str "(not true)")) (aCons (aTup (aCons (aC (.str "not")) (aCons (aTup (aCons (aC (.str "bool")) (aCons (aC (.bl true)) aNil))) aNil))) aNil)))))))))))
abbrev n__law_operand : Nat := 4
def a__law_chain : ATS :=
    (aSeq (aAsg (aIx (aVar 0) (aC (.int 0))) (agName 3))
    (aSeq (aFor (aiRng1 (aCons (aCB cLen (aCons (aVar 1) aNil)) aNil)) (agName 4) (aAsg (aTup (aCons (aIx (aVar 2) (aIx (aVar 1) (aVar 4))) (aCons (aVar 3) (aCons (aIx (aVar 0) (aOp oAdd (aVar 4) (aC (.int 1)))) aNil)))) (agName 3)))
    (aRet (aVar 3))))
abbrev n__law_chain : Nat := 5
def a__law_split : ATS :=
    (aSeq (aAsg (aLst (aCons (aLst (aCons (aLst (aCons (aIx (aVar 0) (aC (.int 0))) aNil)) (aCons (aLst aNil) aNil))) aNil)) (agName 3))
    (aSeq (aAsg (aLst aNil) (agName 4))
    (aSeq (aFor (aiRng1 (aCons (aCB cLen (aCons (aVar 1) aNil)) aNil)) (agName 5) (aIfS (aB (aOp oIn (aIx (aVar 1) (aVar 5)) (aVar 2))) (aSeq (aDrop (aAppend (aVar 4) (aIx (aVar 1) (aVar 5))))
    (aDrop (aAppend (aVar 3) (aLst (aCons (aLst (aCons (aIx (aVar 0) (aOp oAdd (aVar 5) (aC (.int 1)))) aNil)) (aCons (aLst aNil) aNil)))))) (aSeq (aAsg (aIx (aVar 3) (aOp oSub (aCB cLen (aCons (aVar 3) aNil)) (aC (.int 1)))) (agName 6))
    (aPut2 (aVar 3) (aOp oSub (aCB cLen (aCons (aVar 3) aNil)) (aC (.int 1))) (aLst (aCons (aOp oAdd (aIx (aVar 6) (aC (.int 0))) (aLst (aCons (aIx (aVar 0) (aOp oAdd (aVar 5) (aC (.int 1)))) aNil))) (aCons (aOp oAdd (aIx (aVar 6) (aC (.int 1))) (aLst (aCons (aIx (aVar 1) (aVar 5)) aNil))) aNil)))))))
    (aRet (aLst (aCons (aVar 3) (aCons (aVar 4) aNil)))))))
abbrev n__law_split : Nat := 7
def a__law_tree (F__law_split F__law_tree F__law_chain : AFn) : ATS :=
    (aSeq (aAsg (aLst (aCons (aLst (aCons (aC (.str "or")) aNil)) (aCons (aLst (aCons (aC (.str "and")) aNil)) (aCons (aLst (aCons (aC (.str "<")) (aCons (aC (.str "==")) aNil))) (aCons (aLst (aCons (aC (.str "+")) (aCons (aC (.str "-")) aNil))) (aCons (aLst (aCons (aC (.str "*")) aNil)) aNil)))))) (agName 3))
    (aSeq (aAsg (aDisp [((aC (.str "or")), (aC (.str "or"))), ((aC (.str "and")), (aC (.str "and"))), ((aC (.str "<")), (aC (.str "lt"))), ((aC (.str "==")), (aC (.str "eq"))), ((aC (.str "+")), (aC (.str "add"))), ((aC (.str "-")), (aC (.str "sub"))), ((aC (.str "*")), (aC (.str "mul")))]) (agName 4))
    (aSeq (aIfS (aB (aOp oEq (aVar 2) (aC (.int 5)))) (aRet (aIx (aVar 0) (aC (.int 0)))) aNext)
    (aSeq (aAsg (aCall F__law_split (aCons (aVar 0) (aCons (aVar 1) (aCons (aIx (aVar 3) (aVar 2)) aNil)))) (agTup 2 (agCons (agName 5) (agCons (agName 6) agNil))))
    (aRet (aCall F__law_chain (aCons (aLc (aiAny (aVar 5)) (agName 7) aYes (aCall F__law_tree (aCons (aIx (aVar 7) (aC (.int 0))) (aCons (aIx (aVar 7) (aC (.int 1))) (aCons (aOp oAdd (aVar 2) (aC (.int 1))) aNil)))) [7]) (aCons (aVar 6) (aCons (aVar 4) aNil)))))))))
abbrev n__law_tree : Nat := 8
def a_law (F__law_cell F__law_operand F_parse F__law_tree : AFn) : ATS :=
    (aSeq (aAsg (aLst aNil) (agName 1))
    (aSeq (aAsg (aLst aNil) (agName 2))
    (aSeq (aAsg (aC (.str "")) (agName 3))
    (aSeq (aAsg (aC (.bl false)) (agName 4))
    (aSeq (aFor (aiRng1 (aCons (aOp oAdd (aC (.int 1)) (aCB cMin (aCons (aCB cLen (aCons (aVar 0) aNil)) (aCons (aC (.int 7)) aNil)))) aNil)) (agName 5) (aSeq (aAsg (aCB cAbs (aCons (aCall F__law_cell (aCons (aVar 0) (aCons (aVar 5) aNil))) aNil)) (agName 6))
    (aSeq (aAsg (aCall F__law_operand (aCons (aOp oDiv (aVar 6) (aC (.int 8))) aNil)) (agTup 2 (agCons (agName 7) (agCons (agName 8) agNil))))
    (aSeq (aIfS (aB (aOp oGt (aVar 5) (aC (.int 0)))) (aSeq (aAsg (aIx (aLst (aCons (aC (.str "or")) (aCons (aC (.str "and")) (aCons (aC (.str "<")) (aCons (aC (.str "==")) (aCons (aC (.str "+")) (aCons (aC (.str "-")) (aCons (aC (.str "*")) (aCons (aC (.str "+")) aNil))))))))) (aOp oMod (aCB cInt (aCons (aVar 6) aNil)) (aC (.int 8)))) (agName 9))
    (aSeq (aIfS (aAnd (aB (aVar 4)) (aB (aOp oIn (aVar 9) (aLst (aCons (aC (.str "<")) (aCons (aC (.str "==")) aNil)))))) (aAsg (aC (.str "*")) (agName 9)) aNext)
    (aSeq (aAsg (aOrV (aOp oIn (aVar 9) (aLst (aCons (aC (.str "<")) (aCons (aC (.str "==")) aNil)))) (aAndV (aVar 4) (aOp oNotIn (aVar 9) (aLst (aCons (aC (.str "or")) (aCons (aC (.str "and")) aNil)))))) (agName 4))
    (aSeq (aDrop (aAppend (aVar 2) (aVar 9)))
    (aAsg (aOp oAdd (aOp oAdd (aOp oAdd (aVar 3) (aIx (aLst (aCons (aC (.str " ")) (aCons (aC (.str "\n ")) aNil))) (aOp oMod (aCB cInt (aCons (aOp oDiv (aVar 6) (aC (.int 4))) aNil)) (aC (.int 2))))) (aVar 9)) (aC (.str " "))) (agName 3)))))) aNext)
    (aSeq (aDrop (aAppend (aVar 1) (aVar 8)))
    (aAsg (aOp oAdd (aVar 3) (aVar 7)) (agName 3)))))))
    (aSeq (aAsg (aCall F_parse (aCons (aOp oAdd (aOp oAdd (aC (.str "  let v = ")) (aVar 3)) (aC (.str ";"))) (aCons (aC (.str "m")) aNil))) (agName 10))
    (aSeq (aAsg (aLst (aCons (aTup (aCons (aC (.str "let")) (aCons (aC (.str "v")) (aCons (aCall F__law_tree (aCons (aVar 1) (aCons (aVar 2) (aCons (aC (.int 0)) aNil)))) (aCons (aC (.int 2)) aNil))))) aNil)) (agName 11))
    (aRet (aAndV (aIsi "list" (aVar 10)) (aOp oEq (aCB cRepr (aCons (aVar 10) aNil)) (aCB cRepr (aCons (aVar 11) aNil))))))))))))
abbrev n_law : Nat := 12
end Ab
namespace Lx
open PySem PySem.Spec
open PyProof.Rows L2 AL Ab
def letter (c : Nat) : Bool := (decide (97 ≤ c) && decide (c ≤ 122)) || (decide (65 ≤ c) && decide (c ≤ 90))
def digit (c : Nat) : Bool := decide (48 ≤ c) && decide (c ≤ 57)
def inName (c : Nat) : Bool := letter c || (digit c || decide (c = 95))
theorem cst : Str.ofString "a" = txt [97] ∧ Str.ofString "z" = txt [122] ∧ Str.ofString "A" = txt [65] ∧ Str.ofString "Z" = txt [90] ∧ Str.ofString "0" = txt [48] ∧ Str.ofString "9" = txt [57] ∧ Str.ofString "_" = txt [95] ∧
    Str.ofString "\n" = txt [10] ∧ Str.ofString " " = txt [32] ∧ Str.ofString "\t" = txt [9] ∧ Str.ofString "#" = txt [35] ∧ Str.ofString "\"" = txt [34] := by decide +kernel
def G1 (f : Nat → Bool) : AFn := fun ds S E Q => ∃ c, ds = [.str (txt [c])] ∧ Q (.bl (f c)) S
theorem sp_letter : ∀ ds S E Q, G1 letter ds S E Q → ds.length = 1 ∧ a_is_letter (bodyEnds Q E) (startA 1 ds) S := by
  rintro ds S E Q ⟨c, rfl, q⟩
  refine ⟨rfl, ?_⟩
  have st : startA 1 [.str (txt [c])] = [some (.str (txt [c]))] := rfl
  rw [st]
  unfold a_is_letter
  unfold letter at q
  simp only [eq_self, ev, ev2, ev3, ev4, ofS_inj, bodyEnds, String.reduceEq, decide_false, decide_true, reduceCtorEq, List.length_cons, List.length_nil, Nat.reduceAdd, szs, true_and, flatD, List.all_cons, List.all_nil, Bool.and_self, inF, List.any_cons, List.any_nil, eqF, Bool.or_false, Bool.false_or, Bool.or_true, Bool.true_or, Bool.and_true, Bool.true_and, Bool.and_false, Bool.false_and, Bool.not_true, Bool.not_false, cst]
  cases h1 : decide (97 ≤ c) <;> simp only [h1, eq_self, ev, ev2, ev3, ev4, ofS_inj, bodyEnds, String.reduceEq, decide_false, decide_true, reduceCtorEq, List.length_cons, List.length_nil, Nat.reduceAdd, szs, true_and, flatD, List.all_cons, List.all_nil, Bool.and_self, inF, List.any_cons, List.any_nil, eqF, Bool.or_false, Bool.false_or, Bool.or_true, Bool.true_or, Bool.and_true, Bool.true_and, Bool.and_false, Bool.false_and, Bool.not_true, Bool.not_false] at q ⊢
  · cases h3 : decide (65 ≤ c) <;> simp only [h3, eq_self, ev, ev2, ev3, ev4, ofS_inj, bodyEnds, String.reduceEq, decide_false, decide_true, reduceCtorEq, List.length_cons, List.length_nil, Nat.reduceAdd, szs, true_and, flatD, List.all_cons, List.all_nil, Bool.and_self, inF, List.any_cons, List.any_nil, eqF, Bool.or_false, Bool.false_or, Bool.or_true, Bool.true_or, Bool.and_true, Bool.true_and, Bool.and_false, Bool.false_and, Bool.not_true, Bool.not_false] at q ⊢ <;> exact q
  · cases h2 : decide (c ≤ 122) <;> simp only [h2, eq_self, ev, ev2, ev3, ev4, ofS_inj, bodyEnds, String.reduceEq, decide_false, decide_true, reduceCtorEq, List.length_cons, List.length_nil, Nat.reduceAdd, szs, true_and, flatD, List.all_cons, List.all_nil, Bool.and_self, inF, List.any_cons, List.any_nil, eqF, Bool.or_false, Bool.false_or, Bool.or_true, Bool.true_or, Bool.and_true, Bool.true_and, Bool.and_false, Bool.false_and, Bool.not_true, Bool.not_false] at q ⊢
    · cases h3 : decide (65 ≤ c) <;> simp only [h3, eq_self, ev, ev2, ev3, ev4, ofS_inj, bodyEnds, String.reduceEq, decide_false, decide_true, reduceCtorEq, List.length_cons, List.length_nil, Nat.reduceAdd, szs, true_and, flatD, List.all_cons, List.all_nil, Bool.and_self, inF, List.any_cons, List.any_nil, eqF, Bool.or_false, Bool.false_or, Bool.or_true, Bool.true_or, Bool.and_true, Bool.true_and, Bool.and_false, Bool.false_and, Bool.not_true, Bool.not_false] at q ⊢ <;> exact q
    · exact q
theorem sp_digit : ∀ ds S E Q, G1 digit ds S E Q → ds.length = 1 ∧ a_is_digit (bodyEnds Q E) (startA 1 ds) S := by
  rintro ds S E Q ⟨c, rfl, q⟩
  refine ⟨rfl, ?_⟩
  have st : startA 1 [.str (txt [c])] = [some (.str (txt [c]))] := rfl
  rw [st]
  unfold a_is_digit
  unfold digit at q
  simp only [eq_self, ev, ev2, ev3, ev4, ofS_inj, bodyEnds, String.reduceEq, decide_false, decide_true, reduceCtorEq, List.length_cons, List.length_nil, Nat.reduceAdd, szs, true_and, flatD, List.all_cons, List.all_nil, Bool.and_self, inF, List.any_cons, List.any_nil, eqF, Bool.or_false, Bool.false_or, Bool.or_true, Bool.true_or, Bool.and_true, Bool.true_and, Bool.and_false, Bool.false_and, Bool.not_true, Bool.not_false, cst]
  cases h1 : decide (48 ≤ c) <;> simp only [h1, eq_self, ev, ev2, ev3, ev4, ofS_inj, bodyEnds, String.reduceEq, decide_false, decide_true, reduceCtorEq, List.length_cons, List.length_nil, Nat.reduceAdd, szs, true_and, flatD, List.all_cons, List.all_nil, Bool.and_self, inF, List.any_cons, List.any_nil, eqF, Bool.or_false, Bool.false_or, Bool.or_true, Bool.true_or, Bool.and_true, Bool.true_and, Bool.and_false, Bool.false_and, Bool.not_true, Bool.not_false] at q ⊢ <;> exact q
theorem g1_mk {f : Nat → Bool} {c : Nat} {S : Sto} {E : XA} {Q : VA} (q : Q (.bl (f c)) S) : G1 f [.str (txt [c])] S E Q := ⟨c, rfl, q⟩
theorem sp_inname : ∀ ds S E Q, G1 inName ds S E Q → ds.length = 1 ∧ a_in_name (G1 letter) (G1 digit) (bodyEnds Q E) (startA 1 ds) S := by
  rintro ds S E Q ⟨c, rfl, q⟩
  refine ⟨rfl, ?_⟩
  have st : startA 1 [.str (txt [c])] = [some (.str (txt [c]))] := rfl
  rw [st]
  unfold a_in_name
  unfold inName at q
  simp only [eq_self, ev, ev2, ev3, ev4, ofS_inj, bodyEnds, String.reduceEq, decide_false, decide_true, reduceCtorEq, List.length_cons, List.length_nil, Nat.reduceAdd, szs, true_and, flatD, List.all_cons, List.all_nil, Bool.and_self, inF, List.any_cons, List.any_nil, eqF, Bool.or_false, Bool.false_or, Bool.or_true, Bool.true_or, Bool.and_true, Bool.true_and, Bool.and_false, Bool.false_and, Bool.not_true, Bool.not_false, cst]
  refine g1_mk ?_
  cases h1 : letter c <;> simp only [h1, eq_self, ev, ev2, ev3, ev4, ofS_inj, bodyEnds, String.reduceEq, decide_false, decide_true, reduceCtorEq, List.length_cons, List.length_nil, Nat.reduceAdd, szs, true_and, flatD, List.all_cons, List.all_nil, Bool.and_self, inF, List.any_cons, List.any_nil, eqF, Bool.or_false, Bool.false_or, Bool.or_true, Bool.true_or, Bool.and_true, Bool.true_and, Bool.and_false, Bool.false_and, Bool.not_true, Bool.not_false] at q ⊢
  · refine g1_mk ?_
    cases h2 : digit c <;> simp only [h2, eq_self, ev, ev2, ev3, ev4, ofS_inj, bodyEnds, String.reduceEq, decide_false, decide_true, reduceCtorEq, List.length_cons, List.length_nil, Nat.reduceAdd, szs, true_and, flatD, List.all_cons, List.all_nil, Bool.and_self, inF, List.any_cons, List.any_nil, eqF, Bool.or_false, Bool.false_or, Bool.or_true, Bool.true_or, Bool.and_true, Bool.true_and, Bool.and_false, Bool.false_and, Bool.not_true, Bool.not_false, txt_inj, List.cons.injEq, and_true] at q ⊢ <;> exact q
  · exact q
/-- no sign of a name stands ahead -/
def stop : List Nat → Bool
  | [] => true
  | c :: _ => !inName c
def GRun : AFn := fun ds S E Q => ∃ p w r, ds = [.str (txt (p ++ w ++ r)), .int (p.length : Nat)] ∧ (p ++ w ++ r).length ≤ sizeLine ∧ w.all inName = true ∧ stop r = true ∧ Q (.int (p.length + w.length : Nat)) S
theorem while_mk {t : ATT} {body : ATS} {D : AEnds} {ρ : Rho} {S : Sto} (h : ∃ Wv : Nat → Rho → Sto → Prop, (∃ m, Wv m ρ S) ∧ ∀ m ρ S, Wv m ρ S → t ρ S (fun x S1 => D.ex x ρ S1) fun k S1 => match k with
  | true => body { D with nx := fun ρ' S' => ∃ m', m' < m ∧ Wv m' ρ' S', ct := fun ρ' S' => ∃ m', m' < m ∧ Wv m' ρ' S', bk := D.nx } ρ S1
  | false => D.nx ρ S1) : aWhile t body D ρ S := h
theorem seqM {t u : ATS} {D0 : AEnds} {ρ : Rho} {S : Sto} (h : ∀ N : Rho → Sto → Prop, (∀ ρ S, u D0 ρ S → N ρ S) → t { D0 with nx := N } ρ S) : aSeq t u D0 ρ S := h (u D0) fun _ _ z => z
theorem lt_nat (i j : Nat) : (decide ((i : Int) < (j : Int))) = decide (i < j) := decide_eq_decide.mpr (by omega)
theorem sp_run : ∀ ds S E Q, GRun ds S E Q → ds.length = 2 ∧ a_run_end (G1 inName) (bodyEnds Q E) (startA 2 ds) S := by
  rintro ds S E Q ⟨p, w, r, rfl, hz, hw, hr, q⟩
  refine ⟨rfl, ?_⟩
  have st : startA 2 [.str (txt (p ++ w ++ r)), .int (p.length : Nat)] = [some (.str (txt (p ++ w ++ r))), some (.int (p.length : Nat))] := rfl
  rw [st]
  unfold a_run_end
  refine seqM fun N nx => while_mk ⟨fun m ρ S' => S' = S ∧ ∃ u v, w = u ++ v ∧ m = v.length ∧ ρ = [some (.str (txt (p ++ w ++ r))), some (.int ((p.length + u.length : Nat) : Int))], ⟨_, rfl, [], w, rfl, rfl, rfl⟩, ?_⟩
  rintro m ρ S' ⟨rfl, u, v, rfl, rfl, rfl⟩
  simp only [eq_self, ev, ev2, ev3, ev4, ofS_inj, bodyEnds, String.reduceEq, decide_false, decide_true, reduceCtorEq, List.length_cons, List.length_nil, Nat.reduceAdd, szs, true_and, flatD, List.all_cons, List.all_nil, Bool.and_self, inF, List.any_cons, List.any_nil, eqF, Bool.or_false, Bool.false_or, Bool.or_true, Bool.true_or, Bool.and_true, Bool.true_and, Bool.and_false, Bool.false_and, Bool.not_true, Bool.not_false, txt_len, lt_nat]
  refine ⟨hz, ?_⟩
  have same : p ++ (u ++ v) ++ r = (p ++ u) ++ (v ++ r) := by simp
  have len : (p ++ (u ++ v) ++ r).length = p.length + u.length + (v.length + r.length) := by simp; omega
  cases v with
  | cons c v =>
    have lt : p.length + u.length < (p ++ (u ++ c :: v) ++ r).length := by rw [len]; simp; omega
    simp only [lt, eq_self, ev, ev2, ev3, ev4, ofS_inj, bodyEnds, String.reduceEq, decide_false, decide_true, reduceCtorEq, List.length_cons, List.length_nil, Nat.reduceAdd, szs, true_and, flatD, List.all_cons, List.all_nil, Bool.and_self, inF, List.any_cons, List.any_nil, eqF, Bool.or_false, Bool.false_or, Bool.or_true, Bool.true_or, Bool.and_true, Bool.true_and, Bool.and_false, Bool.false_and, Bool.not_true, Bool.not_false]
    have hc : inName c = true := by
      rw [List.all_eq_true] at hw
      exact hw c (by simp)
    refine ix_txt (by omega) hz (c := c) (by rw [Int.toNat_natCast, same, ← List.length_append]; exact get_mid) (g1_mk ?_)
    simp only [hc, eq_self, ev, ev2, ev3, ev4, ofS_inj, bodyEnds, String.reduceEq, decide_false, decide_true, reduceCtorEq, List.length_cons, List.length_nil, Nat.reduceAdd, szs, true_and, flatD, List.all_cons, List.all_nil, Bool.and_self, inF, List.any_cons, List.any_nil, eqF, Bool.or_false, Bool.false_or, Bool.or_true, Bool.true_or, Bool.and_true, Bool.true_and, Bool.and_false, Bool.false_and, Bool.not_true, Bool.not_false]
    refine ⟨v.length, by simp, u ++ [c], v, by simp, rfl, ?_⟩
    rw [List.length_append]; rw [List.length_singleton]
    congr 3
  | nil =>
    have done : N [some (.str (txt (p ++ (u ++ []) ++ r))), some (.int ((p.length + u.length : Nat) : Int))] S' := by
      refine nx _ _ ?_
      simp only [eq_self, ev, ev2, ev3, ev4, ofS_inj, bodyEnds, String.reduceEq, decide_false, decide_true, reduceCtorEq, List.length_cons, List.length_nil, Nat.reduceAdd, szs, true_and, flatD, List.all_cons, List.all_nil, Bool.and_self, inF, List.any_cons, List.any_nil, eqF, Bool.or_false, Bool.false_or, Bool.or_true, Bool.true_or, Bool.and_true, Bool.true_and, Bool.and_false, Bool.false_and, Bool.not_true, Bool.not_false]
      simpa using q
    cases r with
    | nil =>
      have lt : ¬ p.length + u.length < (p ++ (u ++ []) ++ []).length := by simp
      simp only [lt, eq_self, ev, ev2, ev3, ev4, ofS_inj, bodyEnds, String.reduceEq, decide_false, decide_true, reduceCtorEq, List.length_cons, List.length_nil, Nat.reduceAdd, szs, true_and, flatD, List.all_cons, List.all_nil, Bool.and_self, inF, List.any_cons, List.any_nil, eqF, Bool.or_false, Bool.false_or, Bool.or_true, Bool.true_or, Bool.and_true, Bool.true_and, Bool.and_false, Bool.false_and, Bool.not_true, Bool.not_false]
      exact done
    | cons c r =>
      have lt : p.length + u.length < (p ++ (u ++ []) ++ c :: r).length := by simp
      simp only [lt, eq_self, ev, ev2, ev3, ev4, ofS_inj, bodyEnds, String.reduceEq, decide_false, decide_true, reduceCtorEq, List.length_cons, List.length_nil, Nat.reduceAdd, szs, true_and, flatD, List.all_cons, List.all_nil, Bool.and_self, inF, List.any_cons, List.any_nil, eqF, Bool.or_false, Bool.false_or, Bool.or_true, Bool.true_or, Bool.and_true, Bool.true_and, Bool.and_false, Bool.false_and, Bool.not_true, Bool.not_false]
      have hc : inName c = false := by simpa [stop] using hr
      refine ix_txt (by omega) hz (c := c) (by rw [Int.toNat_natCast, same, ← List.length_append]; exact get_mid) (g1_mk ?_)
      simp only [hc, eq_self, ev, ev2, ev3, ev4, ofS_inj, bodyEnds, String.reduceEq, decide_false, decide_true, reduceCtorEq, List.length_cons, List.length_nil, Nat.reduceAdd, szs, true_and, flatD, List.all_cons, List.all_nil, Bool.and_self, inF, List.any_cons, List.any_nil, eqF, Bool.or_false, Bool.false_or, Bool.or_true, Bool.true_or, Bool.and_true, Bool.true_and, Bool.and_false, Bool.false_and, Bool.not_true, Bool.not_false]
      exact done
/-! ### tokens -/
def tok (k : Str) (v : D) (p : Nat) : D := .tup [.str k, v, .int (p : Int)]
def reserved : List Str := ["and", "as", "ask", "catch", "else", "export", "false", "from", "fun", "if", "import", "let", "none", "not", "or", "repeat", "return", "tell", "throw", "true", "try"]
def isRes (s : Str) : Bool := reserved.any fun r => decide (r = s)
theorem res_in (s : Str) : inF (.str s) [(D.str "and"), (D.str "as"), (D.str "ask"), (D.str "catch"), (D.str "else"), (D.str "export"), (D.str "false"), (D.str "from"), (D.str "fun"), (D.str "if"), (D.str "import"), (D.str "let"), (D.str "none"), (D.str "not"), (D.str "or"), (D.str "repeat"), (D.str "return"), (D.str "tell"), (D.str "throw"), (D.str "true"), (D.str "try")] = isRes s := rfl
/-- a text with a word that ends -/
structure Word (p w r : List Nat) : Prop where
  few : (p ++ w ++ r).length ≤ sizeLine
  all : w.all inName = true
  stop : stop r = true
theorem run_mk {p w r : List Nat} (h : Word p w r) {S : Sto} {E : XA} {Q : VA} (q : Q (.int (p.length + w.length : Nat)) S) : GRun [.str (txt (p ++ w ++ r)), .int (p.length : Nat)] S E Q := ⟨p, w, r, rfl, h.few, h.all, h.stop, q⟩
/-- what a token's reader gives -/
def GWord : AFn := fun ds S E Q => ∃ p w r m, ds = [.str (txt (p ++ w ++ r)), .int (p.length : Nat), .str m] ∧ Word p w r ∧ (isRes (txt w) = true ∨ w.length ≤ 20) ∧
  Q (.tup [tok (if isRes (txt w) then "word" else "name") (.str (txt w)) p.length, .int (p.length + w.length : Nat)]) S
theorem sp_word : ∀ ds S E Q, GWord ds S E Q → ds.length = 3 ∧ a_read_word GRun (bodyEnds Q E) (startA 5 ds) S := by
  rintro ds S E Q ⟨p, w, r, m, rfl, h, hl, q⟩
  refine ⟨rfl, ?_⟩
  have st : startA 5 [.str (txt (p ++ w ++ r)), .int (p.length : Nat), .str m] = [some (.str (txt (p ++ w ++ r))), some (.int (p.length : Nat)), some (.str m), none, none] := rfl
  rw [st]
  unfold a_read_word
  simp only [eq_self, ev, ev2, ev3, ev4, ofS_inj, bodyEnds, String.reduceEq, decide_false, decide_true, reduceCtorEq, List.length_cons, List.length_nil, Nat.reduceAdd, szs, true_and, flatD, List.all_cons, List.all_nil, Bool.and_self, Bool.or_false, Bool.false_or, Bool.or_true, Bool.true_or, Bool.and_true, Bool.true_and, Bool.and_false, Bool.false_and, Bool.not_true, Bool.not_false, res_in]
  refine run_mk h ?_
  simp only [eq_self, ev, ev2, ev3, ev4, ofS_inj, bodyEnds, String.reduceEq, decide_false, decide_true, reduceCtorEq, List.length_cons, List.length_nil, Nat.reduceAdd, szs, true_and, flatD, List.all_cons, List.all_nil, Bool.and_self, Bool.or_false, Bool.false_or, Bool.or_true, Bool.true_or, Bool.and_true, Bool.true_and, Bool.and_false, Bool.false_and, Bool.not_true, Bool.not_false, cut_mid, res_in, txt_len]
  refine ⟨h.few, ?_⟩
  cases hr : isRes (txt w) with
  | true =>
    simp only [hr, eq_self, ev, ev2, ev3, ev4, ofS_inj, bodyEnds, String.reduceEq, decide_false, decide_true, reduceCtorEq, List.length_cons, List.length_nil, Nat.reduceAdd, szs, true_and, flatD, List.all_cons, List.all_nil, Bool.and_self, Bool.or_false, Bool.false_or, Bool.or_true, Bool.true_or, Bool.and_true, Bool.true_and, Bool.and_false, Bool.false_and, Bool.not_true, Bool.not_false, if_true] at q ⊢
    exact q
  | false =>
    simp only [hr, eq_self, ev, ev2, ev3, ev4, ofS_inj, bodyEnds, String.reduceEq, decide_false, decide_true, reduceCtorEq, List.length_cons, List.length_nil, Nat.reduceAdd, szs, true_and, flatD, List.all_cons, List.all_nil, Bool.and_self, Bool.or_false, Bool.false_or, Bool.or_true, Bool.true_or, Bool.and_true, Bool.true_and, Bool.and_false, Bool.false_and, Bool.not_true, Bool.not_false, Bool.false_eq_true, if_false, false_or] at q hl ⊢
    have lt : ¬ ((20 : Int) < (w.length : Int)) := by omega
    have wl : w.length ≤ sizeLine := Nat.le_trans hl (by decide)
    simp only [lt, eq_self, ev, ev2, ev3, ev4, ofS_inj, bodyEnds, String.reduceEq, decide_false, decide_true, reduceCtorEq, List.length_cons, List.length_nil, Nat.reduceAdd, szs, true_and, flatD, List.all_cons, List.all_nil, Bool.and_self, Bool.or_false, Bool.false_or, Bool.or_true, Bool.true_or, Bool.and_true, Bool.true_and, Bool.and_false, Bool.false_and, Bool.not_true, Bool.not_false]
    exact ⟨wl, q⟩
/-- the digits of a number -/
structure Num (w : List Nat) (n : Int) : Prop where
  ne : w ≠ []
  dig : w.all digit = true
  few : w.length ≤ 5
  val : PySem.intText? (txt w) = some n
  small : n ≤ 65535
  lead : 1 < w.length → w[0]? ≠ some 48
theorem dig_name {w : List Nat} (h : w.all digit = true) : w.all inName = true := by
  rw [List.all_eq_true] at h ⊢
  intro c hc
  simp only [inName, h c hc, Bool.true_or, Bool.or_true]
def GNum : AFn := fun ds S E Q => ∃ p w r m n, ds = [.str (txt (p ++ w ++ r)), .int (p.length : Nat), .str m] ∧ Word p w r ∧ Num w n ∧ ∀ S', S <+: S' → Q (.tup [tok "number" (.int n) p.length, .int (p.length + w.length : Nat)]) S'
theorem sp_number : ∀ ds S E Q, GNum ds S E Q → ds.length = 3 ∧ a_read_number GRun (G1 digit) (bodyEnds Q E) (startA 6 ds) S := by
  rintro ds S E Q ⟨p, w, r, m, n, rfl, h, hn, q⟩
  refine ⟨rfl, ?_⟩
  have st : startA 6 [.str (txt (p ++ w ++ r)), .int (p.length : Nat), .str m] = [some (.str (txt (p ++ w ++ r))), some (.int (p.length : Nat)), some (.str m), none, none, none] := rfl
  rw [st]
  unfold a_read_number
  refine seqM fun N nx => ?_
  simp only [eq_self, ev, ev2, ev3, ev4, ofS_inj, bodyEnds, String.reduceEq, decide_false, decide_true, reduceCtorEq, List.length_cons, List.length_nil, Nat.reduceAdd, szs, true_and, flatD, List.all_cons, List.all_nil, Bool.and_self, Bool.or_false, Bool.false_or, Bool.or_true, Bool.true_or, Bool.and_true, Bool.true_and, Bool.and_false, Bool.false_and, Bool.not_true, Bool.not_false]
  refine run_mk h (nx _ _ ?_)
  clear nx N
  refine seqM fun N nx => ?_
  simp only [eq_self, ev, ev2, ev3, ev4, ofS_inj, bodyEnds, String.reduceEq, decide_false, decide_true, reduceCtorEq, List.length_cons, List.length_nil, Nat.reduceAdd, szs, true_and, flatD, List.all_cons, List.all_nil, Bool.and_self, Bool.or_false, Bool.false_or, Bool.or_true, Bool.true_or, Bool.and_true, Bool.true_and, Bool.and_false, Bool.false_and, Bool.not_true, Bool.not_false, cut_mid]
  refine ⟨by rw [txt_len]; exact h.few, nx _ _ ?_⟩
  clear nx N
  have wl : w.length ≤ sizeLine := Nat.le_trans hn.few (by decide)
  have l5 : decide ((5 : Int) < (w.length : Int)) = false := decide_eq_false (by have := hn.few; omega)
  refine seqM fun N nx => ?_
  simp only [eq_self, ev, ev2, ev3, ev4, ofS_inj, bodyEnds, String.reduceEq, decide_false, decide_true, reduceCtorEq, List.length_cons, List.length_nil, Nat.reduceAdd, szs, true_and, flatD, List.all_cons, List.all_nil, Bool.and_self, Bool.or_false, Bool.false_or, Bool.or_true, Bool.true_or, Bool.and_true, Bool.true_and, Bool.and_false, Bool.false_and, Bool.not_true, Bool.not_false, txt_len, l5]
  refine ⟨wl, ?_⟩
  refine lc_map (src := .fix (w.map fun c => D.str (txt [c]))) (out := w.map fun _ => D.bl true) (S0 := S) (fun Q' h => ?_) trivial (Nat.lt_of_le_of_lt (show _ ≤ 5 by simp only [Src.items, List.length_map]; exact hn.few) (by decide)) (by simp [Src.items]) (fun j d hd => ?_) fun S1 p1 => ?_
  · simp only [eq_self, ev, ev2, ev3, ev4, ofS_inj, bodyEnds, String.reduceEq, decide_false, decide_true, reduceCtorEq, List.length_cons, List.length_nil, Nat.reduceAdd, szs, true_and, flatD, List.all_cons, List.all_nil, Bool.and_self, Bool.or_false, Bool.false_or, Bool.or_true, Bool.true_or, Bool.and_true, Bool.true_and, Bool.and_false, Bool.false_and, Bool.not_true, Bool.not_false]
    exact h
  · have hd' : (w.map fun c => D.str (txt [c]))[j]? = some d := hd
    rw [List.getElem?_map] at hd'
    obtain ⟨c, hc, rfl⟩ := Option.map_eq_some_iff.mp hd'
    refine ⟨.bl true, by rw [List.getElem?_map, hc]; rfl, fun S1 Q1 p1 q1 => ?_⟩
    have dg : digit c = true := List.all_eq_true.mp hn.dig c (List.mem_of_getElem? hc)
    simp only [eq_self, ev, ev2, ev3, ev4, ofS_inj, bodyEnds, String.reduceEq, decide_false, decide_true, reduceCtorEq, List.length_cons, List.length_nil, Nat.reduceAdd, szs, true_and, flatD, List.all_cons, List.all_nil, Bool.and_self, Bool.or_false, Bool.false_or, Bool.or_true, Bool.true_or, Bool.and_true, Bool.true_and, Bool.and_false, Bool.false_and, Bool.not_true, Bool.not_false, wipeA, List.set_cons_succ, List.set_cons_zero]
    exact g1_mk (by rw [dg]; exact q1 _ pre_refl)
  · have allT : cAll [.ref S1.length] (S1 ++ [.lst (w.map fun _ => D.bl true)]) = fun Q => must (some (w.map fun _ => D.bl true)) fun l => ∃ bs : List Bool, l = bs.map .bl ∧ Q (.bl (bs.all _root_.id)) (S1 ++ [.lst (w.map fun _ => D.bl true)]) := by
      funext Q
      show must (lstOf _ _) _ = _
      rw [show lstOf (S1 ++ [.lst (w.map fun _ => D.bl true)]) S1.length = some (w.map fun _ => D.bl true) by simp [lstOf]]
    rw [allT]
    refine ⟨w.map fun _ => true, by rw [List.map_map]; rfl, ?_⟩
    have ta : (w.map fun _ => true).all _root_.id = true := by simp
    rw [ta]
    simp only [eq_self, ev, ev2, ev3, ev4, ofS_inj, bodyEnds, String.reduceEq, decide_false, decide_true, reduceCtorEq, List.length_cons, List.length_nil, Nat.reduceAdd, szs, true_and, flatD, List.all_cons, List.all_nil, Bool.and_self, Bool.or_false, Bool.false_or, Bool.or_true, Bool.true_or, Bool.and_true, Bool.true_and, Bool.and_false, Bool.false_and, Bool.not_true, Bool.not_false]
    refine nx _ _ ?_
    clear nx N
    have q1 := q _ (p1.trans (pre_app (o := .lst (w.map fun _ => D.bl true))))
    generalize S1 ++ [O.lst (w.map fun _ => D.bl true)] = S2 at q1 ⊢
    have ci : ∀ G : VA, G (.int n) S2 → cInt [.str (txt w)] S2 G := fun G g => by
      refine ⟨by rw [txt_len]; exact Nat.le_trans hn.few (by decide), ?_⟩
      rw [hn.val]; exact g
    have big : decide ((65535 : Int) < n) = false := decide_eq_false (by have := hn.small; omega)
    refine seqM fun N nx => ?_
    simp only [eq_self, ev, ev2, ev3, ev4, ofS_inj, bodyEnds, String.reduceEq, decide_false, decide_true, reduceCtorEq, List.length_cons, List.length_nil, Nat.reduceAdd, szs, true_and, flatD, List.all_cons, List.all_nil, Bool.and_self, Bool.or_false, Bool.false_or, Bool.or_true, Bool.true_or, Bool.and_true, Bool.true_and, Bool.and_false, Bool.false_and, Bool.not_true, Bool.not_false, txt_len, cst]
    refine ci _ ?_
    simp only [eq_self, ev, ev2, ev3, ev4, ofS_inj, bodyEnds, String.reduceEq, decide_false, decide_true, reduceCtorEq, List.length_cons, List.length_nil, Nat.reduceAdd, szs, true_and, flatD, List.all_cons, List.all_nil, Bool.and_self, Bool.or_false, Bool.false_or, Bool.or_true, Bool.true_or, Bool.and_true, Bool.true_and, Bool.and_false, Bool.false_and, Bool.not_true, Bool.not_false, big]
    have fin : N [some (.str (txt (p ++ w ++ r))), some (.int (p.length : Nat)), some (.str m), some (.int ((p.length + w.length : Nat) : Int)), some (.str (txt w)), none] S2 := by
      refine nx _ _ ?_
      simp only [eq_self, ev, ev2, ev3, ev4, ofS_inj, bodyEnds, String.reduceEq, decide_false, decide_true, reduceCtorEq, List.length_cons, List.length_nil, Nat.reduceAdd, szs, true_and, flatD, List.all_cons, List.all_nil, Bool.and_self, Bool.or_false, Bool.false_or, Bool.or_true, Bool.true_or, Bool.and_true, Bool.true_and, Bool.and_false, Bool.false_and, Bool.not_true, Bool.not_false]
      exact ci _ q1
    obtain ⟨c, w', rfl⟩ := List.exists_cons_of_ne_nil hn.ne
    refine ix_txt (c := c) (by decide) wl rfl ?_
    simp only [eq_self, ev, ev2, ev3, ev4, ofS_inj, bodyEnds, String.reduceEq, decide_false, decide_true, reduceCtorEq, List.length_cons, List.length_nil, Nat.reduceAdd, szs, true_and, flatD, List.all_cons, List.all_nil, Bool.and_self, Bool.or_false, Bool.false_or, Bool.or_true, Bool.true_or, Bool.and_true, Bool.true_and, Bool.and_false, Bool.false_and, Bool.not_true, Bool.not_false, txt_inj, List.cons.injEq, and_true]
    by_cases c0 : c = 48
    · have l1 : ¬ ((1 : Int) < ((w'.length + 1 : Nat) : Int)) := by
        intro hh
        exact hn.lead (by simp only [List.length_cons]; omega) (by rw [c0]; rfl)
      have wl' : w'.length + 1 ≤ sizeLine := wl
      subst c0
      simp only [eq_self, ev, ev2, ev3, ev4, ofS_inj, bodyEnds, String.reduceEq, decide_false, decide_true, reduceCtorEq, List.length_cons, List.length_nil, Nat.reduceAdd, szs, true_and, flatD, List.all_cons, List.all_nil, Bool.and_self, Bool.or_false, Bool.false_or, Bool.or_true, Bool.true_or, Bool.and_true, Bool.true_and, Bool.and_false, Bool.false_and, Bool.not_true, Bool.not_false, txt_len, l1]
      exact ⟨wl', fin⟩
    · simp only [c0, eq_self, ev, ev2, ev3, ev4, ofS_inj, bodyEnds, String.reduceEq, decide_false, decide_true, reduceCtorEq, List.length_cons, List.length_nil, Nat.reduceAdd, szs, true_and, flatD, List.all_cons, List.all_nil, Bool.and_self, Bool.or_false, Bool.false_or, Bool.or_true, Bool.true_or, Bool.and_true, Bool.true_and, Bool.and_false, Bool.false_and, Bool.not_true, Bool.not_false]
      exact fin
/-! ### a name of a module, a sign -/
def GStr : AFn := fun ds S E Q => ∃ p w r m, ds = [.str (txt (p ++ 34 :: w ++ 34 :: r)), .int (p.length : Nat), .str m] ∧ (p ++ 34 :: w ++ 34 :: r).length ≤ sizeLine ∧ w.all inName = true ∧ w ≠ [] ∧ w.length ≤ 20 ∧
  Q (.tup [tok "string" (.str (txt w)) p.length, .int (p.length + w.length + 2 : Nat)]) S
theorem sp_string : ∀ ds S E Q, GStr ds S E Q → ds.length = 3 ∧ a_read_string GRun (bodyEnds Q E) (startA 4 ds) S := by
  rintro ds S E Q ⟨p, w, r, m, rfl, hz, hw, hne, hl, q⟩
  refine ⟨rfl, ?_⟩
  have st : startA 4 [.str (txt (p ++ 34 :: w ++ 34 :: r)), .int (p.length : Nat), .str m] = [some (.str (txt (p ++ 34 :: w ++ 34 :: r))), some (.int (p.length : Nat)), some (.str m), none] := rfl
  rw [st]
  have same : p ++ 34 :: w ++ 34 :: r = (p ++ [34]) ++ w ++ (34 :: r) := by simp
  have hd : Word (p ++ [34]) w (34 :: r) := ⟨by rw [← same]; exact hz, hw, rfl⟩
  have i1 : ((p.length : Nat) : Int) + 1 = (((p ++ [34]).length : Nat) : Int) := by simp
  unfold a_read_string
  refine seqM fun N nx => ?_
  simp only [eq_self, ev, ev2, ev3, ev4, ofS_inj, bodyEnds, String.reduceEq, decide_false, decide_true, reduceCtorEq, List.length_cons, List.length_nil, Nat.reduceAdd, szs, true_and, flatD, List.all_cons, List.all_nil, Bool.and_self, Bool.or_false, Bool.false_or, Bool.or_true, Bool.true_or, Bool.and_true, Bool.true_and, Bool.and_false, Bool.false_and, Bool.not_true, Bool.not_false, i1, same]
  refine run_mk hd (nx _ _ ?_)
  clear nx N
  have wpos : 0 < w.length := List.length_pos_iff.mpr hne
  have pl : (p ++ [34]).length = p.length + 1 := by simp
  refine seqM fun N nx => ?_
  have e1 : decide ((((p ++ [34]).length + w.length : Nat) : Int) = (((p ++ [34]).length : Nat) : Int)) = false := decide_eq_false (by omega)
  have e2 : decide ((20 : Int) < (((p ++ [34]).length + w.length : Nat) : Int) - ((p.length : Nat) : Int) - 1) = false := decide_eq_false (by omega)
  have tl : ((p ++ [34]) ++ w ++ (34 :: r)).length = p.length + 1 + w.length + (r.length + 1) := by simp; omega
  have e3 : decide (((((p ++ [34]) ++ w ++ (34 :: r)).length : Nat) : Int) ≤ (((p ++ [34]).length + w.length : Nat) : Int)) = false := decide_eq_false (by omega)
  simp only [eq_self, ev, ev2, ev3, ev4, ofS_inj, bodyEnds, String.reduceEq, decide_false, decide_true, reduceCtorEq, List.length_cons, List.length_nil, Nat.reduceAdd, szs, true_and, flatD, List.all_cons, List.all_nil, Bool.and_self, Bool.or_false, Bool.false_or, Bool.or_true, Bool.true_or, Bool.and_true, Bool.true_and, Bool.and_false, Bool.false_and, Bool.not_true, Bool.not_false, cst, i1, e1, e2, txt_len, e3]
  have e4 : (((p ++ [34]).length + w.length : Nat) : Int) + 1 = ((p.length + w.length + 2 : Nat) : Int) := by omega
  refine ⟨hd.few, ix_txt (c := 34) (by omega) hd.few (by rw [Int.toNat_natCast, ← List.length_append]; exact get_mid) ?_⟩
  simp only [eq_self, ev, ev2, ev3, ev4, ofS_inj, bodyEnds, String.reduceEq, decide_false, decide_true, reduceCtorEq, List.length_cons, List.length_nil, Nat.reduceAdd, szs, true_and, flatD, List.all_cons, List.all_nil, Bool.and_self, Bool.or_false, Bool.false_or, Bool.or_true, Bool.true_or, Bool.and_true, Bool.true_and, Bool.and_false, Bool.false_and, Bool.not_true, Bool.not_false]
  refine nx _ _ ?_
  simp only [eq_self, ev, ev2, ev3, ev4, ofS_inj, bodyEnds, String.reduceEq, decide_false, decide_true, reduceCtorEq, List.length_cons, List.length_nil, Nat.reduceAdd, szs, true_and, flatD, List.all_cons, List.all_nil, Bool.and_self, Bool.or_false, Bool.false_or, Bool.or_true, Bool.true_or, Bool.and_true, Bool.true_and, Bool.and_false, Bool.false_and, Bool.not_true, Bool.not_false, i1, cut_mid, e4, txt_len]
  exact ⟨hd.few, q⟩
def signs : List (List Nat) := [[61, 61], [61], [60], [43], [45], [42], [46], [44], [59], [40], [41], [123], [125]]
theorem sgn : Str.ofString "==" = txt [61, 61] ∧ Str.ofString "=" = txt [61] ∧ Str.ofString "<" = txt [60] ∧ Str.ofString "+" = txt [43] ∧ Str.ofString "-" = txt [45] ∧ Str.ofString "*" = txt [42] ∧ Str.ofString "." = txt [46] ∧ Str.ofString "," = txt [44] ∧
    Str.ofString ";" = txt [59] ∧ Str.ofString "(" = txt [40] ∧ Str.ofString ")" = txt [41] ∧ Str.ofString "{" = txt [123] ∧ Str.ofString "}" = txt [125] := by decide +kernel
theorem starts_txt {p r g : List Nat} : Txt.startswith3 (txt (p ++ r)) (txt g) (p.length : Nat) = (g.isPrefixOf r) := by
  have fi : PySem.fromIndex (txt (p ++ r)).length ((p.length : Nat) : Int) = p.length := by
    show (max 0 (if ((p.length : Nat) : Int) < 0 then _ else ((p.length : Nat) : Int))).toNat = _
    rw [if_neg (by omega)]
    omega
  unfold Txt.startswith3
  rw [fi, StrLaws.subAt_eq, txt_cps, txt_cps, txt_len, txt_len, List.drop_left, Bool.eq_iff_iff]
  simp only [Bool.and_eq_true, decide_eq_true_eq, beq_iff_eq, List.isPrefixOf_iff_prefix, List.prefix_iff_eq_take, List.length_append]
  constructor
  · intro h; exact h.2.symm
  · intro h
    refine ⟨?_, h.symm⟩
    have := congrArg (fun z => List.length z) h
    rw [List.length_take] at this
    omega
/-- the first sign that a text begins with -/
def signOf (r : List Nat) : Option (List Nat) := signs.find? fun g => g.isPrefixOf r
def GSign : AFn := fun ds S E Q => ∃ p g r m, ds = [.str (txt (p ++ (g ++ r))), .int (p.length : Nat), .str m] ∧ (p ++ (g ++ r)).length ≤ sizeLine ∧ signOf (g ++ r) = some g ∧
  Q (.tup [tok "sign" (.str (txt g)) p.length, .int (p.length + g.length : Nat)]) S
theorem sp_sign : ∀ ds S E Q, GSign ds S E Q → ds.length = 3 ∧ a_read_sign (bodyEnds Q E) (startA 4 ds) S := by
  rintro ds S E Q ⟨p, g, r, m, rfl, hz, hg, q⟩
  refine ⟨rfl, ?_⟩
  have st : startA 4 [.str (txt (p ++ (g ++ r))), .int (p.length : Nat), .str m] = [some (.str (txt (p ++ (g ++ r)))), some (.int (p.length : Nat)), some (.str m), none] := rfl
  rw [st]
  unfold a_read_sign
  refine seqM fun N nx => ?_
  unfold aFor
  simp only [eq_self, ev, ev2, ev3, ev4, ofS_inj, bodyEnds, String.reduceEq, decide_false, decide_true, reduceCtorEq, List.length_cons, List.length_nil, Nat.reduceAdd, szs, true_and, flatD, List.all_cons, List.all_nil, Bool.and_self, Bool.or_false, Bool.false_or, Bool.or_true, Bool.true_or, Bool.and_true, Bool.true_and, Bool.and_false, Bool.false_and, Bool.not_true, Bool.not_false, srcOf, sgn]
  obtain ⟨i, hi, gi, before⟩ := List.find?_eq_some_iff_getElem.mp hg |>.2
  refine ⟨fun k ρ S' => S' = S ∧ k ≤ i ∧ ∃ x, ρ = [some (.str (txt (p ++ (g ++ r)))), some (.int (p.length : Nat)), some (.str m), x], ⟨rfl, Nat.zero_le _, _, rfl⟩, fun _ _ _ _ _ => trivial, ?_, ?_⟩
  · rintro k d ρ S' hd ⟨rfl, hk, x, rfl⟩
    have hd' : (signs.map fun g => D.str (txt g))[k]? = some d := hd
    rw [List.getElem?_map] at hd'
    obtain ⟨g', hg', rfl⟩ := Option.map_eq_some_iff.mp hd'
    simp only [eq_self, ev, ev2, ev3, ev4, ofS_inj, bodyEnds, String.reduceEq, decide_false, decide_true, reduceCtorEq, List.length_cons, List.length_nil, Nat.reduceAdd, szs, true_and, flatD, List.all_cons, List.all_nil, Bool.and_self, Bool.or_false, Bool.false_or, Bool.or_true, Bool.true_or, Bool.and_true, Bool.true_and, Bool.and_false, Bool.false_and, Bool.not_true, Bool.not_false, isTxt, starts_txt, txt_len]
    cases hp : g'.isPrefixOf (g ++ r) with
    | true =>
      have eg : g' = g := by
        obtain ⟨hlt, e⟩ := List.getElem?_eq_some_iff.mp hg'
        by_cases h : k = i
        · subst h
          rw [← e]; exact gi
        · have := before k (by omega)
          rw [e] at this
          simp [hp] at this
      subst eg
      have gl : g'.length ≤ sizeLine := Nat.le_trans (by simp; omega) hz
      simp only [eq_self, ev, ev2, ev3, ev4, ofS_inj, bodyEnds, String.reduceEq, decide_false, decide_true, reduceCtorEq, List.length_cons, List.length_nil, Nat.reduceAdd, szs, true_and, flatD, List.all_cons, List.all_nil, Bool.and_self, Bool.or_false, Bool.false_or, Bool.or_true, Bool.true_or, Bool.and_true, Bool.true_and, Bool.and_false, Bool.false_and, Bool.not_true, Bool.not_false]
      exact ⟨gl, q⟩
    | false =>
      simp only [eq_self, ev, ev2, ev3, ev4, ofS_inj, bodyEnds, String.reduceEq, decide_false, decide_true, reduceCtorEq, List.length_cons, List.length_nil, Nat.reduceAdd, szs, true_and, flatD, List.all_cons, List.all_nil, Bool.and_self, Bool.or_false, Bool.false_or, Bool.or_true, Bool.true_or, Bool.and_true, Bool.true_and, Bool.and_false, Bool.false_and, Bool.not_true, Bool.not_false]
      refine ⟨?_, _, rfl⟩
      obtain ⟨hlt, e⟩ := List.getElem?_eq_some_iff.mp hg'
      by_cases h : k = i
      · subst h
        have hh : (signs[k]).isPrefixOf (g ++ r) = true := by rw [gi]; simp
        rw [e, hp] at hh
        cases hh
      · omega
  · rintro ρ S' ⟨rfl, hk, _⟩
    have : i < signs.length := hi
    have h13 : (13 : Nat) ≤ i := hk
    have : signs.length = 13 := rfl
    omega
/-! ### a token -/
/-- u ahead of r, at pos, is the token t -/
inductive Tk : List Nat → List Nat → Nat → D → Prop
  | word {c : Nat} {w r : List Nat} {pos : Nat} (h1 : letter c = true) (h2 : w.all inName = true) (h3 : stop r = true) (h4 : isRes (txt (c :: w)) = true ∨ w.length + 1 ≤ 20) :
      Tk (c :: w) r pos (tok (if isRes (txt (c :: w)) then "word" else "name") (.str (txt (c :: w))) pos)
  | num {w r : List Nat} {pos : Nat} {n : Int} (h1 : Num w n) (h2 : stop r = true) : Tk w r pos (tok "number" (.int n) pos)
  | strg {w r : List Nat} {pos : Nat} (h1 : w.all inName = true) (h2 : w ≠ []) (h3 : w.length ≤ 20) : Tk (34 :: w ++ [34]) r pos (tok "string" (.str (txt w)) pos)
  | sign {c : Nat} {g r : List Nat} {pos : Nat} (h1 : signOf (c :: g ++ r) = some (c :: g)) (h2 : letter c = false) (h3 : digit c = false) (h4 : c ≠ 34) : Tk (c :: g) r pos (tok "sign" (.str (txt (c :: g))) pos)
def GTok : AFn := fun ds S E Q => ∃ p u r m t, ds = [.str (txt (p ++ (u ++ r))), .int (p.length : Nat), .str m] ∧ (p ++ (u ++ r)).length ≤ sizeLine ∧ Tk u r p.length t ∧ ∀ S', S <+: S' → Q (.tup [t, .int (p.length + u.length : Nat)]) S'
theorem letter_name {c : Nat} (h : letter c = true) : inName c = true := by simp only [inName, h, Bool.true_or]
theorem digit_letter {c : Nat} (h : digit c = true) : letter c = false := by
  unfold digit at h
  unfold letter
  simp only [decide_eq_true_eq, Bool.and_eq_true] at h
  simp only [Bool.or_eq_false_iff, Bool.and_eq_false_iff, decide_eq_false_iff_not]
  omega
theorem get_at {p r : List Nat} {c : Nat} : (p ++ (c :: r))[((p.length : Nat) : Int).toNat]? = some c := by rw [Int.toNat_natCast]; exact get_mid
theorem sp_token : ∀ ds S E Q, GTok ds S E Q → ds.length = 3 ∧ a_read_token (G1 letter) GWord (G1 digit) GNum GStr GSign (bodyEnds Q E) (startA 3 ds) S := by
  rintro ds S E Q ⟨p, u, r, m, t, rfl, hz, ht, q⟩
  refine ⟨rfl, ?_⟩
  have st : startA 3 [.str (txt (p ++ (u ++ r))), .int (p.length : Nat), .str m] = [some (.str (txt (p ++ (u ++ r)))), some (.int (p.length : Nat)), some (.str m)] := rfl
  rw [st]
  unfold a_read_token
  simp only [eq_self, ev, ev2, ev3, ev4, ofS_inj, bodyEnds, String.reduceEq, decide_false, decide_true, reduceCtorEq, List.length_cons, List.length_nil, Nat.reduceAdd, szs, true_and, flatD, List.all_cons, List.all_nil, Bool.and_self, Bool.or_false, Bool.false_or, Bool.or_true, Bool.true_or, Bool.and_true, Bool.true_and, Bool.and_false, Bool.false_and, Bool.not_true, Bool.not_false, cst]
  cases ht with
  | @word c w r pos h1 h2 h3 h4 =>
    refine ix_txt (c := c) (by omega) hz get_at (g1_mk ?_)
    simp only [h1, eq_self, ev, ev2, ev3, ev4, ofS_inj, bodyEnds, String.reduceEq, decide_false, decide_true, reduceCtorEq, List.length_cons, List.length_nil, Nat.reduceAdd, szs, true_and, flatD, List.all_cons, List.all_nil, Bool.and_self, Bool.or_false, Bool.false_or, Bool.or_true, Bool.true_or, Bool.and_true, Bool.true_and, Bool.and_false, Bool.false_and, Bool.not_true, Bool.not_false]
    refine ⟨p, c :: w, r, m, by simp, ⟨by rw [List.append_assoc]; exact hz, by simp only [List.all_cons, letter_name h1, h2, Bool.and_self], h3⟩, h4, ?_⟩
    exact q S pre_refl
  | @num w r pos n h1 h2 =>
    obtain ⟨c, w, rfl⟩ := List.exists_cons_of_ne_nil h1.ne
    have dc : digit c = true := by
      have := h1.dig
      simp only [List.all_cons, Bool.and_eq_true] at this
      exact this.1
    refine ix_txt (c := c) (by omega) hz get_at (g1_mk ?_)
    simp only [digit_letter dc, eq_self, ev, ev2, ev3, ev4, ofS_inj, bodyEnds, String.reduceEq, decide_false, decide_true, reduceCtorEq, List.length_cons, List.length_nil, Nat.reduceAdd, szs, true_and, flatD, List.all_cons, List.all_nil, Bool.and_self, Bool.or_false, Bool.false_or, Bool.or_true, Bool.true_or, Bool.and_true, Bool.true_and, Bool.and_false, Bool.false_and, Bool.not_true, Bool.not_false]
    refine ix_txt (c := c) (by omega) hz get_at (g1_mk ?_)
    simp only [dc, eq_self, ev, ev2, ev3, ev4, ofS_inj, bodyEnds, String.reduceEq, decide_false, decide_true, reduceCtorEq, List.length_cons, List.length_nil, Nat.reduceAdd, szs, true_and, flatD, List.all_cons, List.all_nil, Bool.and_self, Bool.or_false, Bool.false_or, Bool.or_true, Bool.true_or, Bool.and_true, Bool.true_and, Bool.and_false, Bool.false_and, Bool.not_true, Bool.not_false]
    exact ⟨p, c :: w, r, m, n, by simp, ⟨by rw [List.append_assoc]; exact hz, dig_name h1.dig, h2⟩, h1, q⟩
  | @strg w r pos h1 h2 h3 =>
    refine ix_txt (c := 34) (by omega) hz get_at (g1_mk ?_)
    have l34 : letter 34 = false := by decide
    have d34 : digit 34 = false := by decide
    simp only [l34, eq_self, ev, ev2, ev3, ev4, ofS_inj, bodyEnds, String.reduceEq, decide_false, decide_true, reduceCtorEq, List.length_cons, List.length_nil, Nat.reduceAdd, szs, true_and, flatD, List.all_cons, List.all_nil, Bool.and_self, Bool.or_false, Bool.false_or, Bool.or_true, Bool.true_or, Bool.and_true, Bool.true_and, Bool.and_false, Bool.false_and, Bool.not_true, Bool.not_false]
    refine ix_txt (c := 34) (by omega) hz get_at (g1_mk ?_)
    simp only [d34, eq_self, ev, ev2, ev3, ev4, ofS_inj, bodyEnds, String.reduceEq, decide_false, decide_true, reduceCtorEq, List.length_cons, List.length_nil, Nat.reduceAdd, szs, true_and, flatD, List.all_cons, List.all_nil, Bool.and_self, Bool.or_false, Bool.false_or, Bool.or_true, Bool.true_or, Bool.and_true, Bool.true_and, Bool.and_false, Bool.false_and, Bool.not_true, Bool.not_false]
    refine ix_txt (c := 34) (by omega) hz get_at ?_
    simp only [eq_self, ev, ev2, ev3, ev4, ofS_inj, bodyEnds, String.reduceEq, decide_false, decide_true, reduceCtorEq, List.length_cons, List.length_nil, Nat.reduceAdd, szs, true_and, flatD, List.all_cons, List.all_nil, Bool.and_self, Bool.or_false, Bool.false_or, Bool.or_true, Bool.true_or, Bool.and_true, Bool.true_and, Bool.and_false, Bool.false_and, Bool.not_true, Bool.not_false]
    refine ⟨p, w, r, m, by simp, by simpa using hz, h1, h2, h3, ?_⟩
    have := q S pre_refl
    have e : (34 :: w ++ [34]).length = w.length + 2 := by simp
    rw [e] at this
    exact this
  | @sign c g r pos h1 h2 h3 h4 =>
    refine ix_txt (c := c) (by omega) hz get_at (g1_mk ?_)
    simp only [h2, eq_self, ev, ev2, ev3, ev4, ofS_inj, bodyEnds, String.reduceEq, decide_false, decide_true, reduceCtorEq, List.length_cons, List.length_nil, Nat.reduceAdd, szs, true_and, flatD, List.all_cons, List.all_nil, Bool.and_self, Bool.or_false, Bool.false_or, Bool.or_true, Bool.true_or, Bool.and_true, Bool.true_and, Bool.and_false, Bool.false_and, Bool.not_true, Bool.not_false]
    refine ix_txt (c := c) (by omega) hz get_at (g1_mk ?_)
    simp only [h3, eq_self, ev, ev2, ev3, ev4, ofS_inj, bodyEnds, String.reduceEq, decide_false, decide_true, reduceCtorEq, List.length_cons, List.length_nil, Nat.reduceAdd, szs, true_and, flatD, List.all_cons, List.all_nil, Bool.and_self, Bool.or_false, Bool.false_or, Bool.or_true, Bool.true_or, Bool.and_true, Bool.true_and, Bool.and_false, Bool.false_and, Bool.not_true, Bool.not_false]
    refine ix_txt (c := c) (by omega) hz get_at ?_
    simp only [eq_self, ev, ev2, ev3, ev4, ofS_inj, bodyEnds, String.reduceEq, decide_false, decide_true, reduceCtorEq, List.length_cons, List.length_nil, Nat.reduceAdd, szs, true_and, flatD, List.all_cons, List.all_nil, Bool.and_self, Bool.or_false, Bool.false_or, Bool.or_true, Bool.true_or, Bool.and_true, Bool.true_and, Bool.and_false, Bool.false_and, Bool.not_true, Bool.not_false, txt_inj, List.cons.injEq, and_true, h4]
    exact ⟨p, c :: g, r, m, rfl, hz, h1, q S pre_refl⟩
/-! ### comments, all tokens -/
def nlStop : List Nat → Bool
  | [] => true
  | c :: _ => decide (c = 10)
def noNl (c : Nat) : Bool := !decide (c = 10)
def GCom : AFn := fun ds S E Q => ∃ p w r, ds = [.str (txt (p ++ w ++ r)), .int (p.length : Nat)] ∧ (p ++ w ++ r).length ≤ sizeLine ∧ w.all noNl = true ∧ nlStop r = true ∧ Q (.int (p.length + w.length : Nat)) S
theorem sp_com : ∀ ds S E Q, GCom ds S E Q → ds.length = 2 ∧ a_comment_end (bodyEnds Q E) (startA 2 ds) S := by
  rintro ds S E Q ⟨p, w, r, rfl, hz, hw, hr, q⟩
  refine ⟨rfl, ?_⟩
  have st : startA 2 [.str (txt (p ++ w ++ r)), .int (p.length : Nat)] = [some (.str (txt (p ++ w ++ r))), some (.int (p.length : Nat))] := rfl
  rw [st]
  unfold a_comment_end
  refine seqM fun N nx => while_mk ⟨fun m ρ S' => S' = S ∧ ∃ u v, w = u ++ v ∧ m = v.length ∧ ρ = [some (.str (txt (p ++ w ++ r))), some (.int ((p.length + u.length : Nat) : Int))], ⟨_, rfl, [], w, rfl, rfl, rfl⟩, ?_⟩
  rintro m ρ S' ⟨rfl, u, v, rfl, rfl, rfl⟩
  simp only [eq_self, ev, ev2, ev3, ev4, ofS_inj, bodyEnds, String.reduceEq, decide_false, decide_true, reduceCtorEq, List.length_cons, List.length_nil, Nat.reduceAdd, szs, true_and, flatD, List.all_cons, List.all_nil, Bool.and_self, Bool.or_false, Bool.false_or, Bool.or_true, Bool.true_or, Bool.and_true, Bool.true_and, Bool.and_false, Bool.false_and, Bool.not_true, Bool.not_false, txt_len, lt_nat, cst]
  refine ⟨hz, ?_⟩
  have same : p ++ (u ++ v) ++ r = (p ++ u) ++ (v ++ r) := by simp
  have len : (p ++ (u ++ v) ++ r).length = p.length + u.length + (v.length + r.length) := by simp; omega
  cases v with
  | cons c v =>
    have lt : p.length + u.length < (p ++ (u ++ c :: v) ++ r).length := by rw [len]; simp; omega
    simp only [lt, eq_self, ev, ev2, ev3, ev4, ofS_inj, bodyEnds, String.reduceEq, decide_false, decide_true, reduceCtorEq, List.length_cons, List.length_nil, Nat.reduceAdd, szs, true_and, flatD, List.all_cons, List.all_nil, Bool.and_self, Bool.or_false, Bool.false_or, Bool.or_true, Bool.true_or, Bool.and_true, Bool.true_and, Bool.and_false, Bool.false_and, Bool.not_true, Bool.not_false]
    have hc : noNl c = true := by
      rw [List.all_eq_true] at hw
      exact hw c (by simp)
    have c10 : decide (c = 10) = false := by simpa [noNl] using hc
    refine ix_txt (by omega) hz (c := c) (by rw [Int.toNat_natCast, same, ← List.length_append]; exact get_mid) ?_
    simp only [eq_self, ev, ev2, ev3, ev4, ofS_inj, bodyEnds, String.reduceEq, decide_false, decide_true, reduceCtorEq, List.length_cons, List.length_nil, Nat.reduceAdd, szs, true_and, flatD, List.all_cons, List.all_nil, Bool.and_self, Bool.or_false, Bool.false_or, Bool.or_true, Bool.true_or, Bool.and_true, Bool.true_and, Bool.and_false, Bool.false_and, Bool.not_true, Bool.not_false, txt_inj, List.cons.injEq, and_true, c10]
    refine ⟨v.length, by simp, u ++ [c], v, by simp, rfl, ?_⟩
    rw [List.length_append]; rw [List.length_singleton]
    congr 3
  | nil =>
    have done : N [some (.str (txt (p ++ (u ++ []) ++ r))), some (.int ((p.length + u.length : Nat) : Int))] S' := by
      refine nx _ _ ?_
      simp only [eq_self, ev, ev2, ev3, ev4, ofS_inj, bodyEnds, String.reduceEq, decide_false, decide_true, reduceCtorEq, List.length_cons, List.length_nil, Nat.reduceAdd, szs, true_and, flatD, List.all_cons, List.all_nil, Bool.and_self, Bool.or_false, Bool.false_or, Bool.or_true, Bool.true_or, Bool.and_true, Bool.true_and, Bool.and_false, Bool.false_and, Bool.not_true, Bool.not_false]
      simpa using q
    cases r with
    | nil =>
      have lt : ¬ p.length + u.length < (p ++ (u ++ []) ++ []).length := by simp
      simp only [lt, eq_self, ev, ev2, ev3, ev4, ofS_inj, bodyEnds, String.reduceEq, decide_false, decide_true, reduceCtorEq, List.length_cons, List.length_nil, Nat.reduceAdd, szs, true_and, flatD, List.all_cons, List.all_nil, Bool.and_self, Bool.or_false, Bool.false_or, Bool.or_true, Bool.true_or, Bool.and_true, Bool.true_and, Bool.and_false, Bool.false_and, Bool.not_true, Bool.not_false]
      exact done
    | cons c r =>
      have lt : p.length + u.length < (p ++ (u ++ []) ++ c :: r).length := by simp
      simp only [lt, eq_self, ev, ev2, ev3, ev4, ofS_inj, bodyEnds, String.reduceEq, decide_false, decide_true, reduceCtorEq, List.length_cons, List.length_nil, Nat.reduceAdd, szs, true_and, flatD, List.all_cons, List.all_nil, Bool.and_self, Bool.or_false, Bool.false_or, Bool.or_true, Bool.true_or, Bool.and_true, Bool.true_and, Bool.and_false, Bool.false_and, Bool.not_true, Bool.not_false]
      have hc : decide (c = 10) = true := by simpa [nlStop] using hr
      refine ix_txt (by omega) hz (c := c) (by rw [Int.toNat_natCast, same, ← List.length_append]; exact get_mid) ?_
      simp only [eq_self, ev, ev2, ev3, ev4, ofS_inj, bodyEnds, String.reduceEq, decide_false, decide_true, reduceCtorEq, List.length_cons, List.length_nil, Nat.reduceAdd, szs, true_and, flatD, List.all_cons, List.all_nil, Bool.and_self, Bool.or_false, Bool.false_or, Bool.or_true, Bool.true_or, Bool.and_true, Bool.true_and, Bool.and_false, Bool.false_and, Bool.not_true, Bool.not_false, txt_inj, List.cons.injEq, and_true, hc]
      exact done
/-- the text r, from the place pos on, has the tokens ts -/
inductive Lex : List Nat → Nat → List D → Prop
  | nil {pos : Nat} : Lex [] pos []
  | sp {c : Nat} {r : List Nat} {pos : Nat} {ts : List D} (h : c = 32 ∨ c = 9 ∨ c = 10) (l : Lex r (pos + 1) ts) : Lex (c :: r) pos ts
  | com {w r : List Nat} {pos : Nat} {ts : List D} (h1 : w.all noNl = true) (h2 : nlStop r = true) (l : Lex r (pos + (w.length + 1)) ts) : Lex (35 :: w ++ r) pos ts
  | tok {u r : List Nat} {pos : Nat} {t : D} {ts : List D} (h : Tk u r pos t) (l : Lex r (pos + u.length) ts) : Lex (u ++ r) pos (t :: ts)
/-- what a token begins with -/
theorem Tk.head {u r : List Nat} {pos : Nat} {t : D} (h : Tk u r pos t) : ∃ c w, u = c :: w ∧ c ≠ 32 ∧ c ≠ 9 ∧ c ≠ 10 ∧ c ≠ 35 := by
  cases h with
  | @word c w r pos h1 =>
    refine ⟨c, w, rfl, ?_⟩
    unfold letter at h1
    simp only [Bool.or_eq_true, Bool.and_eq_true, decide_eq_true_eq] at h1
    omega
  | num h1 =>
    obtain ⟨c, w, rfl⟩ := List.exists_cons_of_ne_nil h1.ne
    have dc := h1.dig
    simp only [List.all_cons, Bool.and_eq_true, digit, decide_eq_true_eq] at dc
    exact ⟨c, w, rfl, by omega⟩
  | strg => exact ⟨34, _, rfl, by decide⟩
  | @sign c g r pos h1 h2 h3 h4 =>
    refine ⟨c, g, rfl, ?_⟩
    have hm := List.mem_of_find?_eq_some h1
    simp only [signs, List.mem_cons, List.cons.injEq, List.not_mem_nil, or_false] at hm
    omega
def GTokens : AFn := fun ds S E Q => ∃ l m ts, ds = [.str (txt l), .str m] ∧ l.length ≤ 20000 ∧ Lex l 0 ts ∧ ∀ S' i, S <+: S' → S'[i]? = some (.lst ts) → Q (.ref i) S'
structure TW (S : Sto) (l : List Nat) (m : Str) (all : List D) (k : Nat) (ρ : Rho) (S' : Sto) : Prop where
  ex : ∃ p r ts acc x, l = p ++ r ∧ k = r.length ∧ S <+: S' ∧ S'[S.length]? = some (.lst acc) ∧ acc ++ ts = all ∧ acc.length ≤ p.length ∧ Lex r p.length ts ∧ ρ = [some (.str (txt l)), some (.str m), some (.ref S.length), some (.int (p.length : Nat)), x]
theorem seq_tup {S : Sto} {l : List D} : seqOf S (.tup l) = some l := rfl
theorem sp_tokens : ∀ ds S E Q, GTokens ds S E Q → ds.length = 2 ∧ a_tokens GCom GTok (bodyEnds Q E) (startA 5 ds) S := by
  rintro ds S E Q ⟨l, m, ts, rfl, hl, hx, q⟩
  refine ⟨rfl, ?_⟩
  have st : startA 5 [.str (txt l), .str m] = [some (.str (txt l)), some (.str m), none, none, none] := rfl
  rw [st]
  have hz : l.length ≤ sizeLine := Nat.le_trans hl (by decide)
  unfold a_tokens
  refine seqM fun N nx => ?_
  have e1 : decide ((20000 : Int) < ((l.length : Nat) : Int)) = false := decide_eq_false (by omega)
  simp only [eq_self, ev, ev2, ev3, ev4, ofS_inj, bodyEnds, String.reduceEq, decide_false, decide_true, reduceCtorEq, List.length_cons, List.length_nil, Nat.reduceAdd, szs, true_and, flatD, List.all_cons, List.all_nil, Bool.and_self, Bool.or_false, Bool.false_or, Bool.or_true, Bool.true_or, Bool.and_true, Bool.true_and, Bool.and_false, Bool.false_and, Bool.not_true, Bool.not_false, txt_len, e1]
  refine ⟨hz, nx _ _ ?_⟩
  clear nx N
  refine seqM fun N nx => ?_
  simp only [eq_self, ev, ev2, ev3, ev4, ofS_inj, bodyEnds, String.reduceEq, decide_false, decide_true, reduceCtorEq, List.length_cons, List.length_nil, Nat.reduceAdd, szs, true_and, flatD, List.all_cons, List.all_nil, Bool.and_self, Bool.or_false, Bool.false_or, Bool.or_true, Bool.true_or, Bool.and_true, Bool.true_and, Bool.and_false, Bool.false_and, Bool.not_true, Bool.not_false]
  refine nx _ _ ?_
  clear nx N
  refine seqM fun N nx => ?_
  simp only [eq_self, ev, ev2, ev3, ev4, ofS_inj, bodyEnds, String.reduceEq, decide_false, decide_true, reduceCtorEq, List.length_cons, List.length_nil, Nat.reduceAdd, szs, true_and, flatD, List.all_cons, List.all_nil, Bool.and_self, Bool.or_false, Bool.false_or, Bool.or_true, Bool.true_or, Bool.and_true, Bool.true_and, Bool.and_false, Bool.false_and, Bool.not_true, Bool.not_false]
  refine nx _ _ ?_
  clear nx N
  refine seqM fun N nx => while_mk ⟨TW S l m ts, ⟨_, [], l, ts, [], none, rfl, rfl, pre_app, at_end, rfl, Nat.le_refl _, hx, rfl⟩, ?_⟩
  rintro k ρ S' ⟨p, r, ts', acc, x, rfl, rfl, pre, hat, hall, hacc, hlex, rfl⟩
  simp only [eq_self, ev, ev2, ev3, ev4, ofS_inj, bodyEnds, String.reduceEq, decide_false, decide_true, reduceCtorEq, List.length_cons, List.length_nil, Nat.reduceAdd, szs, true_and, flatD, List.all_cons, List.all_nil, Bool.and_self, Bool.or_false, Bool.false_or, Bool.or_true, Bool.true_or, Bool.and_true, Bool.true_and, Bool.and_false, Bool.false_and, Bool.not_true, Bool.not_false, txt_len, lt_nat, cst]
  refine ⟨hz, ?_⟩
  cases hlex with
  | nil =>
    have lt : ¬ p.length < (p ++ ([] : List Nat)).length := by simp
    simp only [lt, eq_self, ev, ev2, ev3, ev4, ofS_inj, bodyEnds, String.reduceEq, decide_false, decide_true, reduceCtorEq, List.length_cons, List.length_nil, Nat.reduceAdd, szs, true_and, flatD, List.all_cons, List.all_nil, Bool.and_self, Bool.or_false, Bool.false_or, Bool.or_true, Bool.true_or, Bool.and_true, Bool.true_and, Bool.and_false, Bool.false_and, Bool.not_true, Bool.not_false]
    refine nx _ _ ?_
    simp only [eq_self, ev, ev2, ev3, ev4, ofS_inj, bodyEnds, String.reduceEq, decide_false, decide_true, reduceCtorEq, List.length_cons, List.length_nil, Nat.reduceAdd, szs, true_and, flatD, List.all_cons, List.all_nil, Bool.and_self, Bool.or_false, Bool.false_or, Bool.or_true, Bool.true_or, Bool.and_true, Bool.true_and, Bool.and_false, Bool.false_and, Bool.not_true, Bool.not_false]
    rw [List.append_nil] at hall
    exact q _ _ pre (by rw [hat, hall])
  | @sp c r _ _ h lx =>
    have lt : p.length < (p ++ c :: r).length := by simp
    simp only [lt, eq_self, ev, ev2, ev3, ev4, ofS_inj, bodyEnds, String.reduceEq, decide_false, decide_true, reduceCtorEq, List.length_cons, List.length_nil, Nat.reduceAdd, szs, true_and, flatD, List.all_cons, List.all_nil, Bool.and_self, Bool.or_false, Bool.false_or, Bool.or_true, Bool.true_or, Bool.and_true, Bool.true_and, Bool.and_false, Bool.false_and, Bool.not_true, Bool.not_false]
    refine ix_txt (c := c) (by omega) hz get_at ?_
    have inn : inF (.str (txt [c])) [D.str (txt [32]), D.str (txt [9]), D.str (txt [10])] = true := by
      rcases h with rfl | rfl | rfl <;> rfl
    simp only [eq_self, ev, ev2, ev3, ev4, ofS_inj, bodyEnds, String.reduceEq, decide_false, decide_true, reduceCtorEq, List.length_cons, List.length_nil, Nat.reduceAdd, szs, true_and, flatD, List.all_cons, List.all_nil, Bool.and_self, Bool.or_false, Bool.false_or, Bool.or_true, Bool.true_or, Bool.and_true, Bool.true_and, Bool.and_false, Bool.false_and, Bool.not_true, Bool.not_false, inn]
    exact ⟨r.length, by simp, p ++ [c], r, ts', acc, x, by simp, rfl, pre, hat, hall, by simp; omega, by simpa using lx, by simp⟩
  | @com w r _ _ h1 h2 lx =>
    have lt : p.length < (p ++ (35 :: w ++ r)).length := by simp
    simp only [lt, eq_self, ev, ev2, ev3, ev4, ofS_inj, bodyEnds, String.reduceEq, decide_false, decide_true, reduceCtorEq, List.length_cons, List.length_nil, Nat.reduceAdd, szs, true_and, flatD, List.all_cons, List.all_nil, Bool.and_self, Bool.or_false, Bool.false_or, Bool.or_true, Bool.true_or, Bool.and_true, Bool.true_and, Bool.and_false, Bool.false_and, Bool.not_true, Bool.not_false]
    refine ix_txt (c := 35) (by omega) hz (get_at (p := p) (r := w ++ r)) ?_
    have inn : inF (.str (txt [35])) [D.str (txt [32]), D.str (txt [9]), D.str (txt [10])] = false := by decide
    simp only [eq_self, ev, ev2, ev3, ev4, ofS_inj, bodyEnds, String.reduceEq, decide_false, decide_true, reduceCtorEq, List.length_cons, List.length_nil, Nat.reduceAdd, szs, true_and, flatD, List.all_cons, List.all_nil, Bool.and_self, Bool.or_false, Bool.false_or, Bool.or_true, Bool.true_or, Bool.and_true, Bool.true_and, Bool.and_false, Bool.false_and, Bool.not_true, Bool.not_false, inn]
    refine ix_txt (c := 35) (by omega) hz (get_at (p := p) (r := w ++ r)) ?_
    simp only [eq_self, ev, ev2, ev3, ev4, ofS_inj, bodyEnds, String.reduceEq, decide_false, decide_true, reduceCtorEq, List.length_cons, List.length_nil, Nat.reduceAdd, szs, true_and, flatD, List.all_cons, List.all_nil, Bool.and_self, Bool.or_false, Bool.false_or, Bool.or_true, Bool.true_or, Bool.and_true, Bool.true_and, Bool.and_false, Bool.false_and, Bool.not_true, Bool.not_false]
    refine ⟨p, 35 :: w, r, by simp, by simpa using hz, by simp only [List.all_cons, h1]; decide, h2, ?_⟩
    exact ⟨r.length, by simp; omega, p ++ 35 :: w, r, ts', acc, x, by simp, rfl, pre, hat, hall, by simp; omega, by simpa using lx, by simp⟩
  | @tok u r _ t ts2 h lx =>
    obtain ⟨c, w, rfl, c1, c2, c3, c4⟩ := h.head
    have lt : p.length < (p ++ (c :: w ++ r)).length := by simp
    simp only [lt, eq_self, ev, ev2, ev3, ev4, ofS_inj, bodyEnds, String.reduceEq, decide_false, decide_true, reduceCtorEq, List.length_cons, List.length_nil, Nat.reduceAdd, szs, true_and, flatD, List.all_cons, List.all_nil, Bool.and_self, Bool.or_false, Bool.false_or, Bool.or_true, Bool.true_or, Bool.and_true, Bool.true_and, Bool.and_false, Bool.false_and, Bool.not_true, Bool.not_false]
    refine ix_txt (c := c) (by omega) hz (get_at (p := p) (r := w ++ r)) ?_
    have inn : inF (.str (txt [c])) [D.str (txt [32]), D.str (txt [9]), D.str (txt [10])] = false := by
      simp only [inF, List.any_cons, List.any_nil, eqF, txt_inj, List.cons.injEq, and_true, Bool.or_false]
      simp only [Ne.symm c1, Ne.symm c2, Ne.symm c3, decide_false, Bool.or_self]
    simp only [eq_self, ev, ev2, ev3, ev4, ofS_inj, bodyEnds, String.reduceEq, decide_false, decide_true, reduceCtorEq, List.length_cons, List.length_nil, Nat.reduceAdd, szs, true_and, flatD, List.all_cons, List.all_nil, Bool.and_self, Bool.or_false, Bool.false_or, Bool.or_true, Bool.true_or, Bool.and_true, Bool.true_and, Bool.and_false, Bool.false_and, Bool.not_true, Bool.not_false, inn]
    refine ix_txt (c := c) (by omega) hz (get_at (p := p) (r := w ++ r)) ?_
    simp only [eq_self, ev, ev2, ev3, ev4, ofS_inj, bodyEnds, String.reduceEq, decide_false, decide_true, reduceCtorEq, List.length_cons, List.length_nil, Nat.reduceAdd, szs, true_and, flatD, List.all_cons, List.all_nil, Bool.and_self, Bool.or_false, Bool.false_or, Bool.or_true, Bool.true_or, Bool.and_true, Bool.true_and, Bool.and_false, Bool.false_and, Bool.not_true, Bool.not_false, txt_inj, List.cons.injEq, and_true, c4]
    refine ⟨p, c :: w, r, m, t, rfl, hz, h, fun S2 p2 => ?_⟩
    simp only [agTup, seq_tup, agCons, agNil, eq_self, ev, ev2, ev3, ev4, ofS_inj, bodyEnds, String.reduceEq, decide_false, decide_true, reduceCtorEq, List.length_cons, List.length_nil, Nat.reduceAdd, szs, true_and, flatD, List.all_cons, List.all_nil, Bool.and_self, Bool.or_false, Bool.false_or, Bool.or_true, Bool.true_or, Bool.and_true, Bool.true_and, Bool.and_false, Bool.false_and, Bool.not_true, Bool.not_false]
    have at2 := pre_get p2 hat
    have tail : acc.length < sizeLine := Nat.lt_of_le_of_lt (show acc.length ≤ 20000 by simp at hl; omega) (by decide)
    refine ⟨is_lst at2, lst_set at2 tail ?_⟩
    refine ⟨r.length, by simp; omega, p ++ c :: w, r, ts2, acc ++ [t], some t, by simp, rfl, set_pre (pre.trans p2) (Nat.le_refl _), List.getElem?_set_self (List.getElem?_eq_some_iff.mp at2).1, by simpa using hall, by simp; omega, by simpa using lx, by simp⟩
end Lx
namespace Ps
open PySem PySem.Spec
open PyProof.Rows L2 AL Ab Lx
/-! ### the reader -/
inductive Tv | s (x : Str) | n (i : Int)
def Tv.d : Tv → D
  | .s x => .str x
  | .n i => .int i
structure Tn where
  k : Str
  v : Tv
  pos : Nat
def Tn.d (t : Tn) : D := .tup [.str t.k, t.v.d, .int (t.pos : Int)]
structure Rd where
  t : Nat
  toks : List Tn
  lim : Int
  ins : Int
  md : D
abbrev Rd.fs (R : Rd) (t p : Nat) : List (Str × D) := [("rest", .ref t), ("module", R.md), ("place", .int (p : Int)), ("limit", .int R.lim), ("inside", .int R.ins)]
structure RdAt (S : Sto) (r : Nat) (R : Rd) (p : Nat) : Prop where
  ex : ∃ t, S[r]? = some (.ins "Reader" (R.fs t p)) ∧ S[t]? = some (.lst (R.toks.map Tn.d)) ∧ p ≤ R.toks.length ∧ t = R.t
theorem RdAt.kp {S S' : Sto} {r : Nat} {R : Rd} {p : Nat} (h : RdAt S r R p) (k : S <+: S') : RdAt S' r R p := by
  obtain ⟨t, h1, h2, h3⟩ := h.ex
  exact ⟨t, pre_get k h1, pre_get k h2, h3⟩
def Tn.is (t : Tn) (k x : Str) : Bool := decide (t.k = k) && (match t.v with | .s y => decide (y = x) | .n _ => false)
def Rd.sees (R : Rd) (p : Nat) (k x : Str) : Bool := match R.toks[p]? with
  | some t => t.is k x
  | none => false
def Rd.seesK (R : Rd) (p : Nat) (k : Str) : Bool := match R.toks[p]? with
  | some t => decide (t.k = k)
  | none => false
section
variable {R : Rd} {r p t : Nat} {S : Sto} {E : XA} {Q : VA}
theorem ins_ok {fs : List (Str × D)} {cl : Str} (h : S[r]? = some (.ins cl fs)) : insOf S cl (.ref r) = some fs := by simp [insOf, h]
theorem eq_tv (v : Tv) (x : Str) : oEq v.d (.str x) S Q = Q (.bl (match v with | .s y => decide (y = x) | .n _ => false)) S := by cases v <;> rfl
def GSees : AFn := fun ds S E Q => ∃ r R p k x, ds = [.ref r, .str k, .str x] ∧ RdAt S r R p ∧ Q (.bl (R.sees p k x)) S
theorem sp_sees : ∀ ds S E Q, GSees ds S E Q → ds.length = 3 ∧ a_Reader_sees (bodyEnds Q E) (startA 3 ds) S := by
  rintro ds S E Q ⟨r, R, p, k, x, rfl, h, q⟩
  refine ⟨rfl, ?_⟩
  have st : startA 3 [.ref r, .str k, .str x] = [some (.ref r), some (.str k), some (.str x)] := rfl
  rw [st]
  obtain ⟨t, h1, h2, h3⟩ := h.ex
  unfold a_Reader_sees
  simp only [eq_self, ev, ev2, ev3, ev4, ev5, ofS_inj, bodyEnds, String.reduceEq, decide_false, decide_true, reduceCtorEq, List.length_cons, List.length_nil, Nat.reduceAdd, szs, true_and, flatD, List.all_cons, List.all_nil, Bool.and_self, Bool.or_false, Bool.false_or, Bool.or_true, Bool.true_or, Bool.and_true, Bool.true_and, Bool.and_false, Bool.false_and, Bool.not_true, Bool.not_false, ins_ok h1, if_true, if_false]
  refine len_lst h2 ?_
  rw [List.length_map]
  unfold Rd.sees at q
  by_cases hp : p < R.toks.length
  · have e1 : decide (((R.toks.length : Nat) : Int) ≤ ((p : Nat) : Int)) = false := decide_eq_false (by omega)
    have e2 : R.toks[p]? = some R.toks[p] := List.getElem?_eq_getElem hp
    simp only [e2] at q
    have e3 : (R.toks.map Tn.d)[((p : Nat) : Int).toNat]? = some (R.toks[p]).d := by rw [Int.toNat_natCast, List.getElem?_map, e2]; rfl
    simp only [eq_self, ev, ev2, ev3, ev4, ev5, ofS_inj, bodyEnds, String.reduceEq, decide_false, decide_true, reduceCtorEq, List.length_cons, List.length_nil, Nat.reduceAdd, szs, true_and, flatD, List.all_cons, List.all_nil, Bool.and_self, Bool.or_false, Bool.false_or, Bool.or_true, Bool.true_or, Bool.and_true, Bool.true_and, Bool.and_false, Bool.false_and, Bool.not_true, Bool.not_false, e1, ins_ok h1, if_true, if_false]
    refine ix_lst h2 (by omega) e3 ?_
    simp only [Tn.d, eq_self, ev, ev2, ev3, ev4, ev5, ofS_inj, bodyEnds, String.reduceEq, decide_false, decide_true, reduceCtorEq, List.length_cons, List.length_nil, Nat.reduceAdd, szs, true_and, flatD, List.all_cons, List.all_nil, Bool.and_self, Bool.or_false, Bool.false_or, Bool.or_true, Bool.true_or, Bool.and_true, Bool.true_and, Bool.and_false, Bool.false_and, Bool.not_true, Bool.not_false]
    unfold Tn.is at q
    cases hk : decide ((R.toks[p]).k = k) <;> simp only [hk, eq_self, ev, ev2, ev3, ev4, ev5, ofS_inj, bodyEnds, String.reduceEq, decide_false, decide_true, reduceCtorEq, List.length_cons, List.length_nil, Nat.reduceAdd, szs, true_and, flatD, List.all_cons, List.all_nil, Bool.and_self, Bool.or_false, Bool.false_or, Bool.or_true, Bool.true_or, Bool.and_true, Bool.true_and, Bool.and_false, Bool.false_and, Bool.not_true, Bool.not_false, ins_ok h1, if_true, if_false] at q ⊢
    · exact q
    · refine ix_lst h2 (by omega) e3 ?_
      simp only [Tn.d, eq_self, ev, ev2, ev3, ev4, ev5, ofS_inj, bodyEnds, String.reduceEq, decide_false, decide_true, reduceCtorEq, List.length_cons, List.length_nil, Nat.reduceAdd, szs, true_and, flatD, List.all_cons, List.all_nil, Bool.and_self, Bool.or_false, Bool.false_or, Bool.or_true, Bool.true_or, Bool.and_true, Bool.true_and, Bool.and_false, Bool.false_and, Bool.not_true, Bool.not_false, eq_tv]
      exact q
  · have e1 : decide (((R.toks.length : Nat) : Int) ≤ ((p : Nat) : Int)) = true := decide_eq_true (by omega)
    have e2 : R.toks[p]? = none := List.getElem?_eq_none (by omega)
    simp only [e2] at q
    simp only [eq_self, ev, ev2, ev3, ev4, ev5, ofS_inj, bodyEnds, String.reduceEq, decide_false, decide_true, reduceCtorEq, List.length_cons, List.length_nil, Nat.reduceAdd, szs, true_and, flatD, List.all_cons, List.all_nil, Bool.and_self, Bool.or_false, Bool.false_or, Bool.or_true, Bool.true_or, Bool.and_true, Bool.true_and, Bool.and_false, Bool.false_and, Bool.not_true, Bool.not_false, e1]
    exact q
def GSeesK : AFn := fun ds S E Q => ∃ r R p k, ds = [.ref r, .str k] ∧ RdAt S r R p ∧ Q (.bl (R.seesK p k)) S
theorem sp_seesK : ∀ ds S E Q, GSeesK ds S E Q → ds.length = 2 ∧ a_Reader_sees_kind (bodyEnds Q E) (startA 2 ds) S := by
  rintro ds S E Q ⟨r, R, p, k, rfl, h, q⟩
  refine ⟨rfl, ?_⟩
  have st : startA 2 [.ref r, .str k] = [some (.ref r), some (.str k)] := rfl
  rw [st]
  obtain ⟨t, h1, h2, h3⟩ := h.ex
  unfold a_Reader_sees_kind
  simp only [eq_self, ev, ev2, ev3, ev4, ev5, ofS_inj, bodyEnds, String.reduceEq, decide_false, decide_true, reduceCtorEq, List.length_cons, List.length_nil, Nat.reduceAdd, szs, true_and, flatD, List.all_cons, List.all_nil, Bool.and_self, Bool.or_false, Bool.false_or, Bool.or_true, Bool.true_or, Bool.and_true, Bool.true_and, Bool.and_false, Bool.false_and, Bool.not_true, Bool.not_false, ins_ok h1, if_true, if_false]
  refine len_lst h2 ?_
  rw [List.length_map]
  unfold Rd.seesK at q
  by_cases hp : p < R.toks.length
  · have e1 : decide (((p : Nat) : Int) < ((R.toks.length : Nat) : Int)) = true := decide_eq_true (by omega)
    have e2 : R.toks[p]? = some R.toks[p] := List.getElem?_eq_getElem hp
    simp only [e2] at q
    have e3 : (R.toks.map Tn.d)[((p : Nat) : Int).toNat]? = some (R.toks[p]).d := by rw [Int.toNat_natCast, List.getElem?_map, e2]; rfl
    simp only [eq_self, ev, ev2, ev3, ev4, ev5, ofS_inj, bodyEnds, String.reduceEq, decide_false, decide_true, reduceCtorEq, List.length_cons, List.length_nil, Nat.reduceAdd, szs, true_and, flatD, List.all_cons, List.all_nil, Bool.and_self, Bool.or_false, Bool.false_or, Bool.or_true, Bool.true_or, Bool.and_true, Bool.true_and, Bool.and_false, Bool.false_and, Bool.not_true, Bool.not_false, e1, ins_ok h1, if_true, if_false]
    refine ix_lst h2 (by omega) e3 ?_
    simp only [Tn.d, eq_self, ev, ev2, ev3, ev4, ev5, ofS_inj, bodyEnds, String.reduceEq, decide_false, decide_true, reduceCtorEq, List.length_cons, List.length_nil, Nat.reduceAdd, szs, true_and, flatD, List.all_cons, List.all_nil, Bool.and_self, Bool.or_false, Bool.false_or, Bool.or_true, Bool.true_or, Bool.and_true, Bool.true_and, Bool.and_false, Bool.false_and, Bool.not_true, Bool.not_false]
    exact q
  · have e1 : decide (((p : Nat) : Int) < ((R.toks.length : Nat) : Int)) = false := decide_eq_false (by omega)
    have e2 : R.toks[p]? = none := List.getElem?_eq_none (by omega)
    simp only [e2] at q
    simp only [eq_self, ev, ev2, ev3, ev4, ev5, ofS_inj, bodyEnds, String.reduceEq, decide_false, decide_true, reduceCtorEq, List.length_cons, List.length_nil, Nat.reduceAdd, szs, true_and, flatD, List.all_cons, List.all_nil, Bool.and_self, Bool.or_false, Bool.false_or, Bool.or_true, Bool.true_or, Bool.and_true, Bool.true_and, Bool.and_false, Bool.false_and, Bool.not_true, Bool.not_false, e1]
    exact q
/-- the reader one token on -/
theorem step_at {t : Nat} (h1 : S[r]? = some (.ins "Reader" (R.fs t p))) (h2 : S[t]? = some (.lst (R.toks.map Tn.d))) (hp : p < R.toks.length) (ht : t = R.t) : RdAt (S.set r (.ins "Reader" (R.fs t (p + 1)))) r R (p + 1) := by
  refine ⟨t, List.getElem?_set_self (List.getElem?_eq_some_iff.mp h1).1, ?_, hp, ht⟩
  rw [List.getElem?_set_ne (fun z => by rw [← z, h1] at h2; cases h2)]
  exact h2
def GAcc : AFn := fun ds S E Q => ∃ r R p k x, ds = [.ref r, .str k, .str x] ∧ RdAt S r R p ∧ (R.sees p k x = false → Q (.bl false) S) ∧ (R.sees p k x = true → ∀ S', Kp r S S' → RdAt S' r R (p + 1) → Q (.bl true) S')
theorem sees_lt {R : Rd} {p : Nat} {k x : Str} (h : R.sees p k x = true) : p < R.toks.length := by
  unfold Rd.sees at h
  cases e : R.toks[p]? with
  | none => (rw [e] at h; cases h)
  | some t => exact (List.getElem?_eq_some_iff.mp e).1
theorem seesK_lt {R : Rd} {p : Nat} {k : Str} (h : R.seesK p k = true) : p < R.toks.length := by
  unfold Rd.seesK at h
  cases e : R.toks[p]? with
  | none => (rw [e] at h; cases h)
  | some t => exact (List.getElem?_eq_some_iff.mp e).1
theorem place_add : (((p : Nat) : Int) + 1) = ((p + 1 : Nat) : Int) := by omega
theorem sp_acc : ∀ ds S E Q, GAcc ds S E Q → ds.length = 3 ∧ a_Reader_accept GSees (bodyEnds Q E) (startA 3 ds) S := by
  rintro ds S E Q ⟨r, R, p, k, x, rfl, h, qf, qt⟩
  refine ⟨rfl, ?_⟩
  have st : startA 3 [.ref r, .str k, .str x] = [some (.ref r), some (.str k), some (.str x)] := rfl
  rw [st]
  have h' := h
  obtain ⟨t, h1, h2, h3⟩ := h.ex
  unfold a_Reader_accept
  simp only [eq_self, ev, ev2, ev3, ev4, ev5, ofS_inj, bodyEnds, String.reduceEq, decide_false, decide_true, reduceCtorEq, List.length_cons, List.length_nil, Nat.reduceAdd, szs, true_and, flatD, List.all_cons, List.all_nil, Bool.and_self, Bool.or_false, Bool.false_or, Bool.or_true, Bool.true_or, Bool.and_true, Bool.true_and, Bool.and_false, Bool.false_and, Bool.not_true, Bool.not_false, ins_ok h1, if_true, if_false]
  refine ⟨r, R, p, k, x, rfl, h', ?_⟩
  cases hs : R.sees p k x with
  | false => 
    simp only [eq_self, ev, ev2, ev3, ev4, ev5, ofS_inj, bodyEnds, String.reduceEq, decide_false, decide_true, reduceCtorEq, List.length_cons, List.length_nil, Nat.reduceAdd, szs, true_and, flatD, List.all_cons, List.all_nil, Bool.and_self, Bool.or_false, Bool.false_or, Bool.or_true, Bool.true_or, Bool.and_true, Bool.true_and, Bool.and_false, Bool.false_and, Bool.not_true, Bool.not_false]
    exact qf hs
  | true =>
    simp only [eq_self, ev, ev2, ev3, ev4, ev5, ofS_inj, bodyEnds, String.reduceEq, decide_false, decide_true, reduceCtorEq, List.length_cons, List.length_nil, Nat.reduceAdd, szs, true_and, flatD, List.all_cons, List.all_nil, Bool.and_self, Bool.or_false, Bool.false_or, Bool.or_true, Bool.true_or, Bool.and_true, Bool.true_and, Bool.and_false, Bool.false_and, Bool.not_true, Bool.not_false, ins_ok h1, if_true, if_false, place_add]
    exact ⟨by decide, qt hs _ Kp.own (step_at h1 h2 (sees_lt hs) h3.2)⟩
def GExp : AFn := fun ds S E Q => ∃ r R p k x, ds = [.ref r, .str k, .str x] ∧ RdAt S r R p ∧ R.sees p k x = true ∧ ∀ S', Kp r S S' → RdAt S' r R (p + 1) → Q .non S'
theorem sp_expct : ∀ ds S E Q, GExp ds S E Q → ds.length = 3 ∧ a_Reader_expect GAcc (bodyEnds Q E) (startA 3 ds) S := by
  rintro ds S E Q ⟨r, R, p, k, x, rfl, h, hs, q⟩
  refine ⟨rfl, ?_⟩
  have st : startA 3 [.ref r, .str k, .str x] = [some (.ref r), some (.str k), some (.str x)] := rfl
  rw [st]
  have h' := h
  obtain ⟨t, h1, h2, h3⟩ := h.ex
  unfold a_Reader_expect
  simp only [eq_self, ev, ev2, ev3, ev4, ev5, ofS_inj, bodyEnds, String.reduceEq, decide_false, decide_true, reduceCtorEq, List.length_cons, List.length_nil, Nat.reduceAdd, szs, true_and, flatD, List.all_cons, List.all_nil, Bool.and_self, Bool.or_false, Bool.false_or, Bool.or_true, Bool.true_or, Bool.and_true, Bool.true_and, Bool.and_false, Bool.false_and, Bool.not_true, Bool.not_false, ins_ok h1, if_true, if_false]
  refine ⟨r, R, p, k, x, rfl, h', fun z => (by rw [hs] at z; cases z), fun _ S' kp rd => ?_⟩
  simp only [eq_self, ev, ev2, ev3, ev4, ev5, ofS_inj, bodyEnds, String.reduceEq, decide_false, decide_true, reduceCtorEq, List.length_cons, List.length_nil, Nat.reduceAdd, szs, true_and, flatD, List.all_cons, List.all_nil, Bool.and_self, Bool.or_false, Bool.false_or, Bool.or_true, Bool.true_or, Bool.and_true, Bool.true_and, Bool.and_false, Bool.false_and, Bool.not_true, Bool.not_false]
  exact q _ kp rd
def GRead : AFn := fun ds S E Q => ∃ r R p k t, ds = [.ref r, .str k] ∧ RdAt S r R p ∧ R.toks[p]? = some t ∧ t.k = k ∧ ∀ S', Kp r S S' → RdAt S' r R (p + 1) → Q t.v.d S'
theorem sp_read : ∀ ds S E Q, GRead ds S E Q → ds.length = 2 ∧ a_Reader_read GSeesK (bodyEnds Q E) (startA 2 ds) S := by
  rintro ds S E Q ⟨r, R, p, k, tk, rfl, h, ht, hk, q⟩
  refine ⟨rfl, ?_⟩
  have st : startA 2 [.ref r, .str k] = [some (.ref r), some (.str k)] := rfl
  rw [st]
  have h' := h
  obtain ⟨t, h1, h2, h3⟩ := h.ex
  have hp := (List.getElem?_eq_some_iff.mp ht).1
  unfold a_Reader_read
  refine seqM fun N nx => ?_
  simp only [eq_self, ev, ev2, ev3, ev4, ev5, ofS_inj, bodyEnds, String.reduceEq, decide_false, decide_true, reduceCtorEq, List.length_cons, List.length_nil, Nat.reduceAdd, szs, true_and, flatD, List.all_cons, List.all_nil, Bool.and_self, Bool.or_false, Bool.false_or, Bool.or_true, Bool.true_or, Bool.and_true, Bool.true_and, Bool.and_false, Bool.false_and, Bool.not_true, Bool.not_false, ins_ok h1, if_true, if_false]
  refine ⟨r, R, p, k, rfl, h', ?_⟩
  have sk : R.seesK p k = true := by unfold Rd.seesK; rw [ht]; exact decide_eq_true hk
  simp only [sk, eq_self, ev, ev2, ev3, ev4, ev5, ofS_inj, bodyEnds, String.reduceEq, decide_false, decide_true, reduceCtorEq, List.length_cons, List.length_nil, Nat.reduceAdd, szs, true_and, flatD, List.all_cons, List.all_nil, Bool.and_self, Bool.or_false, Bool.false_or, Bool.or_true, Bool.true_or, Bool.and_true, Bool.true_and, Bool.and_false, Bool.false_and, Bool.not_true, Bool.not_false]
  refine nx _ _ ?_
  clear nx N
  refine seqM fun N nx => ?_
  simp only [eq_self, ev, ev2, ev3, ev4, ev5, ofS_inj, bodyEnds, String.reduceEq, decide_false, decide_true, reduceCtorEq, List.length_cons, List.length_nil, Nat.reduceAdd, szs, true_and, flatD, List.all_cons, List.all_nil, Bool.and_self, Bool.or_false, Bool.false_or, Bool.or_true, Bool.true_or, Bool.and_true, Bool.true_and, Bool.and_false, Bool.false_and, Bool.not_true, Bool.not_false, ins_ok h1, if_true, if_false, place_add]
  refine ⟨by decide, nx _ _ ?_⟩
  clear nx N
  have rd := step_at h1 h2 hp h3.2
  have kp : Kp r S (S.set r (.ins "Reader" (R.fs t (p + 1)))) := Kp.own
  have qq := q _ kp rd
  have g1 : (S.set r (.ins "Reader" (R.fs t (p + 1))))[r]? = some (.ins "Reader" (R.fs t (p + 1))) := List.getElem?_set_self (List.getElem?_eq_some_iff.mp h1).1
  have g2 : (S.set r (.ins "Reader" (R.fs t (p + 1))))[t]? = some (.lst (R.toks.map Tn.d)) := kp.at h2 fun z => by rw [z, h1] at h2; cases h2
  show aRet _ _ _ (S.set r (.ins "Reader" (R.fs t (p + 1))))
  generalize S.set r (.ins "Reader" (R.fs t (p + 1))) = S1 at g1 g2 qq ⊢
  have back : (((p + 1 : Nat) : Int) - 1) = (p : Int) := by omega
  have e3 : (R.toks.map Tn.d)[((p : Nat) : Int).toNat]? = some tk.d := by rw [Int.toNat_natCast, List.getElem?_map, ht]; rfl
  simp only [eq_self, ev, ev2, ev3, ev4, ev5, ofS_inj, bodyEnds, String.reduceEq, decide_false, decide_true, reduceCtorEq, List.length_cons, List.length_nil, Nat.reduceAdd, szs, true_and, flatD, List.all_cons, List.all_nil, Bool.and_self, Bool.or_false, Bool.false_or, Bool.or_true, Bool.true_or, Bool.and_true, Bool.true_and, Bool.and_false, Bool.false_and, Bool.not_true, Bool.not_false, ins_ok g1, if_true, if_false, back]
  refine ix_lst g2 (by omega) e3 ?_
  simp only [Tn.d, eq_self, ev, ev2, ev3, ev4, ev5, ofS_inj, bodyEnds, String.reduceEq, decide_false, decide_true, reduceCtorEq, List.length_cons, List.length_nil, Nat.reduceAdd, szs, true_and, flatD, List.all_cons, List.all_nil, Bool.and_self, Bool.or_false, Bool.false_or, Bool.or_true, Bool.true_or, Bool.and_true, Bool.true_and, Bool.and_false, Bool.false_and, Bool.not_true, Bool.not_false]
  exact qq
def GDeep : AFn := fun ds S E Q => ∃ d, ∃ l : Nat, ds = [d, .int (l : Int)] ∧ l < 40 ∧ Q (.int ((l + 1 : Nat) : Int)) S
theorem sp_deep : ∀ ds S E Q, GDeep ds S E Q → ds.length = 2 ∧ a_Reader_deeper (bodyEnds Q E) (startA 2 ds) S := by
  rintro ds S E Q ⟨d, l, rfl, hl, q⟩
  refine ⟨rfl, ?_⟩
  have st : startA 2 [d, .int (l : Int)] = [some d, some (.int (l : Int))] := rfl
  rw [st]
  unfold a_Reader_deeper
  have e : decide ((40 : Int) ≤ ((l : Nat) : Int)) = false := decide_eq_false (by omega)
  simp only [eq_self, ev, ev2, ev3, ev4, ev5, ofS_inj, bodyEnds, String.reduceEq, decide_false, decide_true, reduceCtorEq, List.length_cons, List.length_nil, Nat.reduceAdd, szs, true_and, flatD, List.all_cons, List.all_nil, Bool.and_self, Bool.or_false, Bool.false_or, Bool.or_true, Bool.true_or, Bool.and_true, Bool.true_and, Bool.and_false, Bool.false_and, Bool.not_true, Bool.not_false, e, place_add]
  exact q
def Rd.at_ (R : Rd) (p : Nat) : Int := match R.toks[p]? with
  | some t => (t.pos : Int)
  | none => R.lim
def GAt : AFn := fun ds S E Q => ∃ r R p, ds = [.ref r] ∧ RdAt S r R p ∧ Q (.int (R.at_ p)) S
theorem sp_at : ∀ ds S E Q, GAt ds S E Q → ds.length = 1 ∧ a_Reader_at (bodyEnds Q E) (startA 1 ds) S := by
  rintro ds S E Q ⟨r, R, p, rfl, h, q⟩
  refine ⟨rfl, ?_⟩
  have st : startA 1 [.ref r] = [some (.ref r)] := rfl
  rw [st]
  obtain ⟨t, h1, h2, h3⟩ := h.ex
  unfold a_Reader_at
  simp only [eq_self, ev, ev2, ev3, ev4, ev5, ofS_inj, bodyEnds, String.reduceEq, decide_false, decide_true, reduceCtorEq, List.length_cons, List.length_nil, Nat.reduceAdd, szs, true_and, flatD, List.all_cons, List.all_nil, Bool.and_self, Bool.or_false, Bool.false_or, Bool.or_true, Bool.true_or, Bool.and_true, Bool.true_and, Bool.and_false, Bool.false_and, Bool.not_true, Bool.not_false, ins_ok h1, if_true, if_false]
  refine len_lst h2 ?_
  rw [List.length_map]
  unfold Rd.at_ at q
  by_cases hp : p < R.toks.length
  · have e1 : decide (((p : Nat) : Int) < ((R.toks.length : Nat) : Int)) = true := decide_eq_true (by omega)
    have e2 : R.toks[p]? = some R.toks[p] := List.getElem?_eq_getElem hp
    simp only [e2] at q
    have e3 : (R.toks.map Tn.d)[((p : Nat) : Int).toNat]? = some (R.toks[p]).d := by rw [Int.toNat_natCast, List.getElem?_map, e2]; rfl
    simp only [eq_self, ev, ev2, ev3, ev4, ev5, ofS_inj, bodyEnds, String.reduceEq, decide_false, decide_true, reduceCtorEq, List.length_cons, List.length_nil, Nat.reduceAdd, szs, true_and, flatD, List.all_cons, List.all_nil, Bool.and_self, Bool.or_false, Bool.false_or, Bool.or_true, Bool.true_or, Bool.and_true, Bool.true_and, Bool.and_false, Bool.false_and, Bool.not_true, Bool.not_false, e1, ins_ok h1, if_true, if_false]
    refine ix_lst h2 (by omega) e3 ?_
    simp only [Tn.d, eq_self, ev, ev2, ev3, ev4, ev5, ofS_inj, bodyEnds, String.reduceEq, decide_false, decide_true, reduceCtorEq, List.length_cons, List.length_nil, Nat.reduceAdd, szs, true_and, flatD, List.all_cons, List.all_nil, Bool.and_self, Bool.or_false, Bool.false_or, Bool.or_true, Bool.true_or, Bool.and_true, Bool.true_and, Bool.and_false, Bool.false_and, Bool.not_true, Bool.not_false]
    exact q
  · have e1 : decide (((p : Nat) : Int) < ((R.toks.length : Nat) : Int)) = false := decide_eq_false (by omega)
    have e2 : R.toks[p]? = none := List.getElem?_eq_none (by omega)
    simp only [e2] at q
    simp only [eq_self, ev, ev2, ev3, ev4, ev5, ofS_inj, bodyEnds, String.reduceEq, decide_false, decide_true, reduceCtorEq, List.length_cons, List.length_nil, Nat.reduceAdd, szs, true_and, flatD, List.all_cons, List.all_nil, Bool.and_self, Bool.or_false, Bool.false_or, Bool.or_true, Bool.true_or, Bool.and_true, Bool.true_and, Bool.and_false, Bool.false_and, Bool.not_true, Bool.not_false, e1, ins_ok h1, if_true, if_false]
    exact q
end
end Ps
namespace Ps
open PySem PySem.Spec
open PyProof.Rows L2 AL Ab Lx
/-! ### expressions: what is read -/
def Rd.tk (R : Rd) (p : Nat) (k x : Str) : Prop := ∃ pos, R.toks[p]? = some ⟨k, .s x, pos⟩
theorem tk_sees {R : Rd} {p : Nat} {k x : Str} (h : R.tk p k x) (k' x' : Str) : R.sees p k' x' = (decide (k = k') && decide (x = x')) := by
  obtain ⟨pos, h⟩ := h
  unfold Rd.sees
  rw [h]
  rfl
theorem num_sees {R : Rd} {p : Nat} {t : Tn} (h : R.toks[p]? = some t) (k' x' : Str) (hk : t.k ≠ k') : R.sees p k' x' = false := by
  unfold Rd.sees
  rw [h]
  show (decide (t.k = k') && _) = false
  rw [decide_eq_false hk]
  rfl
theorem k_sees {R : Rd} {p : Nat} {t : Tn} (h : R.toks[p]? = some t) (k' : Str) : R.seesK p k' = decide (t.k = k') := by
  unfold Rd.seesK
  rw [h]
inductive Bn | prod | both | exp
inductive Nt | args | argsL (es : List D) | prim | call | callL | sum | sumL | plain | bin (b : Bn) | binL (b : Bn)
abbrev Bn.sub : Bn → Nt
  | .prod => .call
  | .both => .plain
  | .exp => .bin .both
abbrev Bn.kd : Bn → Str
  | .prod => "sign"
  | .both => "word"
  | .exp => "word"
abbrev Bn.sg : Bn → Str
  | .prod => "*"
  | .both => "and"
  | .exp => "or"
abbrev Bn.op : Bn → Str
  | .prod => "mul"
  | .both => "and"
  | .exp => "or"
abbrev Nt.ex : Nt := .bin .exp
def sumOp : Str → Option Str := fun x => if x = "+" then some "add" else if x = "-" then some "sub" else none
def cmpOp : Str → Option Str := fun x => if x = "<" then some "lt" else if x = "==" then some "eq" else none
/-- P R k n l a p e q: at place p and level l, with a on the left, the part n is read as e, up to place q, with at most k calls one in the other -/
inductive P (R : Rd) : Nat → Nt → Nat → D → Nat → D → Nat → Prop
  | tru {k l a p} : R.tk p "word" "true" → P R (k + 1) .prim l a p (.tup [.str "bool", .bl true]) (p + 1)
  | fls {k l a p} : R.tk p "word" "false" → P R (k + 1) .prim l a p (.tup [.str "bool", .bl false]) (p + 1)
  | non {k l a p} : R.tk p "word" "none" → P R (k + 1) .prim l a p (.tup [.str "none"]) (p + 1)
  | ask {k l a p e q} : R.tk p "word" "ask" → R.tk (p + 1) "sign" "(" → l < 40 → P R k .ex (l + 1) .non (p + 2) e q → R.tk q "sign" ")" → P R (k + 1) .prim l a p (.tup [.str "ask", e, .int (R.at_ p)]) (q + 1)
  | par {k l a p e q} : R.tk p "sign" "(" → l < 40 → P R k .ex (l + 1) .non (p + 1) e q → R.tk q "sign" ")" → P R (k + 1) .prim l a p e (q + 1)
  | num {k l a p t} : R.toks[p]? = some t → t.k = ("number" : Str) → P R (k + 1) .prim l a p (.tup [.str "int", t.v.d]) (p + 1)
  | var {k l a p x} : R.tk p "name" x → R.sees (p + 1) "sign" "." = false → P R (k + 1) .prim l a p (.tup [.str "var", .str x]) (p + 1)
  | mem {k l a p x y} : R.tk p "name" x → R.tk (p + 1) "sign" "." → R.tk (p + 2) "name" y → P R (k + 1) .prim l a p (.tup [.str "member", .str x, .str y]) (p + 3)
  | arg0 {k l a p} : R.tk p "sign" ")" → P R (k + 1) .args l a p (.tup []) (p + 1)
  | arg1 {k l a p e q f z} : R.sees p "sign" ")" = false → l < 40 → P R k .ex (l + 1) .non p e q → P R (k + 1) (.argsL [e]) l .non q f z → P R (k + 1) .args l a p f z
  | argE {k l a p es} : R.tk p "sign" ")" → es.length < 20000 → P R (k + 1) (.argsL es) l a p (.tup es) (p + 1)
  | argN {k l a p e q f z es} : R.tk p "sign" "," → es.length < 20000 → l < 40 → P R k .ex (l + 1) .non (p + 1) e q → P R (k + 1) (.argsL (es ++ [e])) l a q f z → P R (k + 1) (.argsL es) l a p f z
  | call {k l a p e q f z} : P R k .prim l .non p e q → P R (k + 1) .callL l e q f z → P R (k + 1) .call l a p f z
  | callE {k l a p} : R.sees p "sign" "(" = false → P R (k + 1) .callL l a p a p
  | callN {k l a p g q f z} : R.tk p "sign" "(" → l < 40 → P R k .args (l + 1) .non (p + 1) g q → P R (k + 1) .callL (l + 1) (.tup [.str "call", a, g]) q f z → P R (k + 1) .callL l a p f z
  | bin {k l a p e q f z b} : P R k b.sub l .non p e q → P R (k + 1) (.binL b) l e q f z → P R (k + 1) (.bin b) l a p f z
  | binE {k l a p b} : R.sees p b.kd b.sg = false → P R (k + 1) (.binL b) l a p a p
  | binN {k l a p e q f z b} : R.tk p b.kd b.sg → l < 40 → P R k b.sub (l + 1) .non (p + 1) e q → P R (k + 1) (.binL b) (l + 1) (.tup [.str b.op, a, e]) q f z → P R (k + 1) (.binL b) l a p f z
  | sum {k l a p e q f z} : P R k (.bin .prod) l .non p e q → P R (k + 1) .sumL l e q f z → P R (k + 1) .sum l a p f z
  | sumE {k l a p} : R.sees p "sign" "+" = false → R.sees p "sign" "-" = false → P R (k + 1) .sumL l a p a p
  | sumN {k l a p e q f z x o} : R.tk p "sign" x → sumOp x = some o → l < 40 → P R k (.bin .prod) (l + 1) .non (p + 1) e q → P R (k + 1) .sumL (l + 1) (.tup [.str o, a, e]) q f z → P R (k + 1) .sumL l a p f z
  | pnot {k l a p e q} : R.tk p "word" "not" → l < 40 → P R k .plain (l + 1) .non (p + 1) e q → P R (k + 1) .plain l a p (.tup [.str "not", e]) q
  | pone {k l a p e q} : R.sees p "word" "not" = false → P R k .sum l .non p e q → R.sees q "sign" "<" = false → R.sees q "sign" "==" = false → P R (k + 1) .plain l a p e q
  | pcmp {k l a p e q x o f z} : R.sees p "word" "not" = false → P R k .sum l .non p e q → R.tk q "sign" x → cmpOp x = some o → l < 40 → P R k .sum (l + 1) .non (q + 1) f z → P R (k + 1) .plain l a p (.tup [.str o, e, f]) z
theorem P.le {R : Rd} {k : Nat} {n : Nt} {l : Nat} {a : D} {p : Nat} {e : D} {q : Nat} (h : P R k n l a p e q) : p ≤ q := by
  induction h <;> omega
def GP (n : Nt) (k : Nat) : AFn := fun ds S E Q => ∃ r R, ∃ l : Nat, ∃ p e q, ds = [.ref r, .int (l : Int)] ∧ RdAt S r R p ∧ P R k n l .non p e q ∧ ∀ S', Kp r S S' → RdAt S' r R q → Q e S'
theorem gp0 {n : Nt} (ds : List D) (S : Sto) (E : XA) (Q : VA) (h : GP n 0 ds S E Q) : False := by
  obtain ⟨r, R, l, p, e, q, _, _, h, _⟩ := h
  cases h
section
variable {R : Rd} {r p k : Nat} {S : Sto} {E : XA} {Q : VA}
theorem ins_rd (h : RdAt S r R p) : insOf S "Reader" (.ref r) = some (R.fs (Classical.choose h.ex) p) := ins_ok (Classical.choose_spec h.ex).1
theorem acc_no {kd x : Str} (h : RdAt S r R p) (hs : R.sees p kd x = false) (q : Q (.bl false) S) : GAcc [.ref r, .str kd, .str x] S E Q :=
  ⟨r, R, p, kd, x, rfl, h, fun _ => q, fun z => (by rw [hs] at z; cases z)⟩
theorem acc_yes {kd x : Str} (h : RdAt S r R p) (hs : R.sees p kd x = true) (q : ∀ S', Kp r S S' → RdAt S' r R (p + 1) → Q (.bl true) S') : GAcc [.ref r, .str kd, .str x] S E Q :=
  ⟨r, R, p, kd, x, rfl, h, fun z => (by rw [hs] at z; cases z), fun _ => q⟩
theorem tk_yes {kd x : Str} (h : R.tk p kd x) : R.sees p kd x = true := by rw [tk_sees h]; simp
/-- accept tells that nothing is there, nothing changes -/
theorem accNo {ao : ATE} {t : ATA} {ρ : Rho} {kd x : Str} {Q : Bool → Sto → Prop} (h : RdAt S r R p) (e : ao ρ S E = fun q => q (.ref r) S) (ht : t ρ S E = fun q => q [.str kd, .str x] S) (hs : R.sees p kd x = false) (q : Q false S) : aB (aMeth "Reader" "accept" GAcc ao t) ρ S E Q := by
  simp only [eq_self, ev, ev2, ev3, ev4, ev5, ofS_inj, bodyEnds, String.reduceEq, decide_false, decide_true, reduceCtorEq, List.length_cons, List.length_nil, Nat.reduceAdd, szs, true_and, flatD, List.all_cons, List.all_nil, Bool.and_self, Bool.or_false, Bool.false_or, Bool.or_true, Bool.true_or, Bool.and_true, Bool.true_and, Bool.and_false, Bool.false_and, Bool.not_true, Bool.not_false, e, ins_rd h, if_true, if_false, ht]
  exact acc_no h hs (by simp only [eq_self, ev, ev2, ev3, ev4, ev5, ofS_inj, bodyEnds, String.reduceEq, decide_false, decide_true, reduceCtorEq, List.length_cons, List.length_nil, Nat.reduceAdd, szs, true_and, flatD, List.all_cons, List.all_nil, Bool.and_self, Bool.or_false, Bool.false_or, Bool.or_true, Bool.true_or, Bool.and_true, Bool.true_and, Bool.and_false, Bool.false_and, Bool.not_true, Bool.not_false]; exact q)
theorem accYes {ao : ATE} {t : ATA} {ρ : Rho} {kd x : Str} {Q : Bool → Sto → Prop} (h : RdAt S r R p) (e : ao ρ S E = fun q => q (.ref r) S) (ht : t ρ S E = fun q => q [.str kd, .str x] S) (hs : R.tk p kd x) (q : ∀ S', Kp r S S' → RdAt S' r R (p + 1) → Q true S') : aB (aMeth "Reader" "accept" GAcc ao t) ρ S E Q := by
  simp only [eq_self, ev, ev2, ev3, ev4, ev5, ofS_inj, bodyEnds, String.reduceEq, decide_false, decide_true, reduceCtorEq, List.length_cons, List.length_nil, Nat.reduceAdd, szs, true_and, flatD, List.all_cons, List.all_nil, Bool.and_self, Bool.or_false, Bool.false_or, Bool.or_true, Bool.true_or, Bool.and_true, Bool.true_and, Bool.and_false, Bool.false_and, Bool.not_true, Bool.not_false, e, ins_rd h, if_true, if_false, ht]
  exact acc_yes h (tk_yes hs) (by simp only [eq_self, ev, ev2, ev3, ev4, ev5, ofS_inj, bodyEnds, String.reduceEq, decide_false, decide_true, reduceCtorEq, List.length_cons, List.length_nil, Nat.reduceAdd, szs, true_and, flatD, List.all_cons, List.all_nil, Bool.and_self, Bool.or_false, Bool.false_or, Bool.or_true, Bool.true_or, Bool.and_true, Bool.true_and, Bool.and_false, Bool.false_and, Bool.not_true, Bool.not_false]; exact q)
theorem expct {ao : ATE} {t : ATA} {ρ : Rho} {kd x : Str} {Q : VA} (h : RdAt S r R p) (e : ao ρ S E = fun q => q (.ref r) S) (ht : t ρ S E = fun q => q [.str kd, .str x] S) (hs : R.tk p kd x) (q : ∀ S', Kp r S S' → RdAt S' r R (p + 1) → Q .non S') : aMeth "Reader" "expect" GExp ao t ρ S E Q := by
  simp only [eq_self, ev, ev2, ev3, ev4, ev5, ofS_inj, bodyEnds, String.reduceEq, decide_false, decide_true, reduceCtorEq, List.length_cons, List.length_nil, Nat.reduceAdd, szs, true_and, flatD, List.all_cons, List.all_nil, Bool.and_self, Bool.or_false, Bool.false_or, Bool.or_true, Bool.true_or, Bool.and_true, Bool.true_and, Bool.and_false, Bool.false_and, Bool.not_true, Bool.not_false, e, ins_rd h, if_true, if_false, ht]
  exact ⟨r, R, p, kd, x, rfl, h, tk_yes hs, q⟩
theorem deeper {ao : ATE} {t : ATA} {ρ : Rho} {l : Nat} {Q : VA} (h : RdAt S r R p) (e : ao ρ S E = fun q => q (.ref r) S) (ht : t ρ S E = fun q => q [.int (l : Int)] S) (hl : l < 40) (q : Q (.int ((l + 1 : Nat) : Int)) S) : aMeth "Reader" "deeper" GDeep ao t ρ S E Q := by
  simp only [eq_self, ev, ev2, ev3, ev4, ev5, ofS_inj, bodyEnds, String.reduceEq, decide_false, decide_true, reduceCtorEq, List.length_cons, List.length_nil, Nat.reduceAdd, szs, true_and, flatD, List.all_cons, List.all_nil, Bool.and_self, Bool.or_false, Bool.false_or, Bool.or_true, Bool.true_or, Bool.and_true, Bool.true_and, Bool.and_false, Bool.false_and, Bool.not_true, Bool.not_false, e, ins_rd h, if_true, if_false, ht]
  exact ⟨.ref r, l, rfl, hl, q⟩
end
/-- the shape of read_product, read_both, read_expression -/
def binT (kd sg op : Str) (F_sub F_acc F_deep : AFn) : ATS :=
    (aSeq (aAsg (aCall F_sub (aCons (aVar 0) (aCons (aVar 1) aNil))) (agName 2))
    (aSeq (aWhile (aB (aMeth "Reader" "accept" F_acc (aVar 0) (aCons (aC (.str kd)) (aCons (aC (.str sg)) aNil)))) (aSeq (aAsg (aMeth "Reader" "deeper" F_deep (aVar 0) (aCons (aVar 1) aNil)) (agName 1))
    (aAsg (aTup (aCons (aC (.str op)) (aCons (aVar 2) (aCons (aCall F_sub (aCons (aVar 0) (aCons (aVar 1) aNil))) aNil)))) (agName 2))))
    (aRet (aVar 2))))
structure BW (r : Nat) (R : Rd) (S : Sto) (k : Nat) (n : Nt) (f : D) (z : Nat) (x3 : List (Option D)) (m : Nat) (ρ : Rho) (S' : Sto) : Prop where
  ex : ∃ l p, ∃ a : D, ρ = some (.ref r) :: some (.int (l : Nat)) :: some a :: x3 ∧ Kp r S S' ∧ RdAt S' r R p ∧ P R (k + 1) n l a p f z ∧ m = R.toks.length - p
theorem sp_bin {k : Nat} (b : Bn) : ∀ ds S E Q, GP (.bin b) (k + 1) ds S E Q → ds.length = 2 ∧ binT b.kd b.sg b.op (GP b.sub k) GAcc GDeep (bodyEnds Q E) (startA 3 ds) S := by
  rintro ds S E Q ⟨r, R, l, p, f, z, rfl, h, hp, q⟩
  refine ⟨rfl, ?_⟩
  have st : startA 3 [.ref r, .int (l : Int)] = [some (.ref r), some (.int (l : Int)), none] := rfl
  rw [st]
  unfold binT
  refine seqM fun N nx => ?_
  cases hp with
  | @bin _ _ _ _ e q1 _ _ _ he hl =>
    simp only [eq_self, ev, ev2, ev3, ev4, ev5, ofS_inj, bodyEnds, String.reduceEq, decide_false, decide_true, reduceCtorEq, List.length_cons, List.length_nil, Nat.reduceAdd, szs, true_and, flatD, List.all_cons, List.all_nil, Bool.and_self, Bool.or_false, Bool.false_or, Bool.or_true, Bool.true_or, Bool.and_true, Bool.true_and, Bool.and_false, Bool.false_and, Bool.not_true, Bool.not_false]
    refine ⟨r, R, l, p, e, q1, rfl, h, he, fun S1 k1 rd1 => nx _ _ ?_⟩
    clear nx N
    refine seqM fun N nx => while_mk ⟨BW r R S k (.binL b) f z [], ⟨_, l, q1, e, rfl, k1, rd1, hl, rfl⟩, ?_⟩
    rintro m ρ S2 ⟨l2, p2, a2, rfl, k2, rd2, hp2, rfl⟩
    have hlen : p2 ≤ R.toks.length := rd2.ex.choose_spec.2.2.1
    cases hp2 with
    | binE hs =>
      refine accNo rd2 rfl rfl hs ?_
      refine nx _ _ ?_
      simp only [eq_self, ev, ev2, ev3, ev4, ev5, ofS_inj, bodyEnds, String.reduceEq, decide_false, decide_true, reduceCtorEq, List.length_cons, List.length_nil, Nat.reduceAdd, szs, true_and, flatD, List.all_cons, List.all_nil, Bool.and_self, Bool.or_false, Bool.false_or, Bool.or_true, Bool.true_or, Bool.and_true, Bool.true_and, Bool.and_false, Bool.false_and, Bool.not_true, Bool.not_false]
      exact q _ k2 rd2
    | @binN _ _ _ _ e3 q3 _ _ _ ht hlt he3 hl3 =>
      refine accYes rd2 rfl rfl ht fun S3 k3 rd3 => ?_
      show aSeq _ _ _ _ _
      refine seqM fun N nx => ?_
      refine deeper rd3 rfl rfl hlt ?_
      refine nx _ _ ?_
      clear nx N
      simp only [eq_self, ev, ev2, ev3, ev4, ev5, ofS_inj, bodyEnds, String.reduceEq, decide_false, decide_true, reduceCtorEq, List.length_cons, List.length_nil, Nat.reduceAdd, szs, true_and, flatD, List.all_cons, List.all_nil, Bool.and_self, Bool.or_false, Bool.false_or, Bool.or_true, Bool.true_or, Bool.and_true, Bool.true_and, Bool.and_false, Bool.false_and, Bool.not_true, Bool.not_false]
      refine ⟨r, R, l2 + 1, p2 + 1, e3, q3, rfl, rd3, he3, fun S4 k4 rd4 => ?_⟩
      have le := he3.le
      have lt := sees_lt (tk_yes ht)
      exact ⟨_, by omega, _, _, _, rfl, (k2.trans k3).trans k4, rd4, hl3, rfl⟩
end Ps
namespace Ps
open PySem PySem.Spec
open PyProof.Rows L2 AL Ab Lx
/-! ### read_call, read_sum, read_plain, read_primary, read_arguments -/
theorem for_mk {ai : ATI} {ag : ATG} {body : ATS} {D0 : AEnds} {ρ : Rho} {S : Sto} (h : ai ρ S (fun x S1 => D0.ex x ρ S1) fun src S1 => ∃ Wv : Nat → Rho → Sto → Prop, Wv 0 ρ S1 ∧ (∀ k ρ S, k ≤ src.items.length → Wv k ρ S → src.ok S) ∧
  (∀ k d ρ S, src.items[k]? = some d → Wv k ρ S → ag d ρ S fun ρ2 S2 => body { D0 with nx := Wv (k + 1), ct := Wv (k + 1), bk := D0.nx } ρ2 S2) ∧ ∀ ρ S, Wv src.items.length ρ S → D0.nx ρ S) : aFor ai ag body D0 ρ S := h
theorem sp_call {k : Nat} : ∀ ds S E Q, GP .call (k + 1) ds S E Q → ds.length = 2 ∧ a_read_call (GP .prim k) GAcc GDeep (GP .args k) (bodyEnds Q E) (startA 3 ds) S := by
  rintro ds S E Q ⟨r, R, l, p, f, z, rfl, h, hp, q⟩
  refine ⟨rfl, ?_⟩
  have st : startA 3 [.ref r, .int (l : Int)] = [some (.ref r), some (.int (l : Int)), none] := rfl
  rw [st]
  unfold a_read_call
  refine seqM fun N nx => ?_
  cases hp with
  | @call _ _ _ _ e q1 _ _ he hl =>
    simp only [eq_self, ev, ev2, ev3, ev4, ev5, ofS_inj, bodyEnds, String.reduceEq, decide_false, decide_true, reduceCtorEq, List.length_cons, List.length_nil, Nat.reduceAdd, szs, true_and, flatD, List.all_cons, List.all_nil, Bool.and_self, Bool.or_false, Bool.false_or, Bool.or_true, Bool.true_or, Bool.and_true, Bool.true_and, Bool.and_false, Bool.false_and, Bool.not_true, Bool.not_false]
    refine ⟨r, R, l, p, e, q1, rfl, h, he, fun S1 k1 rd1 => nx _ _ ?_⟩
    clear nx N
    refine seqM fun N nx => while_mk ⟨BW r R S k .callL f z [], ⟨_, l, q1, e, rfl, k1, rd1, hl, rfl⟩, ?_⟩
    rintro m ρ S2 ⟨l2, p2, a2, rfl, k2, rd2, hp2, rfl⟩
    have hlen : p2 ≤ R.toks.length := rd2.ex.choose_spec.2.2.1
    cases hp2 with
    | callE hs =>
      refine accNo rd2 rfl rfl hs ?_
      refine nx _ _ ?_
      simp only [eq_self, ev, ev2, ev3, ev4, ev5, ofS_inj, bodyEnds, String.reduceEq, decide_false, decide_true, reduceCtorEq, List.length_cons, List.length_nil, Nat.reduceAdd, szs, true_and, flatD, List.all_cons, List.all_nil, Bool.and_self, Bool.or_false, Bool.false_or, Bool.or_true, Bool.true_or, Bool.and_true, Bool.true_and, Bool.and_false, Bool.false_and, Bool.not_true, Bool.not_false]
      exact q _ k2 rd2
    | @callN _ _ _ _ e3 q3 _ _ ht hlt he3 hl3 =>
      refine accYes rd2 rfl rfl ht fun S3 k3 rd3 => ?_
      show aSeq _ _ _ _ _
      refine seqM fun N nx => ?_
      refine deeper rd3 rfl rfl hlt ?_
      refine nx _ _ ?_
      clear nx N
      simp only [eq_self, ev, ev2, ev3, ev4, ev5, ofS_inj, bodyEnds, String.reduceEq, decide_false, decide_true, reduceCtorEq, List.length_cons, List.length_nil, Nat.reduceAdd, szs, true_and, flatD, List.all_cons, List.all_nil, Bool.and_self, Bool.or_false, Bool.false_or, Bool.or_true, Bool.true_or, Bool.and_true, Bool.true_and, Bool.and_false, Bool.false_and, Bool.not_true, Bool.not_false]
      refine ⟨r, R, l2 + 1, p2 + 1, e3, q3, rfl, rd3, he3, fun S4 k4 rd4 => ?_⟩
      have le := he3.le
      have lt := sees_lt (tk_yes ht)
      exact ⟨_, by omega, _, _, _, rfl, (k2.trans k3).trans k4, rd4, hl3, rfl⟩
theorem tk_no {R : Rd} {p : Nat} {k x k' x' : Str} (h : R.tk p k x) (hn : (decide (k = k') && decide (x = x')) = false) : R.sees p k' x' = false := by
  rw [tk_sees h]; exact hn
section
variable {R : Rd} {r p k : Nat} {S : Sto} {E : XA} {Q : VA}
theorem seesB {ao : ATE} {t : ATA} {ρ : Rho} {kd x : Str} {Q : Bool → Sto → Prop} {b : Bool} (h : RdAt S r R p) (e : ao ρ S E = fun q => q (.ref r) S) (ht : t ρ S E = fun q => q [.str kd, .str x] S) (hs : R.sees p kd x = b) (q : Q b S) : aB (aMeth "Reader" "sees" GSees ao t) ρ S E Q := by
  simp only [eq_self, ev, ev2, ev3, ev4, ev5, ofS_inj, bodyEnds, String.reduceEq, decide_false, decide_true, reduceCtorEq, List.length_cons, List.length_nil, Nat.reduceAdd, szs, true_and, flatD, List.all_cons, List.all_nil, Bool.and_self, Bool.or_false, Bool.false_or, Bool.or_true, Bool.true_or, Bool.and_true, Bool.true_and, Bool.and_false, Bool.false_and, Bool.not_true, Bool.not_false, e, ins_rd h, if_true, if_false, ht]
  refine ⟨r, R, p, kd, x, rfl, h, ?_⟩
  rw [hs]
  exact q
theorem seesKB {ao : ATE} {t : ATA} {ρ : Rho} {kd : Str} {Q : Bool → Sto → Prop} {b : Bool} (h : RdAt S r R p) (e : ao ρ S E = fun q => q (.ref r) S) (ht : t ρ S E = fun q => q [.str kd] S) (hs : R.seesK p kd = b) (q : Q b S) : aB (aMeth "Reader" "sees_kind" GSeesK ao t) ρ S E Q := by
  simp only [eq_self, ev, ev2, ev3, ev4, ev5, ofS_inj, bodyEnds, String.reduceEq, decide_false, decide_true, reduceCtorEq, List.length_cons, List.length_nil, Nat.reduceAdd, szs, true_and, flatD, List.all_cons, List.all_nil, Bool.and_self, Bool.or_false, Bool.false_or, Bool.or_true, Bool.true_or, Bool.and_true, Bool.true_and, Bool.and_false, Bool.false_and, Bool.not_true, Bool.not_false, e, ins_rd h, if_true, if_false, ht]
  refine ⟨r, R, p, kd, rfl, h, ?_⟩
  rw [hs]
  exact q
theorem readK {ao : ATE} {t : ATA} {ρ : Rho} {kd : Str} {Q : VA} {tn : Tn} (h : RdAt S r R p) (e : ao ρ S E = fun q => q (.ref r) S) (ht : t ρ S E = fun q => q [.str kd] S) (hs : R.toks[p]? = some tn) (hk : tn.k = kd) (q : ∀ S', Kp r S S' → RdAt S' r R (p + 1) → Q tn.v.d S') : aMeth "Reader" "read" GRead ao t ρ S E Q := by
  simp only [eq_self, ev, ev2, ev3, ev4, ev5, ofS_inj, bodyEnds, String.reduceEq, decide_false, decide_true, reduceCtorEq, List.length_cons, List.length_nil, Nat.reduceAdd, szs, true_and, flatD, List.all_cons, List.all_nil, Bool.and_self, Bool.or_false, Bool.false_or, Bool.or_true, Bool.true_or, Bool.and_true, Bool.true_and, Bool.and_false, Bool.false_and, Bool.not_true, Bool.not_false, e, ins_rd h, if_true, if_false, ht]
  exact ⟨r, R, p, kd, tn, rfl, h, hs, hk, q⟩
theorem atM {ao : ATE} {t : ATA} {ρ : Rho} {Q : VA} (h : RdAt S r R p) (e : ao ρ S E = fun q => q (.ref r) S) (ht : t ρ S E = fun q => q [] S) (q : Q (.int (R.at_ p)) S) : aMeth "Reader" "at" GAt ao t ρ S E Q := by
  simp only [eq_self, ev, ev2, ev3, ev4, ev5, ofS_inj, bodyEnds, String.reduceEq, decide_false, decide_true, reduceCtorEq, List.length_cons, List.length_nil, Nat.reduceAdd, szs, true_and, flatD, List.all_cons, List.all_nil, Bool.and_self, Bool.or_false, Bool.false_or, Bool.or_true, Bool.true_or, Bool.and_true, Bool.true_and, Bool.and_false, Bool.false_and, Bool.not_true, Bool.not_false, e, ins_rd h, if_true, if_false, ht]
  exact ⟨r, R, p, rfl, h, q⟩
end
theorem sp_sum {k : Nat} : ∀ ds S E Q, GP .sum (k + 1) ds S E Q → ds.length = 2 ∧ a_read_sum (GP (.bin .prod) k) GSees GRead GDeep (bodyEnds Q E) (startA 4 ds) S := by
  rintro ds S E Q ⟨r, R, l, p, f, z, rfl, h, hp, q⟩
  refine ⟨rfl, ?_⟩
  have st : startA 4 [.ref r, .int (l : Int)] = [some (.ref r), some (.int (l : Int)), none, none] := rfl
  rw [st]
  unfold a_read_sum
  refine seqM fun N nx => ?_
  cases hp with
  | @sum _ _ _ _ e q1 _ _ he hl =>
    simp only [eq_self, ev, ev2, ev3, ev4, ev5, ofS_inj, bodyEnds, String.reduceEq, decide_false, decide_true, reduceCtorEq, List.length_cons, List.length_nil, Nat.reduceAdd, szs, true_and, flatD, List.all_cons, List.all_nil, Bool.and_self, Bool.or_false, Bool.false_or, Bool.or_true, Bool.true_or, Bool.and_true, Bool.true_and, Bool.and_false, Bool.false_and, Bool.not_true, Bool.not_false]
    refine ⟨r, R, l, p, e, q1, rfl, h, he, fun S1 k1 rd1 => nx _ _ ?_⟩
    clear nx N
    refine seqM fun N nx => while_mk ⟨fun m ρ S' => ∃ x3, BW r R S k .sumL f z [x3] m ρ S', ⟨_, none, l, q1, e, rfl, k1, rd1, hl, rfl⟩, ?_⟩
    rintro m ρ S2 ⟨x3, l2, p2, a2, rfl, k2, rd2, hp2, rfl⟩
    have hlen : p2 ≤ R.toks.length := rd2.ex.choose_spec.2.2.1
    cases hp2 with
    | sumE hs1 hs2 =>
      show aOr _ _ _ _ _ _
      refine seesB rd2 rfl rfl hs1 ?_
      refine seesB rd2 rfl rfl hs2 ?_
      refine nx _ _ ?_
      simp only [eq_self, ev, ev2, ev3, ev4, ev5, ofS_inj, bodyEnds, String.reduceEq, decide_false, decide_true, reduceCtorEq, List.length_cons, List.length_nil, Nat.reduceAdd, szs, true_and, flatD, List.all_cons, List.all_nil, Bool.and_self, Bool.or_false, Bool.false_or, Bool.or_true, Bool.true_or, Bool.and_true, Bool.true_and, Bool.and_false, Bool.false_and, Bool.not_true, Bool.not_false]
      exact q _ k2 rd2
    | @sumN _ _ _ _ e3 q3 _ _ x o ht ho hlt he3 hl3 =>
      have two : (x = "+" ∧ o = "add") ∨ (x = "-" ∧ o = "sub") := by
        unfold sumOp at ho
        split at ho
        · left; cases ho; exact ⟨‹_›, rfl⟩
        · split at ho
          · right; cases ho; exact ⟨‹_›, rfl⟩
          · cases ho
      have body : (aSeq (aAsg (aMeth "Reader" "read" GRead (aVar 0) (aCons (aC (.str "sign")) aNil)) (agName 3))
    (aSeq (aAsg (aMeth "Reader" "deeper" GDeep (aVar 0) (aCons (aVar 1) aNil)) (agName 1))
    (aAsg (aTup (aCons (aKd K_SUMS (aVar 3)) (aCons (aVar 2) (aCons (aCall (GP (.bin .prod) k) (aCons (aVar 0) (aCons (aVar 1) aNil))) aNil)))) (agName 2))))
         { (bodyEnds Q E) with nx := fun ρ' S' => ∃ m', m' < R.toks.length - p2 ∧ ∃ x3, BW r R S k .sumL f z [x3] m' ρ' S', ct := fun ρ' S' => ∃ m', m' < R.toks.length - p2 ∧ ∃ x3, BW r R S k .sumL f z [x3] m' ρ' S', bk := N } [some (.ref r), some (.int (l2 : Int)), some a2, x3] S2 := by
        refine seqM fun N nx => ?_
        obtain ⟨pos, htk⟩ := ht
        refine readK rd2 rfl rfl htk rfl fun S3 k3 rd3 => ?_
        refine nx _ _ ?_
        clear nx N
        refine seqM fun N nx => ?_
        refine deeper rd3 rfl rfl hlt ?_
        refine nx _ _ ?_
        clear nx N
        have le := he3.le
        have lt := sees_lt (tk_yes ⟨pos, htk⟩)
        rcases two with ⟨rfl, rfl⟩ | ⟨rfl, rfl⟩
        · simp only [eq_self, ev, ev2, ev3, ev4, ev5, ofS_inj, bodyEnds, String.reduceEq, decide_false, decide_true, reduceCtorEq, List.length_cons, List.length_nil, Nat.reduceAdd, szs, true_and, flatD, List.all_cons, List.all_nil, Bool.and_self, Bool.or_false, Bool.false_or, Bool.or_true, Bool.true_or, Bool.and_true, Bool.true_and, Bool.and_false, Bool.false_and, Bool.not_true, Bool.not_false, Tv.d, must_some, if_true, if_false]
          refine ⟨r, R, l2 + 1, p2 + 1, e3, q3, rfl, rd3, he3, fun S4 k4 rd4 => ?_⟩
          exact ⟨_, by omega, _, _, _, _, rfl, (k2.trans k3).trans k4, rd4, hl3, rfl⟩
        · simp only [eq_self, ev, ev2, ev3, ev4, ev5, ofS_inj, bodyEnds, String.reduceEq, decide_false, decide_true, reduceCtorEq, List.length_cons, List.length_nil, Nat.reduceAdd, szs, true_and, flatD, List.all_cons, List.all_nil, Bool.and_self, Bool.or_false, Bool.false_or, Bool.or_true, Bool.true_or, Bool.and_true, Bool.true_and, Bool.and_false, Bool.false_and, Bool.not_true, Bool.not_false, Tv.d, must_some, if_true, if_false]
          refine ⟨r, R, l2 + 1, p2 + 1, e3, q3, rfl, rd3, he3, fun S4 k4 rd4 => ?_⟩
          exact ⟨_, by omega, _, _, _, _, rfl, (k2.trans k3).trans k4, rd4, hl3, rfl⟩
      show aOr _ _ _ _ _ _
      rcases two with ⟨rfl, rfl⟩ | ⟨rfl, rfl⟩
      · refine seesB rd2 rfl rfl (tk_yes ht) ?_
        exact body
      · refine seesB rd2 rfl rfl (tk_no ht (by decide)) ?_
        refine seesB rd2 rfl rfl (tk_yes ht) ?_
        exact body
theorem sp_plain {k : Nat} : ∀ ds S E Q, GP .plain (k + 1) ds S E Q → ds.length = 2 ∧ a_read_plain GAcc GDeep (GP .plain k) (GP .sum k) (bodyEnds Q E) (startA 4 ds) S := by
  rintro ds S E Q ⟨r, R, l, p, f, z, rfl, h, hp, q⟩
  refine ⟨rfl, ?_⟩
  have st : startA 4 [.ref r, .int (l : Int)] = [some (.ref r), some (.int (l : Int)), none, none] := rfl
  rw [st]
  unfold a_read_plain
  refine seqM fun N nx => ?_
  cases hp with
  | @pnot _ _ _ _ e _ ht hlt he =>
    refine accYes h rfl rfl ht fun S1 k1 rd1 => ?_
    show aRet _ _ _ _
    simp only [eq_self, ev, ev2, ev3, ev4, ev5, ofS_inj, bodyEnds, String.reduceEq, decide_false, decide_true, reduceCtorEq, List.length_cons, List.length_nil, Nat.reduceAdd, szs, true_and, flatD, List.all_cons, List.all_nil, Bool.and_self, Bool.or_false, Bool.false_or, Bool.or_true, Bool.true_or, Bool.and_true, Bool.true_and, Bool.and_false, Bool.false_and, Bool.not_true, Bool.not_false, ins_rd rd1, if_true, if_false]
    refine ⟨.ref r, l, rfl, hlt, ?_⟩
    refine ⟨r, R, l + 1, p + 1, e, z, rfl, rd1, he, fun S2 k2 rd2 => ?_⟩
    simp only [eq_self, ev, ev2, ev3, ev4, ev5, ofS_inj, bodyEnds, String.reduceEq, decide_false, decide_true, reduceCtorEq, List.length_cons, List.length_nil, Nat.reduceAdd, szs, true_and, flatD, List.all_cons, List.all_nil, Bool.and_self, Bool.or_false, Bool.false_or, Bool.or_true, Bool.true_or, Bool.and_true, Bool.true_and, Bool.and_false, Bool.false_and, Bool.not_true, Bool.not_false]
    exact q _ (k1.trans k2) rd2
  | @pone _ _ _ _ _ _ hs he h1 h2 =>
    refine accNo h rfl rfl hs ?_
    refine nx _ _ ?_
    clear nx N
    refine seqM fun N nx => ?_
    simp only [eq_self, ev, ev2, ev3, ev4, ev5, ofS_inj, bodyEnds, String.reduceEq, decide_false, decide_true, reduceCtorEq, List.length_cons, List.length_nil, Nat.reduceAdd, szs, true_and, flatD, List.all_cons, List.all_nil, Bool.and_self, Bool.or_false, Bool.false_or, Bool.or_true, Bool.true_or, Bool.and_true, Bool.true_and, Bool.and_false, Bool.false_and, Bool.not_true, Bool.not_false]
    refine ⟨r, R, l, p, f, z, rfl, h, he, fun S1 k1 rd1 => nx _ _ ?_⟩
    clear nx N
    refine seqM fun N nx => for_mk ?_
    refine ⟨fun i ρ S' => ∃ x3, ρ = [some (.ref r), some (.int (l : Int)), some f, x3] ∧ S' = S1, ⟨_, rfl, rfl⟩, fun _ _ _ _ _ => trivial, ?_, ?_⟩
    · rintro i d ρ S2 hi ⟨x3, rfl, rfl⟩
      have two : d = .str "<" ∨ d = .str "==" := by
        rcases i with _ | _ | i
        · left; cases hi; rfl
        · right; cases hi; rfl
        · cases hi
      show aIfS _ _ _ _ _ _
      rcases two with rfl | rfl
      · refine accNo rd1 rfl rfl h1 ?_
        exact ⟨_, rfl, rfl⟩
      · refine accNo rd1 rfl rfl h2 ?_
        exact ⟨_, rfl, rfl⟩
    · rintro ρ S2 ⟨x3, rfl, rfl⟩
      refine nx _ _ ?_
      simp only [eq_self, ev, ev2, ev3, ev4, ev5, ofS_inj, bodyEnds, String.reduceEq, decide_false, decide_true, reduceCtorEq, List.length_cons, List.length_nil, Nat.reduceAdd, szs, true_and, flatD, List.all_cons, List.all_nil, Bool.and_self, Bool.or_false, Bool.false_or, Bool.or_true, Bool.true_or, Bool.and_true, Bool.true_and, Bool.and_false, Bool.false_and, Bool.not_true, Bool.not_false]
      exact q _ k1 rd1
  | @pcmp _ _ _ _ e q1 x o g _ hs he ht ho hlt hg =>
    refine accNo h rfl rfl hs ?_
    refine nx _ _ ?_
    clear nx N
    refine seqM fun N nx => ?_
    simp only [eq_self, ev, ev2, ev3, ev4, ev5, ofS_inj, bodyEnds, String.reduceEq, decide_false, decide_true, reduceCtorEq, List.length_cons, List.length_nil, Nat.reduceAdd, szs, true_and, flatD, List.all_cons, List.all_nil, Bool.and_self, Bool.or_false, Bool.false_or, Bool.or_true, Bool.true_or, Bool.and_true, Bool.true_and, Bool.and_false, Bool.false_and, Bool.not_true, Bool.not_false]
    refine ⟨r, R, l, p, e, q1, rfl, h, he, fun S1 k1 rd1 => nx _ _ ?_⟩
    clear nx N
    have twox : (x = "<" ∧ o = "lt") ∨ (x = "==" ∧ o = "eq") := by
      unfold cmpOp at ho
      split at ho
      · left; cases ho; exact ⟨‹_›, rfl⟩
      · split at ho
        · right; cases ho; exact ⟨‹_›, rfl⟩
        · cases ho
    refine seqM fun N nx => for_mk ?_
    refine ⟨fun i ρ S' => (∃ x3, ρ = [some (.ref r), some (.int (l : Int)), some e, x3] ∧ S' = S1) ∧ (0 < i → x ≠ "<") ∧ (1 < i → x ≠ "=="), ⟨⟨_, rfl, rfl⟩, by omega, by omega⟩, fun _ _ _ _ _ => trivial, ?_, ?_⟩
    · rintro i d ρ S2 hi ⟨⟨x3, rfl, rfl⟩, n1, n2⟩
      have two : (i = 0 ∧ d = .str "<") ∨ (i = 1 ∧ d = .str "==") := by
        rcases i with _ | _ | i
        · left; cases hi; exact ⟨rfl, rfl⟩
        · right; cases hi; exact ⟨rfl, rfl⟩
        · cases hi
      show aIfS _ _ _ _ _ _
      rcases two with ⟨rfl, rfl⟩ | ⟨rfl, rfl⟩
      · rcases twox with ⟨rfl, rfl⟩ | ⟨rfl, rfl⟩
        · refine accYes rd1 rfl rfl ht fun S3 k3 rd3 => ?_
          show aRet _ _ _ _
          simp only [eq_self, ev, ev2, ev3, ev4, ev5, ofS_inj, bodyEnds, String.reduceEq, decide_false, decide_true, reduceCtorEq, List.length_cons, List.length_nil, Nat.reduceAdd, szs, true_and, flatD, List.all_cons, List.all_nil, Bool.and_self, Bool.or_false, Bool.false_or, Bool.or_true, Bool.true_or, Bool.and_true, Bool.true_and, Bool.and_false, Bool.false_and, Bool.not_true, Bool.not_false, must_some, if_true, if_false, ins_rd rd3]
          refine ⟨.ref r, l, rfl, hlt, ?_⟩
          refine ⟨r, R, l + 1, q1 + 1, g, z, rfl, rd3, hg, fun S4 k4 rd4 => ?_⟩
          simp only [eq_self, ev, ev2, ev3, ev4, ev5, ofS_inj, bodyEnds, String.reduceEq, decide_false, decide_true, reduceCtorEq, List.length_cons, List.length_nil, Nat.reduceAdd, szs, true_and, flatD, List.all_cons, List.all_nil, Bool.and_self, Bool.or_false, Bool.false_or, Bool.or_true, Bool.true_or, Bool.and_true, Bool.true_and, Bool.and_false, Bool.false_and, Bool.not_true, Bool.not_false]
          exact q _ ((k1.trans k3).trans k4) rd4
        · refine accNo rd1 rfl rfl (tk_no ht (by decide)) ?_
          exact ⟨⟨_, rfl, rfl⟩, fun _ => by decide, by omega⟩
      · rcases twox with ⟨rfl, rfl⟩ | ⟨rfl, rfl⟩
        · exact absurd rfl (n1 (by omega))
        · refine accYes rd1 rfl rfl ht fun S3 k3 rd3 => ?_
          show aRet _ _ _ _
          simp only [eq_self, ev, ev2, ev3, ev4, ev5, ofS_inj, bodyEnds, String.reduceEq, decide_false, decide_true, reduceCtorEq, List.length_cons, List.length_nil, Nat.reduceAdd, szs, true_and, flatD, List.all_cons, List.all_nil, Bool.and_self, Bool.or_false, Bool.false_or, Bool.or_true, Bool.true_or, Bool.and_true, Bool.true_and, Bool.and_false, Bool.false_and, Bool.not_true, Bool.not_false, must_some, if_true, if_false, ins_rd rd3]
          refine ⟨.ref r, l, rfl, hlt, ?_⟩
          refine ⟨r, R, l + 1, q1 + 1, g, z, rfl, rd3, hg, fun S4 k4 rd4 => ?_⟩
          simp only [eq_self, ev, ev2, ev3, ev4, ev5, ofS_inj, bodyEnds, String.reduceEq, decide_false, decide_true, reduceCtorEq, List.length_cons, List.length_nil, Nat.reduceAdd, szs, true_and, flatD, List.all_cons, List.all_nil, Bool.and_self, Bool.or_false, Bool.false_or, Bool.or_true, Bool.true_or, Bool.and_true, Bool.true_and, Bool.and_false, Bool.false_and, Bool.not_true, Bool.not_false]
          exact q _ ((k1.trans k3).trans k4) rd4
    · rintro ρ S2 ⟨_, n1, n2⟩
      exfalso
      rcases twox with ⟨rfl, rfl⟩ | ⟨rfl, rfl⟩
      · exact n1 (by decide) rfl
      · exact n2 (by decide) rfl
end Ps
namespace Ps
open PySem PySem.Spec
open PyProof.Rows L2 AL Ab Lx
/-! ### read_primary, read_arguments -/
theorem num_no {R : Rd} {p : Nat} {t : Tn} {k x : Str} (h : R.toks[p]? = some t) (hk : t.k = "number") (hn : ("number" : Str) ≠ k) : R.sees p k x = false := num_sees h k x (by rw [hk]; exact hn)
theorem tk_nk {R : Rd} {p : Nat} {k x k' x' : Str} (h : R.tk p k x) (hn : k ≠ k') : R.sees p k' x' = false := by
  rw [tk_sees h, decide_eq_false hn]; rfl
theorem sp_prim {k : Nat} {F1 F2 : AFn} : ∀ ds S E Q, GP .prim (k + 1) ds S E Q → ds.length = 2 ∧ a_read_primary GAt GAcc GExp GDeep (GP .ex k) F1 F2 GSeesK GRead (bodyEnds Q E) (startA 6 ds) S := by
  rintro ds S E Q ⟨r, R, l, p, f, z, rfl, h, hp, q⟩
  refine ⟨rfl, ?_⟩
  have st : startA 6 [.ref r, .int (l : Int)] = [some (.ref r), some (.int (l : Int)), none, none, none, none] := rfl
  rw [st]
  unfold a_read_primary
  refine seqM fun N nx => ?_
  refine atM h rfl rfl ?_
  refine nx _ _ ?_
  clear nx N
  cases hp with
  | tru ht =>
    refine seqM fun N nx => accYes h rfl rfl ht fun S1 k1 rd1 => ?_
    show aRet _ _ _ _
    simp only [eq_self, ev, ev2, ev3, ev4, ev5, ofS_inj, bodyEnds, String.reduceEq, decide_false, decide_true, reduceCtorEq, List.length_cons, List.length_nil, Nat.reduceAdd, szs, true_and, flatD, List.all_cons, List.all_nil, Bool.and_self, Bool.or_false, Bool.false_or, Bool.or_true, Bool.true_or, Bool.and_true, Bool.true_and, Bool.and_false, Bool.false_and, Bool.not_true, Bool.not_false]
    exact q _ k1 rd1
  | fls ht =>
    refine seqM fun N nx => accNo h rfl rfl (tk_no ht (by decide)) (nx _ _ ?_)
    clear nx N
    refine seqM fun N nx => accYes h rfl rfl ht fun S1 k1 rd1 => ?_
    show aRet _ _ _ _
    simp only [eq_self, ev, ev2, ev3, ev4, ev5, ofS_inj, bodyEnds, String.reduceEq, decide_false, decide_true, reduceCtorEq, List.length_cons, List.length_nil, Nat.reduceAdd, szs, true_and, flatD, List.all_cons, List.all_nil, Bool.and_self, Bool.or_false, Bool.false_or, Bool.or_true, Bool.true_or, Bool.and_true, Bool.true_and, Bool.and_false, Bool.false_and, Bool.not_true, Bool.not_false]
    exact q _ k1 rd1
  | non ht =>
    refine seqM fun N nx => accNo h rfl rfl (tk_no ht (by decide)) (nx _ _ ?_)
    clear nx N
    refine seqM fun N nx => accNo h rfl rfl (tk_no ht (by decide)) (nx _ _ ?_)
    clear nx N
    refine seqM fun N nx => accYes h rfl rfl ht fun S1 k1 rd1 => ?_
    show aRet _ _ _ _
    simp only [eq_self, ev, ev2, ev3, ev4, ev5, ofS_inj, bodyEnds, String.reduceEq, decide_false, decide_true, reduceCtorEq, List.length_cons, List.length_nil, Nat.reduceAdd, szs, true_and, flatD, List.all_cons, List.all_nil, Bool.and_self, Bool.or_false, Bool.false_or, Bool.or_true, Bool.true_or, Bool.and_true, Bool.true_and, Bool.and_false, Bool.false_and, Bool.not_true, Bool.not_false]
    exact q _ k1 rd1
  | @ask _ _ _ _ e q1 ht h2 hl he h3 =>
    refine seqM fun N nx => accNo h rfl rfl (tk_no ht (by decide)) (nx _ _ ?_)
    clear nx N
    refine seqM fun N nx => accNo h rfl rfl (tk_no ht (by decide)) (nx _ _ ?_)
    clear nx N
    refine seqM fun N nx => accNo h rfl rfl (tk_no ht (by decide)) (nx _ _ ?_)
    clear nx N
    refine seqM fun N nx => accYes h rfl rfl ht fun S1 k1 rd1 => ?_
    show aSeq _ _ _ _ _
    refine seqM fun N nx => expct rd1 rfl rfl h2 fun S2 k2 rd2 => nx _ _ ?_
    clear nx N
    refine seqM fun N nx => ?_
    simp only [eq_self, ev, ev2, ev3, ev4, ev5, ofS_inj, bodyEnds, String.reduceEq, decide_false, decide_true, reduceCtorEq, List.length_cons, List.length_nil, Nat.reduceAdd, szs, true_and, flatD, List.all_cons, List.all_nil, Bool.and_self, Bool.or_false, Bool.false_or, Bool.or_true, Bool.true_or, Bool.and_true, Bool.true_and, Bool.and_false, Bool.false_and, Bool.not_true, Bool.not_false, ins_rd rd2, if_true, if_false]
    refine ⟨.ref r, l, rfl, hl, ?_⟩
    refine ⟨r, R, l + 1, p + 1 + 1, e, q1, rfl, rd2, he, fun S3 k3 rd3 => nx _ _ ?_⟩
    clear nx N
    refine seqM fun N nx => expct rd3 rfl rfl h3 fun S4 k4 rd4 => nx _ _ ?_
    clear nx N
    simp only [eq_self, ev, ev2, ev3, ev4, ev5, ofS_inj, bodyEnds, String.reduceEq, decide_false, decide_true, reduceCtorEq, List.length_cons, List.length_nil, Nat.reduceAdd, szs, true_and, flatD, List.all_cons, List.all_nil, Bool.and_self, Bool.or_false, Bool.false_or, Bool.or_true, Bool.true_or, Bool.and_true, Bool.true_and, Bool.and_false, Bool.false_and, Bool.not_true, Bool.not_false]
    exact q _ (((k1.trans k2).trans k3).trans k4) rd4
  | @par _ _ _ _ e q1 ht hl he h3 =>
    refine seqM fun N nx => accNo h rfl rfl (tk_no ht (by decide)) (nx _ _ ?_)
    clear nx N
    refine seqM fun N nx => accNo h rfl rfl (tk_no ht (by decide)) (nx _ _ ?_)
    clear nx N
    refine seqM fun N nx => accNo h rfl rfl (tk_no ht (by decide)) (nx _ _ ?_)
    clear nx N
    refine seqM fun N nx => accNo h rfl rfl (tk_no ht (by decide)) (nx _ _ ?_)
    clear nx N
    refine seqM fun N nx => accNo h rfl rfl (tk_no ht (by decide)) (nx _ _ ?_)
    clear nx N
    refine seqM fun N nx => accYes h rfl rfl ht fun S2 k2 rd2 => ?_
    show aSeq _ _ _ _ _
    refine seqM fun N nx => ?_
    simp only [eq_self, ev, ev2, ev3, ev4, ev5, ofS_inj, bodyEnds, String.reduceEq, decide_false, decide_true, reduceCtorEq, List.length_cons, List.length_nil, Nat.reduceAdd, szs, true_and, flatD, List.all_cons, List.all_nil, Bool.and_self, Bool.or_false, Bool.false_or, Bool.or_true, Bool.true_or, Bool.and_true, Bool.true_and, Bool.and_false, Bool.false_and, Bool.not_true, Bool.not_false, ins_rd rd2, if_true, if_false]
    refine ⟨.ref r, l, rfl, hl, ?_⟩
    refine ⟨r, R, l + 1, p + 1, f, q1, rfl, rd2, he, fun S3 k3 rd3 => nx _ _ ?_⟩
    clear nx N
    refine seqM fun N nx => expct rd3 rfl rfl h3 fun S4 k4 rd4 => nx _ _ ?_
    clear nx N
    simp only [eq_self, ev, ev2, ev3, ev4, ev5, ofS_inj, bodyEnds, String.reduceEq, decide_false, decide_true, reduceCtorEq, List.length_cons, List.length_nil, Nat.reduceAdd, szs, true_and, flatD, List.all_cons, List.all_nil, Bool.and_self, Bool.or_false, Bool.false_or, Bool.or_true, Bool.true_or, Bool.and_true, Bool.true_and, Bool.and_false, Bool.false_and, Bool.not_true, Bool.not_false]
    exact q _ ((k2.trans k3).trans k4) rd4
  | @num _ _ _ _ t ht hk =>
    refine seqM fun N nx => accNo h rfl rfl (num_no ht hk (by decide)) (nx _ _ ?_)
    clear nx N
    refine seqM fun N nx => accNo h rfl rfl (num_no ht hk (by decide)) (nx _ _ ?_)
    clear nx N
    refine seqM fun N nx => accNo h rfl rfl (num_no ht hk (by decide)) (nx _ _ ?_)
    clear nx N
    refine seqM fun N nx => accNo h rfl rfl (num_no ht hk (by decide)) (nx _ _ ?_)
    clear nx N
    refine seqM fun N nx => accNo h rfl rfl (num_no ht hk (by decide)) (nx _ _ ?_)
    clear nx N
    refine seqM fun N nx => accNo h rfl rfl (num_no ht hk (by decide)) (nx _ _ ?_)
    clear nx N
    refine seqM fun N nx => seesKB (b := true) h rfl rfl (by rw [k_sees ht, hk]; rfl) ?_
    show aRet _ _ _ _
    simp only [eq_self, ev, ev2, ev3, ev4, ev5, ofS_inj, bodyEnds, String.reduceEq, decide_false, decide_true, reduceCtorEq, List.length_cons, List.length_nil, Nat.reduceAdd, szs, true_and, flatD, List.all_cons, List.all_nil, Bool.and_self, Bool.or_false, Bool.false_or, Bool.or_true, Bool.true_or, Bool.and_true, Bool.true_and, Bool.and_false, Bool.false_and, Bool.not_true, Bool.not_false, ins_rd h, if_true, if_false]
    refine ⟨r, R, p, _, t, rfl, h, ht, hk, fun S1 k1 rd1 => ?_⟩
    simp only [eq_self, ev, ev2, ev3, ev4, ev5, ofS_inj, bodyEnds, String.reduceEq, decide_false, decide_true, reduceCtorEq, List.length_cons, List.length_nil, Nat.reduceAdd, szs, true_and, flatD, List.all_cons, List.all_nil, Bool.and_self, Bool.or_false, Bool.false_or, Bool.or_true, Bool.true_or, Bool.and_true, Bool.true_and, Bool.and_false, Bool.false_and, Bool.not_true, Bool.not_false]
    exact q _ k1 rd1
  | @var _ _ _ _ x ht hd =>
    obtain ⟨pos, htk⟩ := id ht
    refine seqM fun N nx => accNo h rfl rfl (tk_nk ht (by decide)) (nx _ _ ?_)
    clear nx N
    refine seqM fun N nx => accNo h rfl rfl (tk_nk ht (by decide)) (nx _ _ ?_)
    clear nx N
    refine seqM fun N nx => accNo h rfl rfl (tk_nk ht (by decide)) (nx _ _ ?_)
    clear nx N
    refine seqM fun N nx => accNo h rfl rfl (tk_nk ht (by decide)) (nx _ _ ?_)
    clear nx N
    refine seqM fun N nx => accNo h rfl rfl (tk_nk ht (by decide)) (nx _ _ ?_)
    clear nx N
    refine seqM fun N nx => accNo h rfl rfl (tk_nk ht (by decide)) (nx _ _ ?_)
    clear nx N
    refine seqM fun N nx => seesKB (b := false) h rfl rfl (by rw [k_sees htk]; exact decide_eq_false (show ("name" : Str) ≠ "number" by decide)) (nx _ _ ?_)
    clear nx N
    refine seqM fun N nx => readK h rfl rfl htk rfl fun S1 k1 rd1 => nx _ _ ?_
    clear nx N
    refine seqM fun N nx => accNo rd1 rfl rfl hd (nx _ _ ?_)
    clear nx N
    simp only [eq_self, ev, ev2, ev3, ev4, ev5, ofS_inj, bodyEnds, String.reduceEq, decide_false, decide_true, reduceCtorEq, List.length_cons, List.length_nil, Nat.reduceAdd, szs, true_and, flatD, List.all_cons, List.all_nil, Bool.and_self, Bool.or_false, Bool.false_or, Bool.or_true, Bool.true_or, Bool.and_true, Bool.true_and, Bool.and_false, Bool.false_and, Bool.not_true, Bool.not_false, Tv.d]
    exact q _ k1 rd1
  | @mem _ _ _ _ x y ht hd hy =>
    obtain ⟨pos, htk⟩ := id ht
    obtain ⟨pos2, htk2⟩ := id hy
    refine seqM fun N nx => accNo h rfl rfl (tk_nk ht (by decide)) (nx _ _ ?_)
    clear nx N
    refine seqM fun N nx => accNo h rfl rfl (tk_nk ht (by decide)) (nx _ _ ?_)
    clear nx N
    refine seqM fun N nx => accNo h rfl rfl (tk_nk ht (by decide)) (nx _ _ ?_)
    clear nx N
    refine seqM fun N nx => accNo h rfl rfl (tk_nk ht (by decide)) (nx _ _ ?_)
    clear nx N
    refine seqM fun N nx => accNo h rfl rfl (tk_nk ht (by decide)) (nx _ _ ?_)
    clear nx N
    refine seqM fun N nx => accNo h rfl rfl (tk_nk ht (by decide)) (nx _ _ ?_)
    clear nx N
    refine seqM fun N nx => seesKB (b := false) h rfl rfl (by rw [k_sees htk]; exact decide_eq_false (show ("name" : Str) ≠ "number" by decide)) (nx _ _ ?_)
    clear nx N
    refine seqM fun N nx => readK h rfl rfl htk rfl fun S1 k1 rd1 => nx _ _ ?_
    clear nx N
    refine seqM fun N nx => accYes rd1 rfl rfl hd fun S2 k2 rd2 => ?_
    show aRet _ _ _ _
    simp only [eq_self, ev, ev2, ev3, ev4, ev5, ofS_inj, bodyEnds, String.reduceEq, decide_false, decide_true, reduceCtorEq, List.length_cons, List.length_nil, Nat.reduceAdd, szs, true_and, flatD, List.all_cons, List.all_nil, Bool.and_self, Bool.or_false, Bool.false_or, Bool.or_true, Bool.true_or, Bool.and_true, Bool.true_and, Bool.and_false, Bool.false_and, Bool.not_true, Bool.not_false, Tv.d, ins_rd rd2, if_true, if_false]
    refine ⟨r, R, p + 1 + 1, _, _, rfl, rd2, htk2, rfl, fun S3 k3 rd3 => ?_⟩
    simp only [eq_self, ev, ev2, ev3, ev4, ev5, ofS_inj, bodyEnds, String.reduceEq, decide_false, decide_true, reduceCtorEq, List.length_cons, List.length_nil, Nat.reduceAdd, szs, true_and, flatD, List.all_cons, List.all_nil, Bool.and_self, Bool.or_false, Bool.false_or, Bool.or_true, Bool.true_or, Bool.and_true, Bool.true_and, Bool.and_false, Bool.false_and, Bool.not_true, Bool.not_false, Tv.d]
    exact q _ ((k1.trans k2).trans k3) rd3
theorem tup_lst {S : Sto} {r : Nat} {l : List D} {Q : VA} (e : S[r]? = some (.lst l)) (q : Q (.tup l) S) : cTuple [.ref r] S Q := by
  unfold cTuple
  show must (seqOf S (.ref r)) _
  have : seqOf S (.ref r) = some l := by show lstOf S r = some l; unfold lstOf; simp only [e]
  rw [this]
  exact q
structure GW (r : Nat) (R : Rd) (S : Sto) (k l : Nat) (f : D) (z : Nat) (m : Nat) (ρ : Rho) (S' : Sto) : Prop where
  ex : ∃ i p es, ρ = [some (.ref r), some (.int (l : Nat)), some (.ref i)] ∧ Kp r S S' ∧ S.length ≤ i ∧ S'[i]? = some (.lst es) ∧ RdAt S' r R p ∧ P R (k + 1) (.argsL es) l .non p f z ∧ m = R.toks.length - p
theorem RdAt.lt {S : Sto} {r : Nat} {R : Rd} {p : Nat} (h : RdAt S r R p) : r < S.length ∧ R.t < S.length := by
  obtain ⟨t, h, g, _, rfl⟩ := h.ex
  exact ⟨(List.getElem?_eq_some_iff.mp h).1, (List.getElem?_eq_some_iff.mp g).1⟩
theorem RdAt.set {S : Sto} {r : Nat} {R : Rd} {p : Nat} (h : RdAt S r R p) {i : Nat} {o : O} (ir : i ≠ r) (it : i ≠ R.t) : RdAt (S.set i o) r R p := by
  obtain ⟨t, h1, h2, h3, rfl⟩ := h.ex
  refine ⟨R.t, ?_, ?_, h3, rfl⟩
  · rw [List.getElem?_set_ne ir]; exact h1
  · rw [List.getElem?_set_ne it]; exact h2
theorem at_set {S : Sto} {i : Nat} {o o' : O} (h : S[i]? = some o) : (S.set i o')[i]? = some o' := List.getElem?_set_self (List.getElem?_eq_some_iff.mp h).1
theorem sp_args {k : Nat} : ∀ ds S E Q, GP .args (k + 1) ds S E Q → ds.length = 2 ∧ a_read_arguments GAcc GDeep (GP .ex k) GExp (bodyEnds Q E) (startA 3 ds) S := by
  rintro ds S E Q ⟨r, R, l, p, f, z, rfl, h, hp, q⟩
  refine ⟨rfl, ?_⟩
  have st : startA 3 [.ref r, .int (l : Int)] = [some (.ref r), some (.int (l : Int)), none] := rfl
  rw [st]
  unfold a_read_arguments
  refine seqM fun N nx => ?_
  simp only [eq_self, ev, ev2, ev3, ev4, ev5, ofS_inj, bodyEnds, String.reduceEq, decide_false, decide_true, reduceCtorEq, List.length_cons, List.length_nil, Nat.reduceAdd, szs, true_and, flatD, List.all_cons, List.all_nil, Bool.and_self, Bool.or_false, Bool.false_or, Bool.or_true, Bool.true_or, Bool.and_true, Bool.true_and, Bool.and_false, Bool.false_and, Bool.not_true, Bool.not_false]
  refine nx _ _ ?_
  clear nx N
  have p0 : S <+: S ++ [O.lst []] := pre_app
  have a0 : (S ++ [O.lst []])[S.length]? = some (.lst []) := at_end
  generalize S ++ [O.lst []] = S0 at p0 a0 ⊢
  have rd0 := h.kp p0
  have k0 : Kp r S S0 := Kp.of p0
  have lt := h.lt
  have small : 20000 ≤ sizeLine := by decide
  cases hp with
  | arg0 ht =>
    refine seqM fun N nx => ?_
    refine accYes rd0 rfl rfl ht fun S1 k1 rd1 => ?_
    show N _ S1
    refine nx _ _ ?_
    clear nx N
    show cTuple [.ref S.length] S1 Q
    refine tup_lst (k1.at a0 (by omega)) ?_
    exact q _ (k0.trans k1) rd1
  | @arg1 _ _ _ _ e q1 _ _ hs hl he hr =>
    refine seqM fun N nx => ?_
    refine accNo rd0 rfl rfl hs ?_
    show aSeq _ _ _ _ _
    refine seqM fun N2 nx2 => ?_
    simp only [eq_self, ev, ev2, ev3, ev4, ev5, ofS_inj, bodyEnds, String.reduceEq, decide_false, decide_true, reduceCtorEq, List.length_cons, List.length_nil, Nat.reduceAdd, szs, true_and, flatD, List.all_cons, List.all_nil, Bool.and_self, Bool.or_false, Bool.false_or, Bool.or_true, Bool.true_or, Bool.and_true, Bool.true_and, Bool.and_false, Bool.false_and, Bool.not_true, Bool.not_false, ins_rd rd0, if_true, if_false]
    refine ⟨is_lst a0, .ref r, l, rfl, hl, ?_⟩
    refine ⟨r, R, l + 1, p, e, q1, rfl, rd0, he, fun S1 k1 rd1 => ?_⟩
    have a1 := k1.at a0 (by omega)
    refine lst_set a1 (Nat.lt_of_lt_of_le (show 0 < 20000 by omega) small) ?_
    refine nx2 _ _ ?_
    clear nx2 N2
    refine seqM fun N2 nx2 => while_mk ⟨GW r R S k l f z, ⟨_, _, q1, [e], rfl, (k0.trans k1).set (Nat.le_refl _), Nat.le_refl _, at_set a1, rd1.set (by omega) (by omega), hr, rfl⟩, ?_⟩
    rintro m ρ S2 ⟨i, p2, es, rfl, k2, hi, a2, rd2, hp2, rfl⟩
    have hlen : p2 ≤ R.toks.length := rd2.ex.choose_spec.2.2.1
    cases hp2 with
    | argE ht he =>
      refine accNo rd2 rfl rfl (tk_no ht (by decide)) ?_
      refine nx2 _ _ ?_
      refine expct rd2 rfl rfl ht fun S3 k3 rd3 => ?_
      refine nx _ _ ?_
      show cTuple [.ref i] S3 Q
      refine tup_lst (k3.at a2 (by omega)) ?_
      exact q _ (k2.trans k3) rd3
    | @argN _ _ _ _ e3 q3 _ _ _ ht he hlt he3 hr3 =>
      refine accYes rd2 rfl rfl ht fun S3 k3 rd3 => ?_
      show aDrop _ _ _ _
      simp only [eq_self, ev, ev2, ev3, ev4, ev5, ofS_inj, bodyEnds, String.reduceEq, decide_false, decide_true, reduceCtorEq, List.length_cons, List.length_nil, Nat.reduceAdd, szs, true_and, flatD, List.all_cons, List.all_nil, Bool.and_self, Bool.or_false, Bool.false_or, Bool.or_true, Bool.true_or, Bool.and_true, Bool.true_and, Bool.and_false, Bool.false_and, Bool.not_true, Bool.not_false, ins_rd rd3, if_true, if_false]
      have a3 := k3.at a2 (by omega)
      refine ⟨is_lst a3, .ref r, l, rfl, hlt, ?_⟩
      refine ⟨r, R, l + 1, p2 + 1, e3, q3, rfl, rd3, he3, fun S4 k4 rd4 => ?_⟩
      have a4 := k4.at a3 (by omega)
      refine lst_set a4 (Nat.lt_of_lt_of_le he small) ?_
      have le := he3.le
      have lt2 := sees_lt (tk_yes ht)
      exact ⟨_, by omega, i, _, _, rfl, ((k2.trans k3).trans k4).set hi, hi, at_set a4, rd4.set (by omega) (by omega), hr3, rfl⟩
end Ps
namespace Ps
open PySem PySem.Spec
open PyProof.Rows L2 AL Ab Lx
/-! ### the reader's making, let, depth -/
def GInit : AFn := fun ds S E Q => ∃ r l m ts, ds = [.ref r, .str (txt l), .str m] ∧ S[r]? = some (.ins "Reader" []) ∧ l.length ≤ 20000 ∧ Lex l 0 (ts.map Tn.d) ∧ ∀ S' t, Kp r S S' → RdAt S' r ⟨t, ts, l.length, 0, .str m⟩ 0 → Q .non S'
theorem sp_init : ∀ ds S E Q, GInit ds S E Q → ds.length = 3 ∧ a_Reader_init GTokens (bodyEnds Q E) (startA 3 ds) S := by
  rintro ds S E Q ⟨r, l, m, ts, rfl, h, hl, hx, q⟩
  refine ⟨rfl, ?_⟩
  have st : startA 3 [.ref r, .str (txt l), .str m] = [some (.ref r), some (.str (txt l)), some (.str m)] := rfl
  rw [st]
  unfold a_Reader_init
  refine seqM fun N nx => ?_
  simp only [eq_self, ev, ev2, ev3, ev4, ev5, ofS_inj, bodyEnds, String.reduceEq, decide_false, decide_true, reduceCtorEq, List.length_cons, List.length_nil, Nat.reduceAdd, szs, true_and, flatD, List.all_cons, List.all_nil, Bool.and_self, Bool.or_false, Bool.false_or, Bool.or_true, Bool.true_or, Bool.and_true, Bool.true_and, Bool.and_false, Bool.false_and, Bool.not_true, Bool.not_false]
  refine ⟨l, m, ts.map Tn.d, rfl, hl, hx, fun S1 t p1 ht => ?_⟩
  have h1 := pre_get p1 h
  have ne : t ≠ r := fun z => by rw [z, h1] at ht; cases ht
  simp only [eq_self, ev, ev2, ev3, ev4, ev5, ofS_inj, bodyEnds, String.reduceEq, decide_false, decide_true, reduceCtorEq, List.length_cons, List.length_nil, Nat.reduceAdd, szs, true_and, flatD, List.all_cons, List.all_nil, Bool.and_self, Bool.or_false, Bool.false_or, Bool.or_true, Bool.true_or, Bool.and_true, Bool.true_and, Bool.and_false, Bool.false_and, Bool.not_true, Bool.not_false, ins_ok h1]
  refine ⟨by decide, nx _ _ ?_⟩
  clear nx N
  have k1 : Kp r S (S1.set r (.ins "Reader" [("rest", .ref t)])) := (Kp.of p1).trans Kp.own
  have g1 : (S1.set r (.ins "Reader" [("rest", .ref t)]))[r]? = some (.ins "Reader" [("rest", .ref t)]) := at_set h1
  have b1 : (S1.set r (.ins "Reader" [("rest", .ref t)]))[t]? = some (.lst (ts.map Tn.d)) := Kp.own.at ht ne
  generalize S1.set r (.ins "Reader" [("rest", .ref t)]) = S2 at k1 g1 b1 ⊢
  refine seqM fun N nx => ?_
  simp only [eq_self, ev, ev2, ev3, ev4, ev5, ofS_inj, bodyEnds, String.reduceEq, decide_false, decide_true, reduceCtorEq, List.length_cons, List.length_nil, Nat.reduceAdd, szs, true_and, flatD, List.all_cons, List.all_nil, Bool.and_self, Bool.or_false, Bool.false_or, Bool.or_true, Bool.true_or, Bool.and_true, Bool.true_and, Bool.and_false, Bool.false_and, Bool.not_true, Bool.not_false, ins_ok g1, if_true, if_false]
  refine ⟨by decide, nx _ _ ?_⟩
  clear nx N
  have k2 : Kp r S (S2.set r (.ins "Reader" [("rest", .ref t), ("module", .str m)])) := k1.trans Kp.own
  have g2 : (S2.set r (.ins "Reader" [("rest", .ref t), ("module", .str m)]))[r]? = some (.ins "Reader" [("rest", .ref t), ("module", .str m)]) := at_set g1
  have b2 : (S2.set r (.ins "Reader" [("rest", .ref t), ("module", .str m)]))[t]? = some (.lst (ts.map Tn.d)) := Kp.own.at b1 ne
  generalize S2.set r (.ins "Reader" [("rest", .ref t), ("module", .str m)]) = S3 at k2 g2 b2 ⊢
  refine seqM fun N nx => ?_
  simp only [eq_self, ev, ev2, ev3, ev4, ev5, ofS_inj, bodyEnds, String.reduceEq, decide_false, decide_true, reduceCtorEq, List.length_cons, List.length_nil, Nat.reduceAdd, szs, true_and, flatD, List.all_cons, List.all_nil, Bool.and_self, Bool.or_false, Bool.false_or, Bool.or_true, Bool.true_or, Bool.and_true, Bool.true_and, Bool.and_false, Bool.false_and, Bool.not_true, Bool.not_false, ins_ok g2, if_true, if_false]
  refine ⟨by decide, nx _ _ ?_⟩
  clear nx N
  have k3 : Kp r S (S3.set r (.ins "Reader" [("rest", .ref t), ("module", .str m), ("place", .int 0)])) := k2.trans Kp.own
  have g3 : (S3.set r (.ins "Reader" [("rest", .ref t), ("module", .str m), ("place", .int 0)]))[r]? = some (.ins "Reader" [("rest", .ref t), ("module", .str m), ("place", .int 0)]) := at_set g2
  have b3 : (S3.set r (.ins "Reader" [("rest", .ref t), ("module", .str m), ("place", .int 0)]))[t]? = some (.lst (ts.map Tn.d)) := Kp.own.at b2 ne
  generalize S3.set r (.ins "Reader" [("rest", .ref t), ("module", .str m), ("place", .int 0)]) = S4 at k3 g3 b3 ⊢
  refine seqM fun N nx => ?_
  simp only [eq_self, ev, ev2, ev3, ev4, ev5, ofS_inj, bodyEnds, String.reduceEq, decide_false, decide_true, reduceCtorEq, List.length_cons, List.length_nil, Nat.reduceAdd, szs, true_and, flatD, List.all_cons, List.all_nil, Bool.and_self, Bool.or_false, Bool.false_or, Bool.or_true, Bool.true_or, Bool.and_true, Bool.true_and, Bool.and_false, Bool.false_and, Bool.not_true, Bool.not_false, ins_ok g3, if_true, if_false, txt_len]
  refine ⟨Nat.le_trans hl (by decide), by decide, nx _ _ ?_⟩
  clear nx N
  have k4 : Kp r S (S4.set r (.ins "Reader" [("rest", .ref t), ("module", .str m), ("place", .int 0), ("limit", .int (l.length : Int))])) := k3.trans Kp.own
  have g4 : (S4.set r (.ins "Reader" [("rest", .ref t), ("module", .str m), ("place", .int 0), ("limit", .int (l.length : Int))]))[r]? = some (.ins "Reader" [("rest", .ref t), ("module", .str m), ("place", .int 0), ("limit", .int (l.length : Int))]) := at_set g3
  have b4 : (S4.set r (.ins "Reader" [("rest", .ref t), ("module", .str m), ("place", .int 0), ("limit", .int (l.length : Int))]))[t]? = some (.lst (ts.map Tn.d)) := Kp.own.at b3 ne
  generalize S4.set r (.ins "Reader" [("rest", .ref t), ("module", .str m), ("place", .int 0), ("limit", .int (l.length : Int))]) = S5 at k4 g4 b4 ⊢
  simp only [eq_self, ev, ev2, ev3, ev4, ev5, ofS_inj, bodyEnds, String.reduceEq, decide_false, decide_true, reduceCtorEq, List.length_cons, List.length_nil, Nat.reduceAdd, szs, true_and, flatD, List.all_cons, List.all_nil, Bool.and_self, Bool.or_false, Bool.false_or, Bool.or_true, Bool.true_or, Bool.and_true, Bool.true_and, Bool.and_false, Bool.false_and, Bool.not_true, Bool.not_false, ins_ok g4, if_true, if_false]
  refine ⟨by decide, ?_⟩
  refine q _ t (k4.trans Kp.own) ⟨t, at_set g4, Kp.own.at b4 ne, Nat.zero_le _, rfl⟩
/-- let x = e; -/
inductive St (R : Rd) : Nat → Nat → Nat → D → Nat → Prop
  | slet {k l p x e q} : R.tk p "word" "let" → R.tk (p + 1) "name" x → R.tk (p + 2) "sign" "=" → P R k .ex l .non (p + 3) e q → R.tk q "sign" ";" → St R (k + 1) l p (.tup [.str "let", .str x, e, .int (R.at_ p)]) (q + 1)
theorem St.lt {R : Rd} {k l p : Nat} {e : D} {q : Nat} (h : St R k l p e q) : p < q := by
  cases h with
  | slet _ _ _ he _ => have := he.le; omega
def GLet (k : Nat) : AFn := fun ds S E Q => ∃ r R, ∃ l : Nat, ∃ p x e q w, ds = [.ref r, w, .int (l : Int)] ∧ RdAt S r R p ∧ R.tk p "name" x ∧ R.tk (p + 1) "sign" "=" ∧ P R k .ex l .non (p + 2) e q ∧ R.tk q "sign" ";" ∧ ∀ S', Kp r S S' → RdAt S' r R (q + 1) → Q (.tup [.str "let", .str x, e, w]) S'
theorem sp_let {k : Nat} : ∀ ds S E Q, GLet k ds S E Q → ds.length = 3 ∧ a_read_let GRead GExp (GP .ex k) (bodyEnds Q E) (startA 5 ds) S := by
  rintro ds S E Q ⟨r, R, l, p, x, e, q1, w, rfl, h, hx, h1, he, h2, q⟩
  refine ⟨rfl, ?_⟩
  have st : startA 5 [.ref r, w, .int (l : Int)] = [some (.ref r), some w, some (.int (l : Int)), none, none] := rfl
  rw [st]
  unfold a_read_let
  obtain ⟨pos, htk⟩ := hx
  refine seqM fun N nx => readK h rfl rfl htk rfl fun S1 k1 rd1 => nx _ _ ?_
  clear nx N
  refine seqM fun N nx => expct rd1 rfl rfl h1 fun S2 k2 rd2 => nx _ _ ?_
  clear nx N
  refine seqM fun N nx => ?_
  simp only [eq_self, ev, ev2, ev3, ev4, ev5, ofS_inj, bodyEnds, String.reduceEq, decide_false, decide_true, reduceCtorEq, List.length_cons, List.length_nil, Nat.reduceAdd, szs, true_and, flatD, List.all_cons, List.all_nil, Bool.and_self, Bool.or_false, Bool.false_or, Bool.or_true, Bool.true_or, Bool.and_true, Bool.true_and, Bool.and_false, Bool.false_and, Bool.not_true, Bool.not_false]
  refine ⟨r, R, l, p + 1 + 1, e, q1, rfl, rd2, he, fun S3 k3 rd3 => nx _ _ ?_⟩
  clear nx N
  refine seqM fun N nx => expct rd3 rfl rfl h2 fun S4 k4 rd4 => nx _ _ ?_
  clear nx N
  simp only [eq_self, ev, ev2, ev3, ev4, ev5, ofS_inj, bodyEnds, String.reduceEq, decide_false, decide_true, reduceCtorEq, List.length_cons, List.length_nil, Nat.reduceAdd, szs, true_and, flatD, List.all_cons, List.all_nil, Bool.and_self, Bool.or_false, Bool.false_or, Bool.or_true, Bool.true_or, Bool.and_true, Bool.true_and, Bool.and_false, Bool.false_and, Bool.not_true, Bool.not_false, Tv.d]
  exact q _ (((k1.trans k2).trans k3).trans k4) rd4
def GSt (k : Nat) : AFn := fun ds S E Q => ∃ r R, ∃ l : Nat, ∃ p e q, ds = [.ref r, .int (l : Int)] ∧ RdAt S r R p ∧ St R k l p e q ∧ ∀ S', Kp r S S' → RdAt S' r R q → Q e S'
theorem sp_stat {k : Nat} {F1 F2 F3 F4 : AFn} : ∀ ds S E Q, GSt (k + 1) ds S E Q → ds.length = 2 ∧ a_read_statement GAt GAcc (GLet k) GSees F1 GExp F2 F3 F4 (bodyEnds Q E) (startA 4 ds) S := by
  rintro ds S E Q ⟨r, R, l, p, f, z, rfl, h, hp, q⟩
  refine ⟨rfl, ?_⟩
  have st : startA 4 [.ref r, .int (l : Int)] = [some (.ref r), some (.int (l : Int)), none, none] := rfl
  rw [st]
  unfold a_read_statement
  refine seqM fun N nx => atM h rfl rfl (nx _ _ ?_)
  clear nx N
  cases hp with
  | @slet _ _ _ x e q1 ht h1 h2 he h3 =>
    refine seqM fun N nx => accYes h rfl rfl ht fun S1 k1 rd1 => ?_
    show aRet _ _ _ _
    simp only [eq_self, ev, ev2, ev3, ev4, ev5, ofS_inj, bodyEnds, String.reduceEq, decide_false, decide_true, reduceCtorEq, List.length_cons, List.length_nil, Nat.reduceAdd, szs, true_and, flatD, List.all_cons, List.all_nil, Bool.and_self, Bool.or_false, Bool.false_or, Bool.or_true, Bool.true_or, Bool.and_true, Bool.true_and, Bool.and_false, Bool.false_and, Bool.not_true, Bool.not_false]
    refine ⟨r, R, l, p + 1, x, e, q1, _, rfl, rd1, h1, h2, he, h3, fun S2 k2 rd2 => ?_⟩
    exact q _ (k1.trans k2) rd2
/-! ### depth -/
/-- Dp k e i: the depth i of the tree e, found with at most k calls one in the other -/
inductive Dp : Nat → D → Int → Prop
  | leaf {k x} {t : List D} : (x = ("int" : Str) ∨ x = "bool" ∨ x = "none" ∨ x = "var" ∨ x = "member") → Dp (k + 1) (.tup (.str x :: t)) 1
  | call {k f i as M} (g : D → Int) : Dp k f i → as.length ≤ 1000 → (∀ a ∈ as, Dp k a (g a)) → M ∈ i :: as.map g → (∀ y ∈ i :: as.map g, y ≤ M) → Dp (k + 1) (.tup [.str "call", f, .tup as]) (1 + M)
  | one {k x e i} {t : List D} : (x = ("ask" : Str) ∨ x = "not") → Dp k e i → Dp (k + 1) (.tup (.str x :: e :: t)) (1 + i)
  | two {k x a b i j} : (x = ("or" : Str) ∨ x = "and" ∨ x = "lt" ∨ x = "eq" ∨ x = "add" ∨ x = "sub" ∨ x = "mul") → Dp k a i → Dp k b j → Dp (k + 1) (.tup [.str x, a, b]) (1 + if j > i then j else i)
def GDp (k : Nat) : AFn := fun ds S E Q => ∃ e i, ds = [e] ∧ Dp k e i ∧ ∀ S', S <+: S' → Q (.int i) S'
theorem gdp0 (ds : List D) (S : Sto) (E : XA) (Q : VA) (h : GDp 0 ds S E Q) : False := by
  obtain ⟨e, i, _, h, _⟩ := h
  cases h
theorem sp_edepth {k : Nat} {F1 : AFn} : ∀ ds S E Q, GDp (k + 1) ds S E Q → ds.length = 1 ∧ a_expression_depth F1 (GDp k) (bodyEnds Q E) (startA 3 ds) S := by
  rintro ds S E Q ⟨e, i, rfl, h, q⟩
  refine ⟨rfl, ?_⟩
  have st : startA 3 [e] = [some e, none, none] := rfl
  rw [st]
  unfold a_expression_depth
  refine seqM fun N nx => ?_
  cases h with
  | leaf hx =>
    simp only [eq_self, ev, ev2, ev3, ev4, ev5, ofS_inj, bodyEnds, String.reduceEq, decide_false, decide_true, reduceCtorEq, List.length_cons, List.length_nil, Nat.reduceAdd, szs, true_and, flatD, List.all_cons, List.all_nil, Bool.and_self, Bool.or_false, Bool.false_or, Bool.or_true, Bool.true_or, Bool.and_true, Bool.true_and, Bool.and_false, Bool.false_and, Bool.not_true, Bool.not_false]
    refine nx _ _ ?_
    clear nx N
    rcases hx with rfl | rfl | rfl | rfl | rfl <;> simp only [eq_self, ev, ev2, ev3, ev4, ev5, ofS_inj, bodyEnds, String.reduceEq, decide_false, decide_true, reduceCtorEq, List.length_cons, List.length_nil, Nat.reduceAdd, szs, true_and, flatD, List.all_cons, List.all_nil, Bool.and_self, Bool.or_false, Bool.false_or, Bool.or_true, Bool.true_or, Bool.and_true, Bool.true_and, Bool.and_false, Bool.false_and, Bool.not_true, Bool.not_false, inF, List.any_cons, List.any_nil, eqF] <;> exact q _ pre_refl
  | @one _ x e j t hx he =>
    simp only [eq_self, ev, ev2, ev3, ev4, ev5, ofS_inj, bodyEnds, String.reduceEq, decide_false, decide_true, reduceCtorEq, List.length_cons, List.length_nil, Nat.reduceAdd, szs, true_and, flatD, List.all_cons, List.all_nil, Bool.and_self, Bool.or_false, Bool.false_or, Bool.or_true, Bool.true_or, Bool.and_true, Bool.true_and, Bool.and_false, Bool.false_and, Bool.not_true, Bool.not_false]
    refine nx _ _ ?_
    clear nx N
    have fin : GDp k [e] S (fun x S1 => E x S1) fun x S1 => match x with | .int z => Q (.int (1 + z)) S1 | _ => False := ⟨e, j, rfl, he, fun S' p => q _ p⟩
    rcases hx with rfl | rfl <;> simp only [eq_self, ev, ev2, ev3, ev4, ev5, ofS_inj, bodyEnds, String.reduceEq, decide_false, decide_true, reduceCtorEq, List.length_cons, List.length_nil, Nat.reduceAdd, szs, true_and, flatD, List.all_cons, List.all_nil, Bool.and_self, Bool.or_false, Bool.false_or, Bool.or_true, Bool.true_or, Bool.and_true, Bool.true_and, Bool.and_false, Bool.false_and, Bool.not_true, Bool.not_false, inF, List.any_cons, List.any_nil, eqF] <;> exact ⟨e, j, rfl, he, fun S' p => by simp only [eq_self, ev, ev2, ev3, ev4, ev5, ofS_inj, bodyEnds, String.reduceEq, decide_false, decide_true, reduceCtorEq, List.length_cons, List.length_nil, Nat.reduceAdd, szs, true_and, flatD, List.all_cons, List.all_nil, Bool.and_self, Bool.or_false, Bool.false_or, Bool.or_true, Bool.true_or, Bool.and_true, Bool.true_and, Bool.and_false, Bool.false_and, Bool.not_true, Bool.not_false]; exact q _ p⟩
  | @two _ x a b i j hx ha hb =>
    simp only [eq_self, ev, ev2, ev3, ev4, ev5, ofS_inj, bodyEnds, String.reduceEq, decide_false, decide_true, reduceCtorEq, List.length_cons, List.length_nil, Nat.reduceAdd, szs, true_and, flatD, List.all_cons, List.all_nil, Bool.and_self, Bool.or_false, Bool.false_or, Bool.or_true, Bool.true_or, Bool.and_true, Bool.true_and, Bool.and_false, Bool.false_and, Bool.not_true, Bool.not_false]
    refine nx _ _ ?_
    clear nx N
    rcases hx with rfl | rfl | rfl | rfl | rfl | rfl | rfl <;> simp only [eq_self, ev, ev2, ev3, ev4, ev5, ofS_inj, bodyEnds, String.reduceEq, decide_false, decide_true, reduceCtorEq, List.length_cons, List.length_nil, Nat.reduceAdd, szs, true_and, flatD, List.all_cons, List.all_nil, Bool.and_self, Bool.or_false, Bool.false_or, Bool.or_true, Bool.true_or, Bool.and_true, Bool.true_and, Bool.and_false, Bool.false_and, Bool.not_true, Bool.not_false, inF, List.any_cons, List.any_nil, eqF] <;> refine ⟨a, i, rfl, ha, fun S1 p1 => ?_⟩ <;> simp only [eq_self, ev, ev2, ev3, ev4, ev5, ofS_inj, bodyEnds, String.reduceEq, decide_false, decide_true, reduceCtorEq, List.length_cons, List.length_nil, Nat.reduceAdd, szs, true_and, flatD, List.all_cons, List.all_nil, Bool.and_self, Bool.or_false, Bool.false_or, Bool.or_true, Bool.true_or, Bool.and_true, Bool.true_and, Bool.and_false, Bool.false_and, Bool.not_true, Bool.not_false] <;> refine ⟨b, j, rfl, hb, fun S2 p2 => ?_⟩ <;> simp only [eq_self, ev, ev2, ev3, ev4, ev5, ofS_inj, bodyEnds, String.reduceEq, decide_false, decide_true, reduceCtorEq, List.length_cons, List.length_nil, Nat.reduceAdd, szs, true_and, flatD, List.all_cons, List.all_nil, Bool.and_self, Bool.or_false, Bool.false_or, Bool.or_true, Bool.true_or, Bool.and_true, Bool.true_and, Bool.and_false, Bool.false_and, Bool.not_true, Bool.not_false, cMax] <;> exact q _ (p1.trans p2)
  | @call _ f j as M g hf few ha hm hM =>
    simp only [eq_self, ev, ev2, ev3, ev4, ev5, ofS_inj, bodyEnds, String.reduceEq, decide_false, decide_true, reduceCtorEq, List.length_cons, List.length_nil, Nat.reduceAdd, szs, true_and, flatD, List.all_cons, List.all_nil, Bool.and_self, Bool.or_false, Bool.false_or, Bool.or_true, Bool.true_or, Bool.and_true, Bool.true_and, Bool.and_false, Bool.false_and, Bool.not_true, Bool.not_false]
    refine nx _ _ ?_
    clear nx N
    simp only [eq_self, ev, ev2, ev3, ev4, ev5, ofS_inj, bodyEnds, String.reduceEq, decide_false, decide_true, reduceCtorEq, List.length_cons, List.length_nil, Nat.reduceAdd, szs, true_and, flatD, List.all_cons, List.all_nil, Bool.and_self, Bool.or_false, Bool.false_or, Bool.or_true, Bool.true_or, Bool.and_true, Bool.true_and, Bool.and_false, Bool.false_and, Bool.not_true, Bool.not_false, inF, List.any_cons, List.any_nil, eqF]
    refine ⟨f, j, rfl, hf, fun S1 p1 => ?_⟩
    simp only [eq_self, ev, ev2, ev3, ev4, ev5, ofS_inj, bodyEnds, String.reduceEq, decide_false, decide_true, reduceCtorEq, List.length_cons, List.length_nil, Nat.reduceAdd, szs, true_and, flatD, List.all_cons, List.all_nil, Bool.and_self, Bool.or_false, Bool.false_or, Bool.or_true, Bool.true_or, Bool.and_true, Bool.true_and, Bool.and_false, Bool.false_and, Bool.not_true, Bool.not_false]
    refine lc_map (src := .fix as) (out := as.map fun a => .int (g a)) (S0 := S1 ++ [.lst [.int j]]) (fun Q' h => ?_) trivial (show as.length < sizeLine from Nat.lt_of_le_of_lt few (by decide)) (by rw [List.length_map]; rfl) (fun n d hd => ?_) ?_
    · simp only [eq_self, ev, ev2, ev3, ev4, ev5, ofS_inj, bodyEnds, String.reduceEq, decide_false, decide_true, reduceCtorEq, List.length_cons, List.length_nil, Nat.reduceAdd, szs, true_and, flatD, List.all_cons, List.all_nil, Bool.and_self, Bool.or_false, Bool.false_or, Bool.or_true, Bool.true_or, Bool.and_true, Bool.true_and, Bool.and_false, Bool.false_and, Bool.not_true, Bool.not_false]
      exact h
    · have hd' : as[n]? = some d := hd
      refine ⟨.int (g d), by rw [List.getElem?_map, hd']; rfl, fun S2 Q1 p2 q1 => ?_⟩
      simp only [eq_self, ev, ev2, ev3, ev4, ev5, ofS_inj, bodyEnds, String.reduceEq, decide_false, decide_true, reduceCtorEq, List.length_cons, List.length_nil, Nat.reduceAdd, szs, true_and, flatD, List.all_cons, List.all_nil, Bool.and_self, Bool.or_false, Bool.false_or, Bool.or_true, Bool.true_or, Bool.and_true, Bool.true_and, Bool.and_false, Bool.false_and, Bool.not_true, Bool.not_false]
      exact ⟨d, g d, rfl, ha d (List.mem_of_getElem? hd'), q1⟩
    · intro S2 p2
      have e1 : (S2 ++ [O.lst (as.map fun a => .int (g a))])[S1.length]? = some (.lst [.int j]) := pre_get pre_app (pre_get p2 at_end)
      have e2 : (S2 ++ [O.lst (as.map fun a => .int (g a))])[S2.length]? = some (.lst (as.map fun a => .int (g a))) := at_end
      have p3 : S1 <+: S2 ++ [O.lst (as.map fun a => .int (g a))] := (pre_app.trans p2).trans pre_app
      generalize S2 ++ [O.lst (as.map fun a => .int (g a))] = S3 at e1 e2 p3 ⊢
      show oAdd (.ref S1.length) (.ref S2.length) S3 _
      unfold oAdd
      simp only [e1, e2]
      have hz : 1001 ≤ sizeLine := by decide
      refine ⟨by simp only [List.length_map, List.length_cons, List.length_nil]; omega, ?_⟩
      have e4 : (S3 ++ [O.lst ([D.int j] ++ as.map fun a => .int (g a))])[S3.length]? = some (.lst ((j :: as.map g).map D.int)) := by rw [at_end]; simp
      have p4 : S1 <+: S3 ++ [O.lst ([D.int j] ++ as.map fun a => .int (g a))] := p3.trans pre_app
      generalize S3 ++ [O.lst ([D.int j] ++ as.map fun a => .int (g a))] = S4 at e4 p4 ⊢
      show cMax [.ref S3.length] S4 _
      unfold cMax
      show must (lstOf S4 S3.length) _
      have e5 : lstOf S4 S3.length = some ((j :: as.map g).map D.int) := by unfold lstOf; rw [e4]
      rw [e5]
      refine ⟨j :: as.map g, rfl, by simp, fun m hm2 hM2 => ?_⟩
      have : m = M := Int.le_antisymm (hM _ hm2) (hM2 _ hm)
      subst this
      exact q _ (p1.trans p4)
/-- a let whose tree is not deep -/
def GDs (k : Nat) : AFn := fun ds S E Q => ∃ x e w i, ds = [.tup [.str "let", x, e, w]] ∧ Dp k e i ∧ ∀ S', S <+: S' → Q (.int (1 + i)) S'
theorem sp_depth {k : Nat} {F1 : AFn} : ∀ ds S E Q, GDs k ds S E Q → ds.length = 1 ∧ a_depth (GDp k) F1 (bodyEnds Q E) (startA 2 ds) S := by
  rintro ds S E Q ⟨x, e, w, i, rfl, h, q⟩
  refine ⟨rfl, ?_⟩
  have st : startA 2 [.tup [.str "let", x, e, w]] = [some (.tup [.str "let", x, e, w]), none] := rfl
  rw [st]
  unfold a_depth
  refine seqM fun N nx => ?_
  simp only [eq_self, ev, ev2, ev3, ev4, ev5, ofS_inj, bodyEnds, String.reduceEq, decide_false, decide_true, reduceCtorEq, List.length_cons, List.length_nil, Nat.reduceAdd, szs, true_and, flatD, List.all_cons, List.all_nil, Bool.and_self, Bool.or_false, Bool.false_or, Bool.or_true, Bool.true_or, Bool.and_true, Bool.true_and, Bool.and_false, Bool.false_and, Bool.not_true, Bool.not_false]
  refine nx _ _ ?_
  clear nx N
  simp only [eq_self, ev, ev2, ev3, ev4, ev5, ofS_inj, bodyEnds, String.reduceEq, decide_false, decide_true, reduceCtorEq, List.length_cons, List.length_nil, Nat.reduceAdd, szs, true_and, flatD, List.all_cons, List.all_nil, Bool.and_self, Bool.or_false, Bool.false_or, Bool.or_true, Bool.true_or, Bool.and_true, Bool.true_and, Bool.and_false, Bool.false_and, Bool.not_true, Bool.not_false]
  refine ⟨e, i, rfl, h, fun S' p => ?_⟩
  simp only [eq_self, ev, ev2, ev3, ev4, ev5, ofS_inj, bodyEnds, String.reduceEq, decide_false, decide_true, reduceCtorEq, List.length_cons, List.length_nil, Nat.reduceAdd, szs, true_and, flatD, List.all_cons, List.all_nil, Bool.and_self, Bool.or_false, Bool.false_or, Bool.or_true, Bool.true_or, Bool.and_true, Bool.true_and, Bool.and_false, Bool.false_and, Bool.not_true, Bool.not_false]
  exact q _ p
end Ps
namespace Ps
open PySem PySem.Spec
open PyProof.Rows L2 AL Ab Lx
/-! ### parse of one let -/
theorem kp_new {S S1 S2 : Sto} {r : Nat} (p : S <+: S1) (h : S.length ≤ r) (k : Kp r S1 S2) : S <+: S2 := by
  rw [List.prefix_iff_eq_take]
  apply List.ext_getElem?
  intro i
  rw [List.getElem?_take]
  by_cases hi : i < S.length
  · rw [if_pos hi, k.get i (Nat.lt_of_lt_of_le hi p.length_le) (by omega)]
    rw [List.getElem?_eq_getElem hi]
    exact (pre_get p (List.getElem?_eq_getElem hi)).symm
  · rw [if_neg hi, List.getElem?_eq_none (by omega)]
def GParse (k : Nat) : AFn := fun ds S E Q => ∃ l m ts x e w i, ds = [.str (txt l), .str m] ∧ l.length ≤ 20000 ∧ Lex l 0 (ts.map Tn.d) ∧ 0 < ts.length ∧
  (∀ t, St ⟨t, ts, l.length, 0, .str m⟩ k 1 0 (.tup [.str "let", x, e, w]) ts.length) ∧ (∀ t, Rd.sees ⟨t, ts, l.length, 0, .str m⟩ 0 "word" "let" = true) ∧ Dp k e i ∧ i ≤ 11 ∧ ∀ S' j, S <+: S' → S'[j]? = some (.lst [.tup [.str "let", x, e, w]]) → Q (.ref j) S'
theorem word_no {R : Rd} {p : Nat} {k x y : Str} (h : R.sees p k x = true) (hn : x ≠ y) : R.sees p k y = false := by
  unfold Rd.sees at h ⊢
  cases e : R.toks[p]? with
  | none => rfl
  | some t =>
    rw [e] at h
    obtain ⟨k', v, pos⟩ := t
    cases v with
    | n i => show (decide (k' = k) && false) = false; simp
    | s z =>
      have h' : (decide (k' = k) && decide (z = x)) = true := h
      show (decide (k' = k) && decide (z = y)) = false
      simp only [decide_eq_true_eq, Bool.and_eq_true] at h'
      rw [h'.2, decide_eq_false hn]; simp
theorem moreB {R : Rd} {r p : Nat} {S : Sto} {E : XA} {Q : Bool → Sto → Prop} {a b x4 : Option D} {y : D} (rd : RdAt S r R p) (q : Q (decide (p < R.toks.length)) S) : aB (aOp oLt (aFld "Reader" "place" (aVar 2)) (aCB cLen (aCons (aFld "Reader" "rest" (aVar 2)) aNil))) [a, b, some (.ref r), some y, x4] S E Q := by
  have tk := (Classical.choose_spec rd.ex).2.1
  simp only [eq_self, ev, ev2, ev3, ev4, ev5, ofS_inj, bodyEnds, String.reduceEq, decide_false, decide_true, reduceCtorEq, List.length_cons, List.length_nil, Nat.reduceAdd, szs, true_and, flatD, List.all_cons, List.all_nil, Bool.and_self, Bool.or_false, Bool.false_or, Bool.or_true, Bool.true_or, Bool.and_true, Bool.true_and, Bool.and_false, Bool.false_and, Bool.not_true, Bool.not_false, ins_rd rd, if_true, if_false]
  refine len_lst tk ?_
  simp only [eq_self, ev, ev2, ev3, ev4, ev5, ofS_inj, bodyEnds, String.reduceEq, decide_false, decide_true, reduceCtorEq, List.length_cons, List.length_nil, Nat.reduceAdd, szs, true_and, flatD, List.all_cons, List.all_nil, Bool.and_self, Bool.or_false, Bool.false_or, Bool.or_true, Bool.true_or, Bool.and_true, Bool.true_and, Bool.and_false, Bool.false_and, Bool.not_true, Bool.not_false, List.length_map, lt_nat]
  exact q
theorem sp_parse {k : Nat} {F1 F2 : AFn} : ∀ ds S E Q, GParse k ds S E Q → ds.length = 2 ∧ a_parse GInit GAt GAcc F1 F2 (GSt k) (GDs k) (bodyEnds Q E) (startA 5 ds) S := by
  rintro ds S E Q ⟨l, m, ts, x, e, w, i, rfl, hl, hx, h0, hs, hw, hd, hi, q⟩
  refine ⟨rfl, ?_⟩
  have st : startA 5 [.str (txt l), .str m] = [some (.str (txt l)), some (.str m), none, none, none] := rfl
  rw [st]
  unfold a_parse
  refine seqM fun N nx => ?_
  simp only [eq_self, ev, ev2, ev3, ev4, ev5, ofS_inj, bodyEnds, String.reduceEq, decide_false, decide_true, reduceCtorEq, List.length_cons, List.length_nil, Nat.reduceAdd, szs, true_and, flatD, List.all_cons, List.all_nil, Bool.and_self, Bool.or_false, Bool.false_or, Bool.or_true, Bool.true_or, Bool.and_true, Bool.true_and, Bool.and_false, Bool.false_and, Bool.not_true, Bool.not_false, aMake]
  refine ⟨S.length, l, m, ts, rfl, at_end, hl, hx, fun S1 t k1 rd1 => ⟨rfl, nx _ _ ?_⟩⟩
  clear nx N
  have p1 : S <+: S1 := kp_new pre_app (Nat.le_refl _) k1
  have l1 : S.length < S1.length := rd1.lt.1
  have st1 := hs t
  have w1 := hw t
  generalize hR : Rd.mk t ts l.length 0 (.str m) = R at rd1 st1 w1
  have hn : ts.length = R.toks.length := by rw [← hR]
  rw [hn] at st1 h0
  refine seqM fun N nx => ?_
  simp only [eq_self, ev, ev2, ev3, ev4, ev5, ofS_inj, bodyEnds, String.reduceEq, decide_false, decide_true, reduceCtorEq, List.length_cons, List.length_nil, Nat.reduceAdd, szs, true_and, flatD, List.all_cons, List.all_nil, Bool.and_self, Bool.or_false, Bool.false_or, Bool.or_true, Bool.true_or, Bool.and_true, Bool.true_and, Bool.and_false, Bool.false_and, Bool.not_true, Bool.not_false]
  refine nx _ _ ?_
  clear nx N
  have p2 : S <+: S1 ++ [O.lst []] := p1.trans pre_app
  have a2 : (S1 ++ [O.lst []])[S1.length]? = some (.lst []) := at_end
  have rd2 : RdAt (S1 ++ [O.lst []]) S.length R 0 := rd1.kp pre_app
  have l2 : R.t < S1.length := rd1.lt.2
  generalize hj : S1.length = j at a2 l1 l2
  generalize S1 ++ [O.lst []] = S2 at p2 a2 rd2 ⊢
  refine seqM fun N nx => while_mk ⟨fun n ρ S' => ∃ x4, ρ = [some (.str (txt l)), some (.str m), some (.ref S.length), some (.ref j), x4] ∧ S <+: S' ∧
    ((n = 1 ∧ RdAt S' S.length R 0 ∧ S'[j]? = some (.lst [])) ∨ (n = 0 ∧ RdAt S' S.length R R.toks.length ∧ S'[j]? = some (.lst [.tup [.str "let", x, e, w]]))), ⟨1, none, rfl, p2, .inl ⟨rfl, rd2, a2⟩⟩, ?_⟩
  rintro n ρ S3 ⟨x4, rfl, p3, h3⟩
  rcases h3 with ⟨rfl, rd3, a3⟩ | ⟨rfl, rd3, a3⟩
  · refine moreB rd3 ?_
    rw [decide_eq_true h0]
    show aSeq _ _ _ _ _
    refine seqM fun N2 nx2 => atM rd3 rfl rfl (nx2 _ _ ?_)
    clear nx2 N2
    refine seqM fun N2 nx2 => accNo rd3 rfl rfl (word_no w1 (by decide)) ?_
    refine accNo rd3 rfl rfl (word_no w1 (by decide)) ?_
    show aDrop _ _ _ _
    simp only [eq_self, ev, ev2, ev3, ev4, ev5, ofS_inj, bodyEnds, String.reduceEq, decide_false, decide_true, reduceCtorEq, List.length_cons, List.length_nil, Nat.reduceAdd, szs, true_and, flatD, List.all_cons, List.all_nil, Bool.and_self, Bool.or_false, Bool.false_or, Bool.or_true, Bool.true_or, Bool.and_true, Bool.true_and, Bool.and_false, Bool.false_and, Bool.not_true, Bool.not_false]
    refine ⟨is_lst a3, S.length, R, 1, 0, _, _, rfl, rd3, st1, fun S4 k4 rd4 => ?_⟩
    have a4 := k4.at a3 (by omega)
    have p4 : S <+: S4 := kp_new p3 (Nat.le_refl _) k4
    refine lst_set a4 (by decide) ?_
    have p5 : S <+: S4.set j (.lst ([] ++ [.tup [.str "let", x, e, w]])) := set_pre p4 (by omega)
    have a5 : (S4.set j (.lst ([] ++ [.tup [.str "let", x, e, w]])))[j]? = some (.lst [.tup [.str "let", x, e, w]]) := at_set a4
    have rd5 : RdAt (S4.set j (.lst ([] ++ [.tup [.str "let", x, e, w]]))) S.length R R.toks.length := rd4.set (by omega) (by omega)
    generalize S4.set j (.lst ([] ++ [.tup [.str "let", x, e, w]])) = S5 at p5 a5 rd5 ⊢
    refine nx2 _ _ ?_
    clear nx2 N2
    show aIfS _ _ _ _ _ _
    simp only [eq_self, ev, ev2, ev3, ev4, ev5, ofS_inj, bodyEnds, String.reduceEq, decide_false, decide_true, reduceCtorEq, List.length_cons, List.length_nil, Nat.reduceAdd, szs, true_and, flatD, List.all_cons, List.all_nil, Bool.and_self, Bool.or_false, Bool.false_or, Bool.or_true, Bool.true_or, Bool.and_true, Bool.true_and, Bool.and_false, Bool.false_and, Bool.not_true, Bool.not_false]
    refine len_lst a5 ?_
    simp only [eq_self, ev, ev2, ev3, ev4, ev5, ofS_inj, bodyEnds, String.reduceEq, decide_false, decide_true, reduceCtorEq, List.length_cons, List.length_nil, Nat.reduceAdd, szs, true_and, flatD, List.all_cons, List.all_nil, Bool.and_self, Bool.or_false, Bool.false_or, Bool.or_true, Bool.true_or, Bool.and_true, Bool.true_and, Bool.and_false, Bool.false_and, Bool.not_true, Bool.not_false]
    refine ix_lst a5 (by decide) (show _ = some _ from rfl) ?_
    refine ⟨x, e, w, i, rfl, hd, fun S6 p6 => ?_⟩
    have e2 : decide ((12 : Int) < 1 + i) = false := decide_eq_false (by omega)
    simp only [eq_self, ev, ev2, ev3, ev4, ev5, ofS_inj, bodyEnds, String.reduceEq, decide_false, decide_true, reduceCtorEq, List.length_cons, List.length_nil, Nat.reduceAdd, szs, true_and, flatD, List.all_cons, List.all_nil, Bool.and_self, Bool.or_false, Bool.false_or, Bool.or_true, Bool.true_or, Bool.and_true, Bool.true_and, Bool.and_false, Bool.false_and, Bool.not_true, Bool.not_false, e2]
    refine len_lst (pre_get p6 a5) ?_
    simp only [eq_self, ev, ev2, ev3, ev4, ev5, ofS_inj, bodyEnds, String.reduceEq, decide_false, decide_true, reduceCtorEq, List.length_cons, List.length_nil, Nat.reduceAdd, szs, true_and, flatD, List.all_cons, List.all_nil, Bool.and_self, Bool.or_false, Bool.false_or, Bool.or_true, Bool.true_or, Bool.and_true, Bool.true_and, Bool.and_false, Bool.false_and, Bool.not_true, Bool.not_false]
    exact ⟨0, by omega, _, rfl, p5.trans p6, .inr ⟨rfl, rd5.kp p6, pre_get p6 a5⟩⟩
  · refine moreB rd3 ?_
    rw [decide_eq_false (show ¬ _ by omega)]
    refine nx _ _ ?_
    simp only [eq_self, ev, ev2, ev3, ev4, ev5, ofS_inj, bodyEnds, String.reduceEq, decide_false, decide_true, reduceCtorEq, List.length_cons, List.length_nil, Nat.reduceAdd, szs, true_and, flatD, List.all_cons, List.all_nil, Bool.and_self, Bool.or_false, Bool.false_or, Bool.or_true, Bool.true_or, Bool.and_true, Bool.true_and, Bool.and_false, Bool.false_and, Bool.not_true, Bool.not_false]
    exact q _ _ p3 a3
end Ps
namespace Pl
open PySem PySem.Spec
open PyProof.Rows L2 AL Ab Lx Ps
/-! ### a chain of operands: its tree, its tokens -/
inductive Sg | or | and | lt | eq | add | sub | mul
abbrev Sg.lev : Sg → Nat
  | .or => 0
  | .and => 1
  | .lt => 2
  | .eq => 2
  | .add => 3
  | .sub => 3
  | .mul => 4
abbrev Sg.kd : Sg → Str
  | .or => "word"
  | .and => "word"
  | _ => "sign"
abbrev Sg.sg : Sg → Str
  | .or => "or"
  | .and => "and"
  | .lt => "<"
  | .eq => "=="
  | .add => "+"
  | .sub => "-"
  | .mul => "*"
abbrev Sg.op : Sg → Str
  | .or => "or"
  | .and => "and"
  | .lt => "lt"
  | .eq => "eq"
  | .add => "add"
  | .sub => "sub"
  | .mul => "mul"
abbrev Tok := Str × Tv
def Has (R : Rd) : Nat → List Tok → Prop
  | _, [] => True
  | p, x :: l => (∃ pos, R.toks[p]? = some ⟨x.1, x.2, pos⟩) ∧ Has R (p + 1) l
theorem has_app {R : Rd} : ∀ {l m : List Tok} {p : Nat}, Has R p (l ++ m) ↔ Has R p l ∧ Has R (p + l.length) m
  | [], m, p => by simp [Has]
  | x :: l, m, p => by
    show (_ ∧ Has R (p + 1) (l ++ m)) ↔ (_ ∧ _) ∧ _
    rw [has_app, List.length_cons, show p + (l.length + 1) = p + 1 + l.length by omega, and_assoc]
structure Op where
  tks : List Tok
  tree : D
/-- no sign at q goes on with an operand or with an operator of level j or above -/
structure Stp (R : Rd) (j q : Nat) : Prop where
  op : R.sees q "sign" "(" = false
  dot : R.sees q "sign" "." = false
  sg : ∀ s : Sg, j ≤ s.lev → R.sees q s.kd s.sg = false
structure OpOk (o : Op) : Prop where
  call : ∀ R p l k, Has R p o.tks → R.sees (p + o.tks.length) "sign" "(" = false → R.sees (p + o.tks.length) "sign" "." = false → l < 35 → P R (k + 30) .call l .non p o.tree (p + o.tks.length)
  hd : ∀ R p, Has R p o.tks → R.sees p "word" "not" = false
abbrev Row := List (Sg × Op)
def rtk : Row → List Tok
  | [] => []
  | x :: r => (x.1.kd, .s x.1.sg) :: (x.2.tks ++ rtk r)
abbrev Parts := List (Sg × Op × Row)
def ptk : Parts → List Tok
  | [] => []
  | x :: r => (x.1.kd, .s x.1.sg) :: (x.2.1.tks ++ (rtk x.2.2 ++ ptk r))
def split (j : Nat) : Row → Row × Parts
  | [] => ([], [])
  | x :: r => if x.1.lev = j then ([], (x.1, x.2, (split j r).1) :: (split j r).2) else (x :: (split j r).1, (split j r).2)
def plen : Parts → Nat
  | [] => 0
  | x :: r => 1 + x.2.2.length + plen r
theorem split_tk {j : Nat} : ∀ r : Row, rtk r = rtk (split j r).1 ++ ptk (split j r).2
  | [] => rfl
  | x :: r => by
    unfold split
    by_cases h : x.1.lev = j
    · rw [if_pos h]
      show _ = ptk _
      unfold rtk ptk
      rw [split_tk (j := j) r]
    · rw [if_neg h]
      show (_ :: (x.2.tks ++ rtk r)) = (_ :: (x.2.tks ++ rtk (split j r).1)) ++ ptk (split j r).2
      rw [split_tk (j := j) r, List.cons_append, List.append_assoc]
theorem split_len {j : Nat} : ∀ r : Row, r.length = (split j r).1.length + plen (split j r).2
  | [] => rfl
  | x :: r => by
    have ih := split_len (j := j) r
    unfold split
    by_cases h : x.1.lev = j
    · rw [if_pos h]
      simp only [plen, List.length_cons, List.length_nil]
      omega
    · rw [if_neg h]
      simp only [List.length_cons]
      omega
/-- comparisons stand apart -/
def cm : Bool → Row → Prop
  | _, [] => True
  | b, x :: r => (x.1.lev = 2 → b = false) ∧ cm (decide (x.1.lev = 2) || (b && decide (2 ≤ x.1.lev))) r
theorem split_all {j : Nat} {A : Sg × Op → Prop} : ∀ r : Row, (∀ x ∈ r, A x) → (∀ x ∈ (split j r).1, A x ∧ x.1.lev ≠ j) ∧ ∀ y ∈ (split j r).2, A (y.1, y.2.1) ∧ y.1.lev = j ∧ ∀ x ∈ y.2.2, A x ∧ x.1.lev ≠ j
  | [], _ => ⟨nofun, nofun⟩
  | x :: r, h => by
    obtain ⟨i1, i2⟩ := split_all (j := j) r fun y hy => h y (List.mem_cons_of_mem _ hy)
    have hx := h x (List.mem_cons_self ..)
    unfold split
    by_cases e : x.1.lev = j
    · rw [if_pos e]
      refine ⟨nofun, fun y hy => ?_⟩
      rcases inCons hy with rfl | hy
      · exact ⟨hx, e, i1⟩
      · exact i2 y hy
    · rw [if_neg e]
      refine ⟨fun y hy => ?_, i2⟩
      rcases inCons hy with rfl | hy
      · exact ⟨hx, e⟩
      · exact i1 y hy
theorem split_cm {j : Nat} (hj : j < 2) : ∀ (b : Bool) (r : Row), cm b r → cm b (split j r).1 ∧ ∀ y ∈ (split j r).2, cm false y.2.2
  | _, [], _ => ⟨trivial, nofun⟩
  | b, x :: r, h => by
    obtain ⟨h1, h2⟩ := h
    unfold split
    obtain ⟨i1, i2⟩ := split_cm hj _ r h2
    by_cases e : x.1.lev = j
    · rw [if_pos e]
      refine ⟨trivial, fun y hy => ?_⟩
      rcases inCons hy with rfl | hy
      · have e1 : decide (x.1.lev = 2) = false := decide_eq_false (by omega)
        have e2 : decide (2 ≤ x.1.lev) = false := decide_eq_false (by omega)
        rw [e1, e2] at i1
        simpa using i1
      · exact i2 y hy
    · rw [if_neg e]
      exact ⟨⟨h1, i1⟩, i2⟩
theorem split_two : ∀ (b : Bool) (r : Row), cm b r → (∀ x ∈ r, 2 ≤ x.1.lev) → (split 2 r).2.length ≤ if b then 0 else 1
  | _, [], _, _ => Nat.zero_le _
  | b, x :: r, h, ha => by
    obtain ⟨h1, h2⟩ := h
    have hx := ha x (List.mem_cons_self ..)
    have ih := split_two _ r h2 fun y hy => ha y (List.mem_cons_of_mem _ hy)
    unfold split
    by_cases e : x.1.lev = 2
    · rw [if_pos e, h1 e]
      rw [decide_eq_true e] at ih
      simp at ih ⊢
      exact ih
    · rw [if_neg e]
      rw [decide_eq_false e, decide_eq_true hx] at ih
      simpa using ih
def T : Nat → Op → Row → D
  | 0, a, _ => a.tree
  | n + 1, a, r => (split (4 - n) r).2.foldl (fun acc x => .tup [.str x.1.op, acc, T n x.2.1 x.2.2]) (T n a (split (4 - n) r).1)
end Pl
namespace Pl
open PySem PySem.Spec
open PyProof.Rows L2 AL Ab Lx Ps
/-! ### a chain is read as its tree -/
abbrev nt : Nat → Nt
  | 0 => .call
  | 1 => .bin .prod
  | 2 => .sum
  | 3 => .plain
  | 4 => .bin .both
  | _ => .ex
theorem stp_of {R : Rd} {j q : Nat} {s : Sg} (h : R.tk q s.kd s.sg) (hj : s.lev < j) : Stp R j q := by
  refine ⟨?_, ?_, fun s' h' => ?_⟩
  · exact tk_no h (by cases s <;> decide)
  · exact tk_no h (by cases s <;> decide)
  · refine tk_no h ?_
    cases s <;> cases s' <;> first | decide | (simp only [Sg.lev] at h' hj; omega)
theorem Stp.up {R : Rd} {j i q : Nat} (h : Stp R j q) (hj : j ≤ i) : Stp R i q := ⟨h.op, h.dot, fun s hs => h.sg s (Nat.le_trans hj hs)⟩
theorem has_cons {R : Rd} {p : Nat} {k x : Str} {l : List Tok} (h : Has R p ((k, .s x) :: l)) : R.tk p k x ∧ Has R (p + 1) l := h
/-- the loop of a level over the parts -/
theorem loop {R : Rd} {j K : Nat} {sub : Nt} {L : Nat → D → Nat → D → Nat → Prop} {f : Op → Row → D} (hE : ∀ l a p, Stp R j p → L l a p a p)
    (hN : ∀ (s : Sg) l a p e q g z, s.lev = j → R.tk p s.kd s.sg → l < 40 → P R K sub (l + 1) .non (p + 1) e q → L (l + 1) (.tup [.str s.op, a, e]) q g z → L l a p g z) :
    ∀ (t : Parts) (l : Nat) (acc : D) (p : Nat), Has R p (ptk t) → Stp R j (p + (ptk t).length) → (∀ y ∈ t, y.1.lev = j) → l + plen t ≤ 30 →
    (∀ y ∈ t, ∀ (l p : Nat), Has R p (y.2.1.tks ++ rtk y.2.2) → Stp R (j + 1) (p + (y.2.1.tks ++ rtk y.2.2).length) → l + y.2.2.length ≤ 30 → P R K sub l .non p (f y.2.1 y.2.2) (p + (y.2.1.tks ++ rtk y.2.2).length)) →
    L l acc p (t.foldl (fun acc x => .tup [.str x.1.op, acc, f x.2.1 x.2.2]) acc) (p + (ptk t).length)
  | [], l, acc, p, _, hs, _, _, _ => hE l acc p hs
  | y :: t, l, acc, p, hh, hs, hl, hz, hp => by
    obtain ⟨s, o, r⟩ := y
    have hsl : s.lev = j := hl _ (List.mem_cons_self ..)
    unfold ptk at hh hs ⊢
    obtain ⟨ht, hr⟩ := has_cons hh
    rw [← List.append_assoc] at hr
    obtain ⟨hr, hrest⟩ := has_app.mp hr
    have elen : p + ((s.kd, Tv.s s.sg) :: (o.tks ++ (rtk r ++ ptk t))).length = p + 1 + (o.tks ++ rtk r).length + (ptk t).length := by simp only [List.length_cons, List.length_append]; omega
    show L l acc p _ (p + ((s.kd, Tv.s s.sg) :: (o.tks ++ (rtk r ++ ptk t))).length)
    rw [elen] at hs ⊢
    unfold plen at hz
    have st1 : Stp R (j + 1) (p + 1 + (o.tks ++ rtk r).length) := by
      cases t with
      | nil => exact hs.up (by omega)
      | cons y2 t2 =>
        unfold ptk at hrest
        exact stp_of (has_cons hrest).1 (by have := hl y2 (List.mem_cons_of_mem _ (List.mem_cons_self ..)); omega)
    have one := hp _ (List.mem_cons_self ..) (l + 1) (p + 1) hr st1 (by simp only at hz ⊢; omega)
    have rest := loop hE hN t (l + 1) (.tup [.str s.op, acc, f o r]) _ hrest hs (fun z hz => hl z (List.mem_cons_of_mem _ hz)) (by simp only at hz; omega) fun z hz => hp z (List.mem_cons_of_mem _ hz)
    exact hN s l acc p _ _ _ _ hsl ht (by omega) one rest
theorem PT : ∀ (n : Nat), n ≤ 5 → ∀ (a : Op) (r : Row) (R : Rd) (p l k : Nat), OpOk a → (∀ x ∈ r, OpOk x.2 ∧ 5 - n ≤ x.1.lev) → (3 ≤ n → cm false r) →
    Has R p (a.tks ++ rtk r) → Stp R (5 - n) (p + (a.tks ++ rtk r).length) → l + r.length ≤ 30 → P R (k + 30 + n) (nt n) l .non p (T n a r) (p + (a.tks ++ rtk r).length)
  | 0, _, a, r, R, p, l, k, ha, hr, _, hh, hs, hl => by
    have : r = [] := by
      cases r with
      | nil => rfl
      | cons x r =>
        have := (hr x (List.mem_cons_self ..)).2
        have h2 : x.1.lev ≤ 4 := by cases x.1 <;> decide
        omega
    subst this
    rw [show rtk [] = [] from rfl, List.append_nil] at hh hs ⊢
    exact ha.call R p l k hh hs.op hs.dot (by simp only [List.length_nil] at hl; omega)
  | n + 1, hn, a, r, R, p, l, k, ha, hr, hc, hh, hs, hl => by
    have ej : 5 - (n + 1) = 4 - n := by omega
    rw [ej] at hs hr
    have ej2 : 5 - n = 4 - n + 1 := by omega
    have sa := split_all (j := 4 - n) (A := fun x => OpOk x.2 ∧ 4 - n ≤ x.1.lev) r hr
    have sl := split_len (j := 4 - n) r
    have scm : 3 ≤ n → cm false (split (4 - n) r).1 ∧ ∀ y ∈ (split (4 - n) r).2, cm false y.2.2 := fun h => split_cm (by omega) _ _ (hc (by omega))
    have two : n + 1 = 3 → (split (4 - n) r).2.length ≤ 1 := fun h => by
      have : n = 2 := by omega
      subst this
      exact split_two false r (hc (by omega)) fun x hx => (hr x hx).2
    rw [split_tk (j := 4 - n) r, ← List.append_assoc] at hh hs ⊢
    obtain ⟨h1, h2⟩ := has_app.mp hh
    show P R (k + 30 + n + 1) (nt (n + 1)) l .non p (List.foldl (fun acc x => .tup [.str x.1.op, acc, T n x.2.1 x.2.2]) (T n a (split (4 - n) r).1) (split (4 - n) r).2) _
    rw [List.length_append, ← Nat.add_assoc] at hs ⊢
    have bound : ∀ y ∈ (split (4 - n) r).2, y.2.2.length ≤ plen (split (4 - n) r).2 := by
      generalize (split (4 - n) r).2 = t
      intro y hy
      induction t with
      | nil => cases hy
      | cons z t ih =>
        unfold plen
        rcases inCons hy with rfl | hy
        · omega
        · have := ih hy; omega
    have stm : Stp R (4 - n + 1) (p + (a.tks ++ rtk (split (4 - n) r).1).length) := by
      cases et : (split (4 - n) r).2 with
      | nil =>
        rw [et] at hs
        exact hs.up (by omega)
      | cons y t =>
        rw [et] at h2
        unfold ptk at h2
        refine stp_of (has_cons h2).1 ?_
        have := (sa.2 y (by rw [et]; exact List.mem_cons_self ..)).2.1
        omega
    have first := PT n (by omega) a (split (4 - n) r).1 R p l k ha (fun x hx => ⟨(sa.1 x hx).1.1, by have := (sa.1 x hx); omega⟩) (fun h => (scm h).1) h1 (by rw [ej2]; exact stm) (by omega)
    have subs : ∀ y ∈ (split (4 - n) r).2, ∀ (l p : Nat), Has R p (y.2.1.tks ++ rtk y.2.2) → Stp R (4 - n + 1) (p + (y.2.1.tks ++ rtk y.2.2).length) → l + y.2.2.length ≤ 30 → P R (k + 30 + n) (nt n) l .non p (T n y.2.1 y.2.2) (p + (y.2.1.tks ++ rtk y.2.2).length) := fun y hy l p hh hs hl => by
      obtain ⟨s1, s2, s3⟩ := sa.2 y hy
      exact PT n (by omega) y.2.1 y.2.2 R p l k s1.1 (fun x hx => ⟨(s3 x hx).1.1, by have := s3 x hx; omega⟩) (fun h => (scm h).2 y hy) hh (by rw [ej2]; exact hs) hl
    have levs : ∀ y ∈ (split (4 - n) r).2, y.1.lev = 4 - n := fun y hy => (sa.2 y hy).2.1
    have hz : l + plen (split (4 - n) r).2 ≤ 30 := by omega
    generalize (split (4 - n) r).2 = t at *
    generalize (split (4 - n) r).1 = h at *
    match n, hn with
    | 0, _ =>
      exact .bin (b := .prod) first (loop (j := 4) (K := k + 30) (sub := .call) (L := P R (k + 31) (.binL .prod)) (f := T 0) (fun l a p s => .binE (s.sg .mul (by decide)))
        (fun s l a p e q g z hs ht hl he hr => by
          cases s <;> first | exact .binN (b := .prod) ht hl he hr | (exfalso; revert hs; decide)) t l _ _ h2 hs levs hz subs)
    | 1, _ =>
      exact .sum first (loop (j := 3) (K := k + 31) (sub := .bin .prod) (L := P R (k + 32) .sumL) (f := T 1) (fun l a p s => .sumE (s.sg .add (by decide)) (s.sg .sub (by decide)))
        (fun s l a p e q g z hs ht hl he hr => by
          cases s <;> first | (exfalso; revert hs; decide) | exact .sumN ht (by decide) hl he hr) t l _ _ h2 hs levs hz subs)
    | 2, _ =>
      cases t with
      | nil =>
        refine .pone ?_ first (hs.sg .lt (by decide)) (hs.sg .eq (by decide))
        exact ha.hd R p (has_app.mp h1).1
      | cons y t =>
        have := two rfl
        have : t = [] := List.length_eq_zero_iff.mp (by simpa using this)
        subst this
        unfold ptk at h2 hs ⊢
        obtain ⟨ht, h2⟩ := has_cons h2
        have hs2 := subs y (List.mem_cons_self ..) (l + 1) (p + (a.tks ++ rtk h).length + 1) (by simpa [ptk] using h2) (by
          have := hs.up (show 2 ≤ 3 by decide)
          simp only [ptk, List.append_nil, List.length_cons] at this
          rw [show p + (a.tks ++ rtk h).length + 1 + (y.2.1.tks ++ rtk y.2.2).length = p + (a.tks ++ rtk h).length + ((y.2.1.tks ++ rtk y.2.2).length + 1) by omega]
          exact this) (by unfold plen at hz; omega)
        have hd := ha.hd R p (has_app.mp h1).1
        have lv := levs y (List.mem_cons_self ..)
        have ee : p + (a.tks ++ rtk h).length + ((y.1.kd, Tv.s y.1.sg) :: (y.2.1.tks ++ (rtk y.2.2 ++ ptk []))).length = p + (a.tks ++ rtk h).length + 1 + (y.2.1.tks ++ rtk y.2.2).length := by
          simp only [ptk, List.append_nil, List.length_cons]; omega
        rw [ee]
        obtain ⟨s, o, rr⟩ := y
        have lv : s.lev = 2 := lv
        have sx : s = .lt ∨ s = .eq := by
          clear ee hs2 ht h2 subs hs
          cases s
          · exact absurd lv (by decide)
          · exact absurd lv (by decide)
          · exact .inl rfl
          · exact .inr rfl
          · exact absurd lv (by decide)
          · exact absurd lv (by decide)
          · exact absurd lv (by decide)
        rcases sx with rfl | rfl
        · exact .pcmp hd first ht (show cmpOp "<" = some "lt" by decide) (by omega) hs2
        · exact .pcmp hd first ht (show cmpOp "==" = some "eq" by decide) (by omega) hs2
    | 3, _ =>
      exact .bin (b := .both) first (loop (j := 1) (K := k + 33) (sub := .plain) (L := P R (k + 34) (.binL .both)) (f := T 3) (fun l a p s => .binE (s.sg .and (by decide)))
        (fun s l a p e q g z hs ht hl he hr => by
          cases s <;> first | exact .binN (b := .both) ht hl he hr | (exfalso; revert hs; decide)) t l _ _ h2 hs levs hz subs)
    | 4, _ =>
      exact .bin (b := .exp) first (loop (j := 0) (K := k + 34) (sub := .bin .both) (L := P R (k + 35) (.binL .exp)) (f := T 4) (fun l a p s => .binE (s.sg .or (by decide)))
        (fun s l a p e q g z hs ht hl he hr => by
          cases s <;> first | exact .binN (b := .exp) ht hl he hr | (exfalso; revert hs; decide)) t l _ _ h2 hs levs hz subs)
    | n + 5, h => omega
end Pl
namespace Pl
open PySem PySem.Spec
open PyProof.Rows L2 AL Ab Lx Ps
/-! ### texts and their tokens -/
def dg (m : Nat) : List Nat := (Nat.toDigits 10 m).map Char.toNat
theorem txt_dg (m : Nat) : Str.ofString (toString ((m : Nat) : Int)) = txt (dg m) := by
  rw [txt_of (Str.ofString _), W.KIN.signs_num]
  rfl
theorem dc_nat : ∀ d : Nat, d < 10 → (Nat.digitChar d).toNat = 48 + d := by decide
theorem dg_head (m : Nat) : 0 < m → ∃ c w, dg m = c :: w ∧ c ≠ 48 := by
  induction (m : Nat) using Nat.strongRecOn with
  | _ m ih =>
    intro h0
    unfold dg
    by_cases h : m < 10
    · rw [Nat.toDigits_of_lt_base (show m < 10 from h)]
      exact ⟨_, [], rfl, by rw [dc_nat m h]; omega⟩
    · rw [Nat.toDigits_of_base_le (by decide) (by omega)]
      obtain ⟨c, w, e, hc⟩ := ih (m / 10) (by omega) (by omega)
      unfold dg at e
      rw [List.map_append, e]
      exact ⟨c, _, rfl, hc⟩
theorem num_dg {m : Nat} (h : m ≤ 65535) : Num (dg m) (m : Int) := by
  have hlen : (dg m).length ≤ 5 := by
    unfold dg
    rw [List.length_map, Nat.length_toDigits_le_iff (by decide) (by decide)]
    omega
  have hne : dg m ≠ [] := by
    rcases Nat.eq_zero_or_pos m with rfl | h0
    · decide
    · obtain ⟨c, w, e, _⟩ := dg_head m h0
      rw [e]; exact nofun
  refine ⟨hne, ?_, hlen, ?_, by omega, ?_⟩
  · rw [List.all_eq_true]
    intro c hc
    obtain ⟨ch, hch, rfl⟩ := List.mem_map.mp hc
    have := Nat.isDigit_of_mem_toDigits (by decide) (by decide) hch
    simp only [Char.isDigit, Bool.and_eq_true, decide_eq_true_eq] at this
    simp only [digit, Bool.and_eq_true, decide_eq_true_eq]
    have a1 := UInt32.le_iff_toNat_le.mp this.1
    have a2 := UInt32.le_iff_toNat_le.mp this.2
    exact ⟨a1, a2⟩
  · rw [← txt_dg]
    exact W.KIN.num_reads (by omega) (by omega)
  · intro hl
    rcases Nat.eq_zero_or_pos m with rfl | h0
    · exact absurd hl (by decide)
    · obtain ⟨c, w, e, hc⟩ := dg_head m h0
      rw [e]
      intro z
      exact hc (Option.some.inj z)
/-- u reads as the tokens l, whatever comes behind, if C holds of it -/
def Lexes (u : List Nat) (l : List Tok) (C : List Nat → Prop) : Prop := ∀ r pos (ts : List Tn), C r → Lex r (pos + u.length) (ts.map Tn.d) → ∃ tns : List Tn, tns.map (fun t => (t.k, t.v)) = l ∧ Lex (u ++ r) pos ((tns ++ ts).map Tn.d)
theorem Lexes.app {u v : List Nat} {l m : List Tok} {C D : List Nat → Prop} (h : Lexes u l C) (g : Lexes v m D) (hc : ∀ r, D r → C (v ++ r)) : Lexes (u ++ v) (l ++ m) D := by
  intro r pos ts hr lx
  obtain ⟨t2, e2, l2⟩ := g r (pos + u.length) ts hr (by rw [List.length_append] at lx; rw [Nat.add_assoc]; exact lx)
  obtain ⟨t1, e1, l1⟩ := h (v ++ r) pos (t2 ++ ts) (hc r hr) l2
  exact ⟨t1 ++ t2, by rw [List.map_append, e1, e2], by rw [List.append_assoc, List.append_assoc]; exact l1⟩
theorem lx_word {c : Nat} {w : List Nat} (h1 : letter c = true) (h2 : w.all inName = true) (h4 : isRes (txt (c :: w)) = true ∨ w.length + 1 ≤ 20) : Lexes (c :: w) [(if isRes (txt (c :: w)) then "word" else "name", .s (txt (c :: w)))] fun r => stop r = true := by
  intro r pos ts hr lx
  refine ⟨[⟨if isRes (txt (c :: w)) then "word" else "name", .s (txt (c :: w)), pos⟩], rfl, ?_⟩
  exact Lex.tok (u := c :: w) (.word h1 h2 hr h4) lx
theorem lx_num {m : Nat} (h : m ≤ 65535) : Lexes (dg m) [("number", .n (m : Int))] fun r => stop r = true := by
  intro r pos ts hr lx
  exact ⟨[⟨"number", .n (m : Int), pos⟩], rfl, Lex.tok (u := dg m) (.num (num_dg h) hr) lx⟩
theorem lx_sign {c : Nat} {g : List Nat} (h2 : letter c = false) (h3 : digit c = false) (h4 : c ≠ 34) : Lexes (c :: g) [("sign", .s (txt (c :: g)))] fun r => signOf (c :: g ++ r) = some (c :: g) := by
  intro r pos ts hr lx
  exact ⟨[⟨"sign", .s (txt (c :: g)), pos⟩], rfl, Lex.tok (u := c :: g) (.sign hr h2 h3 h4) lx⟩
theorem lx_sp {c : Nat} (h : c = 32 ∨ c = 9 ∨ c = 10) : Lexes [c] [] fun _ => True := by
  intro r pos ts _ lx
  exact ⟨[], rfl, Lex.sp h lx⟩
end Pl
namespace Pl
open PySem PySem.Spec
open PyProof.Rows L2 AL Ab Lx Ps
/-! ### the operands -/
def onm : Nat → Str
  | 0 => "a"
  | 1 => "b"
  | 2 => "xy"
  | _ => "f_1"
def onc : Nat → List Nat
  | 0 => [97]
  | 1 => [98]
  | 2 => [120, 121]
  | _ => [102, 95, 49]
theorem onm_eq : ∀ n, onm n = txt (onc n)
  | 0 => by decide
  | 1 => by decide
  | 2 => by decide
  | _ + 3 => by show ("f_1" : Str) = txt [102, 95, 49]; decide
inductive Opr | num (v : Nat) | var (n : Nat) | mem (n : Nat) | call (n v : Nat) | neg
def Opr.tx : Opr → List Nat
  | .num v => dg v
  | .var n => onc n
  | .mem n => [115, 46] ++ onc n
  | .call n v => onc n ++ ([40] ++ (dg v ++ [44, 32, 98, 41]))
  | .neg => [40, 110, 111, 116, 32, 116, 114, 117, 101, 41]
abbrev Opr.tks : Opr → List Tok
  | .num v => [("number", .n (v : Int))]
  | .var n => [("name", .s (onm n))]
  | .mem n => [("name", .s "s"), ("sign", .s "."), ("name", .s (onm n))]
  | .call n v => [("name", .s (onm n)), ("sign", .s "("), ("number", .n (v : Int)), ("sign", .s ","), ("name", .s "b"), ("sign", .s ")")]
  | .neg => [("sign", .s "("), ("word", .s "not"), ("word", .s "true"), ("sign", .s ")")]
abbrev Opr.tree : Opr → D
  | .num v => .tup [.str "int", .int (v : Int)]
  | .var n => .tup [.str "var", .str (onm n)]
  | .mem n => .tup [.str "member", .str "s", .str (onm n)]
  | .call n v => .tup [.str "call", .tup [.str "var", .str (onm n)], .tup [.tup [.str "int", .int (v : Int)], .tup [.str "var", .str "b"]]]
  | .neg => .tup [.str "not", .tup [.str "bool", .bl true]]
def Opr.op (o : Opr) : Op := ⟨o.tks, o.tree⟩
def Opr.small : Opr → Prop
  | .num v => v ≤ 65535
  | .call _ v => v ≤ 65535
  | _ => True
theorem stp_end {R : Rd} {q : Nat} {x : Str} (h : R.tk q "sign" x) (hx : x = "," ∨ x = ")" ∨ x = ";") : Stp R 0 q := by
  refine ⟨?_, ?_, fun s _ => ?_⟩
  · exact tk_no h (by rcases hx with rfl | rfl | rfl <;> decide)
  · exact tk_no h (by rcases hx with rfl | rfl | rfl <;> decide)
  · refine tk_no h ?_
    rcases hx with rfl | rfl | rfl <;> cases s <;> decide
theorem plain_prim {R : Rd} {k l p q : Nat} {e : D} (h : P R (k + 1) .prim l .non p e q) (s : Stp R 0 q) (hn : R.sees p "word" "not" = false) : P R (k + 5) .plain l .non p e q :=
  .pone hn (.sum (.bin (b := .prod) (.call h (.callE s.op)) (.binE (s.sg .mul (by decide)))) (.sumE (s.sg .add (by decide)) (s.sg .sub (by decide)))) (s.sg .lt (by decide)) (s.sg .eq (by decide))
theorem ex_plain {R : Rd} {k l p q : Nat} {e : D} (h : P R (k + 1) .plain l .non p e q) (s : Stp R 0 q) : P R (k + 3) .ex l .non p e q :=
  .bin (b := .exp) (.bin (b := .both) h (.binE (s.sg .and (by decide)))) (.binE (s.sg .or (by decide)))
theorem opr_ok (o : Opr) : OpOk o.op := by
  refine ⟨fun R p l k hh ho hd hl => ?_, fun R p hh => ?_⟩
  · cases o with
    | num v =>
      obtain ⟨⟨pos, ht⟩, _⟩ := hh
      exact .call (.num ht rfl) (.callE ho)
    | var n =>
      obtain ⟨⟨pos, ht⟩, _⟩ := hh
      exact .call (.var ⟨pos, ht⟩ hd) (.callE ho)
    | mem n =>
      obtain ⟨h1, h2, h3, _⟩ := hh
      exact .call (.mem h1 h2 h3) (.callE ho)
    | call n v =>
      obtain ⟨h1, h2, ⟨pos, h3⟩, h4, h5, h6, _⟩ := hh
      have h2 : R.tk (p + 1) "sign" "(" := h2
      have h4 : R.tk (p + 3) "sign" "," := h4
      have h5 : R.tk (p + 4) "name" "b" := h5
      have h6 : R.tk (p + 5) "sign" ")" := h6
      have no3 : ∀ k x : Str, ("number" : Str) ≠ k → R.sees (p + 2) k x = false := fun k x hn => num_no h3 rfl hn
      have a1 : P R (k + 28) .ex (l + 1 + 1) .non (p + 2) (.tup [.str "int", .int (v : Int)]) (p + 3) :=
        ex_plain (k := k + 25) (plain_prim (k := k + 21) (.num h3 rfl) (stp_end h4 (.inl rfl)) (no3 _ _ (by decide))) (stp_end h4 (.inl rfl))
      have a2 : P R (k + 28) .ex (l + 1 + 1) .non (p + 3 + 1) (.tup [.str "var", .str "b"]) (p + 5) :=
        ex_plain (k := k + 25) (plain_prim (k := k + 21) (.var h5 (stp_end h6 (.inr (.inl rfl))).dot) (stp_end h6 (.inr (.inl rfl))) (tk_nk h5 (by decide))) (stp_end h6 (.inr (.inl rfl)))
      exact .call (.var h1 (tk_no h2 (by decide))) (.callN h2 (by omega) (.arg1 (no3 _ _ (by decide)) (by omega) a1 (.argN h4 (show 1 < 20000 by decide) (by omega) a2 (.argE h6 (show 2 < 20000 by decide)))) (.callE ho))
    | neg =>
      obtain ⟨h1, h2, h3, h4, _⟩ := hh
      have h2 : R.tk (p + 1) "word" "not" := h2
      have h3 : R.tk (p + 2) "word" "true" := h3
      have h4 : R.tk (p + 3) "sign" ")" := h4
      have s4 := stp_end h4 (.inr (.inl rfl))
      exact .call (.par h1 (by omega) (ex_plain (k := k + 25) (.pnot h2 (by omega) (plain_prim (k := k + 20) (.tru h3) s4 (tk_no h3 (by decide)))) s4) h4) (.callE ho)
  · cases o with
    | num v =>
      obtain ⟨⟨pos, ht⟩, _⟩ := hh
      exact num_no ht rfl (by decide)
    | var n => exact tk_nk hh.1 (show ("name" : Str) ≠ "word" by decide)
    | mem n => exact tk_nk hh.1 (show ("name" : Str) ≠ "word" by decide)
    | call n v => exact tk_nk hh.1 (show ("name" : Str) ≠ "word" by decide)
    | neg => exact tk_nk hh.1 (show ("sign" : Str) ≠ "word" by decide)
theorem sg40 (r : List Nat) : signOf ([40] ++ r) = some [40] := rfl
theorem sg41 (r : List Nat) : signOf ([41] ++ r) = some [41] := rfl
theorem sg44 (r : List Nat) : signOf ([44] ++ r) = some [44] := rfl
theorem sg46 (r : List Nat) : signOf ([46] ++ r) = some [46] := rfl
theorem sg59 (r : List Nat) : signOf ([59] ++ r) = some [59] := rfl
theorem lx_name {c : Nat} {w : List Nat} {s : Str} (es : s = txt (c :: w)) (h1 : letter c = true) (h2 : w.all inName = true) (h4 : isRes (txt (c :: w)) = false) (h5 : w.length + 1 ≤ 20) : Lexes (c :: w) [("name", .s s)] fun r => stop r = true := by
  have h := lx_word h1 h2 (.inr h5)
  rw [h4] at h
  rw [es]
  exact h
theorem lx_kw {c : Nat} {w : List Nat} {s : Str} (es : s = txt (c :: w)) (h1 : letter c = true) (h2 : w.all inName = true) (h4 : isRes (txt (c :: w)) = true) : Lexes (c :: w) [("word", .s s)] fun r => stop r = true := by
  have h := lx_word h1 h2 (.inl h4)
  rw [h4] at h
  rw [es]
  exact h
theorem lx_sg {c : Nat} {g : List Nat} {s : Str} (es : s = txt (c :: g)) (h2 : letter c = false) (h3 : digit c = false) (h4 : c ≠ 34) : Lexes (c :: g) [("sign", .s s)] fun r => signOf (c :: g ++ r) = some (c :: g) := by
  rw [es]; exact lx_sign h2 h3 h4
theorem lx_onm (n : Nat) : Lexes (onc n) [("name", .s (onm n))] fun r => stop r = true := by
  match n with
  | 0 => exact lx_name (by decide) (by decide) (by decide) (by decide) (by decide)
  | 1 => exact lx_name (by decide) (by decide) (by decide) (by decide) (by decide)
  | 2 => exact lx_name (by decide) (by decide) (by decide) (by decide) (by decide)
  | n + 3 => exact lx_name (s := "f_1") (by decide) (by decide) (by decide) (by decide) (by decide)
theorem opr_lex (o : Opr) (h : o.small) : Lexes o.tx o.tks fun r => stop r = true := by
  cases o with
  | num v => exact lx_num h
  | var n => exact lx_onm n
  | mem n =>
    have a : Lexes [115] [("name", .s "s")] fun r => stop r = true := lx_name (by decide) (by decide) (by decide) (by decide) (by decide)
    have b : Lexes [46] [("sign", .s ".")] fun r => signOf ([46] ++ r) = some [46] := lx_sg (by decide) (by decide) (by decide) (by decide)
    exact (a.app (b.app (lx_onm n) fun r _ => sg46 _) fun r _ => rfl)
  | call n v =>
    have b : Lexes [40] [("sign", .s "(")] fun r => signOf ([40] ++ r) = some [40] := lx_sg (by decide) (by decide) (by decide) (by decide)
    have c : Lexes [44] [("sign", .s ",")] fun r => signOf ([44] ++ r) = some [44] := lx_sg (by decide) (by decide) (by decide) (by decide)
    have sp : Lexes [32] [] fun _ => True := lx_sp (.inl rfl)
    have d : Lexes [98] [("name", .s "b")] fun r => stop r = true := lx_name (by decide) (by decide) (by decide) (by decide) (by decide)
    have e : Lexes [41] [("sign", .s ")")] fun r => signOf ([41] ++ r) = some [41] := lx_sg (by decide) (by decide) (by decide) (by decide)
    have e' : Lexes [41] [("sign", .s ")")] fun r => stop r = true := fun r pos ts _ lx => e r pos ts (sg41 r) lx
    exact (lx_onm n).app (b.app ((lx_num h).app (c.app (sp.app (d.app e' fun r _ => rfl) fun r _ => trivial) fun r _ => sg44 _) fun r _ => rfl) fun r _ => sg40 _) fun r _ => rfl
  | neg =>
    have b : Lexes [40] [("sign", .s "(")] fun r => signOf ([40] ++ r) = some [40] := lx_sg (by decide) (by decide) (by decide) (by decide)
    have c : Lexes [110, 111, 116] [("word", .s "not")] fun r => stop r = true := lx_kw (by decide) (by decide) (by decide) (by decide)
    have sp : Lexes [32] [] fun _ => True := lx_sp (.inl rfl)
    have d : Lexes [116, 114, 117, 101] [("word", .s "true")] fun r => stop r = true := lx_kw (by decide) (by decide) (by decide) (by decide)
    have e : Lexes [41] [("sign", .s ")")] fun r => signOf ([41] ++ r) = some [41] := lx_sg (by decide) (by decide) (by decide) (by decide)
    have e' : Lexes [41] [("sign", .s ")")] fun r => stop r = true := fun r pos ts _ lx => e r pos ts (sg41 r) lx
    exact b.app (c.app (sp.app (d.app e' fun r _ => rfl) fun r _ => trivial) fun r _ => rfl) fun r _ => sg40 _
end Pl
namespace Pl
open PySem PySem.Spec
open PyProof.Rows L2 AL Ab Lx Ps
/-! ### the whole text -/
abbrev Sg.tx : Sg → List Nat
  | .or => [111, 114]
  | .and => [97, 110, 100]
  | .lt => [60]
  | .eq => [61, 61]
  | .add => [43]
  | .sub => [45]
  | .mul => [42]
theorem sg_tx (s : Sg) : s.sg = txt s.tx := by cases s <;> decide
def gap (b : Bool) : List Nat := if b then [10, 32] else [32]
theorem sg_lex (s : Sg) : Lexes s.tx [(s.kd, .s s.sg)] fun r => ∃ t, r = 32 :: t := by
  cases s with
  | or => exact fun r pos ts ⟨t, e⟩ lx => lx_kw (s := "or") (by decide) (by decide) (by decide) (by decide) r pos ts (by rw [e]; rfl) lx
  | and => exact fun r pos ts ⟨t, e⟩ lx => lx_kw (s := "and") (by decide) (by decide) (by decide) (by decide) r pos ts (by rw [e]; rfl) lx
  | lt => exact fun r pos ts ⟨t, e⟩ lx => lx_sg (s := "<") (by decide) (by decide) (by decide) (by decide) r pos ts (by rw [e]; rfl) lx
  | eq => exact fun r pos ts ⟨t, e⟩ lx => lx_sg (s := "==") (by decide) (by decide) (by decide) (by decide) r pos ts (by rw [e]; rfl) lx
  | add => exact fun r pos ts ⟨t, e⟩ lx => lx_sg (s := "+") (by decide) (by decide) (by decide) (by decide) r pos ts (by rw [e]; rfl) lx
  | sub => exact fun r pos ts ⟨t, e⟩ lx => lx_sg (s := "-") (by decide) (by decide) (by decide) (by decide) r pos ts (by rw [e]; rfl) lx
  | mul => exact fun r pos ts ⟨t, e⟩ lx => lx_sg (s := "*") (by decide) (by decide) (by decide) (by decide) r pos ts (by rw [e]; rfl) lx
theorem gap_lex (b : Bool) : Lexes (gap b) [] fun _ => True := by
  cases b with
  | false => exact lx_sp (.inl rfl)
  | true => exact (lx_sp (c := 10) (.inr (.inr rfl))).app (lx_sp (c := 32) (.inl rfl)) fun _ _ => trivial
/-- what stands behind the first operand -/
abbrev Rest := List (Bool × Sg × Opr)
def rtx : Rest → List Nat
  | [] => []
  | x :: r => gap x.1 ++ (x.2.1.tx ++ ([32] ++ (x.2.2.tx ++ rtx r)))
def Rest.row : Rest → Row
  | [] => []
  | x :: r => (x.2.1, x.2.2.op) :: Rest.row r
theorem gap_stop (b : Bool) (r : List Nat) : stop (gap b ++ r) = true := by cases b <;> rfl
theorem rtx_stop : ∀ (x : Rest) (r : List Nat), stop r = true → stop (rtx x ++ r) = true
  | [], r, h => h
  | x :: t, r, _ => by unfold rtx; rw [List.append_assoc]; exact gap_stop _ _
theorem rtx_lex : ∀ x : Rest, (∀ y ∈ x, y.2.2.small) → Lexes (rtx x) (rtk x.row) fun r => stop r = true
  | [], _ => fun r pos ts _ lx => ⟨[], rfl, lx⟩
  | x :: t, h => by
    have ih := rtx_lex t fun y hy => h y (List.mem_cons_of_mem _ hy)
    have o := (opr_lex x.2.2 (h x (List.mem_cons_self ..))).app ih fun r hr => rtx_stop t r hr
    have s := (sg_lex x.2.1).app ((lx_sp (c := 32) (.inl rfl)).app o fun _ _ => trivial) fun r _ => ⟨_, rfl⟩
    exact (gap_lex x.1).app s fun _ _ => trivial
abbrev vTk : List Tok := [("name", .s "v"), ("sign", .s "=")]
abbrev semiTk : List Tok := [("sign", .s ";")]
/-- v = the chain; -/
def body (a : Opr) (x : Rest) : List Nat := [32, 118] ++ ([32] ++ ([61] ++ ([32] ++ (a.tx ++ (rtx x ++ [59])))))
theorem body_lex (a : Opr) (x : Rest) (ha : a.small) (h : ∀ y ∈ x, y.2.2.small) : Lexes (body a x) (vTk ++ (a.tks ++ (rtk x.row ++ semiTk))) fun _ => True := by
  have semi : Lexes [59] [("sign", .s ";")] fun _ => True := fun r pos ts _ lx => lx_sg (s := ";") (by decide) (by decide) (by decide) (by decide) r pos ts (sg59 r) lx
  have o := (opr_lex a ha).app ((rtx_lex x h).app semi fun r _ => rfl) fun r _ => by
    rw [List.append_assoc]
    exact rtx_stop x _ rfl
  have eqs : Lexes [61] [("sign", .s "=")] fun r => ∃ t, r = 32 :: t := fun r pos ts ⟨t, e⟩ lx => lx_sg (s := "=") (by decide) (by decide) (by decide) (by decide) r pos ts (by rw [e]; rfl) lx
  have v : Lexes [118] [("name", .s "v")] fun r => stop r = true := lx_name (by decide) (by decide) (by decide) (by decide) (by decide)
  have e1 := eqs.app ((lx_sp (c := 32) (.inl rfl)).app o fun _ _ => trivial) fun r _ => ⟨_, rfl⟩
  have e2 := v.app ((lx_sp (c := 32) (.inl rfl)).app e1 fun _ _ => trivial) fun r _ => rfl
  exact (lx_sp (c := 32) (.inl rfl)).app e2 fun _ _ => trivial
def whole (a : Opr) (x : Rest) : List Nat := 32 :: 32 :: ([108, 101, 116] ++ body a x)
/-- the tokens of the whole text -/
theorem whole_lex (a : Opr) (x : Rest) (ha : a.small) (h : ∀ y ∈ x, y.2.2.small) : ∃ ts : List Tn, Lex (whole a x) 0 ((⟨"word", .s "let", 2⟩ :: ts : List Tn).map Tn.d) ∧
    ts.map (fun t => (t.k, t.v)) = vTk ++ (a.tks ++ (rtk x.row ++ semiTk)) := by
  obtain ⟨ts, e, l⟩ := body_lex a x ha h [] 5 [] trivial .nil
  rw [List.append_nil, List.append_nil] at l
  refine ⟨ts, .sp (.inl rfl) (.sp (.inl rfl) ?_), e⟩
  exact Lex.tok (u := [108, 101, 116]) (t := Tn.d ⟨"word", .s "let", 2⟩) (Tk.word (c := 108) (w := [101, 116]) (by decide) (by decide) rfl (.inl (by decide))) l
theorem has_of {R : Rd} : ∀ (ts : List Tn) (l : List Tok) (p : Nat), R.toks.drop p = ts → ts.map (fun t => (t.k, t.v)) = l → Has R p l
  | ts, [], _, _, _ => trivial
  | [], x :: l, p, _, e => by cases e
  | t :: ts, x :: l, p, hd, e => by
    rw [List.map_cons, List.cons.injEq] at e
    have h0 : R.toks[p]? = some t := by
      have := List.getElem?_drop (xs := R.toks) (i := p) (j := 0)
      rw [hd] at this
      exact this.symm
    refine ⟨⟨t.pos, ?_⟩, has_of ts l (p + 1) ?_ e.2⟩
    · rw [h0, ← e.1]
    · rw [← List.drop_drop, hd]; rfl
/-- the let is read -/
theorem whole_st (a : Opr) (x : Rest) (hx : x.length ≤ 20) (hc : cm false x.row) (ts : List Tn) (e : ts.map (fun t => (t.k, t.v)) = vTk ++ (a.tks ++ (rtk x.row ++ semiTk))) (t : Nat) (lim ins : Int) (md : D) (k : Nat) :
    St ⟨t, ⟨"word", .s "let", 2⟩ :: ts, lim, ins, md⟩ (k + 36) 1 0 (.tup [.str "let", .str "v", T 5 a.op x.row, .int 2]) (ts.length + 1) := by
  have rlen : ∀ y : Rest, y.row.length = y.length := fun y => by
    induction y with
    | nil => rfl
    | cons z y ih => simp only [Rest.row, List.length_cons, ih]
  have rok : ∀ y : Rest, ∀ z ∈ y.row, OpOk z.2 ∧ 5 - 5 ≤ z.1.lev := fun y => by
    induction y with
    | nil => exact nofun
    | cons z y ih =>
      intro w hw
      rcases List.mem_cons.mp hw with rfl | hw
      · exact ⟨opr_ok _, Nat.zero_le _⟩
      · exact ih w hw
  generalize hR : Rd.mk t (⟨"word", .s "let", 2⟩ :: ts) lim ins md = R
  have h0 : R.tk 0 "word" "let" := ⟨2, by rw [← hR]; rfl⟩
  have hh : Has R 1 (vTk ++ (a.tks ++ (rtk x.row ++ semiTk))) := has_of ts _ 1 (by rw [← hR]; rfl) e
  obtain ⟨h1, h2, h3⟩ := hh
  have h3 : Has R 3 (a.tks ++ (rtk x.row ++ semiTk)) := h3
  rw [← List.append_assoc] at h3
  obtain ⟨h3, h4⟩ := has_app.mp h3
  have h5 := h4.1
  have sp : Stp R 0 (3 + (a.tks ++ rtk x.row).length) := stp_end h5 (.inr (.inr rfl))
  have pt := PT 5 (by decide) a.op x.row R 3 1 k (opr_ok a) (rok x) (fun _ => hc) h3 sp (by rw [rlen]; omega)
  have len : ts.length + 1 = 3 + (a.tks ++ rtk x.row).length + 1 := by
    have := congrArg List.length e
    simp only [List.length_map, List.length_append, List.length_cons, List.length_nil] at this ⊢
    omega
  rw [len]
  have at2 : (2 : Int) = R.at_ 0 := by rw [← hR]; rfl
  rw [at2]
  exact .slet h0 h1 h2 pt h5
end Pl
namespace Pl
open PySem PySem.Spec
open PyProof.Rows L2 AL Ab Lx Ps
/-! ### the depth of the tree -/
theorem dp_up {k : Nat} {e : D} {i : Int} (h : Dp k e i) : Dp (k + 1) e i := by
  induction h with
  | leaf hx => exact .leaf hx
  | call g _ few _ hm hM h1 h2 => exact .call g h1 few h2 hm hM
  | one hx _ h1 => exact .one hx h1
  | two hx _ _ h1 h2 => exact .two hx h1 h2
def Db (m : Nat) (e : D) : Prop := ∃ i : Int, i ≤ m ∧ Dp m e i
theorem Db.up {m : Nat} {e : D} (h : Db m e) : ∀ {n : Nat}, m ≤ n → Db n e := by
  intro n hn
  induction hn with
  | refl => exact h
  | step _ ih =>
    obtain ⟨i, hi, hd⟩ := ih
    exact ⟨i, by omega, dp_up hd⟩
theorem Db.two {m : Nat} {a b : D} (s : Sg) (h : Db m a) (g : Db m b) : Db (m + 1) (.tup [.str s.op, a, b]) := by
  obtain ⟨i, hi, hd⟩ := h
  obtain ⟨j, hj, gd⟩ := g
  refine ⟨_, ?_, .two (by cases s <;> simp) hd gd⟩
  split <;> omega
theorem opr_db (o : Opr) : Db 2 o.tree := by
  cases o with
  | num v => exact ⟨1, by decide, .leaf (.inl rfl)⟩
  | var n => exact ⟨1, by decide, .leaf (by simp)⟩
  | mem n => exact ⟨1, by decide, .leaf (by simp)⟩
  | call n v =>
    refine ⟨1 + 1, by decide, .call (fun _ => 1) (.leaf (by simp)) (by simp) (fun a ha => ?_) (List.mem_cons_self ..) (fun y hy => ?_)⟩
    · rcases inCons ha with rfl | ha
      · exact .leaf (.inl rfl)
      · rcases inCons ha with rfl | ha
        · exact .leaf (by simp)
        · cases ha
    · simp at hy
      omega
  | neg => exact ⟨1 + 1, by decide, .one (.inr rfl) (.leaf (by simp))⟩
theorem fold_db {f : Op → Row → D} : ∀ (t : Parts) (m : Nat) (acc : D), 2 ≤ m → Db m acc → (∀ y ∈ t, Db (2 + y.2.2.length) (f y.2.1 y.2.2)) → Db (m + plen t) (t.foldl (fun acc x => .tup [.str x.1.op, acc, f x.2.1 x.2.2]) acc)
  | [], m, acc, _, h, _ => h
  | y :: t, m, acc, hm, h, g => by
    have h1 := g y (List.mem_cons_self ..)
    have h2 : Db (m + y.2.2.length + 1) (.tup [.str y.1.op, acc, f y.2.1 y.2.2]) := Db.two y.1 (h.up (by omega)) (h1.up (by omega))
    have h3 := fold_db t (m + y.2.2.length + 1) _ (by omega) h2 fun z hz => g z (List.mem_cons_of_mem _ hz)
    unfold plen
    rw [show m + (1 + y.2.2.length + plen t) = m + y.2.2.length + 1 + plen t by omega]
    exact h3
theorem T_db : ∀ (n : Nat) (a : Op) (r : Row), Db 2 a.tree → (∀ x ∈ r, Db 2 x.2.tree) → Db (2 + r.length) (T n a r)
  | 0, a, r, h, _ => h.up (by omega)
  | n + 1, a, r, h, g => by
    have sa := split_all (j := 4 - n) (A := fun x => Db 2 x.2.tree) r g
    have h1 := T_db n a (split (4 - n) r).1 h fun x hx => (sa.1 x hx).1
    have h2 := fold_db (f := T n) (split (4 - n) r).2 _ _ (by omega) h1 fun y hy => T_db n y.2.1 y.2.2 (sa.2 y hy).1 fun x hx => ((sa.2 y hy).2.2 x hx).1
    rw [split_len (j := 4 - n) r, ← Nat.add_assoc]
    exact h2
end Pl
namespace Lw
open PySem PySem.Spec
open PyProof.Rows L2 AL Ab Lx Ps Pl
/-! ### the law's helpers -/
theorem cint_int {i : Int} {S : Sto} {Q : VA} (q : Q (.int i) S) : cInt [.int i] S Q := q
def ScrOk (S : Sto) (d : D) (l : List D) : Prop := d = .kl l ∨ ∃ i, d = .ref i ∧ S[i]? = some (.rol l)
def GCell : AFn := fun ds S E Q => ∃ (d : D) (k : Nat) (ns : List Int), ds = [d, .int k] ∧ ScrOk S d (ns.map .int) ∧ ∀ (n : Int) S', S <+: S' → Q (.int n) S'
theorem at_nat {α : Type} {l : List α} {i : Int} {d : α} (h0 : 0 ≤ i) (h : l[i.toNat]? = some d) : at' l i = some d := by
  unfold at'
  rw [if_pos h0]; exact h
theorem sp_cell : ∀ ds S E Q, GCell ds S E Q → ds.length = 2 ∧ a__law_cell (bodyEnds Q E) (startA 2 ds) S := by
  rintro ds S E Q ⟨d, k, ns, rfl, h, q⟩
  refine ⟨rfl, ?_⟩
  have st : startA 2 [d, .int k] = [some d, some (.int k)] := rfl
  rw [st]
  unfold a__law_cell
  simp only [eq_self, ev, ev2, ev3, ev4, ev5, ofS_inj, bodyEnds, String.reduceEq, decide_false, decide_true, reduceCtorEq, List.length_cons, List.length_nil, Nat.reduceAdd, szs, true_and, flatD, List.all_cons, List.all_nil, Bool.and_self, Bool.or_false, Bool.false_or, Bool.or_true, Bool.true_or, Bool.and_true, Bool.true_and, Bool.and_false, Bool.false_and, Bool.not_true, Bool.not_false]
  have len : ∀ G : VA, G (.int (ns.length : Int)) S → cLen [d] S G := by
    intro G g
    rcases h with rfl | ⟨i, rfl, e⟩
    · show G (.int ((ns.map D.int).length : Int)) S
      rw [List.length_map]; exact g
    · unfold cLen
      simp only [e, List.length_map]
      exact g
  refine len _ ?_
  simp only [eq_self, ev, ev2, ev3, ev4, ev5, ofS_inj, bodyEnds, String.reduceEq, decide_false, decide_true, reduceCtorEq, List.length_cons, List.length_nil, Nat.reduceAdd, szs, true_and, flatD, List.all_cons, List.all_nil, Bool.and_self, Bool.or_false, Bool.false_or, Bool.or_true, Bool.true_or, Bool.and_true, Bool.true_and, Bool.and_false, Bool.false_and, Bool.not_true, Bool.not_false]
  by_cases hk : (k : Int) < (ns.length : Int)
  · simp only [hk, eq_self, ev, ev2, ev3, ev4, ev5, ofS_inj, bodyEnds, String.reduceEq, decide_false, decide_true, reduceCtorEq, List.length_cons, List.length_nil, Nat.reduceAdd, szs, true_and, flatD, List.all_cons, List.all_nil, Bool.and_self, Bool.or_false, Bool.false_or, Bool.or_true, Bool.true_or, Bool.and_true, Bool.true_and, Bool.and_false, Bool.false_and, Bool.not_true, Bool.not_false]
    have hk' : k < ns.length := by omega
    have e1 : (ns.map D.int)[((k : Nat) : Int).toNat]? = some (.int ns[k]) := by
      rw [Int.toNat_natCast, List.getElem?_map, List.getElem?_eq_getElem hk']; rfl
    have e2 := at_nat (by omega) e1
    rcases h with rfl | ⟨i, rfl, e⟩
    · simp only [ev2, e2]
      exact cint_int (q _ _ pre_refl)
    · have : getIx (.ref i) (.int k) S (fun x S1 => cInt [x] S1 Q) = must (at' (ns.map D.int) (k : Int)) fun d => cInt [d] S Q := by
        unfold getIx
        simp only [e]
      rw [this, e2]
      exact cint_int (q _ _ pre_refl)
  · simp only [hk, eq_self, ev, ev2, ev3, ev4, ev5, ofS_inj, bodyEnds, String.reduceEq, decide_false, decide_true, reduceCtorEq, List.length_cons, List.length_nil, Nat.reduceAdd, szs, true_and, flatD, List.all_cons, List.all_nil, Bool.and_self, Bool.or_false, Bool.false_or, Bool.or_true, Bool.true_or, Bool.and_true, Bool.true_and, Bool.and_false, Bool.false_and, Bool.not_true, Bool.not_false]
    exact q _ _ pre_refl
theorem ScrOk.pre {S S' : Sto} {d : D} {l : List D} (h : ScrOk S d l) (p : S <+: S') : ScrOk S' d l := by
  rcases h with rfl | ⟨i, rfl, e⟩
  · exact .inl rfl
  · exact .inr ⟨i, rfl, pre_get p e⟩
theorem opnd_mk {o : Opr} {S : Sto} {Q : VA} {x y : D} (hs : o.small) (h : ∀ o : Opr, o.small → ∀ S' i, S <+: S' → S'[i]? = some (.lst [.str (txt o.tx), o.tree]) → Q (.ref i) S') (hx : x = .str (txt o.tx)) (hy : y = o.tree) : Q (.ref S.length) (S ++ [.lst [x, y]]) := by
  subst hx hy
  exact h o hs _ _ pre_app at_end
def GOpnd : AFn := fun ds S E Q => ∃ c : Int, ds = [.int c] ∧ 0 ≤ c ∧ ∀ o : Opr, o.small → ∀ S' i, S <+: S' → S'[i]? = some (.lst [.str (txt o.tx), o.tree]) → Q (.ref i) S'
theorem cint_eq {i : Int} {S : Sto} {Q : VA} : cInt [.int i] S Q = Q (.int i) S := rfl
theorem div_eq {i j : Int} {S : Sto} {Q : VA} : oDiv (.int i) (.int j) S Q = (CDiv i j ∧ Q (.int (i / j)) S) := rfl
theorem add_str {s t : Str} {S : Sto} {Q : VA} : oAdd (.str s) (.str t) S Q = (s.length + t.length ≤ sizeLine ∧ Q (.str (s ++ t)) S) := rfl
theorem str_eq {m : Nat} {S : Sto} {Q : VA} (h : m ≤ 65535) : cStr [.int (m : Int)] S Q = Q (.str (txt (dg m))) S := by
  show (_ ∧ Q (.str (Str.ofString (toString (m : Int)))) S) = _
  rw [txt_dg]
  have : ((m : Nat) : Int).natAbs.log2 < 1920 := by
    rw [Int.natAbs_natCast]
    rcases Nat.eq_zero_or_pos m with rfl | h0
    · decide
    · exact Nat.lt_of_lt_of_le ((Nat.log2_lt (k := 16) (by omega)).mpr (by omega)) (by decide)
  simp only [this, true_and]
theorem names_ix {x : Int} {S : Sto} {Q : VA} {i : Nat} (h0 : 0 ≤ x) (h1 : x < 4) (e : S[i]? = some (.lst [.str "a", .str "b", .str "xy", .str "f_1"])) (q : ∀ n : Nat, Q (.str (onm n)) S) : getIx (.ref i) (.int x) S Q := by
  have four : x = 0 ∨ x = 1 ∨ x = 2 ∨ x = 3 := by omega
  rcases four with rfl | rfl | rfl | rfl
  · exact ix_lst e h0 (d := .str "a") rfl (q 0)
  · exact ix_lst e h0 (d := .str "b") rfl (q 1)
  · exact ix_lst e h0 (d := .str "xy") rfl (q 2)
  · exact ix_lst e h0 (d := .str "f_1") rfl (q 3)
theorem sp_opnd : ∀ ds S E Q, GOpnd ds S E Q → ds.length = 1 ∧ a__law_operand (bodyEnds Q E) (startA 4 ds) S := by
  rintro ds S E Q ⟨c, rfl, h0, q⟩
  refine ⟨rfl, ?_⟩
  have st : startA 4 [.int c] = [some (.int c), none, none, none] := rfl
  rw [st]
  unfold a__law_operand
  refine seqM fun N nx => ?_
  simp only [eq_self, ev, ev2, ev3, ev4, ev5, ofS_inj, bodyEnds, String.reduceEq, decide_false, decide_true, reduceCtorEq, List.length_cons, List.length_nil, Nat.reduceAdd, szs, true_and, flatD, List.all_cons, List.all_nil, Bool.and_self, Bool.or_false, Bool.false_or, Bool.or_true, Bool.true_or, Bool.and_true, Bool.true_and, Bool.and_false, Bool.false_and, Bool.not_true, Bool.not_false, cint_eq]
  refine ⟨by decide, nx _ _ ?_⟩
  clear nx N
  refine seqM fun N nx => ?_
  simp only [eq_self, ev, ev2, ev3, ev4, ev5, ofS_inj, bodyEnds, String.reduceEq, decide_false, decide_true, reduceCtorEq, List.length_cons, List.length_nil, Nat.reduceAdd, szs, true_and, flatD, List.all_cons, List.all_nil, Bool.and_self, Bool.or_false, Bool.false_or, Bool.or_true, Bool.true_or, Bool.and_true, Bool.true_and, Bool.and_false, Bool.false_and, Bool.not_true, Bool.not_false, cint_eq, div_eq]
  refine ⟨⟨by decide, by decide⟩, by decide, nx _ _ ?_⟩
  clear nx N
  obtain ⟨v, hv⟩ : ∃ v : Nat, c / 6 % 65536 = (v : Int) := Int.eq_ofNat_of_zero_le (Int.emod_nonneg _ (by decide))
  have hv2 : v ≤ 65535 := by
    have := Int.emod_lt_of_pos (c / 6) (show (0 : Int) < 65536 by decide)
    omega
  rw [hv]
  refine seqM fun N nx => ?_
  simp only [eq_self, ev, ev2, ev3, ev4, ev5, ofS_inj, bodyEnds, String.reduceEq, decide_false, decide_true, reduceCtorEq, List.length_cons, List.length_nil, Nat.reduceAdd, szs, true_and, flatD, List.all_cons, List.all_nil, Bool.and_self, Bool.or_false, Bool.false_or, Bool.or_true, Bool.true_or, Bool.and_true, Bool.true_and, Bool.and_false, Bool.false_and, Bool.not_true, Bool.not_false, cint_eq, div_eq]
  refine ⟨⟨by decide, by decide⟩, by decide, ?_⟩
  refine names_ix (Int.emod_nonneg _ (by decide)) (Int.emod_lt_of_pos _ (by decide)) at_end fun n => ?_
  refine nx _ _ ?_
  clear nx N
  have p1 : S <+: S ++ [O.lst [.str "a", .str "b", .str "xy", .str "f_1"]] := pre_app
  have q : ∀ o : Opr, o.small → ∀ S' i, S ++ [O.lst [.str "a", .str "b", .str "xy", .str "f_1"]] <+: S' → S'[i]? = some (.lst [.str (txt o.tx), o.tree]) → Q (.ref i) S' := fun o ho S' i p e => q o ho S' i (p1.trans p) e
  generalize S ++ [O.lst [.str "a", .str "b", .str "xy", .str "f_1"]] = S1 at q ⊢
  have six : c % 6 = 0 ∨ c % 6 = 1 ∨ c % 6 = 2 ∨ c % 6 = 3 ∨ c % 6 = 4 ∨ c % 6 = 5 := by omega
  have hl : (onc n).length ≤ 3 := by rcases n with _ | _ | _ | n <;> simp [onc]
  have hd : (dg v).length ≤ 5 := (num_dg hv2).few
  have app : ∀ a b : List Nat, txt a ++ txt b = txt (a ++ b) := fun a b => by
    show Str.mk (a.toArray ++ b.toArray) = _
    simp [txt]
  have t1 : ("s." : Str) = txt [115, 46] := by decide
  have t2 : ("(" : Str) = txt [40] := by decide
  have t3 : (", b)" : Str) = txt [44, 32, 98, 41] := by decide
  have t4 : ("(not true)" : Str) = txt (Opr.tx .neg) := by decide
  have hz : 100 ≤ sizeLine := by decide
  rcases six with e | e | e | e | e | e <;> rw [e] <;> simp only [eq_self, ev, ev2, ev3, ev4, ev5, ofS_inj, bodyEnds, String.reduceEq, decide_false, decide_true, reduceCtorEq, List.length_cons, List.length_nil, Nat.reduceAdd, szs, true_and, flatD, List.all_cons, List.all_nil, Bool.and_self, Bool.or_false, Bool.false_or, Bool.or_true, Bool.true_or, Bool.and_true, Bool.true_and, Bool.and_false, Bool.false_and, Bool.not_true, Bool.not_false, str_eq hv2, add_str, Int.reduceLT, Int.reduceEq]
  · exact opnd_mk (o := .num v) hv2 q rfl rfl
  · exact opnd_mk (o := .num v) hv2 q rfl rfl
  · exact opnd_mk (o := .var n) trivial q (by rw [onm_eq]; rfl) rfl
  · refine ⟨?_, opnd_mk (o := .mem n) trivial q ?_ rfl⟩
    · rw [t1, onm_eq, txt_len, txt_len]; simp only [List.length_cons, List.length_nil]; omega
    · rw [t1, onm_eq, app]; rfl
  · refine ⟨?_, ?_, ?_, opnd_mk (o := .call n v) hv2 q ?_ rfl⟩
    · rw [t2, onm_eq, txt_len, txt_len]; simp only [List.length_cons, List.length_nil]; omega
    · rw [t2, onm_eq, app, txt_len, txt_len]; simp only [List.length_append, List.length_cons, List.length_nil]; omega
    · rw [t2, t3, onm_eq, app, app, txt_len, txt_len]; simp only [List.length_append, List.length_cons, List.length_nil]; omega
    · rw [t2, t3, onm_eq, app, app, app, List.append_assoc, List.append_assoc]; rfl
  · exact opnd_mk (o := .neg) trivial q (by rw [t4]) rfl
end Lw
namespace Lw
open PySem PySem.Spec
open PyProof.Rows L2 AL Ab Lx Ps Pl
/-! ### the split, from the left -/
abbrev Gr := Op × Pl.Row
def grs (a : Op) (p : Pl.Row × Parts) : List Gr := (a, p.1) :: p.2.map fun y => (y.2.1, y.2.2)
def cuts (p : Parts) : List Sg := p.map fun y => y.1
theorem grs_snoc {j : Nat} {x : Sg × Op} : ∀ (pre : Pl.Row) (a : Op), ∃ init l, grs a (split j pre) = init ++ [l] ∧
    (x.1.lev = j → grs a (split j (pre ++ [x])) = init ++ [l] ++ [(x.2, [])] ∧ cuts (split j (pre ++ [x])).2 = cuts (split j pre).2 ++ [x.1]) ∧
    (x.1.lev ≠ j → grs a (split j (pre ++ [x])) = init ++ [(l.1, l.2 ++ [x])] ∧ cuts (split j (pre ++ [x])).2 = cuts (split j pre).2)
  | [], a => by
    refine ⟨[], (a, []), rfl, fun h => ?_, fun h => ?_⟩
    · show grs a (split j [x]) = _ ∧ cuts (split j [x]).2 = _
      unfold split
      rw [if_pos h]
      exact ⟨rfl, rfl⟩
    · show grs a (split j [x]) = _ ∧ cuts (split j [x]).2 = _
      unfold split
      rw [if_neg h]
      exact ⟨rfl, rfl⟩
  | y :: pre, a => by
    by_cases e : y.1.lev = j
    · obtain ⟨init, l, h1, h2, h3⟩ := grs_snoc (j := j) (x := x) pre y.2
      have u : ∀ r : Pl.Row, split j (y :: r) = ([], (y.1, y.2, (split j r).1) :: (split j r).2) := fun r => by rw [split, if_pos e]
      have g : ∀ r : Pl.Row, grs a (split j (y :: r)) = (a, []) :: grs y.2 (split j r) := fun r => by rw [u]; rfl
      have c : ∀ r : Pl.Row, cuts (split j (y :: r)).2 = y.1 :: cuts (split j r).2 := fun r => by rw [u]; rfl
      refine ⟨(a, []) :: init, l, by rw [g, h1]; rfl, fun h => ?_, fun h => ?_⟩
      · rw [List.cons_append, g, c, c, (h2 h).1, (h2 h).2]; exact ⟨rfl, rfl⟩
      · rw [List.cons_append, g, c, c, (h3 h).1, (h3 h).2]; exact ⟨rfl, rfl⟩
    · obtain ⟨init, l, h1, h2, h3⟩ := grs_snoc (j := j) (x := x) pre a
      have u : ∀ r : Pl.Row, split j (y :: r) = (y :: (split j r).1, (split j r).2) := fun r => by rw [split, if_neg e]
      have g : ∀ (r : Pl.Row) (z : Gr) (t : List Gr), grs a (split j r) = z :: t → grs a (split j (y :: r)) = (z.1, y :: z.2) :: t := fun r z t h => by
        rw [u]
        unfold grs at h ⊢
        rw [List.cons.injEq] at h
        rw [← h.1, h.2]
      have c : ∀ r : Pl.Row, cuts (split j (y :: r)).2 = cuts (split j r).2 := fun r => by rw [u]
      cases init with
      | nil =>
        refine ⟨[], (l.1, y :: l.2), g _ _ _ h1, fun h => ?_, fun h => ?_⟩
        · rw [List.cons_append, c, c, g _ _ _ (h2 h).1, (h2 h).2]; exact ⟨rfl, rfl⟩
        · rw [List.cons_append, c, c, g _ _ _ (h3 h).1, (h3 h).2]; exact ⟨rfl, rfl⟩
      | cons z init =>
        refine ⟨(z.1, y :: z.2) :: init, l, g _ _ _ h1, fun h => ?_, fun h => ?_⟩
        · rw [List.cons_append, c, c, g _ _ _ (h2 h).1, (h2 h).2]; exact ⟨rfl, rfl⟩
        · rw [List.cons_append, c, c, g _ _ _ (h3 h).1, (h3 h).2]; exact ⟨rfl, rfl⟩
end Lw
namespace Lw
open PySem PySem.Spec
open PyProof.Rows L2 AL Ab Lx Ps Pl
/-! ### _law_split -/
theorem rng_at {n j : Nat} {d : D} (h : (Src.rng 0 n).items[j]? = some d) : d = .int (j : Int) ∧ j < n := by
  simp only [Src.items, List.getElem?_map] at h
  obtain ⟨x, hx, rfl⟩ := Option.map_eq_some_iff.mp h
  by_cases lt : j < n
  · rw [List.getElem?_range lt] at hx
    cases hx
    exact ⟨by simp, lt⟩
  · rw [List.getElem?_eq_none (by simpa using lt)] at hx
    cases hx
theorem rng_len {n : Nat} : (Src.rng 0 n).items.length = n := by simp [Src.items]
theorem rng1 {i : Int} {S : Sto} {Q : Src → Sto → Prop} {t : ATA} {ρ : Rho} {E : XA} {S1 : Sto} (ht : ∀ Q' : List D → Sto → Prop, Q' [.int i] S1 → t ρ S E Q') (h : 0 ≤ i ∧ i < 1000) (q : Q (.rng 0 i.toNat) S1) : aiRng1 t ρ S E Q := by
  refine ht _ ⟨⟨by omega, by omega⟩, q⟩
section
variable {S : Sto} {Q : VA}
theorem in_lst {x : D} {l : List D} {i : Nat} (e : S[i]? = some (.lst l)) (hf : (flatD x && l.all flatD) = true) (q : Q (.bl (inF x l)) S) : oIn x (.ref i) S Q := by
  show isIn x (.ref i) S _
  unfold isIn
  simp only [e]
  have : lstOf S i = some l := by unfold lstOf; rw [e]
  rw [this]
  show (if _ then _ else _)
  rw [if_pos hf]; exact q
theorem put_lst {o : Nat} {l : List D} {d : D} {p : Nat} {Q : Sto → Prop} (e : S[o]? = some (.lst l)) (hp : p < l.length) (q : Q (S.set o (.lst (l.set p d)))) : mPut2 (.ref o) (.int (p : Int)) d S Q := by
  unfold mPut2
  simp only [e]
  have ha : at' l (p : Int) = some l[p] := by unfold at'; rw [if_pos (by omega), Int.toNat_natCast, List.getElem?_eq_getElem hp]
  obtain ⟨j, hj, hl⟩ := at_ok ha
  have : ixN l.length (p : Int) = some p := by
    unfold ixN
    simp [hp]
  rw [this]
  exact q
theorem cat_lst {i j : Nat} {l m : List D} (e1 : S[i]? = some (.lst l)) (e2 : S[j]? = some (.lst m)) (hz : l.length + m.length ≤ sizeLine) (q : Q (.ref S.length) (S ++ [.lst (l ++ m)])) : oAdd (.ref i) (.ref j) S Q := by
  unfold oAdd
  simp only [e1, e2]
  exact ⟨hz, q⟩
end
def levL : Nat → List Sg
  | 0 => [.or]
  | 1 => [.and]
  | 2 => [.lt, .eq]
  | 3 => [.add, .sub]
  | _ => [.mul]
def sgD (s : Sg) : D := .str s.sg
theorem in_lev {j : Nat} (hj : j ≤ 4) (s : Sg) : inF (sgD s) ((levL j).map sgD) = decide (s.lev = j) := by
  have five : j = 0 ∨ j = 1 ∨ j = 2 ∨ j = 3 ∨ j = 4 := by omega
  rcases five with rfl | rfl | rfl | rfl | rfl <;> cases s <;> decide
theorem flat_lev (j : Nat) (s : Sg) : (flatD (sgD s) && ((levL j).map sgD).all flatD) = true := by
  simp [sgD, flatD]
def Kn (N : Nat → Prop) (S S' : Sto) : Prop := ∀ i o, N i → S[i]? = some o → S'[i]? = some o
theorem Kn.pre {N : Nat → Prop} {S S' : Sto} (p : S <+: S') : Kn N S S' := fun i o _ h => pre_get p h
theorem Kn.set {N : Nat → Prop} {S S1 : Sto} {i : Nat} {o : O} (h : Kn N S S1) (hi : ¬ N i) : Kn N S (S1.set i o) := fun k x hk e => by
  rw [List.getElem?_set_ne (fun z => hi (by rw [z]; exact hk))]
  exact h k x hk e
theorem Kn.trans {N : Nat → Prop} {S S1 S2 : Sto} (h : Kn N S S1) (g : Kn N S1 S2) : Kn N S S2 := fun i o hi e => g i o hi (h i o hi e)
def opsD (g : Gr) : List D := g.1.tree :: g.2.map fun x => x.2.tree
def sgsD (r : Pl.Row) : List D := r.map fun x => sgD x.1
/-- a group of the split: [operands, signs] -/
def GrOk (N : Nat → Prop) (S : Sto) (d : D) (g : Gr) : Prop := ∃ i j k, d = .ref i ∧ N i ∧ N j ∧ N k ∧ S[i]? = some (.lst [.ref j, .ref k]) ∧ S[j]? = some (.lst (opsD g)) ∧ S[k]? = some (.lst (sgsD g.2))
theorem GrOk.kn {N : Nat → Prop} {S S' : Sto} {d : D} {g : Gr} (h : GrOk N S d g) (k : Kn N S S') : GrOk N S' d g := by
  obtain ⟨i, j, l, e, n1, n2, n3, h1, h2, h3⟩ := h
  exact ⟨i, j, l, e, n1, n2, n3, k _ _ n1 h1, k _ _ n2 h2, k _ _ n3 h3⟩
inductive Grs (N : Nat → Prop) (S : Sto) : List D → List Gr → Prop
  | nil : Grs N S [] []
  | cons {d g l m} : GrOk N S d g → Grs N S l m → Grs N S (d :: l) (g :: m)
theorem Grs.kn {N : Nat → Prop} {S S' : Sto} {l : List D} {m : List Gr} (h : Grs N S l m) (k : Kn N S S') : Grs N S' l m := by
  induction h with
  | nil => exact .nil
  | cons h _ ih => exact .cons (h.kn k) ih
theorem Grs.len {N : Nat → Prop} {S : Sto} {l : List D} {m : List Gr} (h : Grs N S l m) : l.length = m.length := by
  induction h with
  | nil => rfl
  | cons _ _ ih => simp only [List.length_cons, ih]
theorem Grs.snoc {N : Nat → Prop} {S : Sto} {l : List D} {m : List Gr} (h : Grs N S l m) {d : D} {g : Gr} (hg : GrOk N S d g) : Grs N S (l ++ [d]) (m ++ [g]) := by
  induction h with
  | nil => exact .cons hg .nil
  | cons h _ ih => exact .cons h ih
theorem Grs.last {N : Nat → Prop} {S : Sto} {l : List D} {m : List Gr} {g : Gr} (h : Grs N S l (m ++ [g])) : ∃ l' d, l = l' ++ [d] ∧ l'.length = m.length ∧ GrOk N S d g ∧ Grs N S l' m := by
  induction m generalizing l with
  | nil =>
    cases h with
    | cons h1 h2 =>
      cases h2
      exact ⟨[], _, rfl, rfl, h1, .nil⟩
  | cons x m ih =>
    cases h with
    | cons h1 h2 =>
      obtain ⟨l', d, rfl, e, h3, h4⟩ := ih h2
      exact ⟨_ :: l', d, rfl, by simp only [List.length_cons, e], h3, .cons h1 h4⟩
end Lw
namespace Lw
open PySem PySem.Spec
open PyProof.Rows L2 AL Ab Lx Ps Pl
def GSplit : AFn := fun ds S E Q => ∃ io is il a r j, ds = [.ref io, .ref is, .ref il] ∧ j ≤ 4 ∧ r.length ≤ 100 ∧ S[io]? = some (.lst (opsD (a, r))) ∧ S[is]? = some (.lst (sgsD r)) ∧ S[il]? = some (.lst ((levL j).map sgD)) ∧
  ∀ S' i G C gl N, S <+: S' → S'[i]? = some (.lst [.ref G, .ref C]) → S'[G]? = some (.lst gl) → Grs N S' gl (grs a (split j r)) → S'[C]? = some (.lst ((cuts (split j r).2).map sgD)) → Q (.ref i) S'
structure SW (S : Sto) (io is il G C : Nat) (a : Op) (r : Pl.Row) (j n : Nat) (ρ : Rho) (S' : Sto) : Prop where
  ex : ∃ x5 x6 gl, ρ = [some (.ref io), some (.ref is), some (.ref il), some (.ref G), some (.ref C), x5, x6] ∧ S <+: S' ∧ S'[G]? = some (.lst gl) ∧ Grs (fun i => i ≠ G ∧ i ≠ C) S' gl (grs a (split j (r.take n))) ∧ S'[C]? = some (.lst ((cuts (split j (r.take n)).2).map sgD))
theorem for_k {ai : ATI} {ag : ATG} {body : ATS} {D0 : AEnds} {ρ : Rho} {S : Sto} (h : ai ρ S (fun x S1 => D0.ex x ρ S1) fun src S1 => ∃ Wv : Nat → Rho → Sto → Prop, Wv 0 ρ S1 ∧ (∀ k ρ S, k ≤ src.items.length → Wv k ρ S → src.ok S) ∧
  (∀ k d ρ S, src.items[k]? = some d → Wv k ρ S → ag d ρ S fun ρ2 S2 => body { D0 with nx := Wv (k + 1), ct := Wv (k + 1), bk := D0.nx } ρ2 S2) ∧ ∀ ρ S, Wv src.items.length ρ S → D0.nx ρ S) : aFor ai ag body D0 ρ S := h
theorem grs_len (a : Op) (p : Pl.Row × Parts) : (grs a p).length = 1 + p.2.length := by
  unfold grs
  simp only [List.length_cons, List.length_map]
  omega
theorem split_few {j : Nat} (r : Pl.Row) : (split j r).2.length ≤ r.length := by
  rw [split_len (j := j) r]
  generalize (split j r).2 = t
  have : t.length ≤ plen t := by
    induction t with
    | nil => exact Nat.le_refl _
    | cons x t ih => simp only [List.length_cons, plen]; omega
  omega
theorem grs_le (a : Op) (p : Pl.Row × Parts) : ∀ g ∈ grs a p, g.2.length ≤ p.1.length + plen p.2 := by
  intro g hg
  rcases inCons hg with rfl | hg
  · exact Nat.le_add_right _ _
  · obtain ⟨y, hy, rfl⟩ := List.mem_map.mp hg
    have : ∀ t : Parts, y ∈ t → y.2.2.length ≤ plen t := by
      intro t
      induction t with
      | nil => exact nofun
      | cons z t ih =>
        intro h
        unfold plen
        rcases inCons h with rfl | h
        · omega
        · have := ih h; omega
    have := this _ hy
    show y.2.2.length ≤ _
    omega
theorem sp_split : ∀ ds S E Q, GSplit ds S E Q → ds.length = 3 ∧ a__law_split (bodyEnds Q E) (startA 7 ds) S := by
  rintro ds S E Q ⟨io, is, il, a, r, j, rfl, hj, hr, ho, hs, hl, q⟩
  refine ⟨rfl, ?_⟩
  have st : startA 7 [.ref io, .ref is, .ref il] = [some (.ref io), some (.ref is), some (.ref il), none, none, none, none] := rfl
  rw [st]
  unfold a__law_split
  have hz : 1000 ≤ sizeLine := by decide
  refine seqM fun N nx => ?_
  simp only [eq_self, ev, ev2, ev3, ev4, ev5, ofS_inj, bodyEnds, String.reduceEq, decide_false, decide_true, reduceCtorEq, List.length_cons, List.length_nil, Nat.reduceAdd, szs, true_and, flatD, List.all_cons, List.all_nil, Bool.and_self, Bool.or_false, Bool.false_or, Bool.or_true, Bool.true_or, Bool.and_true, Bool.true_and, Bool.and_false, Bool.false_and, Bool.not_true, Bool.not_false]
  refine ix_lst ho (by decide) (show _ = some a.tree from rfl) ?_
  refine nx _ _ ?_
  clear nx N
  refine seqM fun N nx => ?_
  simp only [eq_self, ev, ev2, ev3, ev4, ev5, ofS_inj, bodyEnds, String.reduceEq, decide_false, decide_true, reduceCtorEq, List.length_cons, List.length_nil, Nat.reduceAdd, szs, true_and, flatD, List.all_cons, List.all_nil, Bool.and_self, Bool.or_false, Bool.false_or, Bool.or_true, Bool.true_or, Bool.and_true, Bool.true_and, Bool.and_false, Bool.false_and, Bool.not_true, Bool.not_false]
  refine nx _ _ ?_
  clear nx N
  have len3 : (S ++ [O.lst [a.tree]] ++ [O.lst []]).length = S.length + 2 := by simp
  have len2 : (S ++ [O.lst [a.tree]]).length = S.length + 1 := by simp
  have len4 : ∀ o : O, (S ++ [O.lst [a.tree]] ++ [O.lst []] ++ [o]).length = S.length + 3 := by simp
  have len5 : ∀ o p : O, (S ++ [O.lst [a.tree]] ++ [O.lst []] ++ [o] ++ [p]).length = S.length + 4 := by simp
  rw [len2, len3, len4, len5]
  have p0 : S <+: (S ++ [O.lst [a.tree]] ++ [O.lst []] ++ [O.lst [D.ref (List.length S), D.ref (List.length S + 1)]] ++ [O.lst [D.ref (List.length S + 2)]] ++ [O.lst []]) := (((pre_app.trans pre_app).trans pre_app).trans pre_app).trans pre_app
  have a0 : (S ++ [O.lst [a.tree]] ++ [O.lst []] ++ [O.lst [D.ref (List.length S), D.ref (List.length S + 1)]] ++ [O.lst [D.ref (List.length S + 2)]] ++ [O.lst []])[S.length]? = some (.lst [a.tree]) := by simp [List.getElem?_append]
  have a1 : (S ++ [O.lst [a.tree]] ++ [O.lst []] ++ [O.lst [D.ref (List.length S), D.ref (List.length S + 1)]] ++ [O.lst [D.ref (List.length S + 2)]] ++ [O.lst []])[S.length + 1]? = some (.lst []) := by simp [List.getElem?_append]
  have a2 : (S ++ [O.lst [a.tree]] ++ [O.lst []] ++ [O.lst [D.ref (List.length S), D.ref (List.length S + 1)]] ++ [O.lst [D.ref (List.length S + 2)]] ++ [O.lst []])[S.length + 2]? = some (.lst [.ref S.length, .ref (S.length + 1)]) := by simp [List.getElem?_append]
  have a3 : (S ++ [O.lst [a.tree]] ++ [O.lst []] ++ [O.lst [D.ref (List.length S), D.ref (List.length S + 1)]] ++ [O.lst [D.ref (List.length S + 2)]] ++ [O.lst []])[S.length + 3]? = some (.lst [.ref (S.length + 2)]) := by simp [List.getElem?_append]
  have a4 : (S ++ [O.lst [a.tree]] ++ [O.lst []] ++ [O.lst [D.ref (List.length S), D.ref (List.length S + 1)]] ++ [O.lst [D.ref (List.length S + 2)]] ++ [O.lst []])[S.length + 4]? = some (.lst []) := by simp [List.getElem?_append]
  generalize (S ++ [O.lst [a.tree]] ++ [O.lst []] ++ [O.lst [D.ref (List.length S), D.ref (List.length S + 1)]] ++ [O.lst [D.ref (List.length S + 2)]] ++ [O.lst []]) = S5 at p0 a0 a1 a2 a3 a4 ⊢
  have start : SW S io is il (S.length + 3) (S.length + 4) a r j 0 [some (D.ref io), some (D.ref is), some (D.ref il), some (D.ref (S.length + 3)), some (D.ref (S.length + 4)), none, none] S5 :=
    ⟨none, none, [.ref (S.length + 2)], rfl, p0, a3, .cons ⟨_, _, _, rfl, by omega, by omega, by omega, a2, a0, a1⟩ .nil, a4⟩
  obtain ⟨G, hG⟩ : ∃ G, S.length + 3 = G := ⟨_, rfl⟩
  obtain ⟨C, hC⟩ : ∃ C, S.length + 4 = C := ⟨_, rfl⟩
  rw [hG, hC] at start ⊢
  clear a0 a1 a2 a3 a4 len2 len3 len4 len5
  refine seqM fun N nx => for_k ?_
  have lenR : (sgsD r).length = r.length := by simp [sgsD]
  refine rng1 (S1 := S5) (i := (r.length : Int)) (fun Q' h => ?_) ⟨by omega, by omega⟩ ⟨SW S io is il G C a r j, start, fun _ _ _ _ _ => trivial, ?_, ?_⟩
  · simp only [eq_self, ev, ev2, ev3, ev4, ev5, ofS_inj, bodyEnds, String.reduceEq, decide_false, decide_true, reduceCtorEq, List.length_cons, List.length_nil, Nat.reduceAdd, szs, true_and, flatD, List.all_cons, List.all_nil, Bool.and_self, Bool.or_false, Bool.false_or, Bool.or_true, Bool.true_or, Bool.and_true, Bool.true_and, Bool.and_false, Bool.false_and, Bool.not_true, Bool.not_false]
    refine len_lst (pre_get p0 hs) ?_
    rw [lenR]
    exact h
  · rintro k d ρ S1 hd ⟨x5, x6, gl, rfl, p1, hg, hgr, hc⟩
    obtain ⟨rfl, hk⟩ := rng_at hd
    rw [Int.toNat_natCast] at hk
    obtain ⟨x, hx⟩ : ∃ x, r[k]? = some x := ⟨r[k], List.getElem?_eq_getElem hk⟩
    have tk : r.take (k + 1) = r.take k ++ [x] := by rw [List.take_add_one, hx]; rfl
    have sx : (sgsD r)[((k : Nat) : Int).toNat]? = some (sgD x.1) := by rw [Int.toNat_natCast]; unfold sgsD; rw [List.getElem?_map, hx]; rfl
    have ox : (opsD (a, r))[(((k + 1 : Nat)) : Int).toNat]? = some x.2.tree := by
      rw [Int.toNat_natCast]
      show (a.tree :: r.map fun x => x.2.tree)[k + 1]? = _
      rw [List.getElem?_cons_succ, List.getElem?_map, hx]; rfl
    have lt1 : G < S1.length := (List.getElem?_eq_some_iff.mp hg).1
    have lt2 : C < S1.length := (List.getElem?_eq_some_iff.mp hc).1
    simp only [eq_self, ev, ev2, ev3, ev4, ev5, ofS_inj, bodyEnds, String.reduceEq, decide_false, decide_true, reduceCtorEq, List.length_cons, List.length_nil, Nat.reduceAdd, szs, true_and, flatD, List.all_cons, List.all_nil, Bool.and_self, Bool.or_false, Bool.false_or, Bool.or_true, Bool.true_or, Bool.and_true, Bool.true_and, Bool.and_false, Bool.false_and, Bool.not_true, Bool.not_false]
    refine ix_lst (pre_get p1 hs) (by omega) sx ?_
    refine in_lst (pre_get p1 hl) (flat_lev j x.1) ?_
    rw [in_lev hj]
    obtain ⟨init, l, h1, h2, h3⟩ := grs_snoc (j := j) (x := x) (r.take k) a
    have few : gl.length ≤ 101 := by
      rw [hgr.len, grs_len]
      have := split_few (j := j) (r.take k)
      have := List.length_take_le k r
      omega
    have few2 : ((cuts (split j (r.take k)).2).map sgD).length ≤ 100 := by
      have := split_few (j := j) (r.take k)
      have := List.length_take_le k r
      simp only [cuts, List.length_map]
      omega
    by_cases e : x.1.lev = j
    · obtain ⟨g1, g2⟩ := h2 e
      simp only [e, decide_true]
      refine ⟨is_lst hc, ix_lst (pre_get p1 hs) (by omega) sx (lst_set hc (by omega) ?_)⟩
      have p2 := set_pre (o := O.lst ((cuts (split j (r.take k)).2).map sgD ++ [sgD x.1])) p1 (show S.length ≤ C by omega)
      have c2 : (S1.set C (O.lst ((cuts (split j (r.take k)).2).map sgD ++ [sgD x.1])))[C]? = _ := List.getElem?_set_self lt2
      have gne : G ≠ C := by omega
      have hg2 : (S1.set C (O.lst ((cuts (split j (r.take k)).2).map sgD ++ [sgD x.1])))[G]? = some (.lst gl) := by rw [List.getElem?_set_ne (Ne.symm gne)]; exact hg
      have hgr2 := hgr.kn (Kn.set (i := C) (o := O.lst ((cuts (split j (r.take k)).2).map sgD ++ [sgD x.1])) (Kn.pre (List.prefix_refl S1)) (fun z => z.2 rfl))
      have l2 : (S1.set C (O.lst ((cuts (split j (r.take k)).2).map sgD ++ [sgD x.1]))).length = S1.length := List.length_set
      generalize S1.set C (O.lst ((cuts (split j (r.take k)).2).map sgD ++ [sgD x.1])) = S2 at p2 c2 hg2 hgr2 l2 ⊢
      refine ⟨is_lst hg2, ix_lst (pre_get p2 ho) (by omega) ox ?_⟩
      have len2 : (S2 ++ [O.lst [x.2.tree]]).length = S2.length + 1 := by simp
      have len3 : (S2 ++ [O.lst [x.2.tree]] ++ [O.lst []]).length = S2.length + 2 := by simp
      rw [len2, len3]
      have p3 : S2 <+: (S2 ++ [O.lst [x.2.tree]] ++ [O.lst []] ++ [O.lst [D.ref S2.length, D.ref (S2.length + 1)]]) := (pre_app.trans pre_app).trans pre_app
      have a0 : (S2 ++ [O.lst [x.2.tree]] ++ [O.lst []] ++ [O.lst [D.ref S2.length, D.ref (S2.length + 1)]])[S2.length]? = some (.lst [x.2.tree]) := by simp [List.getElem?_append]
      have a1 : (S2 ++ [O.lst [x.2.tree]] ++ [O.lst []] ++ [O.lst [D.ref S2.length, D.ref (S2.length + 1)]])[S2.length + 1]? = some (.lst []) := by simp [List.getElem?_append]
      have a2 : (S2 ++ [O.lst [x.2.tree]] ++ [O.lst []] ++ [O.lst [D.ref S2.length, D.ref (S2.length + 1)]])[S2.length + 2]? = some (.lst [D.ref S2.length, D.ref (S2.length + 1)]) := by simp [List.getElem?_append]
      generalize (S2 ++ [O.lst [x.2.tree]] ++ [O.lst []] ++ [O.lst [D.ref S2.length, D.ref (S2.length + 1)]]) = S3 at p3 a0 a1 a2 ⊢
      have hg3 := pre_get p3 hg2
      refine lst_set hg3 (by omega) ?_
      have kn : Kn (fun i => i ≠ G ∧ i ≠ C) S3 (S3.set G (O.lst (gl ++ [D.ref (S2.length + 2)]))) := Kn.set (Kn.pre (List.prefix_refl S3)) (fun z => z.1 rfl)
      refine ⟨_, _, _, rfl, set_pre (p2.trans p3) (by omega), at_set hg3, ?_, ?_⟩
      · rw [tk, g1, ← h1]
        exact ((hgr2.kn (Kn.pre p3)).snoc (g := (x.2, [])) ⟨_, _, _, rfl, by omega, by omega, by omega, a2, a0, a1⟩).kn kn
      · rw [tk, g2, List.getElem?_set_ne gne, List.map_append]
        exact pre_get p3 c2
    · obtain ⟨g1, g2⟩ := h3 e
      simp only [e, decide_false]
      rw [h1] at hgr
      obtain ⟨gl', d, egl, lgl, ⟨i, m, n, ed, n1, n2, n3, e1, e2, e3⟩, hgr'⟩ := hgr.last
      subst ed
      have hlast : gl[(((gl.length : Nat) : Int) - 1).toNat]? = some (D.ref i) := by
        have : (((gl.length : Nat) : Int) - 1).toNat = gl'.length := by rw [egl]; simp
        rw [this, egl]; simp
      have h0 : (0 : Int) ≤ ((gl.length : Nat) : Int) - 1 := by rw [egl]; simp
      refine len_lst hg ?_
      simp only [eq_self, ev, ev2, ev3, ev4, ev5, ofS_inj, bodyEnds, String.reduceEq, decide_false, decide_true, reduceCtorEq, List.length_cons, List.length_nil, Nat.reduceAdd, szs, true_and, flatD, List.all_cons, List.all_nil, Bool.and_self, Bool.or_false, Bool.false_or, Bool.or_true, Bool.true_or, Bool.and_true, Bool.true_and, Bool.and_false, Bool.false_and, Bool.not_true, Bool.not_false]
      refine ix_lst hg h0 hlast ?_
      unfold aPut2
      simp only [eq_self, ev, ev2, ev3, ev4, ev5, ofS_inj, bodyEnds, String.reduceEq, decide_false, decide_true, reduceCtorEq, List.length_cons, List.length_nil, Nat.reduceAdd, szs, true_and, flatD, List.all_cons, List.all_nil, Bool.and_self, Bool.or_false, Bool.false_or, Bool.or_true, Bool.true_or, Bool.and_true, Bool.true_and, Bool.and_false, Bool.false_and, Bool.not_true, Bool.not_false]
      refine ix_lst e1 (by decide) (show _ = some (D.ref m) from rfl) ?_
      refine ix_lst (pre_get p1 ho) (by omega) ox ?_
      have fl : (opsD l).length ≤ 101 ∧ (sgsD l.2).length ≤ 100 := by
        have := grs_le a (split j (r.take k)) l (by rw [h1]; simp)
        rw [← Pl.split_len] at this
        have := List.length_take_le k r
        simp only [opsD, sgsD, List.length_cons, List.length_map]
        omega
      refine cat_lst (pre_get pre_app e2) at_end (by simp only [List.length_cons, List.length_nil]; omega) ?_
      have q1 : S1 <+: S1 ++ [O.lst [x.2.tree]] ++ [O.lst (opsD l ++ [x.2.tree])] := pre_app.trans pre_app
      have b0 : (S1 ++ [O.lst [x.2.tree]] ++ [O.lst (opsD l ++ [x.2.tree])])[(S1 ++ [O.lst [x.2.tree]]).length]? = some (.lst (opsD l ++ [x.2.tree])) := at_end
      have ln : S1.length < (S1 ++ [O.lst [x.2.tree]]).length := by simp
      generalize (S1 ++ [O.lst [x.2.tree]]).length = m2 at b0 ln ⊢
      generalize S1 ++ [O.lst [x.2.tree]] ++ [O.lst (opsD l ++ [x.2.tree])] = S2 at q1 b0 ⊢
      refine ix_lst (pre_get q1 e1) (by decide) (show _ = some (D.ref n) from rfl) ?_
      refine ix_lst (pre_get (p1.trans q1) hs) (by omega) sx ?_
      refine cat_lst (pre_get (q1.trans pre_app) e3) at_end (by simp only [List.length_cons, List.length_nil]; omega) ?_
      have q2 : S2 <+: S2 ++ [O.lst [sgD x.1]] ++ [O.lst (sgsD l.2 ++ [sgD x.1])] := pre_app.trans pre_app
      have b1 : (S2 ++ [O.lst [sgD x.1]] ++ [O.lst (sgsD l.2 ++ [sgD x.1])])[(S2 ++ [O.lst [sgD x.1]]).length]? = some (.lst (sgsD l.2 ++ [sgD x.1])) := at_end
      have ln2 : S1.length < (S2 ++ [O.lst [sgD x.1]]).length := by have := q1.length_le; simp; omega
      generalize (S2 ++ [O.lst [sgD x.1]]).length = n2' at b1 ln2 ⊢
      generalize S2 ++ [O.lst [sgD x.1]] ++ [O.lst (sgsD l.2 ++ [sgD x.1])] = S3 at q2 b1 ⊢
      have q3 : S3 <+: S3 ++ [O.lst [D.ref m2, D.ref n2']] := pre_app
      have b2 : (S3 ++ [O.lst [D.ref m2, D.ref n2']])[S3.length]? = some (.lst [D.ref m2, D.ref n2']) := at_end
      have ln3 : S1.length ≤ S3.length := (q1.trans q2).length_le
      have q4 := (q1.trans q2).trans q3
      have b3 := pre_get (q2.trans q3) b0
      have b4 := pre_get q3 b1
      generalize S3.length = i2 at b2 ln3 ⊢
      generalize S3 ++ [O.lst [D.ref m2, D.ref n2']] = S4 at b2 q4 b3 b4 ⊢
      clear q3
      have hg4 := pre_get q4 hg
      refine len_lst hg4 ?_
      simp only [eq_self, ev, ev2, ev3, ev4, ev5, ofS_inj, bodyEnds, String.reduceEq, decide_false, decide_true, reduceCtorEq, List.length_cons, List.length_nil, Nat.reduceAdd, szs, true_and, flatD, List.all_cons, List.all_nil, Bool.and_self, Bool.or_false, Bool.false_or, Bool.or_true, Bool.true_or, Bool.and_true, Bool.true_and, Bool.and_false, Bool.false_and, Bool.not_true, Bool.not_false]
      have gl1 : ((gl.length : Nat) : Int) - 1 = ((gl'.length : Nat) : Int) := by rw [egl]; simp
      rw [gl1]
      refine put_lst hg4 (by rw [egl]; simp) ?_
      have es : gl.set gl'.length (D.ref i2) = gl' ++ [D.ref i2] := by rw [egl, List.set_append_right _ _ (Nat.le_refl _)]; simp
      rw [es]
      have kn : Kn (fun i => i ≠ G ∧ i ≠ C) S4 (S4.set G (O.lst (gl' ++ [D.ref i2]))) := Kn.set (Kn.pre (List.prefix_refl S4)) (fun z => z.1 rfl)
      refine ⟨_, _, _, rfl, set_pre (p1.trans q4) (by omega), at_set hg4, ?_, ?_⟩
      · rw [tk, g1]
        refine ((hgr'.kn (Kn.pre q4)).snoc (g := (l.1, l.2 ++ [x])) ⟨i2, m2, n2', rfl, by omega, by omega, by omega, b2, ?_, ?_⟩).kn kn
        · rw [b3]; simp [opsD]
        · rw [b4]; simp [sgsD]
      · rw [tk, g2, List.getElem?_set_ne (by omega)]
        exact pre_get q4 hc
  · rintro ρ S1 ⟨x5, x6, gl, rfl, p1, hg, hgr, hc⟩
    refine nx _ _ ?_
    rw [rng_len, Int.toNat_natCast, List.take_length] at hgr hc
    simp only [eq_self, ev, ev2, ev3, ev4, ev5, ofS_inj, bodyEnds, String.reduceEq, decide_false, decide_true, reduceCtorEq, List.length_cons, List.length_nil, Nat.reduceAdd, szs, true_and, flatD, List.all_cons, List.all_nil, Bool.and_self, Bool.or_false, Bool.false_or, Bool.or_true, Bool.true_or, Bool.and_true, Bool.true_and, Bool.and_false, Bool.false_and, Bool.not_true, Bool.not_false]
    have lt1 : G < S1.length := (List.getElem?_eq_some_iff.mp hg).1
    have lt2 : C < S1.length := (List.getElem?_eq_some_iff.mp hc).1
    exact q _ _ G C gl _ (p1.trans pre_app) at_end (pre_get pre_app hg) (hgr.kn (Kn.pre pre_app)) (pre_get pre_app hc)
end Lw
namespace Lw
open PySem PySem.Spec
open PyProof.Rows L2 AL Ab Lx Ps Pl
/-! ### _law_chain, _law_tree -/
def chain (acc : D) : List Sg → List D → D
  | s :: ss, t :: ts => chain (.tup [.str s.op, acc, t]) ss ts
  | _, _ => acc
theorem chain_snoc : ∀ (ss : List Sg) (ts : List D) (acc : D) (s : Sg) (t : D), ss.length = ts.length → chain acc (ss ++ [s]) (ts ++ [t]) = .tup [.str s.op, chain acc ss ts, t]
  | [], [], acc, s, t, _ => rfl
  | s0 :: ss, t0 :: ts, acc, s, t, h => chain_snoc ss ts _ s t (by simpa using h)
  | [], _ :: _, _, _, _, h => absurd h (by simp)
  | _ :: _, [], _, _, _, h => absurd h (by simp)
theorem T_chain (n : Nat) (a : Op) (r : Pl.Row) : T (n + 1) a r = chain (T n a (split (4 - n) r).1) (cuts (split (4 - n) r).2) ((split (4 - n) r).2.map fun y => T n y.2.1 y.2.2) := by
  show List.foldl _ _ _ = _
  generalize T n a (split (4 - n) r).1 = acc
  generalize (split (4 - n) r).2 = p
  induction p generalizing acc with
  | nil => rfl
  | cons y p ih => exact ih _
def heads : List (Key × D) := [(.inr "or", .str "or"), (.inr "and", .str "and"), (.inr "<", .str "lt"), (.inr "==", .str "eq"), (.inr "+", .str "add"), (.inr "-", .str "sub"), (.inr "*", .str "mul")]
theorem head_of (s : Sg) : valD heads (.inr s.sg) = some (.str s.op) := by cases s <;> rfl
def GChain : AFn := fun ds S E Q => ∃ ip is ih t ts ss, ds = [.ref ip, .ref is, .ref ih] ∧ S[ip]? = some (.lst (t :: ts)) ∧ S[is]? = some (.lst (ss.map sgD)) ∧ S[ih]? = some (.dK heads) ∧ ts.length = ss.length ∧ ss.length ≤ 500 ∧ Q (chain t ss ts) S
theorem dk_ix {S : Sto} {h : Nat} {kvs : List (Key × D)} {x : Str} {d : D} {Q : VA} (e : S[h]? = some (.dK kvs)) (hv : valD kvs (.inr x) = some d) (q : Q d S) : getIx (.ref h) (.str x) S Q := by
  unfold getIx
  simp only [e, keyD, hv, must_some]
  exact q
theorem sp_chain : ∀ ds S E Q, GChain ds S E Q → ds.length = 3 ∧ a__law_chain (bodyEnds Q E) (startA 5 ds) S := by
  rintro ds S E Q ⟨ip, is, ih, t, ts, ss, rfl, hp, hs, hh, hl, few, q⟩
  refine ⟨rfl, ?_⟩
  have st : startA 5 [.ref ip, .ref is, .ref ih] = [some (.ref ip), some (.ref is), some (.ref ih), none, none] := rfl
  rw [st]
  unfold a__law_chain
  refine seqM fun N nx => ?_
  simp only [eq_self, ev, ev2, ev3, ev4, ev5, ofS_inj, bodyEnds, String.reduceEq, decide_false, decide_true, reduceCtorEq, List.length_cons, List.length_nil, Nat.reduceAdd, szs, true_and, flatD, List.all_cons, List.all_nil, Bool.and_self, Bool.or_false, Bool.false_or, Bool.or_true, Bool.true_or, Bool.and_true, Bool.true_and, Bool.and_false, Bool.false_and, Bool.not_true, Bool.not_false]
  refine ix_lst hp (by decide) (show _ = some t from rfl) ?_
  refine nx _ _ ?_
  clear nx N
  refine seqM fun N nx => for_k ?_
  refine rng1 (S1 := S) (i := (ss.length : Int)) (fun Q' h => ?_) ⟨by omega, by omega⟩ ⟨fun n ρ S' => S' = S ∧ ∃ x4, ρ = [some (.ref ip), some (.ref is), some (.ref ih), some (chain t (ss.take n) (ts.take n)), x4], ⟨rfl, none, by simp [chain]⟩, fun _ _ _ _ _ => trivial, ?_, ?_⟩
  · simp only [eq_self, ev, ev2, ev3, ev4, ev5, ofS_inj, bodyEnds, String.reduceEq, decide_false, decide_true, reduceCtorEq, List.length_cons, List.length_nil, Nat.reduceAdd, szs, true_and, flatD, List.all_cons, List.all_nil, Bool.and_self, Bool.or_false, Bool.false_or, Bool.or_true, Bool.true_or, Bool.and_true, Bool.true_and, Bool.and_false, Bool.false_and, Bool.not_true, Bool.not_false]
    refine len_lst hs ?_
    rw [List.length_map]
    exact h
  · rintro k d ρ S1 hd ⟨rfl, x4, rfl⟩
    obtain ⟨rfl, hk⟩ := rng_at hd
    rw [Int.toNat_natCast] at hk
    have hx : ss[k]? = some ss[k] := List.getElem?_eq_getElem hk
    have hy : ts[k]? = some ts[k] := List.getElem?_eq_getElem (by omega)
    simp only [eq_self, ev, ev2, ev3, ev4, ev5, ofS_inj, bodyEnds, String.reduceEq, decide_false, decide_true, reduceCtorEq, List.length_cons, List.length_nil, Nat.reduceAdd, szs, true_and, flatD, List.all_cons, List.all_nil, Bool.and_self, Bool.or_false, Bool.false_or, Bool.or_true, Bool.true_or, Bool.and_true, Bool.true_and, Bool.and_false, Bool.false_and, Bool.not_true, Bool.not_false]
    refine ix_lst hs (by omega) (d := sgD ss[k]) (by rw [Int.toNat_natCast, List.getElem?_map, hx]; rfl) ?_
    refine dk_ix hh (head_of _) ?_
    refine ix_lst hp (by omega) (d := ts[k]) (by rw [show ((k : Nat) : Int) + 1 = ((k + 1 : Nat) : Int) by omega, Int.toNat_natCast, List.getElem?_cons_succ, hy]) ?_
    refine ⟨rfl, some (.int (k : Int)), ?_⟩
    rw [List.take_add_one, List.take_add_one, hx, hy, Option.toList_some, Option.toList_some, chain_snoc _ _ _ _ _ (by rw [List.length_take, List.length_take]; omega)]
  · rintro ρ S1 ⟨rfl, x4, rfl⟩
    refine nx _ _ ?_
    simp only [eq_self, ev, ev2, ev3, ev4, ev5, ofS_inj, bodyEnds, String.reduceEq, decide_false, decide_true, reduceCtorEq, List.length_cons, List.length_nil, Nat.reduceAdd, szs, true_and, flatD, List.all_cons, List.all_nil, Bool.and_self, Bool.or_false, Bool.false_or, Bool.or_true, Bool.true_or, Bool.and_true, Bool.true_and, Bool.and_false, Bool.false_and, Bool.not_true, Bool.not_false]
    rw [rng_len, Int.toNat_natCast, List.take_length, ← hl, List.take_length]
    exact q
def GTree (k : Nat) : AFn := fun ds S E Q => ∃ io is, ∃ n : Nat, ∃ a r, ds = [.ref io, .ref is, .int (5 - (n : Int))] ∧ n < k ∧ n ≤ 5 ∧ r.length ≤ 100 ∧ S[io]? = some (.lst (opsD (a, r))) ∧ S[is]? = some (.lst (sgsD r)) ∧ ∀ S', S <+: S' → Q (T n a r) S'
theorem gtree0 (ds : List D) (S : Sto) (E : XA) (Q : VA) (h : GTree 0 ds S E Q) : False := by
  obtain ⟨_, _, n, _, _, _, h, _⟩ := h
  omega
theorem Grs.at {N : Nat → Prop} {S : Sto} {l : List D} {m : List Gr} (h : Grs N S l m) : ∀ {k : Nat} {d : D}, l[k]? = some d → ∃ g, m[k]? = some g ∧ GrOk N S d g := by
  induction h with
  | nil => intro k d e; simp at e
  | cons h1 _ ih =>
    intro k d e
    cases k with
    | zero =>
      simp at e
      subst e
      exact ⟨_, rfl, h1⟩
    | succ k => exact ih (by simpa using e)
theorem tup_lst {S : Sto} {i : Nat} {l : List D} {n : Nat} {u : ATGs} {ρ : Rho} {Q : Rho → Sto → Prop} (e : S[i]? = some (.lst l)) (hl : l.length = n) (q : u l ρ S Q) : agTup n u (.ref i) ρ S Q := by
  have : seqOf S (.ref i) = some l := by unfold seqOf lstOf; simp only [e]
  unfold agTup
  rw [this]
  exact ⟨hl, q⟩
theorem sp_tree {k : Nat} : ∀ ds S E Q, GTree (k + 1) ds S E Q → ds.length = 3 ∧ a__law_tree GSplit (GTree k) GChain (bodyEnds Q E) (startA 8 ds) S := by
  rintro ds S E Q ⟨io, is, n, a, r, rfl, hk, hn, hr, ho, hs, q⟩
  refine ⟨rfl, ?_⟩
  have st : startA 8 [.ref io, .ref is, .int (5 - (n : Int))] = [some (.ref io), some (.ref is), some (.int (5 - (n : Int))), none, none, none, none, none] := rfl
  rw [st]
  unfold a__law_tree
  refine seqM fun N nx => ?_
  simp only [eq_self, ev, ev2, ev3, ev4, ev5, ofS_inj, bodyEnds, String.reduceEq, decide_false, decide_true, reduceCtorEq, List.length_cons, List.length_nil, Nat.reduceAdd, szs, true_and, flatD, List.all_cons, List.all_nil, Bool.and_self, Bool.or_false, Bool.false_or, Bool.or_true, Bool.true_or, Bool.and_true, Bool.true_and, Bool.and_false, Bool.false_and, Bool.not_true, Bool.not_false]
  refine nx _ _ ?_
  clear nx N
  have lv : ∀ j, j ≤ 4 → ∃ i, [D.ref S.length, .ref (S ++ [O.lst [.str "or"]]).length, .ref (S ++ [O.lst [.str "or"]] ++ [O.lst [.str "and"]]).length, .ref (S ++ [O.lst [.str "or"]] ++ [O.lst [.str "and"]] ++ [O.lst [.str "<", .str "=="]]).length,
      .ref (S ++ [O.lst [.str "or"]] ++ [O.lst [.str "and"]] ++ [O.lst [.str "<", .str "=="]] ++ [O.lst [.str "+", .str "-"]]).length][j]? = some (.ref i) ∧
      (S ++ [O.lst [.str "or"]] ++ [O.lst [.str "and"]] ++ [O.lst [.str "<", .str "=="]] ++ [O.lst [.str "+", .str "-"]] ++ [O.lst [.str "*"]])[i]? = some (.lst ((levL j).map sgD)) := by
    intro j hj
    have five : j = 0 ∨ j = 1 ∨ j = 2 ∨ j = 3 ∨ j = 4 := by omega
    rcases five with rfl | rfl | rfl | rfl | rfl
    · exact ⟨_, rfl, by simp [List.getElem?_append, levL, sgD]⟩
    · exact ⟨_, rfl, by simp [List.getElem?_append, levL, sgD]⟩
    · exact ⟨_, rfl, by simp [List.getElem?_append, levL, sgD]⟩
    · exact ⟨_, rfl, by simp [List.getElem?_append, levL, sgD]⟩
    · exact ⟨_, rfl, by simp [List.getElem?_append, levL, sgD]⟩
  have p0 : S <+: (S ++ [O.lst [.str "or"]] ++ [O.lst [.str "and"]] ++ [O.lst [.str "<", .str "=="]] ++ [O.lst [.str "+", .str "-"]] ++ [O.lst [.str "*"]]) := (((pre_app.trans pre_app).trans pre_app).trans pre_app).trans pre_app
  generalize [D.ref S.length, .ref (S ++ [O.lst [.str "or"]]).length, .ref (S ++ [O.lst [.str "or"]] ++ [O.lst [.str "and"]]).length, .ref (S ++ [O.lst [.str "or"]] ++ [O.lst [.str "and"]] ++ [O.lst [.str "<", .str "=="]]).length,
      .ref (S ++ [O.lst [.str "or"]] ++ [O.lst [.str "and"]] ++ [O.lst [.str "<", .str "=="]] ++ [O.lst [.str "+", .str "-"]]).length] = ls at lv ⊢
  generalize (S ++ [O.lst [.str "or"]] ++ [O.lst [.str "and"]] ++ [O.lst [.str "<", .str "=="]] ++ [O.lst [.str "+", .str "-"]] ++ [O.lst [.str "*"]]) = S5 at p0 lv ⊢
  have p1 := p0.trans (pre_app (o := O.lst ls))
  have lv2 : ∀ j, j ≤ 4 → ∃ i, ls[j]? = some (.ref i) ∧ (S5 ++ [O.lst ls])[i]? = some (.lst ((levL j).map sgD)) := fun j hj => let ⟨i, h1, h2⟩ := lv j hj; ⟨i, h1, pre_get pre_app h2⟩
  have lsat : (S5 ++ [O.lst ls])[S5.length]? = some (.lst ls) := at_end
  generalize S5.length = il at lsat ⊢
  generalize S5 ++ [O.lst ls] = S6 at p1 lv2 lsat ⊢
  clear lv p0 S5
  refine seqM fun N nx => ?_
  simp only [eq_self, ev, ev2, ev3, ev4, ev5, ofS_inj, bodyEnds, String.reduceEq, decide_false, decide_true, reduceCtorEq, List.length_cons, List.length_nil, Nat.reduceAdd, szs, true_and, flatD, List.all_cons, List.all_nil, Bool.and_self, Bool.or_false, Bool.false_or, Bool.or_true, Bool.true_or, Bool.and_true, Bool.true_and, Bool.and_false, Bool.false_and, Bool.not_true, Bool.not_false]
  have hds : ∀ G : VA, G (.ref S6.length) (S6 ++ [.dK heads]) → aDisp [(aC (.str "or"), aC (.str "or")), (aC (.str "and"), aC (.str "and")), (aC (.str "<"), aC (.str "lt")), (aC (.str "=="), aC (.str "eq")), (aC (.str "+"), aC (.str "add")), (aC (.str "-"), aC (.str "sub")), (aC (.str "*"), aC (.str "mul"))] [some (D.ref io), some (D.ref is), some (D.int (5 - (n : Int))), some (D.ref il), none, none, none, none] S6 E G := fun G g => ⟨by decide, g⟩
  refine hds _ (nx _ _ ?_)
  clear nx N hds
  have hd6 : (S6 ++ [O.dK heads])[S6.length]? = some (.dK heads) := at_end
  have p2 := p1.trans (pre_app (o := O.dK heads))
  have lsat2 := pre_get (pre_app (o := O.dK heads)) lsat
  have lv3 : ∀ j, j ≤ 4 → ∃ i, ls[j]? = some (.ref i) ∧ (S6 ++ [O.dK heads])[i]? = some (.lst ((levL j).map sgD)) := fun j hj => let ⟨i, h1, h2⟩ := lv2 j hj; ⟨i, h1, pre_get pre_app h2⟩
  generalize S6.length = ih at hd6 ⊢
  generalize S6 ++ [O.dK heads] = S7 at p2 hd6 lsat2 lv3 ⊢
  clear lv2 lsat p1 S6
  refine seqM fun N nx => ?_
  simp only [eq_self, ev, ev2, ev3, ev4, ev5, ofS_inj, bodyEnds, String.reduceEq, decide_false, decide_true, reduceCtorEq, List.length_cons, List.length_nil, Nat.reduceAdd, szs, true_and, flatD, List.all_cons, List.all_nil, Bool.and_self, Bool.or_false, Bool.false_or, Bool.or_true, Bool.true_or, Bool.and_true, Bool.true_and, Bool.and_false, Bool.false_and, Bool.not_true, Bool.not_false]
  have ho7 := pre_get p2 ho
  have hs7 := pre_get p2 hs
  cases n with
  | zero =>
    simp only [Int.natCast_zero, Int.sub_zero, decide_true]
    exact ix_lst ho7 (by decide) (show _ = some a.tree from rfl) (q _ p2)
  | succ n =>
    have e5 : decide ((5 : Int) - ((n + 1 : Nat) : Int) = 5) = false := decide_eq_false (by omega)
    simp only [e5]
    refine nx _ _ ?_
    clear nx N
    obtain ⟨iv, hv1, hv2⟩ := lv3 (4 - n) (by omega)
    have ej : ((5 : Int) - ((n + 1 : Nat) : Int)).toNat = 4 - n := by omega
    refine seqM fun N nx => ?_
    simp only [eq_self, ev, ev2, ev3, ev4, ev5, ofS_inj, bodyEnds, String.reduceEq, decide_false, decide_true, reduceCtorEq, List.length_cons, List.length_nil, Nat.reduceAdd, szs, true_and, flatD, List.all_cons, List.all_nil, Bool.and_self, Bool.or_false, Bool.false_or, Bool.or_true, Bool.true_or, Bool.and_true, Bool.true_and, Bool.and_false, Bool.false_and, Bool.not_true, Bool.not_false]
    refine ix_lst lsat2 (by omega) (by rw [ej]; exact hv1) ?_
    refine ⟨io, is, iv, a, r, 4 - n, rfl, by omega, hr, ho7, hs7, hv2, fun S8 i G C gl N' p3 e1 e2 hgr e4 => ?_⟩
    refine tup_lst e1 rfl ?_
    refine nx _ _ ?_
    clear nx N
    simp only [eq_self, ev, ev2, ev3, ev4, ev5, ofS_inj, bodyEnds, String.reduceEq, decide_false, decide_true, reduceCtorEq, List.length_cons, List.length_nil, Nat.reduceAdd, szs, true_and, flatD, List.all_cons, List.all_nil, Bool.and_self, Bool.or_false, Bool.false_or, Bool.or_true, Bool.true_or, Bool.and_true, Bool.true_and, Bool.and_false, Bool.false_and, Bool.not_true, Bool.not_false]
    have len1 : gl.length ≤ 101 := by
      rw [hgr.len, grs_len]
      have := split_few (j := 4 - n) r
      omega
    refine lc_map (src := .lst G gl) (out := (grs a (split (4 - n) r)).map fun g => T n g.1 g.2) (S0 := S8) (fun Q' h => ?_) (show lstOf S8 G = some gl by unfold lstOf; rw [e2]) (show gl.length < sizeLine from Nat.lt_of_le_of_lt len1 (by decide)) (by rw [List.length_map, ← hgr.len]; rfl) (fun m d hd => ?_) fun S9 p4 => ?_
    · simp only [eq_self, ev, ev2, ev3, ev4, ev5, ofS_inj, bodyEnds, String.reduceEq, decide_false, decide_true, reduceCtorEq, List.length_cons, List.length_nil, Nat.reduceAdd, szs, true_and, flatD, List.all_cons, List.all_nil, Bool.and_self, Bool.or_false, Bool.false_or, Bool.or_true, Bool.true_or, Bool.and_true, Bool.true_and, Bool.and_false, Bool.false_and, Bool.not_true, Bool.not_false]
      have : srcOf S8 (.ref G) = some (.lst G gl) := by show (lstOf S8 G).map _ = _; unfold lstOf; rw [e2]; rfl
      rw [this]
      exact h
    · have hd' : gl[m]? = some d := hd
      obtain ⟨g, hg, i2, m2, n2, rfl, _, _, _, f1, f2, f3⟩ := hgr.at hd'
      refine ⟨T n g.1 g.2, by rw [List.getElem?_map, hg]; rfl, fun S9 Q1 p4 q1 => ?_⟩
      simp only [eq_self, ev, ev2, ev3, ev4, ev5, ofS_inj, bodyEnds, String.reduceEq, decide_false, decide_true, reduceCtorEq, List.length_cons, List.length_nil, Nat.reduceAdd, szs, true_and, flatD, List.all_cons, List.all_nil, Bool.and_self, Bool.or_false, Bool.false_or, Bool.or_true, Bool.true_or, Bool.and_true, Bool.true_and, Bool.and_false, Bool.false_and, Bool.not_true, Bool.not_false, wipeA, List.set_cons_succ, List.set_cons_zero]
      refine ix_lst (pre_get p4 f1) (by decide) (show _ = some (D.ref m2) from rfl) ?_
      refine ix_lst (pre_get p4 f1) (by decide) (show _ = some (D.ref n2) from rfl) ?_
      have gle := grs_le a (split (4 - n) r) g (List.mem_of_getElem? hg)
      rw [← Pl.split_len] at gle
      refine ⟨m2, n2, n, g.1, g.2, ?_, by omega, by omega, by omega, pre_get p4 f2, pre_get p4 f3, q1⟩
      have : (5 : Int) - ((n + 1 : Nat) : Int) + 1 = 5 - (n : Int) := by omega
      rw [this]
    · have hG9 : (S9 ++ [O.lst ((grs a (split (4 - n) r)).map fun g => T n g.1 g.2)])[S9.length]? = some (.lst (T n a (split (4 - n) r).1 :: (split (4 - n) r).2.map fun y => T n y.2.1 y.2.2)) := by rw [at_end]; simp [grs]
      have p5 := p4.trans (pre_app (o := O.lst ((grs a (split (4 - n) r)).map fun g => T n g.1 g.2)))
      generalize S9.length = i9 at hG9 ⊢
      generalize S9 ++ [O.lst ((grs a (split (4 - n) r)).map fun g => T n g.1 g.2)] = S10 at p5 hG9 ⊢
      have sf := split_few (j := 4 - n) r
      refine ⟨i9, C, ih, _, _, cuts (split (4 - n) r).2, rfl, hG9, pre_get p5 e4, pre_get (p3.trans p5) hd6, by simp [cuts], by simp only [cuts, List.length_map]; omega, ?_⟩
      rw [← T_chain]
      exact q _ (p2.trans (p3.trans p5))
end Lw
namespace Lw
open PySem PySem.Spec
open PyProof.Rows L2 AL Ab Lx Ps Pl
/-! ### the law -/
def cmst : Bool → Pl.Row → Bool
  | b, [] => b
  | b, x :: r => cmst (decide (x.1.lev = 2) || (b && decide (2 ≤ x.1.lev))) r
theorem cm_snoc {x : Sg × Op} : ∀ (b : Bool) (r : Pl.Row), cm b r → (x.1.lev = 2 → cmst b r = false) → cm b (r ++ [x])
  | _, [], _, h => ⟨h, trivial⟩
  | b, y :: r, hc, h => ⟨hc.1, cm_snoc _ r hc.2 h⟩
theorem cmst_snoc {x : Sg × Op} : ∀ (b : Bool) (r : Pl.Row), cmst b (r ++ [x]) = (decide (x.1.lev = 2) || (cmst b r && decide (2 ≤ x.1.lev)))
  | _, [] => rfl
  | b, y :: r => cmst_snoc _ r
theorem row_snoc (y : Bool × Sg × Opr) : ∀ x : Rest, Rest.row (x ++ [y]) = Rest.row x ++ [(y.2.1, y.2.2.op)]
  | [] => rfl
  | z :: x => by
    show (_ :: Rest.row (x ++ [y])) = _
    rw [row_snoc y x]; rfl
theorem rtx_snoc (y : Bool × Sg × Opr) : ∀ x : Rest, rtx (x ++ [y]) = rtx x ++ (gap y.1 ++ (y.2.1.tx ++ ([32] ++ y.2.2.tx)))
  | [] => by simp [rtx]
  | z :: x => by
    show gap z.1 ++ (z.2.1.tx ++ ([32] ++ (z.2.2.tx ++ rtx (x ++ [y])))) = _
    rw [rtx_snoc y x]
    simp [rtx]
theorem row_len : ∀ x : Rest, x.row.length = x.length
  | [] => rfl
  | z :: x => by simp only [Rest.row, List.length_cons, row_len x]
theorem sign_ix {x : Int} {S : Sto} {Q : VA} {i : Nat} (h0 : 0 ≤ x) (h1 : x < 8) (e : S[i]? = some (.lst [.str "or", .str "and", .str "<", .str "==", .str "+", .str "-", .str "*", .str "+"])) (q : ∀ s : Sg, Q (.str s.sg) S) : getIx (.ref i) (.int x) S Q := by
  have eight : x = 0 ∨ x = 1 ∨ x = 2 ∨ x = 3 ∨ x = 4 ∨ x = 5 ∨ x = 6 ∨ x = 7 := by omega
  rcases eight with rfl | rfl | rfl | rfl | rfl | rfl | rfl | rfl
  · exact ix_lst e h0 (d := .str "or") rfl (q .or)
  · exact ix_lst e h0 (d := .str "and") rfl (q .and)
  · exact ix_lst e h0 (d := .str "<") rfl (q .lt)
  · exact ix_lst e h0 (d := .str "==") rfl (q .eq)
  · exact ix_lst e h0 (d := .str "+") rfl (q .add)
  · exact ix_lst e h0 (d := .str "-") rfl (q .sub)
  · exact ix_lst e h0 (d := .str "*") rfl (q .mul)
  · exact ix_lst e h0 (d := .str "+") rfl (q .add)
theorem gap_ix {x : Int} {S : Sto} {Q : VA} {i : Nat} (h0 : 0 ≤ x) (h1 : x < 2) (e : S[i]? = some (.lst [.str " ", .str "\n "])) (q : ∀ b : Bool, Q (.str (txt (gap b))) S) : getIx (.ref i) (.int x) S Q := by
  have two : x = 0 ∨ x = 1 := by omega
  have t1 : (" " : Str) = txt (gap false) := by decide
  have t2 : ("\n " : Str) = txt (gap true) := by decide
  rw [t1, t2] at e
  rcases two with rfl | rfl
  · exact ix_lst e h0 rfl (q false)
  · exact ix_lst e h0 rfl (q true)
theorem in_cmp (s : Sg) : inF (.str s.sg) [.str "<", .str "=="] = decide (s.lev = 2) := in_lev (j := 2) (by decide) s
theorem in_bool (s : Sg) : inF (.str s.sg) [.str "or", .str "and"] = !decide (2 ≤ s.lev) := by cases s <;> decide
theorem notin_lst {S : Sto} {Q : VA} {x : D} {l : List D} {i : Nat} (e : S[i]? = some (.lst l)) (hf : (flatD x && l.all flatD) = true) (q : Q (.bl (!inF x l)) S) : oNotIn x (.ref i) S Q := by
  show isIn x (.ref i) S _
  unfold isIn
  simp only [e]
  have : lstOf S i = some l := by unfold lstOf; rw [e]
  rw [this]
  show (if _ then _ else _)
  rw [if_pos hf]; exact q
theorem tapp (a b : List Nat) : txt a ++ txt b = txt (a ++ b) := by
  show Str.mk (a.toArray ++ b.toArray) = _
  simp [txt]
theorem opr_tx (o : Opr) (h : o.small) : o.tx.length ≤ 20 := by
  have hn : ∀ n, (onc n).length ≤ 3 := fun n => by rcases n with _ | _ | _ | n <;> simp [onc]
  cases o with
  | num v => have := (num_dg h).few; show (dg v).length ≤ 20; omega
  | var n => have := hn n; show (onc n).length ≤ 20; omega
  | mem n => have := hn n; show ([115, 46] ++ onc n).length ≤ 20; simp only [List.length_append, List.length_cons, List.length_nil]; omega
  | call n v => have := hn n; have := (num_dg (show v ≤ 65535 from h)).few; show (onc n ++ ([40] ++ (dg v ++ [44, 32, 98, 41]))).length ≤ 20; simp only [List.length_append, List.length_cons, List.length_nil]; omega
  | neg => decide
theorem sg_len (s : Sg) : s.tx.length ≤ 3 := by cases s <;> decide
theorem gap_len (b : Bool) : (gap b).length ≤ 2 := by cases b <;> decide
/-- what is made behind n rounds -/
inductive Made : Nat → List D → List D → List Nat → Bool → Prop
  | zero : Made 0 [] [] [] false
  | more {a : Opr} {x : Rest} : a.small → (∀ y ∈ x, y.2.2.small) → cm false x.row → Made (x.length + 1) (opsD (a.op, x.row)) (sgsD x.row) (a.tx ++ rtx x) (cmst false x.row)
theorem Made.len {n : Nat} {ps ss : List D} {t : List Nat} {c : Bool} (h : Made n ps ss t c) : ps.length = n ∧ ss.length ≤ n ∧ t.length ≤ 30 * n := by
  cases h with
  | zero => exact ⟨rfl, Nat.le_refl _, Nat.le_refl _⟩
  | @more a x ha hx hc =>
    refine ⟨by simp [opsD, row_len], by simp [sgsD, row_len], ?_⟩
    have h1 := opr_tx a ha
    have h2 : (rtx x).length ≤ 30 * x.length := by
      clear hc
      induction x with
      | nil => exact Nat.le_refl _
      | cons y x ih =>
        have := ih fun z hz => hx z (List.mem_cons_of_mem _ hz)
        have i1 := opr_tx y.2.2 (hx y (List.mem_cons_self ..))
        have i2 := sg_len y.2.1
        have i3 := gap_len y.1
        simp only [rtx, List.length_append, List.length_cons, List.length_nil]
        omega
    rw [List.length_append]
    omega
theorem Made.next {a : Opr} {x : Rest} {b : Bool} {s : Sg} {o : Opr} (ha : a.small) (hx : ∀ y ∈ x, y.2.2.small) (hc : cm false x.row) (ho : o.small) (hs : s.lev = 2 → cmst false x.row = false) :
    Made (x.length + 1 + 1) (opsD (a.op, x.row) ++ [o.tree]) (sgsD x.row ++ [.str s.sg]) (a.tx ++ rtx x ++ gap b ++ s.tx ++ [32] ++ o.tx) (decide (s.lev = 2) || (cmst false x.row && decide (2 ≤ s.lev))) := by
  have h : Made ((x ++ [(b, s, o)]).length + 1) _ _ _ _ := Made.more (a := a) (x := x ++ [(b, s, o)]) ha (fun y hy => by
    rcases inApp hy with hy | hy
    · exact hx y hy
    · rw [List.mem_singleton.mp hy]; exact ho) (by rw [row_snoc]; exact cm_snoc _ _ hc hs)
  rw [row_snoc, rtx_snoc, cmst_snoc] at h
  simp only [List.length_append, List.length_cons, List.length_nil] at h
  have e1 : opsD (a.op, x.row ++ [(s, o.op)]) = opsD (a.op, x.row) ++ [o.tree] := by simp [opsD, Opr.op]
  have e2 : sgsD (x.row ++ [(s, o.op)]) = sgsD x.row ++ [.str s.sg] := by simp [sgsD, sgD]
  have e3 : a.tx ++ (rtx x ++ (gap b ++ (s.tx ++ ([32] ++ o.tx)))) = a.tx ++ rtx x ++ gap b ++ s.tx ++ [32] ++ o.tx := by simp
  rw [e1, e2, e3] at h
  exact h
/-- the tree can be shown -/
theorem fold_gen {M : Nat → D → Prop} (two : ∀ m (s : Sg) a b, M m a → M m b → M (m + 1) (.tup [.str s.op, a, b])) (up : ∀ m n e, m ≤ n → M m e → M n e) {f : Op → Pl.Row → D} : ∀ (t : Parts) (m : Nat) (acc : D), 2 ≤ m → M m acc → (∀ y ∈ t, M (2 + y.2.2.length) (f y.2.1 y.2.2)) → M (m + plen t) (t.foldl (fun acc x => .tup [.str x.1.op, acc, f x.2.1 x.2.2]) acc)
  | [], m, acc, _, h, _ => h
  | y :: t, m, acc, hm, h, g => by
    have h1 := g y (List.mem_cons_self ..)
    have h2 := two (m + y.2.2.length) y.1 acc (f y.2.1 y.2.2) (up _ _ _ (by omega) h) (up _ _ _ (by omega) h1)
    have h3 := fold_gen two up t (m + y.2.2.length + 1) _ (by omega) h2 fun z hz => g z (List.mem_cons_of_mem _ hz)
    unfold plen
    rw [show m + (1 + y.2.2.length + plen t) = m + y.2.2.length + 1 + plen t by omega]
    exact h3
theorem T_gen {M : Nat → D → Prop} (two : ∀ m (s : Sg) a b, M m a → M m b → M (m + 1) (.tup [.str s.op, a, b])) (up : ∀ m n e, m ≤ n → M m e → M n e) : ∀ (n : Nat) (a : Op) (r : Pl.Row), M 2 a.tree → (∀ x ∈ r, M 2 x.2.tree) → M (2 + r.length) (T n a r)
  | 0, a, r, h, _ => up _ _ _ (by omega) h
  | n + 1, a, r, h, g => by
    have sa := split_all (j := 4 - n) (A := fun x => M 2 x.2.tree) r g
    have h1 := T_gen two up n a (split (4 - n) r).1 h fun x hx => (sa.1 x hx).1
    have h2 := fold_gen two up (f := T n) (split (4 - n) r).2 _ _ (by omega) h1 fun y hy => T_gen two up n y.2.1 y.2.2 (sa.2 y hy).1 fun x hx => ((sa.2 y hy).2.2 x hx).1
    rw [Pl.split_len (j := 4 - n) r, ← Nat.add_assoc]
    exact h2
def Shw (m : Nat) (e : D) : Prop := okD e = true ∧ dpD e ≤ m + 1 ∧ wtD e + 50 ≤ 100 * 2 ^ m
theorem shw_two (m : Nat) (s : Sg) (a b : D) (h : Shw m a) (g : Shw m b) : Shw (m + 1) (.tup [.str s.op, a, b]) := by
  obtain ⟨h1, h2, h3⟩ := h
  obtain ⟨g1, g2, g3⟩ := g
  have so : PyData.strOk s.op = true ∧ s.op.cps.size ≤ 3 := by cases s <;> decide +kernel
  refine ⟨?_, ?_, ?_⟩
  · simp only [okD, okL, so.1, h1, g1, Bool.and_self]
  · simp only [dpD, dpL]; omega
  · have := so.2
    simp only [wtD, wtL, Nat.pow_succ]; omega
theorem shw_up (m n : Nat) (e : D) (hn : m ≤ n) (h : Shw m e) : Shw n e := ⟨h.1, Nat.le_trans h.2.1 (Nat.succ_le_succ hn), Nat.le_trans h.2.2 (Nat.mul_le_mul_left _ (Nat.pow_le_pow_right (by decide) hn))⟩
theorem opr_shw (o : Opr) (h : o.small) : Shw 2 o.tree := by
  have hn : ∀ n, PyData.strOk (onm n) = true ∧ (onm n).cps.size ≤ 3 := fun n => by
    rcases n with _ | _ | _ | n
    · decide +kernel
    · decide +kernel
    · decide +kernel
    · show PyData.strOk "f_1" = true ∧ ("f_1" : Str).cps.size ≤ 3
      decide +kernel
  have so : PyData.strOk ("int" : Str) = true ∧ PyData.strOk ("var" : Str) = true ∧ PyData.strOk ("member" : Str) = true ∧ PyData.strOk ("call" : Str) = true ∧ PyData.strOk ("not" : Str) = true ∧ PyData.strOk ("bool" : Str) = true ∧ PyData.strOk ("s" : Str) = true ∧ PyData.strOk ("b" : Str) = true := by decide +kernel
  have sz : ("int" : Str).cps.size = 3 ∧ ("var" : Str).cps.size = 3 ∧ ("member" : Str).cps.size = 6 ∧ ("call" : Str).cps.size = 4 ∧ ("not" : Str).cps.size = 3 ∧ ("bool" : Str).cps.size = 4 ∧ ("s" : Str).cps.size = 1 ∧ ("b" : Str).cps.size = 1 := by decide +kernel
  have hv : ∀ v : Nat, v ≤ 65535 → decide (((v : Nat) : Int).natAbs < 10 ^ 6) = true := fun v hv => decide_eq_true (by simp; omega)
  cases o with
  | num v => exact ⟨by simp only [okD, okL, so, hv v h, Bool.and_self], by simp only [dpD, dpL, Opr.tree]; decide, by simp only [wtD, wtL, sz]; decide⟩
  | var n => have := hn n; exact ⟨by simp only [okD, okL, so, this, Bool.and_self], by simp only [dpD, dpL, Opr.tree]; decide, by simp only [wtD, wtL, sz]; omega⟩
  | mem n => have := hn n; exact ⟨by simp only [okD, okL, so, this, Bool.and_self], by simp only [dpD, dpL, Opr.tree]; decide, by simp only [wtD, wtL, sz]; omega⟩
  | call n v => have := hn n; exact ⟨by simp only [okD, okL, so, this, hv v h, Bool.and_self], by simp only [dpD, dpL, Opr.tree]; decide, by simp only [wtD, wtL, sz]; omega⟩
  | neg => exact ⟨by simp only [okD, okL, so, Bool.and_self], by simp only [dpD, dpL, Opr.tree]; decide, by simp only [wtD, wtL, sz]; decide⟩
theorem dp_le {e : D} {i : Int} {m n : Nat} (h : Dp m e i) (hn : m ≤ n) : Dp n e i := by
  induction hn with
  | refl => exact h
  | step _ ih => exact dp_up ih
end Lw
namespace Lw
open PySem PySem.Spec
open PyProof.Rows L2 AL Ab Lx Ps Pl
theorem cabs_eq {i : Int} {S : Sto} {Q : VA} : cAbs [.int i] S Q = Q (.int (if i < 0 then -i else i)) S := rfl
theorem cmin_eq {i j : Int} {S : Sto} {Q : VA} : cMin [.int i, .int j] S Q = Q (.int (if j < i then j else i)) S := rfl
theorem one_eq {x : Str} {S : Sto} {Q : VA} (q : Q (.bl true) S) : oEq (.str x) (.str x) S Q := by
  simp only [ev3, decide_true]; exact q
theorem ifM {t : ATT} {a b : ATS} {D0 : AEnds} {ρ : Rho} {S : Sto} (h : ∀ TA TB : Rho → Sto → Prop, (∀ ρ S, a D0 ρ S → TA ρ S) → (∀ ρ S, b D0 ρ S → TB ρ S) → t ρ S (fun x S1 => D0.ex x ρ S1) fun k S1 => match k with | true => TA ρ S1 | false => TB ρ S1) : aIfS t a b D0 ρ S :=
  h (a D0) (b D0) (fun _ _ z => z) fun _ _ z => z
structure LW (d : D) (ns : List Int) (n : Nat) (ρ : Rho) (S : Sto) : Prop where
  ex : ∃ P G ps ss t c x5 x6 x7 x8 x9, ρ = [some d, some (.ref P), some (.ref G), some (.str (txt t)), some (.bl c), x5, x6, x7, x8, x9, none, none] ∧ ScrOk S d (ns.map .int) ∧ P ≠ G ∧
    (∀ j, d = .ref j → j ≠ P ∧ j ≠ G) ∧ S[P]? = some (.lst ps) ∧ S[G]? = some (.lst ss) ∧ Made n ps ss t c
theorem scr_set {S : Sto} {d : D} {l : List D} {i : Nat} {o : O} (h : ScrOk S d l) (hi : ∀ j, d = .ref j → j ≠ i) : ScrOk (S.set i o) d l := by
  rcases h with rfl | ⟨j, rfl, e⟩
  · exact .inl rfl
  · refine .inr ⟨j, rfl, ?_⟩
    rw [List.getElem?_set_ne (Ne.symm (hi j rfl))]; exact e
theorem scr_lt {S : Sto} {d : D} {l : List D} (h : ScrOk S d l) : ∀ j, d = .ref j → j < S.length := by
  rintro j rfl
  rcases h with h | ⟨i, h, e⟩
  · cases h
  · cases h
    exact ltOf e
theorem sp_law {k : Nat} : ∀ ds S E Q, lawF ds S E Q → ds.length = 1 ∧ a_law GCell GOpnd (GParse (k + 40)) (GTree 6) (bodyEnds Q E) (startA 12 ds) S := by
  rintro ds S E Q ⟨d, ns, few, rfl, hS, q⟩
  refine ⟨rfl, ?_⟩
  have st : startA 12 [d] = [some d, none, none, none, none, none, none, none, none, none, none, none] := rfl
  rw [st]
  have scr : ScrOk S d (ns.map .int) := by
    rcases hS with ⟨rfl, rfl⟩ | ⟨rfl, rfl⟩
    · exact .inr ⟨0, rfl, rfl⟩
    · exact .inl rfl
  clear hS
  unfold a_law
  refine seqM fun N nx => ?_
  simp only [eq_self, ev, ev2, ev3, ev4, ev5, ofS_inj, bodyEnds, String.reduceEq, decide_false, decide_true, reduceCtorEq, List.length_cons, List.length_nil, Nat.reduceAdd, szs, true_and, flatD, List.all_cons, List.all_nil, Bool.and_self, Bool.or_false, Bool.false_or, Bool.or_true, Bool.true_or, Bool.and_true, Bool.true_and, Bool.and_false, Bool.false_and, Bool.not_true, Bool.not_false]
  refine nx _ _ ?_
  clear nx N
  refine seqM fun N nx => ?_
  simp only [eq_self, ev, ev2, ev3, ev4, ev5, ofS_inj, bodyEnds, String.reduceEq, decide_false, decide_true, reduceCtorEq, List.length_cons, List.length_nil, Nat.reduceAdd, szs, true_and, flatD, List.all_cons, List.all_nil, Bool.and_self, Bool.or_false, Bool.false_or, Bool.or_true, Bool.true_or, Bool.and_true, Bool.true_and, Bool.and_false, Bool.false_and, Bool.not_true, Bool.not_false]
  refine nx _ _ ?_
  clear nx N
  refine seqM fun N nx => ?_
  simp only [eq_self, ev, ev2, ev3, ev4, ev5, ofS_inj, bodyEnds, String.reduceEq, decide_false, decide_true, reduceCtorEq, List.length_cons, List.length_nil, Nat.reduceAdd, szs, true_and, flatD, List.all_cons, List.all_nil, Bool.and_self, Bool.or_false, Bool.false_or, Bool.or_true, Bool.true_or, Bool.and_true, Bool.true_and, Bool.and_false, Bool.false_and, Bool.not_true, Bool.not_false]
  refine nx _ _ ?_
  clear nx N
  refine seqM fun N nx => ?_
  simp only [eq_self, ev, ev2, ev3, ev4, ev5, ofS_inj, bodyEnds, String.reduceEq, decide_false, decide_true, reduceCtorEq, List.length_cons, List.length_nil, Nat.reduceAdd, szs, true_and, flatD, List.all_cons, List.all_nil, Bool.and_self, Bool.or_false, Bool.false_or, Bool.or_true, Bool.true_or, Bool.and_true, Bool.true_and, Bool.and_false, Bool.false_and, Bool.not_true, Bool.not_false]
  refine nx _ _ ?_
  clear nx N
  have t0 : ("" : Str) = txt [] := by decide
  rw [t0]
  have start : LW d ns 0 [some d, some (.ref S.length), some (.ref (S ++ [O.lst []]).length), some (.str (txt [])), some (.bl false), none, none, none, none, none, none, none] (S ++ [O.lst []] ++ [O.lst []]) := by
    refine ⟨_, _, _, _, _, _, none, none, none, none, none, rfl, scr.pre (pre_app.trans pre_app), by simp, fun j hj => ?_, pre_get pre_app at_end, at_end, .zero⟩
    have := scr_lt scr j hj
    simp only [List.length_append, List.length_cons, List.length_nil]
    omega
  generalize S.length = P at start ⊢
  generalize (S ++ [O.lst []]).length = G at start ⊢
  generalize S ++ [O.lst []] ++ [O.lst []] = S1 at start ⊢
  clear scr st t0 S
  refine seqM fun N nx => for_k ?_
  have lenS : ∀ {S : Sto} (_ : ScrOk S d (ns.map .int)) (G : VA), G (.int (ns.length : Int)) S → cLen [d] S G := by
    intro S h G g
    rcases h with rfl | ⟨i, rfl, e⟩
    · show G (.int ((ns.map D.int).length : Int)) S
      rw [List.length_map]; exact g
    · unfold cLen
      simp only [e, List.length_map]
      exact g
  have s1 : ScrOk S1 d (ns.map .int) := let ⟨_, _, _, _, _, _, _, _, _, _, _, _, h, _⟩ := start.ex; h
  obtain ⟨m, hm, hm8⟩ : ∃ m : Nat, (1 : Int) + (if (7 : Int) < (ns.length : Int) then 7 else (ns.length : Int)) = ((m + 1 : Nat) : Int) ∧ m ≤ 7 := by
    split
    · exact ⟨7, by decide, by decide⟩
    · exact ⟨ns.length, by omega, by omega⟩
  refine rng1 (S1 := S1) (i := ((m + 1 : Nat) : Int)) (fun Q' h => ?_) ⟨by omega, by omega⟩ ⟨LW d ns, start, fun _ _ _ _ _ => trivial, ?_, ?_⟩
  · simp only [eq_self, ev, ev2, ev3, ev4, ev5, ofS_inj, bodyEnds, String.reduceEq, decide_false, decide_true, reduceCtorEq, List.length_cons, List.length_nil, Nat.reduceAdd, szs, true_and, flatD, List.all_cons, List.all_nil, Bool.and_self, Bool.or_false, Bool.false_or, Bool.or_true, Bool.true_or, Bool.and_true, Bool.true_and, Bool.and_false, Bool.false_and, Bool.not_true, Bool.not_false]
    refine lenS s1 _ ?_
    simp only [eq_self, ev, ev2, ev3, ev4, ev5, ofS_inj, bodyEnds, String.reduceEq, decide_false, decide_true, reduceCtorEq, List.length_cons, List.length_nil, Nat.reduceAdd, szs, true_and, flatD, List.all_cons, List.all_nil, Bool.and_self, Bool.or_false, Bool.false_or, Bool.or_true, Bool.true_or, Bool.and_true, Bool.true_and, Bool.and_false, Bool.false_and, Bool.not_true, Bool.not_false, cmin_eq, hm]
    exact h
  · clear start s1 S1 P G
    rintro j dd ρ S3 hd ⟨P, G, ps, ss, t, c, x5, x6, x7, x8, x9, rfl, scr, hPG, hne, hP, hG, made⟩
    obtain ⟨rfl, hj⟩ := rng_at hd
    rw [Int.toNat_natCast] at hj
    obtain ⟨l1, l2, l3⟩ := made.len
    refine seqM fun N1 nx1 => ?_
    simp only [eq_self, ev, ev2, ev3, ev4, ev5, ofS_inj, bodyEnds, String.reduceEq, decide_false, decide_true, reduceCtorEq, List.length_cons, List.length_nil, Nat.reduceAdd, szs, true_and, flatD, List.all_cons, List.all_nil, Bool.and_self, Bool.or_false, Bool.false_or, Bool.or_true, Bool.true_or, Bool.and_true, Bool.true_and, Bool.and_false, Bool.false_and, Bool.not_true, Bool.not_false]
    refine ⟨d, j, ns, rfl, scr, fun n S4 p4 => ?_⟩
    simp only [cabs_eq]
    obtain ⟨v, hv⟩ : ∃ v : Int, (if n < 0 then -n else n) = v := ⟨_, rfl⟩
    have v0 : 0 ≤ v := by rw [← hv]; split <;> omega
    rw [hv]
    refine nx1 _ _ ?_
    clear nx1 N1 hv
    refine seqM fun N1 nx1 => ?_
    simp only [eq_self, ev, ev2, ev3, ev4, ev5, ofS_inj, bodyEnds, String.reduceEq, decide_false, decide_true, reduceCtorEq, List.length_cons, List.length_nil, Nat.reduceAdd, szs, true_and, flatD, List.all_cons, List.all_nil, Bool.and_self, Bool.or_false, Bool.false_or, Bool.or_true, Bool.true_or, Bool.and_true, Bool.true_and, Bool.and_false, Bool.false_and, Bool.not_true, Bool.not_false, div_eq]
    refine ⟨⟨by decide, by decide⟩, v / 8, rfl, Int.ediv_nonneg v0 (by decide), fun o ho S5 i5 p5 e5 => tup_lst e5 rfl ?_⟩
    refine nx1 _ _ ?_
    clear nx1 N1
    have scr5 := scr.pre (p4.trans p5)
    have hP5 := pre_get (p4.trans p5) hP
    have hG5 := pre_get (p4.trans p5) hG
    clear e5 p5 p4 hP hG scr S3 S4
    have hotx := opr_tx o ho
    have hz : 1000 ≤ sizeLine := by decide
    -- the end of a round
    have fin : ∀ (S6 : Sto) (x9' : Option D) (c' : Bool) (t' : List Nat) (ss' : List D), S5.length ≤ S6.length → ScrOk S6 d (ns.map .int) → S6[P]? = some (.lst ps) → S6[G]? = some (.lst ss') → t'.length ≤ 300 → Made (j + 1) (ps ++ [o.tree]) ss' (t' ++ o.tx) c' →
        aSeq (aDrop (aAppend (aVar 1) (aVar 8))) (aAsg (aOp oAdd (aVar 3) (aVar 7)) (agName 3)) { bodyEnds Q E with nx := LW d ns (j + 1), ct := LW d ns (j + 1), bk := N } [some d, some (.ref P), some (.ref G), some (.str (txt t')), some (.bl c'), some (.int (j : Int)), some (.int v), some (.str (txt o.tx)), some o.tree, x9', none, none] S6 := by
      intro S6 x9' c' t' ss' _ sc6 hP6 hG6 ht' hm'
      refine seqM fun N1 nx1 => ?_
      simp only [eq_self, ev, ev2, ev3, ev4, ev5, ofS_inj, bodyEnds, String.reduceEq, decide_false, decide_true, reduceCtorEq, List.length_cons, List.length_nil, Nat.reduceAdd, szs, true_and, flatD, List.all_cons, List.all_nil, Bool.and_self, Bool.or_false, Bool.false_or, Bool.or_true, Bool.true_or, Bool.and_true, Bool.true_and, Bool.and_false, Bool.false_and, Bool.not_true, Bool.not_false]
      refine ⟨is_lst hP6, lst_set hP6 (by omega) (nx1 _ _ ?_)⟩
      simp only [eq_self, ev, ev2, ev3, ev4, ev5, ofS_inj, bodyEnds, String.reduceEq, decide_false, decide_true, reduceCtorEq, List.length_cons, List.length_nil, Nat.reduceAdd, szs, true_and, flatD, List.all_cons, List.all_nil, Bool.and_self, Bool.or_false, Bool.false_or, Bool.or_true, Bool.true_or, Bool.and_true, Bool.true_and, Bool.and_false, Bool.false_and, Bool.not_true, Bool.not_false, add_str, tapp, txt_len]
      refine ⟨by omega, P, G, _, _, _, _, _, _, _, _, _, rfl, scr_set sc6 fun j hj => (hne j hj).1, hPG, hne, at_set hP6, ?_, hm'⟩
      rw [List.getElem?_set_ne hPG]; exact hG6
    refine seqM fun N1 nx1 => ifM fun TA TB ta tb => ?_
    simp only [eq_self, ev, ev2, ev3, ev4, ev5, ofS_inj, bodyEnds, String.reduceEq, decide_false, decide_true, reduceCtorEq, List.length_cons, List.length_nil, Nat.reduceAdd, szs, true_and, flatD, List.all_cons, List.all_nil, Bool.and_self, Bool.or_false, Bool.false_or, Bool.or_true, Bool.true_or, Bool.and_true, Bool.true_and, Bool.and_false, Bool.false_and, Bool.not_true, Bool.not_false]
    cases made with
    | zero =>
      refine tb _ _ (nx1 _ _ ?_)
      exact fin S5 x9 false [] [] (Nat.le_refl _) scr5 hP5 hG5 (by simp) (by have h := Made.more (a := o) (x := []) ho nofun trivial; rw [show o.tx ++ rtx [] = [] ++ o.tx by simp [rtx]] at h; exact h)
    | @more a x ha hx hcm =>
      have gt0 : decide ((0 : Int) < ((x.length + 1 : Nat) : Int)) = true := decide_eq_true (by omega)
      simp only [gt0]
      refine ta _ _ ?_
      clear ta tb
      refine seqM fun N2 nx2 => ?_
      simp only [eq_self, ev, ev2, ev3, ev4, ev5, ofS_inj, bodyEnds, String.reduceEq, decide_false, decide_true, reduceCtorEq, List.length_cons, List.length_nil, Nat.reduceAdd, szs, true_and, flatD, List.all_cons, List.all_nil, Bool.and_self, Bool.or_false, Bool.false_or, Bool.or_true, Bool.true_or, Bool.and_true, Bool.true_and, Bool.and_false, Bool.false_and, Bool.not_true, Bool.not_false, cint_eq]
      refine ⟨by decide, sign_ix (Int.emod_nonneg _ (by decide)) (Int.emod_lt_of_pos _ (by decide)) at_end fun s => ?_⟩
      refine nx2 _ _ ?_
      clear nx2 N2
      have p6 : S5 <+: S5 ++ [O.lst [.str "or", .str "and", .str "<", .str "==", .str "+", .str "-", .str "*", .str "+"]] := pre_app
      generalize S5 ++ [O.lst [.str "or", .str "and", .str "<", .str "==", .str "+", .str "-", .str "*", .str "+"]] = S6 at p6 ⊢
      refine seqM fun N2 nx2 => ifM fun TA TB ta tb => ?_
      have tail : ∀ (s : Sg) (S7 : Sto), S5 <+: S7 → (s.lev = 2 → cmst false x.row = false) → N2 [some d, some (.ref P), some (.ref G), some (.str (txt (a.tx ++ rtx x))), some (.bl (cmst false x.row)), some (.int ((x.length + 1 : Nat) : Int)), some (.int v), some (.str (txt o.tx)), some o.tree, some (.str s.sg), none, none] S7 := by
        intro s S7 p7 hs
        refine nx2 _ _ ?_
        clear ta tb nx2 N2
        refine seqM fun N3 nx3 => ?_
        simp only [eq_self, ev, ev2, ev3, ev4, ev5, ofS_inj, bodyEnds, String.reduceEq, decide_false, decide_true, reduceCtorEq, List.length_cons, List.length_nil, Nat.reduceAdd, szs, true_and, flatD, List.all_cons, List.all_nil, Bool.and_self, Bool.or_false, Bool.false_or, Bool.or_true, Bool.true_or, Bool.and_true, Bool.true_and, Bool.and_false, Bool.false_and, Bool.not_true, Bool.not_false]
        refine in_lst at_end (by rfl) ?_
        rw [in_cmp]
        have step : ∀ S8 : Sto, S5 <+: S8 → N3 [some d, some (.ref P), some (.ref G), some (.str (txt (a.tx ++ rtx x))), some (.bl (decide (s.lev = 2) || (cmst false x.row && decide (2 ≤ s.lev)))), some (.int ((x.length + 1 : Nat) : Int)), some (.int v), some (.str (txt o.tx)), some o.tree, some (.str s.sg), none, none] S8 := by
          intro S8 p8
          refine nx3 _ _ ?_
          clear nx3 N3
          refine seqM fun N4 nx4 => ?_
          simp only [eq_self, ev, ev2, ev3, ev4, ev5, ofS_inj, bodyEnds, String.reduceEq, decide_false, decide_true, reduceCtorEq, List.length_cons, List.length_nil, Nat.reduceAdd, szs, true_and, flatD, List.all_cons, List.all_nil, Bool.and_self, Bool.or_false, Bool.false_or, Bool.or_true, Bool.true_or, Bool.and_true, Bool.true_and, Bool.and_false, Bool.false_and, Bool.not_true, Bool.not_false]
          have hG8 := pre_get p8 hG5
          have hP8 := pre_get p8 hP5
          refine ⟨is_lst hG8, lst_set hG8 (by omega) (nx4 _ _ ?_)⟩
          clear nx4 N4
          have hG9 : (S8.set G (O.lst (sgsD x.row ++ [.str s.sg])))[G]? = some (.lst (sgsD x.row ++ [.str s.sg])) := at_set hG8
          have hP9 : (S8.set G (O.lst (sgsD x.row ++ [.str s.sg])))[P]? = some (.lst (opsD (a.op, x.row))) := by rw [List.getElem?_set_ne (Ne.symm hPG)]; exact hP8
          have sc9 := scr_set (o := O.lst (sgsD x.row ++ [.str s.sg])) (scr5.pre p8) (i := G) fun j hj => (hne j hj).2
          have l9 : S5.length ≤ (S8.set G (O.lst (sgsD x.row ++ [.str s.sg]))).length := by rw [List.length_set]; exact p8.length_le
          generalize S8.set G (O.lst (sgsD x.row ++ [.str s.sg])) = S9 at hG9 hP9 sc9 l9 ⊢
          simp only [eq_self, ev, ev2, ev3, ev4, ev5, ofS_inj, bodyEnds, String.reduceEq, decide_false, decide_true, reduceCtorEq, List.length_cons, List.length_nil, Nat.reduceAdd, szs, true_and, flatD, List.all_cons, List.all_nil, Bool.and_self, Bool.or_false, Bool.false_or, Bool.or_true, Bool.true_or, Bool.and_true, Bool.true_and, Bool.and_false, Bool.false_and, Bool.not_true, Bool.not_false, cint_eq, div_eq]
          refine ⟨⟨by decide, by decide⟩, by decide, gap_ix (Int.emod_nonneg _ (by decide)) (Int.emod_lt_of_pos _ (by decide)) at_end fun b => ?_⟩
          have sp : (" " : Str) = txt [32] := by decide
          have := sg_len s
          have := gap_len b
          simp only [add_str, sg_tx, sp, tapp, txt_len]
          have hlen : (a.tx ++ rtx x ++ gap b ++ s.tx ++ [32]).length ≤ 300 := by
            simp only [List.length_append, List.length_cons, List.length_nil] at l3 ⊢
            omega
          refine ⟨?_, ?_, ?_, ?_⟩
          · simp only [List.length_append, List.length_cons, List.length_nil] at hlen ⊢; omega
          · simp only [List.length_append, List.length_cons, List.length_nil] at hlen ⊢; omega
          · simp only [List.length_append, List.length_cons, List.length_nil] at hlen ⊢; omega
          refine nx1 _ _ ?_
          have mk := Made.next (b := b) ha hx hcm ho hs
          have p10 : S9 <+: S9 ++ [O.lst [D.str " ", D.str "\n "]] := pre_app
          have f := fin (S9 ++ [O.lst [D.str " ", D.str "\n "]]) (some (.str s.sg)) _ _ _ (Nat.le_trans l9 p10.length_le) (sc9.pre p10) (pre_get p10 hP9) (pre_get p10 hG9) hlen mk
          rw [sg_tx, sp] at f
          exact f
        cases h2 : decide (s.lev = 2) with
        | true =>
          simp only [eq_self, ev, ev2, ev3, ev4, ev5, ofS_inj, bodyEnds, String.reduceEq, decide_false, decide_true, reduceCtorEq, List.length_cons, List.length_nil, Nat.reduceAdd, szs, true_and, flatD, List.all_cons, List.all_nil, Bool.and_self, Bool.or_false, Bool.false_or, Bool.or_true, Bool.true_or, Bool.and_true, Bool.true_and, Bool.and_false, Bool.false_and, Bool.not_true, Bool.not_false]
          rw [h2] at step
          exact step _ (p7.trans pre_app)
        | false =>
          rw [h2] at step
          simp only [eq_self, ev, ev2, ev3, ev4, ev5, ofS_inj, bodyEnds, String.reduceEq, decide_false, decide_true, reduceCtorEq, List.length_cons, List.length_nil, Nat.reduceAdd, szs, true_and, flatD, List.all_cons, List.all_nil, Bool.and_self, Bool.or_false, Bool.false_or, Bool.or_true, Bool.true_or, Bool.and_true, Bool.true_and, Bool.and_false, Bool.false_and, Bool.not_true, Bool.not_false]
          cases hc : cmst false x.row with
          | false =>
            rw [hc] at step
            exact step _ (p7.trans pre_app)
          | true =>
            rw [hc] at step
            refine notin_lst at_end (by rfl) ?_
            rw [in_bool, Bool.not_not]
            exact step _ ((p7.trans pre_app).trans pre_app)
      simp only [eq_self, ev, ev2, ev3, ev4, ev5, ofS_inj, bodyEnds, String.reduceEq, decide_false, decide_true, reduceCtorEq, List.length_cons, List.length_nil, Nat.reduceAdd, szs, true_and, flatD, List.all_cons, List.all_nil, Bool.and_self, Bool.or_false, Bool.false_or, Bool.or_true, Bool.true_or, Bool.and_true, Bool.true_and, Bool.and_false, Bool.false_and, Bool.not_true, Bool.not_false]
      cases hc : cmst false x.row with
      | false =>
        rw [hc] at tail
        simp only [eq_self, ev, ev2, ev3, ev4, ev5, ofS_inj, bodyEnds, String.reduceEq, decide_false, decide_true, reduceCtorEq, List.length_cons, List.length_nil, Nat.reduceAdd, szs, true_and, flatD, List.all_cons, List.all_nil, Bool.and_self, Bool.or_false, Bool.false_or, Bool.or_true, Bool.true_or, Bool.and_true, Bool.true_and, Bool.and_false, Bool.false_and, Bool.not_true, Bool.not_false]
        refine tb _ _ ?_
        simp only [eq_self, ev, ev2, ev3, ev4, ev5, ofS_inj, bodyEnds, String.reduceEq, decide_false, decide_true, reduceCtorEq, List.length_cons, List.length_nil, Nat.reduceAdd, szs, true_and, flatD, List.all_cons, List.all_nil, Bool.and_self, Bool.or_false, Bool.false_or, Bool.or_true, Bool.true_or, Bool.and_true, Bool.true_and, Bool.and_false, Bool.false_and, Bool.not_true, Bool.not_false]
        exact tail s S6 p6 fun _ => rfl
      | true =>
        rw [hc] at tail
        refine in_lst at_end (by rfl) ?_
        rw [in_cmp]
        cases h2 : decide (s.lev = 2) with
        | false =>
          simp only [eq_self, ev, ev2, ev3, ev4, ev5, ofS_inj, bodyEnds, String.reduceEq, decide_false, decide_true, reduceCtorEq, List.length_cons, List.length_nil, Nat.reduceAdd, szs, true_and, flatD, List.all_cons, List.all_nil, Bool.and_self, Bool.or_false, Bool.false_or, Bool.or_true, Bool.true_or, Bool.and_true, Bool.true_and, Bool.and_false, Bool.false_and, Bool.not_true, Bool.not_false]
          refine tb _ _ ?_
          simp only [eq_self, ev, ev2, ev3, ev4, ev5, ofS_inj, bodyEnds, String.reduceEq, decide_false, decide_true, reduceCtorEq, List.length_cons, List.length_nil, Nat.reduceAdd, szs, true_and, flatD, List.all_cons, List.all_nil, Bool.and_self, Bool.or_false, Bool.false_or, Bool.or_true, Bool.true_or, Bool.and_true, Bool.true_and, Bool.and_false, Bool.false_and, Bool.not_true, Bool.not_false]
          exact tail s _ (p6.trans pre_app) fun z => by rw [decide_eq_true z] at h2; cases h2
        | true =>
          simp only [eq_self, ev, ev2, ev3, ev4, ev5, ofS_inj, bodyEnds, String.reduceEq, decide_false, decide_true, reduceCtorEq, List.length_cons, List.length_nil, Nat.reduceAdd, szs, true_and, flatD, List.all_cons, List.all_nil, Bool.and_self, Bool.or_false, Bool.false_or, Bool.or_true, Bool.true_or, Bool.and_true, Bool.true_and, Bool.and_false, Bool.false_and, Bool.not_true, Bool.not_false]
          refine ta _ _ ?_
          simp only [eq_self, ev, ev2, ev3, ev4, ev5, ofS_inj, bodyEnds, String.reduceEq, decide_false, decide_true, reduceCtorEq, List.length_cons, List.length_nil, Nat.reduceAdd, szs, true_and, flatD, List.all_cons, List.all_nil, Bool.and_self, Bool.or_false, Bool.false_or, Bool.or_true, Bool.true_or, Bool.and_true, Bool.true_and, Bool.and_false, Bool.false_and, Bool.not_true, Bool.not_false]
          exact tail .mul _ (p6.trans pre_app) fun z => absurd z (by decide)
  · clear start s1 S1 P G
    rintro ρ S1 ⟨P, G, ps, ss, t, c, x5, x6, x7, x8, x9, rfl, scr, hPG, hne, hP, hG, made⟩
    refine nx _ _ ?_
    clear nx N
    rw [rng_len, Int.toNat_natCast] at made
    generalize hm1 : m + 1 = m1 at made
    cases made with
    | zero => omega
    | @more a x ha hx hcm =>
      have lx : x.length ≤ 7 := by omega
      have made := (Made.more ha hx hcm).len.2.2
      refine seqM fun N nx => ?_
      have z1 : ("  let v = " : Str) = txt [32, 32, 108, 101, 116, 32, 118, 32, 61, 32] := by decide
      have z2 : (";" : Str) = txt [59] := by decide
      have hz : 1000 ≤ sizeLine := by decide
      simp only [eq_self, ev, ev2, ev3, ev4, ev5, ofS_inj, bodyEnds, String.reduceEq, decide_false, decide_true, reduceCtorEq, List.length_cons, List.length_nil, Nat.reduceAdd, szs, true_and, flatD, List.all_cons, List.all_nil, Bool.and_self, Bool.or_false, Bool.false_or, Bool.or_true, Bool.true_or, Bool.and_true, Bool.true_and, Bool.and_false, Bool.false_and, Bool.not_true, Bool.not_false, z1, z2, add_str, tapp, txt_len]
      refine ⟨?_, ?_, ?_⟩
      · simp only [List.length_append, List.length_cons, List.length_nil] at made ⊢; omega
      · simp only [List.length_append, List.length_cons, List.length_nil] at made ⊢; omega
      have ew : [32, 32, 108, 101, 116, 32, 118, 32, 61, 32] ++ (a.tx ++ rtx x) ++ [59] = whole a x := by simp [whole, body]
      rw [ew]
      obtain ⟨ts, lex, ets⟩ := whole_lex a x ha hx
      have st := fun tt => whole_st a x (by omega) hcm ts ets tt (whole a x).length 0 (.str "m") (k + 4)
      have ops : ∀ z ∈ x.row, ∃ o : Opr, o.small ∧ z.2 = o.op := by
        clear hP hG st lex ets ew made hcm hm1 lx
        induction x with
        | nil => exact nofun
        | cons y x ih =>
          intro z hz
          rcases inCons hz with rfl | hz
          · exact ⟨_, hx _ (List.mem_cons_self ..), rfl⟩
          · exact ih (fun w hw => hx w (List.mem_cons_of_mem _ hw)) z hz
      obtain ⟨i, hi, hdp⟩ := T_db 5 a.op x.row (opr_db a) fun z hz => let ⟨o, _, e⟩ := ops z hz; by rw [e]; exact opr_db o
      have shw := T_gen shw_two shw_up 5 a.op x.row (opr_shw a ha) fun z hz => let ⟨o, ho, e⟩ := ops z hz; by rw [e]; exact opr_shw o ho
      rw [row_len] at hi hdp shw
      refine ⟨whole a x, "m", ⟨"word", .s "let", 2⟩ :: ts, .str "v", T 5 a.op x.row, .int 2, i, rfl, ?_, lex, Nat.succ_pos _, st, fun _ => by rfl, dp_le hdp (by omega), by omega, fun S2 j p2 hj => ?_⟩
      · rw [← ew]
        simp only [List.length_append, List.length_cons, List.length_nil] at made ⊢; omega
      refine nx _ _ ?_
      clear nx N
      refine seqM fun N nx => ?_
      simp only [eq_self, ev, ev2, ev3, ev4, ev5, ofS_inj, bodyEnds, String.reduceEq, decide_false, decide_true, reduceCtorEq, List.length_cons, List.length_nil, Nat.reduceAdd, szs, true_and, flatD, List.all_cons, List.all_nil, Bool.and_self, Bool.or_false, Bool.false_or, Bool.or_true, Bool.true_or, Bool.and_true, Bool.true_and, Bool.and_false, Bool.false_and, Bool.not_true, Bool.not_false]
      refine ⟨P, G, 5, a.op, x.row, rfl, by decide, by decide, by rw [row_len]; omega, pre_get p2 hP, pre_get p2 hG, fun S3 p3 => nx _ _ ?_⟩
      clear nx N
      have e10 : (S3 ++ [O.lst [D.tup [.str "let", .str "v", T 5 a.op x.row, .int 2]]])[j]? = some (.lst [D.tup [.str "let", .str "v", T 5 a.op x.row, .int 2]]) := pre_get (p3.trans pre_app) hj
      have e11 : (S3 ++ [O.lst [D.tup [.str "let", .str "v", T 5 a.op x.row, .int 2]]])[S3.length]? = some (.lst [D.tup [.str "let", .str "v", T 5 a.op x.row, .int 2]]) := at_end
      generalize S3.length = i11 at e11 ⊢
      generalize S3 ++ [O.lst [D.tup [.str "let", .str "v", T 5 a.op x.row, .int 2]]] = S4 at e10 e11 ⊢
      have lof : ∀ {i : Nat} {l : List D}, S4[i]? = some (.lst l) → lstOf S4 i = some l := fun e => by unfold lstOf; rw [e]
      have ty : tyD S4 (.ref j) = some "list" := by show (lstOf S4 j).map _ = _; rw [lof e10]; rfl
      obtain ⟨k1, k2, k3⟩ := shw
      have pw : 2 ^ (2 + x.length) ≤ 2 ^ 9 := Nat.pow_le_pow_right (by decide) (by omega)
      have so : PyData.strOk "let" = true ∧ PyData.strOk "v" = true := by decide +kernel
      have okl : okL [D.tup [.str "let", .str "v", T 5 a.op x.row, .int 2]] = true := by
        simp only [okL, okD, so, k1, Bool.and_true, Bool.true_and]; decide
      have dpl : dpL [D.tup [.str "let", .str "v", T 5 a.op x.row, .int 2]] ≤ 60 := by simp only [dpL, dpD]; omega
      have wtl : wtL [D.tup [.str "let", .str "v", T 5 a.op x.row, .int 2]] ≤ 1000000 := by
        have : ("let" : Str).cps.size = 3 ∧ ("v" : Str).cps.size = 1 := by decide +kernel
        simp only [wtL, wtD, this]; omega
      simp only [eq_self, ev, ev2, ev3, ev4, ev5, ofS_inj, bodyEnds, String.reduceEq, decide_false, decide_true, reduceCtorEq, List.length_cons, List.length_nil, Nat.reduceAdd, szs, true_and, flatD, List.all_cons, List.all_nil, Bool.and_self, Bool.or_false, Bool.false_or, Bool.or_true, Bool.true_or, Bool.and_true, Bool.true_and, Bool.and_false, Bool.false_and, Bool.not_true, Bool.not_false, aIsi, ty]
      refine repr_list (lof e10) okl dpl wtl (repr_list (lof e11) okl dpl wtl (one_eq ?_))
      exact q _
end Lw
namespace Rw
open PySem PySem.Spec
open PyProof.Rows L2 AL Ab
def top (i : Nat) : Stmt := PySem.Challenge.pw_fascicle_k02_chains_of_operators.main.body.getD i (.Pass ⟨0, 0, 0, 0⟩)
abbrev s_is_letter : Stmt := top 9
abbrev s_is_digit : Stmt := top 10
abbrev s_in_name : Stmt := top 11
abbrev s_run_end : Stmt := top 12
abbrev s_comment_end : Stmt := top 13
abbrev s_read_word : Stmt := top 14
abbrev s_read_number : Stmt := top 15
abbrev s_read_string : Stmt := top 16
abbrev s_read_sign : Stmt := top 17
abbrev s_read_token : Stmt := top 18
abbrev s_tokens : Stmt := top 19
abbrev s_Reader_init : Stmt := inClass (top 25) 0
abbrev s_Reader_at : Stmt := inClass (top 25) 1
abbrev s_Reader_sees : Stmt := inClass (top 25) 2
abbrev s_Reader_sees_kind : Stmt := inClass (top 25) 3
abbrev s_Reader_follows : Stmt := inClass (top 25) 4
abbrev s_Reader_accept : Stmt := inClass (top 25) 5
abbrev s_Reader_expect : Stmt := inClass (top 25) 6
abbrev s_Reader_read : Stmt := inClass (top 25) 7
abbrev s_Reader_deeper : Stmt := inClass (top 25) 8
abbrev s_read_parameters : Stmt := top 26
abbrev s_read_body : Stmt := top 27
abbrev s_read_arguments : Stmt := top 28
abbrev s_read_primary : Stmt := top 29
abbrev s_read_call : Stmt := top 30
abbrev s_read_product : Stmt := top 31
abbrev s_read_sum : Stmt := top 32
abbrev s_read_plain : Stmt := top 33
abbrev s_read_both : Stmt := top 34
abbrev s_read_expression : Stmt := top 35
abbrev s_read_block : Stmt := top 36
abbrev s_read_let : Stmt := top 37
abbrev s_read_fun : Stmt := top 38
abbrev s_read_compound : Stmt := top 39
abbrev s_read_simple : Stmt := top 40
abbrev s_read_statement : Stmt := top 41
abbrev s_read_pairs : Stmt := top 42
abbrev s_read_from : Stmt := top 43
abbrev s_read_import : Stmt := top 44
abbrev s_read_export : Stmt := top 45
abbrev s_expression_depth : Stmt := top 46
abbrev s_block_depth : Stmt := top 47
abbrev s_depth : Stmt := top 48
abbrev s_parse : Stmt := top 49
abbrev s__law_cell : Stmt := top 51
abbrev s__law_operand : Stmt := top 52
abbrev s__law_chain : Stmt := top 53
abbrev s__law_split : Stmt := top 54
abbrev s__law_tree : Stmt := top 55
abbrev s_law : Stmt := top 56
structure Facts (K : PySem.W.Frag) (mg : Str → Option Value) (w : World) : Prop where
  no_abs : mg "abs" = none
  no_all : mg "all" = none
  no_int : mg "int" = none
  no_isinstance : mg "isinstance" = none
  no_len : mg "len" = none
  no_list : mg "list" = none
  no_max : mg "max" = none
  no_min : mg "min" = none
  no_range : mg "range" = none
  no_repr : mg "repr" = none
  no_str : mg "str" = none
  no_tuple : mg "tuple" = none
  c_MAX_TEXT : GlD K mg "MAX_TEXT" C_MAX_TEXT
  c_MAX_NAME : GlD K mg "MAX_NAME" C_MAX_NAME
  c_RESERVED : GlD K mg "RESERVED" C_RESERVED
  c_SIGNS : GlD K mg "SIGNS" C_SIGNS
  c_MAX_NESTING : GlD K mg "MAX_NESTING" C_MAX_NESTING
  c_MAX_DEPTH : GlD K mg "MAX_DEPTH" C_MAX_DEPTH
  k_SUMS : GlK K mg w "SUMS" K_SUMS
  k_COMPARISONS : GlK K mg w "COMPARISONS" K_COMPARISONS
  f_Reader_inside : FieldOk K "Reader" "inside"
  f_Reader_limit : FieldOk K "Reader" "limit"
  f_Reader_module : FieldOk K "Reader" "module"
  f_Reader_place : FieldOk K "Reader" "place"
  f_Reader_rest : FieldOk K "Reader" "rest"
  d_is_letter : ∃ fd, FunD K "is_letter" "is_letter" (defArgs s_is_letter) (defBody s_is_letter) (defScope s_is_letter) [] [] (He.fAd K ("is_letter", none)) fd
  g_is_letter : mg "is_letter" = some (.ref (He.fAd K ("is_letter", none)))
  d_is_digit : ∃ fd, FunD K "is_digit" "is_digit" (defArgs s_is_digit) (defBody s_is_digit) (defScope s_is_digit) [] [] (He.fAd K ("is_digit", none)) fd
  g_is_digit : mg "is_digit" = some (.ref (He.fAd K ("is_digit", none)))
  d_in_name : ∃ fd, FunD K "in_name" "in_name" (defArgs s_in_name) (defBody s_in_name) (defScope s_in_name) [] [] (He.fAd K ("in_name", none)) fd
  g_in_name : mg "in_name" = some (.ref (He.fAd K ("in_name", none)))
  d_run_end : ∃ fd, FunD K "run_end" "run_end" (defArgs s_run_end) (defBody s_run_end) (defScope s_run_end) [] [] (He.fAd K ("run_end", none)) fd
  g_run_end : mg "run_end" = some (.ref (He.fAd K ("run_end", none)))
  d_comment_end : ∃ fd, FunD K "comment_end" "comment_end" (defArgs s_comment_end) (defBody s_comment_end) (defScope s_comment_end) [] [] (He.fAd K ("comment_end", none)) fd
  g_comment_end : mg "comment_end" = some (.ref (He.fAd K ("comment_end", none)))
  d_read_word : ∃ fd, FunD K "read_word" "read_word" (defArgs s_read_word) (defBody s_read_word) (defScope s_read_word) [] [] (He.fAd K ("read_word", none)) fd
  g_read_word : mg "read_word" = some (.ref (He.fAd K ("read_word", none)))
  d_read_number : ∃ fd, FunD K "read_number" "read_number" (defArgs s_read_number) (defBody s_read_number) (defScope s_read_number) [] [] (He.fAd K ("read_number", none)) fd
  g_read_number : mg "read_number" = some (.ref (He.fAd K ("read_number", none)))
  d_read_string : ∃ fd, FunD K "read_string" "read_string" (defArgs s_read_string) (defBody s_read_string) (defScope s_read_string) [] [] (He.fAd K ("read_string", none)) fd
  g_read_string : mg "read_string" = some (.ref (He.fAd K ("read_string", none)))
  d_read_sign : ∃ fd, FunD K "read_sign" "read_sign" (defArgs s_read_sign) (defBody s_read_sign) (defScope s_read_sign) [] [] (He.fAd K ("read_sign", none)) fd
  g_read_sign : mg "read_sign" = some (.ref (He.fAd K ("read_sign", none)))
  d_read_token : ∃ fd, FunD K "read_token" "read_token" (defArgs s_read_token) (defBody s_read_token) (defScope s_read_token) [] [] (He.fAd K ("read_token", none)) fd
  g_read_token : mg "read_token" = some (.ref (He.fAd K ("read_token", none)))
  d_tokens : ∃ fd, FunD K "tokens" "tokens" (defArgs s_tokens) (defBody s_tokens) (defScope s_tokens) [] [] (He.fAd K ("tokens", none)) fd
  g_tokens : mg "tokens" = some (.ref (He.fAd K ("tokens", none)))
  d_Reader_init : ∃ fd, FunD K "__init__" "Reader.__init__" (defArgs s_Reader_init) (defBody s_Reader_init) (defScope s_Reader_init) [] [] (He.fAd K ("Reader", some "__init__")) fd
  d_Reader_at : ∃ fd, FunD K "at" "Reader.at" (defArgs s_Reader_at) (defBody s_Reader_at) (defScope s_Reader_at) [] [] (He.fAd K ("Reader", some "at")) fd
  m_Reader_at : Meth K (He.ga K "Reader") "at" (He.fAd K ("Reader", some "at"))
  d_Reader_sees : ∃ fd, FunD K "sees" "Reader.sees" (defArgs s_Reader_sees) (defBody s_Reader_sees) (defScope s_Reader_sees) [] [] (He.fAd K ("Reader", some "sees")) fd
  m_Reader_sees : Meth K (He.ga K "Reader") "sees" (He.fAd K ("Reader", some "sees"))
  d_Reader_sees_kind : ∃ fd, FunD K "sees_kind" "Reader.sees_kind" (defArgs s_Reader_sees_kind) (defBody s_Reader_sees_kind) (defScope s_Reader_sees_kind) [] [] (He.fAd K ("Reader", some "sees_kind")) fd
  m_Reader_sees_kind : Meth K (He.ga K "Reader") "sees_kind" (He.fAd K ("Reader", some "sees_kind"))
  d_Reader_follows : ∃ fd, FunD K "follows" "Reader.follows" (defArgs s_Reader_follows) (defBody s_Reader_follows) (defScope s_Reader_follows) [] [] (He.fAd K ("Reader", some "follows")) fd
  m_Reader_follows : Meth K (He.ga K "Reader") "follows" (He.fAd K ("Reader", some "follows"))
  d_Reader_accept : ∃ fd, FunD K "accept" "Reader.accept" (defArgs s_Reader_accept) (defBody s_Reader_accept) (defScope s_Reader_accept) [] [] (He.fAd K ("Reader", some "accept")) fd
  m_Reader_accept : Meth K (He.ga K "Reader") "accept" (He.fAd K ("Reader", some "accept"))
  d_Reader_expect : ∃ fd, FunD K "expect" "Reader.expect" (defArgs s_Reader_expect) (defBody s_Reader_expect) (defScope s_Reader_expect) [] [] (He.fAd K ("Reader", some "expect")) fd
  m_Reader_expect : Meth K (He.ga K "Reader") "expect" (He.fAd K ("Reader", some "expect"))
  d_Reader_read : ∃ fd, FunD K "read" "Reader.read" (defArgs s_Reader_read) (defBody s_Reader_read) (defScope s_Reader_read) [] [] (He.fAd K ("Reader", some "read")) fd
  m_Reader_read : Meth K (He.ga K "Reader") "read" (He.fAd K ("Reader", some "read"))
  d_Reader_deeper : ∃ fd, FunD K "deeper" "Reader.deeper" (defArgs s_Reader_deeper) (defBody s_Reader_deeper) (defScope s_Reader_deeper) [] [] (He.fAd K ("Reader", some "deeper")) fd
  m_Reader_deeper : Meth K (He.ga K "Reader") "deeper" (He.fAd K ("Reader", some "deeper"))
  d_read_parameters : ∃ fd, FunD K "read_parameters" "read_parameters" (defArgs s_read_parameters) (defBody s_read_parameters) (defScope s_read_parameters) [] [] (He.fAd K ("read_parameters", none)) fd
  g_read_parameters : mg "read_parameters" = some (.ref (He.fAd K ("read_parameters", none)))
  d_read_body : ∃ fd, FunD K "read_body" "read_body" (defArgs s_read_body) (defBody s_read_body) (defScope s_read_body) [] [] (He.fAd K ("read_body", none)) fd
  g_read_body : mg "read_body" = some (.ref (He.fAd K ("read_body", none)))
  d_read_arguments : ∃ fd, FunD K "read_arguments" "read_arguments" (defArgs s_read_arguments) (defBody s_read_arguments) (defScope s_read_arguments) [] [] (He.fAd K ("read_arguments", none)) fd
  g_read_arguments : mg "read_arguments" = some (.ref (He.fAd K ("read_arguments", none)))
  d_read_primary : ∃ fd, FunD K "read_primary" "read_primary" (defArgs s_read_primary) (defBody s_read_primary) (defScope s_read_primary) [] [] (He.fAd K ("read_primary", none)) fd
  g_read_primary : mg "read_primary" = some (.ref (He.fAd K ("read_primary", none)))
  d_read_call : ∃ fd, FunD K "read_call" "read_call" (defArgs s_read_call) (defBody s_read_call) (defScope s_read_call) [] [] (He.fAd K ("read_call", none)) fd
  g_read_call : mg "read_call" = some (.ref (He.fAd K ("read_call", none)))
  d_read_product : ∃ fd, FunD K "read_product" "read_product" (defArgs s_read_product) (defBody s_read_product) (defScope s_read_product) [] [] (He.fAd K ("read_product", none)) fd
  g_read_product : mg "read_product" = some (.ref (He.fAd K ("read_product", none)))
  d_read_sum : ∃ fd, FunD K "read_sum" "read_sum" (defArgs s_read_sum) (defBody s_read_sum) (defScope s_read_sum) [] [] (He.fAd K ("read_sum", none)) fd
  g_read_sum : mg "read_sum" = some (.ref (He.fAd K ("read_sum", none)))
  d_read_plain : ∃ fd, FunD K "read_plain" "read_plain" (defArgs s_read_plain) (defBody s_read_plain) (defScope s_read_plain) [] [] (He.fAd K ("read_plain", none)) fd
  g_read_plain : mg "read_plain" = some (.ref (He.fAd K ("read_plain", none)))
  d_read_both : ∃ fd, FunD K "read_both" "read_both" (defArgs s_read_both) (defBody s_read_both) (defScope s_read_both) [] [] (He.fAd K ("read_both", none)) fd
  g_read_both : mg "read_both" = some (.ref (He.fAd K ("read_both", none)))
  d_read_expression : ∃ fd, FunD K "read_expression" "read_expression" (defArgs s_read_expression) (defBody s_read_expression) (defScope s_read_expression) [] [] (He.fAd K ("read_expression", none)) fd
  g_read_expression : mg "read_expression" = some (.ref (He.fAd K ("read_expression", none)))
  d_read_block : ∃ fd, FunD K "read_block" "read_block" (defArgs s_read_block) (defBody s_read_block) (defScope s_read_block) [] [] (He.fAd K ("read_block", none)) fd
  g_read_block : mg "read_block" = some (.ref (He.fAd K ("read_block", none)))
  d_read_let : ∃ fd, FunD K "read_let" "read_let" (defArgs s_read_let) (defBody s_read_let) (defScope s_read_let) [] [] (He.fAd K ("read_let", none)) fd
  g_read_let : mg "read_let" = some (.ref (He.fAd K ("read_let", none)))
  d_read_fun : ∃ fd, FunD K "read_fun" "read_fun" (defArgs s_read_fun) (defBody s_read_fun) (defScope s_read_fun) [] [] (He.fAd K ("read_fun", none)) fd
  g_read_fun : mg "read_fun" = some (.ref (He.fAd K ("read_fun", none)))
  d_read_compound : ∃ fd, FunD K "read_compound" "read_compound" (defArgs s_read_compound) (defBody s_read_compound) (defScope s_read_compound) [] [] (He.fAd K ("read_compound", none)) fd
  g_read_compound : mg "read_compound" = some (.ref (He.fAd K ("read_compound", none)))
  d_read_simple : ∃ fd, FunD K "read_simple" "read_simple" (defArgs s_read_simple) (defBody s_read_simple) (defScope s_read_simple) [] [] (He.fAd K ("read_simple", none)) fd
  g_read_simple : mg "read_simple" = some (.ref (He.fAd K ("read_simple", none)))
  d_read_statement : ∃ fd, FunD K "read_statement" "read_statement" (defArgs s_read_statement) (defBody s_read_statement) (defScope s_read_statement) [] [] (He.fAd K ("read_statement", none)) fd
  g_read_statement : mg "read_statement" = some (.ref (He.fAd K ("read_statement", none)))
  d_read_pairs : ∃ fd, FunD K "read_pairs" "read_pairs" (defArgs s_read_pairs) (defBody s_read_pairs) (defScope s_read_pairs) [] [] (He.fAd K ("read_pairs", none)) fd
  g_read_pairs : mg "read_pairs" = some (.ref (He.fAd K ("read_pairs", none)))
  d_read_from : ∃ fd, FunD K "read_from" "read_from" (defArgs s_read_from) (defBody s_read_from) (defScope s_read_from) [] [] (He.fAd K ("read_from", none)) fd
  g_read_from : mg "read_from" = some (.ref (He.fAd K ("read_from", none)))
  d_read_import : ∃ fd, FunD K "read_import" "read_import" (defArgs s_read_import) (defBody s_read_import) (defScope s_read_import) [] [] (He.fAd K ("read_import", none)) fd
  g_read_import : mg "read_import" = some (.ref (He.fAd K ("read_import", none)))
  d_read_export : ∃ fd, FunD K "read_export" "read_export" (defArgs s_read_export) (defBody s_read_export) (defScope s_read_export) [] [] (He.fAd K ("read_export", none)) fd
  g_read_export : mg "read_export" = some (.ref (He.fAd K ("read_export", none)))
  d_expression_depth : ∃ fd, FunD K "expression_depth" "expression_depth" (defArgs s_expression_depth) (defBody s_expression_depth) (defScope s_expression_depth) [] [] (He.fAd K ("expression_depth", none)) fd
  g_expression_depth : mg "expression_depth" = some (.ref (He.fAd K ("expression_depth", none)))
  d_block_depth : ∃ fd, FunD K "block_depth" "block_depth" (defArgs s_block_depth) (defBody s_block_depth) (defScope s_block_depth) [] [] (He.fAd K ("block_depth", none)) fd
  g_block_depth : mg "block_depth" = some (.ref (He.fAd K ("block_depth", none)))
  d_depth : ∃ fd, FunD K "depth" "depth" (defArgs s_depth) (defBody s_depth) (defScope s_depth) [] [] (He.fAd K ("depth", none)) fd
  g_depth : mg "depth" = some (.ref (He.fAd K ("depth", none)))
  d_parse : ∃ fd, FunD K "parse" "parse" (defArgs s_parse) (defBody s_parse) (defScope s_parse) [] [] (He.fAd K ("parse", none)) fd
  g_parse : mg "parse" = some (.ref (He.fAd K ("parse", none)))
  d__law_cell : ∃ fd, FunD K "_law_cell" "_law_cell" (defArgs s__law_cell) (defBody s__law_cell) (defScope s__law_cell) [] [] (He.fAd K ("_law_cell", none)) fd
  g__law_cell : mg "_law_cell" = some (.ref (He.fAd K ("_law_cell", none)))
  d__law_operand : ∃ fd, FunD K "_law_operand" "_law_operand" (defArgs s__law_operand) (defBody s__law_operand) (defScope s__law_operand) [] [] (He.fAd K ("_law_operand", none)) fd
  g__law_operand : mg "_law_operand" = some (.ref (He.fAd K ("_law_operand", none)))
  d__law_chain : ∃ fd, FunD K "_law_chain" "_law_chain" (defArgs s__law_chain) (defBody s__law_chain) (defScope s__law_chain) [] [] (He.fAd K ("_law_chain", none)) fd
  g__law_chain : mg "_law_chain" = some (.ref (He.fAd K ("_law_chain", none)))
  d__law_split : ∃ fd, FunD K "_law_split" "_law_split" (defArgs s__law_split) (defBody s__law_split) (defScope s__law_split) [] [] (He.fAd K ("_law_split", none)) fd
  g__law_split : mg "_law_split" = some (.ref (He.fAd K ("_law_split", none)))
  d__law_tree : ∃ fd, FunD K "_law_tree" "_law_tree" (defArgs s__law_tree) (defBody s__law_tree) (defScope s__law_tree) [] [] (He.fAd K ("_law_tree", none)) fd
  g__law_tree : mg "_law_tree" = some (.ref (He.fAd K ("_law_tree", none)))
  d_law : ∃ fd, FunD K "law" "law" (defArgs s_law) (defBody s_law) (defScope s_law) [] [] (He.fAd K ("law", none)) fd
  g_law : mg "law" = some (.ref (He.fAd K ("law", none)))
  k_Reader : Cls K (He.ga K "Reader")
  mk_Reader : mg "Reader" = some (.ref (He.ga K "Reader")) ∧ Mk K (He.ga K "Reader") (He.fAd K ("Reader", some "__init__"))
theorem sc_is_letter : FnScope ["char"] ["char"] (defScope s_is_letter) := ⟨rfl, rfl, rfl, by decide +kernel, rfl, by decide +kernel, by decide +kernel⟩
theorem ok_is_letter {P : Program} {w : World} {K : PySem.W.Frag} {mg : Str → Option Value} {base : Heap} (T : Facts K mg w) {k : Nat} {G : AFn} 
    (sp : ∀ ds S E Q, G ds S E Q → ds.length = 1 ∧ (a_is_letter) (bodyEnds Q E) (startA 1 ds) S) : FD P w K mg base "is_letter" (k + 1) G := by
  obtain ⟨fd, F⟩ := T.d_is_letter
  exact ⟨_, fd, ["char"], fn_ok F sc_is_letter (fun ds S E Q h => (sp ds S E Q h).1) (fun cdv A outer s H E hr => ⟨a_is_letter, (ass_one (as_ret (ae_or (ae_chain ao_le ao_le ae_str (av 0) ae_str) (ae_one (ae_chain ao_le ao_le ae_str (av 0) ae_str))))), fun ds S Ea Qa h => (sp ds S Ea Qa h).2⟩), T.g_is_letter, F.kp, F.bindsN (fun _ _ _ _ _ _ us hl => match us, hl with | [_], _ => rfl)⟩
theorem z_is_letter {P : Program} {w : World} {K : PySem.W.Frag} {mg : Str → Option Value} {base : Heap} (T : Facts K mg w) {k : Nat} : FD P w K mg base "is_letter" k fun _ _ _ _ => False := by
  obtain ⟨fd, F⟩ := T.d_is_letter
  exact ⟨_, fd, ["char"], never_ok, T.g_is_letter, F.kp, F.bindsN (fun _ _ _ _ _ _ us hl => match us, hl with | [_], _ => rfl)⟩
theorem sc_is_digit : FnScope ["char"] ["char"] (defScope s_is_digit) := ⟨rfl, rfl, rfl, by decide +kernel, rfl, by decide +kernel, by decide +kernel⟩
theorem ok_is_digit {P : Program} {w : World} {K : PySem.W.Frag} {mg : Str → Option Value} {base : Heap} (T : Facts K mg w) {k : Nat} {G : AFn} 
    (sp : ∀ ds S E Q, G ds S E Q → ds.length = 1 ∧ (a_is_digit) (bodyEnds Q E) (startA 1 ds) S) : FD P w K mg base "is_digit" (k + 1) G := by
  obtain ⟨fd, F⟩ := T.d_is_digit
  exact ⟨_, fd, ["char"], fn_ok F sc_is_digit (fun ds S E Q h => (sp ds S E Q h).1) (fun cdv A outer s H E hr => ⟨a_is_digit, (ass_one (as_ret (ae_chain ao_le ao_le ae_str (av 0) ae_str))), fun ds S Ea Qa h => (sp ds S Ea Qa h).2⟩), T.g_is_digit, F.kp, F.bindsN (fun _ _ _ _ _ _ us hl => match us, hl with | [_], _ => rfl)⟩
theorem z_is_digit {P : Program} {w : World} {K : PySem.W.Frag} {mg : Str → Option Value} {base : Heap} (T : Facts K mg w) {k : Nat} : FD P w K mg base "is_digit" k fun _ _ _ _ => False := by
  obtain ⟨fd, F⟩ := T.d_is_digit
  exact ⟨_, fd, ["char"], never_ok, T.g_is_digit, F.kp, F.bindsN (fun _ _ _ _ _ _ us hl => match us, hl with | [_], _ => rfl)⟩
theorem sc_in_name : FnScope ["char"] ["char"] (defScope s_in_name) := ⟨rfl, rfl, rfl, by decide +kernel, rfl, by decide +kernel, by decide +kernel⟩
theorem ok_in_name {P : Program} {w : World} {K : PySem.W.Frag} {mg : Str → Option Value} {base : Heap} (T : Facts K mg w) {k : Nat} {G : AFn} {F_is_letter F_is_digit : AFn} (h_is_letter : FD P w K mg base "is_letter" k F_is_letter) (h_is_digit : FD P w K mg base "is_digit" k F_is_digit)
    (sp : ∀ ds S E Q, G ds S E Q → ds.length = 1 ∧ (a_in_name F_is_letter F_is_digit) (bodyEnds Q E) (startA 1 ds) S) : FD P w K mg base "in_name" (k + 1) G := by
  obtain ⟨fd, F⟩ := T.d_in_name
  exact ⟨_, fd, ["char"], fn_ok F sc_in_name (fun ds S E Q h => (sp ds S E Q h).1) (fun cdv A outer s H E hr => ⟨a_in_name F_is_letter F_is_digit, (ass_one (as_ret (ae_or (ae_call h_is_letter hr takesE (aa_cons (av 0) aa_nil)) (ae_or (ae_call h_is_digit hr takesE (aa_cons (av 0) aa_nil)) (ae_one (ae_cmp (ao_eq (ru64 hr)) (av 0) ae_str)))))), fun ds S Ea Qa h => (sp ds S Ea Qa h).2⟩), T.g_in_name, F.kp, F.bindsN (fun _ _ _ _ _ _ us hl => match us, hl with | [_], _ => rfl)⟩
theorem z_in_name {P : Program} {w : World} {K : PySem.W.Frag} {mg : Str → Option Value} {base : Heap} (T : Facts K mg w) {k : Nat} : FD P w K mg base "in_name" k fun _ _ _ _ => False := by
  obtain ⟨fd, F⟩ := T.d_in_name
  exact ⟨_, fd, ["char"], never_ok, T.g_in_name, F.kp, F.bindsN (fun _ _ _ _ _ _ us hl => match us, hl with | [_], _ => rfl)⟩
theorem sc_run_end : FnScope ["text", "at"] ["text", "at"] (defScope s_run_end) := ⟨rfl, rfl, rfl, by decide +kernel, rfl, by decide +kernel, by decide +kernel⟩
theorem ok_run_end {P : Program} {w : World} {K : PySem.W.Frag} {mg : Str → Option Value} {base : Heap} (T : Facts K mg w) {k : Nat} {G : AFn} {F_in_name : AFn} (h_in_name : FD P w K mg base "in_name" k F_in_name)
    (sp : ∀ ds S E Q, G ds S E Q → ds.length = 2 ∧ (a_run_end F_in_name) (bodyEnds Q E) (startA 2 ds) S) : FD P w K mg base "run_end" (k + 1) G := by
  obtain ⟨fd, F⟩ := T.d_run_end
  exact ⟨_, fd, ["text", "at"], fn_ok F sc_run_end (fun ds S E Q h => (sp ds S E Q h).1) (fun cdv A outer s H E hr => ⟨a_run_end F_in_name, (ass_cons (as_while passesE (AW.at (aw_and (at_cmp ao_lt (av 1) (ae_callB ac_len T.no_len (aa_cons (av 0) aa_nil))) (aw_and1 (at_val (ae_call h_in_name hr takesE (aa_cons (ae_ix (ru1 hr) (av 0) (av 1)) aa_nil)))))) (ass_one (as_set sc_run_end.nd (ae_op ao_add (av 1) ae_int))))
      (ass_one (as_ret (av 1)))), fun ds S Ea Qa h => (sp ds S Ea Qa h).2⟩), T.g_run_end, F.kp, F.bindsN (fun _ _ _ _ _ _ us hl => match us, hl with | [_, _], _ => rfl)⟩
theorem z_run_end {P : Program} {w : World} {K : PySem.W.Frag} {mg : Str → Option Value} {base : Heap} (T : Facts K mg w) {k : Nat} : FD P w K mg base "run_end" k fun _ _ _ _ => False := by
  obtain ⟨fd, F⟩ := T.d_run_end
  exact ⟨_, fd, ["text", "at"], never_ok, T.g_run_end, F.kp, F.bindsN (fun _ _ _ _ _ _ us hl => match us, hl with | [_, _], _ => rfl)⟩
theorem sc_comment_end : FnScope ["text", "at"] ["text", "at"] (defScope s_comment_end) := ⟨rfl, rfl, rfl, by decide +kernel, rfl, by decide +kernel, by decide +kernel⟩
theorem ok_comment_end {P : Program} {w : World} {K : PySem.W.Frag} {mg : Str → Option Value} {base : Heap} (T : Facts K mg w) {k : Nat} {G : AFn} 
    (sp : ∀ ds S E Q, G ds S E Q → ds.length = 2 ∧ (a_comment_end) (bodyEnds Q E) (startA 2 ds) S) : FD P w K mg base "comment_end" (k + 1) G := by
  obtain ⟨fd, F⟩ := T.d_comment_end
  exact ⟨_, fd, ["text", "at"], fn_ok F sc_comment_end (fun ds S E Q h => (sp ds S E Q h).1) (fun cdv A outer s H E hr => ⟨a_comment_end, (ass_cons (as_while passesE (AW.at (aw_and (at_cmp ao_lt (av 1) (ae_callB ac_len T.no_len (aa_cons (av 0) aa_nil))) (aw_and1 (at_cmp (ao_ne (ru64 hr)) (ae_ix (ru1 hr) (av 0) (av 1)) ae_str)))) (ass_one (as_set sc_comment_end.nd (ae_op ao_add (av 1) ae_int))))
      (ass_one (as_ret (av 1)))), fun ds S Ea Qa h => (sp ds S Ea Qa h).2⟩), T.g_comment_end, F.kp, F.bindsN (fun _ _ _ _ _ _ us hl => match us, hl with | [_, _], _ => rfl)⟩
theorem z_comment_end {P : Program} {w : World} {K : PySem.W.Frag} {mg : Str → Option Value} {base : Heap} (T : Facts K mg w) {k : Nat} : FD P w K mg base "comment_end" k fun _ _ _ _ => False := by
  obtain ⟨fd, F⟩ := T.d_comment_end
  exact ⟨_, fd, ["text", "at"], never_ok, T.g_comment_end, F.kp, F.bindsN (fun _ _ _ _ _ _ us hl => match us, hl with | [_, _], _ => rfl)⟩
theorem sc_read_word : FnScope ["text", "at", "module", "end", "word"] ["text", "at", "module"] (defScope s_read_word) := ⟨rfl, rfl, rfl, by decide +kernel, rfl, by decide +kernel, by decide +kernel⟩
theorem ok_read_word {P : Program} {w : World} {K : PySem.W.Frag} {mg : Str → Option Value} {base : Heap} (T : Facts K mg w) {k : Nat} {G : AFn} {F_run_end : AFn} (h_run_end : FD P w K mg base "run_end" k F_run_end)
    (sp : ∀ ds S E Q, G ds S E Q → ds.length = 3 ∧ (a_read_word F_run_end) (bodyEnds Q E) (startA 5 ds) S) : FD P w K mg base "read_word" (k + 1) G := by
  obtain ⟨fd, F⟩ := T.d_read_word
  exact ⟨_, fd, ["text", "at", "module"], fn_ok F sc_read_word (fun ds S E Q h => (sp ds S E Q h).1) (fun cdv A outer s H E hr => ⟨a_read_word F_run_end, (ass_cons (as_set sc_read_word.nd (ae_call h_run_end hr takesE (aa_cons (av 0) (aa_cons (av 1) aa_nil))))
      (ass_cons (as_set sc_read_word.nd (ae_slice (av 0) (ao_some (av 1)) (ao_some (av 3))))
      (ass_cons (as_if (at_cmp (ao_in (ru65 hr)) (av 4) (ae_glob T.c_RESERVED)) (ass_one (as_ret (ae_tup (aa_cons (ae_tup (aa_cons ae_str (aa_cons (av 4) (aa_cons (av 1) aa_nil)))) (aa_cons (av 3) aa_nil))))) ass_nil)
      (ass_cons (as_if (at_cmp ao_gt (ae_callB ac_len T.no_len (aa_cons (av 4) aa_nil)) (ae_glob T.c_MAX_NAME)) (ass_one as_never) ass_nil)
      (ass_one (as_ret (ae_tup (aa_cons (ae_tup (aa_cons ae_str (aa_cons (av 4) (aa_cons (av 1) aa_nil)))) (aa_cons (av 3) aa_nil))))))))), fun ds S Ea Qa h => (sp ds S Ea Qa h).2⟩), T.g_read_word, F.kp, F.bindsN (fun _ _ _ _ _ _ us hl => match us, hl with | [_, _, _], _ => rfl)⟩
theorem z_read_word {P : Program} {w : World} {K : PySem.W.Frag} {mg : Str → Option Value} {base : Heap} (T : Facts K mg w) {k : Nat} : FD P w K mg base "read_word" k fun _ _ _ _ => False := by
  obtain ⟨fd, F⟩ := T.d_read_word
  exact ⟨_, fd, ["text", "at", "module"], never_ok, T.g_read_word, F.kp, F.bindsN (fun _ _ _ _ _ _ us hl => match us, hl with | [_, _, _], _ => rfl)⟩
theorem sc_read_number : FnScope ["text", "at", "module", "end", "digits", "char"] ["text", "at", "module"] (defScope s_read_number) := ⟨rfl, rfl, rfl, by decide +kernel, rfl, by decide +kernel, by decide +kernel⟩
theorem ok_read_number {P : Program} {w : World} {K : PySem.W.Frag} {mg : Str → Option Value} {base : Heap} (T : Facts K mg w) {k : Nat} {G : AFn} {F_run_end F_is_digit : AFn} (h_run_end : FD P w K mg base "run_end" k F_run_end) (h_is_digit : FD P w K mg base "is_digit" k F_is_digit)
    (sp : ∀ ds S E Q, G ds S E Q → ds.length = 3 ∧ (a_read_number F_run_end F_is_digit) (bodyEnds Q E) (startA 6 ds) S) : FD P w K mg base "read_number" (k + 1) G := by
  obtain ⟨fd, F⟩ := T.d_read_number
  exact ⟨_, fd, ["text", "at", "module"], fn_ok F sc_read_number (fun ds S E Q h => (sp ds S E Q h).1) (fun cdv A outer s H E hr => ⟨a_read_number F_run_end F_is_digit, (ass_cons (as_set sc_read_number.nd (ae_call h_run_end hr takesE (aa_cons (av 0) (aa_cons (av 1) aa_nil))))
      (ass_cons (as_set sc_read_number.nd (ae_slice (av 0) (ao_some (av 1)) (ao_some (av 3))))
      (ass_cons (as_if (AW.at (aw_or (at_cmp ao_gt (ae_callB ac_len T.no_len (aa_cons (av 4) aa_nil)) ae_int) (aw_or1 (at_not (at_val (ae_callB (ac_all rfl) T.no_all (aa_cons (ae_lc rfl sc_read_number.nd [("char", 5)] (ai_any (av 4)) (agc_name (by decide) sc_read_number.nd) (fun _ _ _ _ _ => aifs_nil) (fun _ _ _ _ _ => (ae_call h_is_digit hr takesB (aa_cons (av 5) aa_nil)))) aa_nil))))))) (ass_one as_never) ass_nil)
      (ass_cons (as_if (AW.at (aw_or (at_cmp ao_gt (ae_callTy ac_int T.no_int (aa_cons (av 4) aa_nil)) ae_int) (aw_or1 (AW.at (aw_and (at_cmp (ao_eq (ru64 hr)) (ae_ix (ru1 hr) (av 4) ae_int) ae_str) (aw_and1 (at_cmp ao_gt (ae_callB ac_len T.no_len (aa_cons (av 4) aa_nil)) ae_int))))))) (ass_one as_never) ass_nil)
      (ass_one (as_ret (ae_tup (aa_cons (ae_tup (aa_cons ae_str (aa_cons (ae_callTy ac_int T.no_int (aa_cons (av 4) aa_nil)) (aa_cons (av 1) aa_nil)))) (aa_cons (av 3) aa_nil))))))))), fun ds S Ea Qa h => (sp ds S Ea Qa h).2⟩), T.g_read_number, F.kp, F.bindsN (fun _ _ _ _ _ _ us hl => match us, hl with | [_, _, _], _ => rfl)⟩
theorem z_read_number {P : Program} {w : World} {K : PySem.W.Frag} {mg : Str → Option Value} {base : Heap} (T : Facts K mg w) {k : Nat} : FD P w K mg base "read_number" k fun _ _ _ _ => False := by
  obtain ⟨fd, F⟩ := T.d_read_number
  exact ⟨_, fd, ["text", "at", "module"], never_ok, T.g_read_number, F.kp, F.bindsN (fun _ _ _ _ _ _ us hl => match us, hl with | [_, _, _], _ => rfl)⟩
theorem sc_read_string : FnScope ["text", "at", "module", "end"] ["text", "at", "module"] (defScope s_read_string) := ⟨rfl, rfl, rfl, by decide +kernel, rfl, by decide +kernel, by decide +kernel⟩
theorem ok_read_string {P : Program} {w : World} {K : PySem.W.Frag} {mg : Str → Option Value} {base : Heap} (T : Facts K mg w) {k : Nat} {G : AFn} {F_run_end : AFn} (h_run_end : FD P w K mg base "run_end" k F_run_end)
    (sp : ∀ ds S E Q, G ds S E Q → ds.length = 3 ∧ (a_read_string F_run_end) (bodyEnds Q E) (startA 4 ds) S) : FD P w K mg base "read_string" (k + 1) G := by
  obtain ⟨fd, F⟩ := T.d_read_string
  exact ⟨_, fd, ["text", "at", "module"], fn_ok F sc_read_string (fun ds S E Q h => (sp ds S E Q h).1) (fun cdv A outer s H E hr => ⟨a_read_string F_run_end, (ass_cons (as_set sc_read_string.nd (ae_call h_run_end hr takesE (aa_cons (av 0) (aa_cons (ae_op ao_add (av 1) ae_int) aa_nil))))
      (ass_cons (as_if (AW.at (aw_or (at_cmp (ao_eq (ru64 hr)) (av 3) (ae_op ao_add (av 1) ae_int)) (aw_or (at_cmp ao_gt (ae_op ao_sub (ae_op ao_sub (av 3) (av 1)) ae_int) (ae_glob T.c_MAX_NAME)) (aw_or (at_cmp ao_ge (av 3) (ae_callB ac_len T.no_len (aa_cons (av 0) aa_nil))) (aw_or1 (at_cmp (ao_ne (ru64 hr)) (ae_ix (ru1 hr) (av 0) (av 3)) ae_str)))))) (ass_one as_never) ass_nil)
      (ass_one (as_ret (ae_tup (aa_cons (ae_tup (aa_cons ae_str (aa_cons (ae_slice (av 0) (ao_some (ae_op ao_add (av 1) ae_int)) (ao_some (av 3))) (aa_cons (av 1) aa_nil)))) (aa_cons (ae_op ao_add (av 3) ae_int) aa_nil))))))), fun ds S Ea Qa h => (sp ds S Ea Qa h).2⟩), T.g_read_string, F.kp, F.bindsN (fun _ _ _ _ _ _ us hl => match us, hl with | [_, _, _], _ => rfl)⟩
theorem z_read_string {P : Program} {w : World} {K : PySem.W.Frag} {mg : Str → Option Value} {base : Heap} (T : Facts K mg w) {k : Nat} : FD P w K mg base "read_string" k fun _ _ _ _ => False := by
  obtain ⟨fd, F⟩ := T.d_read_string
  exact ⟨_, fd, ["text", "at", "module"], never_ok, T.g_read_string, F.kp, F.bindsN (fun _ _ _ _ _ _ us hl => match us, hl with | [_, _, _], _ => rfl)⟩
theorem sc_read_sign : FnScope ["text", "at", "module", "sign"] ["text", "at", "module"] (defScope s_read_sign) := ⟨rfl, rfl, rfl, by decide +kernel, rfl, by decide +kernel, by decide +kernel⟩
theorem ok_read_sign {P : Program} {w : World} {K : PySem.W.Frag} {mg : Str → Option Value} {base : Heap} (T : Facts K mg w) {k : Nat} {G : AFn} 
    (sp : ∀ ds S E Q, G ds S E Q → ds.length = 3 ∧ (a_read_sign) (bodyEnds Q E) (startA 4 ds) S) : FD P w K mg base "read_sign" (k + 1) G := by
  obtain ⟨fd, F⟩ := T.d_read_sign
  exact ⟨_, fd, ["text", "at", "module"], fn_ok F sc_read_sign (fun ds S E Q h => (sp ds S E Q h).1) (fun cdv A outer s H E hr => ⟨a_read_sign, (ass_cons (as_for passesE rfl (ai_any (ae_glob T.c_SIGNS)) (ag_name sc_read_sign.nd) (ass_one (as_if (at_val (ae_starts (av 0) (av 3) (av 1))) (ass_one (as_ret (ae_tup (aa_cons (ae_tup (aa_cons ae_str (aa_cons (av 3) (aa_cons (av 1) aa_nil)))) (aa_cons (ae_op ao_add (av 1) (ae_callB ac_len T.no_len (aa_cons (av 3) aa_nil))) aa_nil))))) ass_nil)))
      (ass_one as_never)), fun ds S Ea Qa h => (sp ds S Ea Qa h).2⟩), T.g_read_sign, F.kp, F.bindsN (fun _ _ _ _ _ _ us hl => match us, hl with | [_, _, _], _ => rfl)⟩
theorem z_read_sign {P : Program} {w : World} {K : PySem.W.Frag} {mg : Str → Option Value} {base : Heap} (T : Facts K mg w) {k : Nat} : FD P w K mg base "read_sign" k fun _ _ _ _ => False := by
  obtain ⟨fd, F⟩ := T.d_read_sign
  exact ⟨_, fd, ["text", "at", "module"], never_ok, T.g_read_sign, F.kp, F.bindsN (fun _ _ _ _ _ _ us hl => match us, hl with | [_, _, _], _ => rfl)⟩
theorem sc_read_token : FnScope ["text", "at", "module"] ["text", "at", "module"] (defScope s_read_token) := ⟨rfl, rfl, rfl, by decide +kernel, rfl, by decide +kernel, by decide +kernel⟩
theorem ok_read_token {P : Program} {w : World} {K : PySem.W.Frag} {mg : Str → Option Value} {base : Heap} (T : Facts K mg w) {k : Nat} {G : AFn} {F_is_letter F_read_word F_is_digit F_read_number F_read_string F_read_sign : AFn} (h_is_letter : FD P w K mg base "is_letter" k F_is_letter) (h_read_word : FD P w K mg base "read_word" k F_read_word) (h_is_digit : FD P w K mg base "is_digit" k F_is_digit) (h_read_number : FD P w K mg base "read_number" k F_read_number) (h_read_string : FD P w K mg base "read_string" k F_read_string) (h_read_sign : FD P w K mg base "read_sign" k F_read_sign)
    (sp : ∀ ds S E Q, G ds S E Q → ds.length = 3 ∧ (a_read_token F_is_letter F_read_word F_is_digit F_read_number F_read_string F_read_sign) (bodyEnds Q E) (startA 3 ds) S) : FD P w K mg base "read_token" (k + 1) G := by
  obtain ⟨fd, F⟩ := T.d_read_token
  exact ⟨_, fd, ["text", "at", "module"], fn_ok F sc_read_token (fun ds S E Q h => (sp ds S E Q h).1) (fun cdv A outer s H E hr => ⟨a_read_token F_is_letter F_read_word F_is_digit F_read_number F_read_string F_read_sign, (ass_cons (as_if (at_val (ae_call h_is_letter hr takesE (aa_cons (ae_ix (ru1 hr) (av 0) (av 1)) aa_nil))) (ass_one (as_ret (ae_call h_read_word hr takesE (aa_cons (av 0) (aa_cons (av 1) (aa_cons (av 2) aa_nil)))))) ass_nil)
      (ass_cons (as_if (at_val (ae_call h_is_digit hr takesE (aa_cons (ae_ix (ru1 hr) (av 0) (av 1)) aa_nil))) (ass_one (as_ret (ae_call h_read_number hr takesE (aa_cons (av 0) (aa_cons (av 1) (aa_cons (av 2) aa_nil)))))) ass_nil)
      (ass_cons (as_if (at_cmp (ao_eq (ru64 hr)) (ae_ix (ru1 hr) (av 0) (av 1)) ae_str) (ass_one (as_ret (ae_call h_read_string hr takesE (aa_cons (av 0) (aa_cons (av 1) (aa_cons (av 2) aa_nil)))))) ass_nil)
      (ass_one (as_ret (ae_call h_read_sign hr takesE (aa_cons (av 0) (aa_cons (av 1) (aa_cons (av 2) aa_nil))))))))), fun ds S Ea Qa h => (sp ds S Ea Qa h).2⟩), T.g_read_token, F.kp, F.bindsN (fun _ _ _ _ _ _ us hl => match us, hl with | [_, _, _], _ => rfl)⟩
theorem z_read_token {P : Program} {w : World} {K : PySem.W.Frag} {mg : Str → Option Value} {base : Heap} (T : Facts K mg w) {k : Nat} : FD P w K mg base "read_token" k fun _ _ _ _ => False := by
  obtain ⟨fd, F⟩ := T.d_read_token
  exact ⟨_, fd, ["text", "at", "module"], never_ok, T.g_read_token, F.kp, F.bindsN (fun _ _ _ _ _ _ us hl => match us, hl with | [_, _, _], _ => rfl)⟩
theorem sc_tokens : FnScope ["text", "module", "result", "at", "token"] ["text", "module"] (defScope s_tokens) := ⟨rfl, rfl, rfl, by decide +kernel, rfl, by decide +kernel, by decide +kernel⟩
theorem ok_tokens {P : Program} {w : World} {K : PySem.W.Frag} {mg : Str → Option Value} {base : Heap} (T : Facts K mg w) {k : Nat} {G : AFn} {F_comment_end F_read_token : AFn} (h_comment_end : FD P w K mg base "comment_end" k F_comment_end) (h_read_token : FD P w K mg base "read_token" k F_read_token)
    (sp : ∀ ds S E Q, G ds S E Q → ds.length = 2 ∧ (a_tokens F_comment_end F_read_token) (bodyEnds Q E) (startA 5 ds) S) : FD P w K mg base "tokens" (k + 1) G := by
  obtain ⟨fd, F⟩ := T.d_tokens
  exact ⟨_, fd, ["text", "module"], fn_ok F sc_tokens (fun ds S E Q h => (sp ds S E Q h).1) (fun cdv A outer s H E hr => ⟨a_tokens F_comment_end F_read_token, (ass_cons (as_if (at_cmp ao_gt (ae_callB ac_len T.no_len (aa_cons (av 0) aa_nil)) (ae_glob T.c_MAX_TEXT)) (ass_one as_never) ass_nil)
      (ass_cons (as_set sc_tokens.nd (ae_lst aa_nil))
      (ass_cons (as_set sc_tokens.nd ae_int)
      (ass_cons (as_while passesE (at_cmp ao_lt (av 3) (ae_callB ac_len T.no_len (aa_cons (av 0) aa_nil))) (ass_one (as_if (at_cmp (ao_in (ru65 hr)) (ae_ix (ru1 hr) (av 0) (av 3)) (ae_tup (aa_cons ae_str (aa_cons ae_str (aa_cons ae_str aa_nil))))) (ass_one (as_set sc_tokens.nd (ae_op ao_add (av 3) ae_int))) (ass_one (as_if (at_cmp (ao_eq (ru64 hr)) (ae_ix (ru1 hr) (av 0) (av 3)) ae_str) (ass_one (as_set sc_tokens.nd (ae_call h_comment_end hr takesE (aa_cons (av 0) (aa_cons (av 3) aa_nil))))) (ass_cons (as_asg (ae_call h_read_token hr takesE (aa_cons (av 0) (aa_cons (av 3) (aa_cons (av 1) aa_nil)))) (ag_tup rfl (ags_cons (ag_name sc_tokens.nd) (ags_cons (ag_name sc_tokens.nd) ags_nil))))
      (ass_one (as_expr (ae_append (av 2) (av 4))))))))))
      (ass_one (as_ret (av 2))))))), fun ds S Ea Qa h => (sp ds S Ea Qa h).2⟩), T.g_tokens, F.kp, F.bindsN (fun _ _ _ _ _ _ us hl => match us, hl with | [_, _], _ => rfl)⟩
theorem z_tokens {P : Program} {w : World} {K : PySem.W.Frag} {mg : Str → Option Value} {base : Heap} (T : Facts K mg w) {k : Nat} : FD P w K mg base "tokens" k fun _ _ _ _ => False := by
  obtain ⟨fd, F⟩ := T.d_tokens
  exact ⟨_, fd, ["text", "module"], never_ok, T.g_tokens, F.kp, F.bindsN (fun _ _ _ _ _ _ us hl => match us, hl with | [_, _], _ => rfl)⟩
theorem sc_Reader_init : FnScope ["self", "text", "module"] ["self", "text", "module"] (defScope s_Reader_init) := ⟨rfl, rfl, rfl, by decide +kernel, rfl, by decide +kernel, by decide +kernel⟩
theorem ok_Reader_init {P : Program} {w : World} {K : PySem.W.Frag} {mg : Str → Option Value} {base : Heap} (T : Facts K mg w) {k : Nat} {G : AFn} {F_tokens : AFn} (h_tokens : FD P w K mg base "tokens" k F_tokens)
    (sp : ∀ ds S E Q, G ds S E Q → ds.length = 3 ∧ (a_Reader_init F_tokens) (bodyEnds Q E) (startA 3 ds) S) : CD P w K mg base "Reader" (k + 1) G := by
  obtain ⟨fd, F⟩ := T.d_Reader_init
  exact ⟨_, fd, ["self", "text", "module"], fn_ok F sc_Reader_init (fun ds S E Q h => (sp ds S E Q h).1) (fun cdv A outer s H E hr => ⟨a_Reader_init F_tokens, (ass_cons (as_fld T.f_Reader_rest (av 0) (ae_call h_tokens hr takesE (aa_cons (av 1) (aa_cons (av 2) aa_nil))))
      (ass_cons (as_fld T.f_Reader_module (av 0) (av 2))
      (ass_cons (as_fld T.f_Reader_place (av 0) ae_int)
      (ass_cons (as_fld T.f_Reader_limit (av 0) (ae_callB ac_len T.no_len (aa_cons (av 1) aa_nil)))
      (ass_one (as_fld T.f_Reader_inside (av 0) ae_int)))))), fun ds S Ea Qa h => (sp ds S Ea Qa h).2⟩), T.mk_Reader.1, T.mk_Reader.2, F.bindsN (fun _ _ _ _ _ _ us hl => match us, hl with | [_, _, _], _ => rfl)⟩

theorem sc_Reader_at : FnScope ["self"] ["self"] (defScope s_Reader_at) := ⟨rfl, rfl, rfl, by decide +kernel, rfl, by decide +kernel, by decide +kernel⟩
theorem ok_Reader_at {P : Program} {w : World} {K : PySem.W.Frag} {mg : Str → Option Value} {base : Heap} (T : Facts K mg w) {k : Nat} {G : AFn} 
    (sp : ∀ ds S E Q, G ds S E Q → ds.length = 1 ∧ (a_Reader_at) (bodyEnds Q E) (startA 1 ds) S) : MD P w K mg base "Reader" "at" (k + 1) G := by
  obtain ⟨fd, F⟩ := T.d_Reader_at
  exact ⟨_, fd, ["self"], fn_ok F sc_Reader_at (fun ds S E Q h => (sp ds S E Q h).1) (fun cdv A outer s H E hr => ⟨a_Reader_at, (ass_cons (as_if (at_cmp ao_lt (ae_fld T.f_Reader_place (av 0)) (ae_callB ac_len T.no_len (aa_cons (ae_fld T.f_Reader_rest (av 0)) aa_nil))) (ass_one (as_ret (ae_ix (ru1 hr) (ae_ix (ru1 hr) (ae_fld T.f_Reader_rest (av 0)) (ae_fld T.f_Reader_place (av 0))) ae_int))) ass_nil)
      (ass_one (as_ret (ae_fld T.f_Reader_limit (av 0))))), fun ds S Ea Qa h => (sp ds S Ea Qa h).2⟩), T.k_Reader, T.m_Reader_at, F.bindsN (fun _ _ _ _ _ _ us hl => match us, hl with | [_], _ => rfl)⟩
theorem z_Reader_at {P : Program} {w : World} {K : PySem.W.Frag} {mg : Str → Option Value} {base : Heap} (T : Facts K mg w) {k : Nat} : MD P w K mg base "Reader" "at" k fun _ _ _ _ => False := by
  obtain ⟨fd, F⟩ := T.d_Reader_at
  exact ⟨_, fd, ["self"], never_ok, T.k_Reader, T.m_Reader_at, F.bindsN (fun _ _ _ _ _ _ us hl => match us, hl with | [_], _ => rfl)⟩
theorem sc_Reader_sees : FnScope ["self", "kind", "value"] ["self", "kind", "value"] (defScope s_Reader_sees) := ⟨rfl, rfl, rfl, by decide +kernel, rfl, by decide +kernel, by decide +kernel⟩
theorem ok_Reader_sees {P : Program} {w : World} {K : PySem.W.Frag} {mg : Str → Option Value} {base : Heap} (T : Facts K mg w) {k : Nat} {G : AFn} 
    (sp : ∀ ds S E Q, G ds S E Q → ds.length = 3 ∧ (a_Reader_sees) (bodyEnds Q E) (startA 3 ds) S) : MD P w K mg base "Reader" "sees" (k + 1) G := by
  obtain ⟨fd, F⟩ := T.d_Reader_sees
  exact ⟨_, fd, ["self", "kind", "value"], fn_ok F sc_Reader_sees (fun ds S E Q h => (sp ds S E Q h).1) (fun cdv A outer s H E hr => ⟨a_Reader_sees, (ass_cons (as_if (at_cmp ao_ge (ae_fld T.f_Reader_place (av 0)) (ae_callB ac_len T.no_len (aa_cons (ae_fld T.f_Reader_rest (av 0)) aa_nil))) (ass_one (as_ret ae_bl)) ass_nil)
      (ass_one (as_ret (ae_and (ae_cmp (ao_eq (ru64 hr)) (ae_ix (ru1 hr) (ae_ix (ru1 hr) (ae_fld T.f_Reader_rest (av 0)) (ae_fld T.f_Reader_place (av 0))) ae_int) (av 1)) (ae_one (ae_cmp (ao_eq (ru64 hr)) (ae_ix (ru1 hr) (ae_ix (ru1 hr) (ae_fld T.f_Reader_rest (av 0)) (ae_fld T.f_Reader_place (av 0))) ae_int) (av 2))))))), fun ds S Ea Qa h => (sp ds S Ea Qa h).2⟩), T.k_Reader, T.m_Reader_sees, F.bindsN (fun _ _ _ _ _ _ us hl => match us, hl with | [_, _, _], _ => rfl)⟩
theorem z_Reader_sees {P : Program} {w : World} {K : PySem.W.Frag} {mg : Str → Option Value} {base : Heap} (T : Facts K mg w) {k : Nat} : MD P w K mg base "Reader" "sees" k fun _ _ _ _ => False := by
  obtain ⟨fd, F⟩ := T.d_Reader_sees
  exact ⟨_, fd, ["self", "kind", "value"], never_ok, T.k_Reader, T.m_Reader_sees, F.bindsN (fun _ _ _ _ _ _ us hl => match us, hl with | [_, _, _], _ => rfl)⟩
theorem sc_Reader_sees_kind : FnScope ["self", "kind"] ["self", "kind"] (defScope s_Reader_sees_kind) := ⟨rfl, rfl, rfl, by decide +kernel, rfl, by decide +kernel, by decide +kernel⟩
theorem ok_Reader_sees_kind {P : Program} {w : World} {K : PySem.W.Frag} {mg : Str → Option Value} {base : Heap} (T : Facts K mg w) {k : Nat} {G : AFn} 
    (sp : ∀ ds S E Q, G ds S E Q → ds.length = 2 ∧ (a_Reader_sees_kind) (bodyEnds Q E) (startA 2 ds) S) : MD P w K mg base "Reader" "sees_kind" (k + 1) G := by
  obtain ⟨fd, F⟩ := T.d_Reader_sees_kind
  exact ⟨_, fd, ["self", "kind"], fn_ok F sc_Reader_sees_kind (fun ds S E Q h => (sp ds S E Q h).1) (fun cdv A outer s H E hr => ⟨a_Reader_sees_kind, (ass_one (as_ret (ae_and (ae_cmp ao_lt (ae_fld T.f_Reader_place (av 0)) (ae_callB ac_len T.no_len (aa_cons (ae_fld T.f_Reader_rest (av 0)) aa_nil))) (ae_one (ae_cmp (ao_eq (ru64 hr)) (ae_ix (ru1 hr) (ae_ix (ru1 hr) (ae_fld T.f_Reader_rest (av 0)) (ae_fld T.f_Reader_place (av 0))) ae_int) (av 1)))))), fun ds S Ea Qa h => (sp ds S Ea Qa h).2⟩), T.k_Reader, T.m_Reader_sees_kind, F.bindsN (fun _ _ _ _ _ _ us hl => match us, hl with | [_, _], _ => rfl)⟩
theorem z_Reader_sees_kind {P : Program} {w : World} {K : PySem.W.Frag} {mg : Str → Option Value} {base : Heap} (T : Facts K mg w) {k : Nat} : MD P w K mg base "Reader" "sees_kind" k fun _ _ _ _ => False := by
  obtain ⟨fd, F⟩ := T.d_Reader_sees_kind
  exact ⟨_, fd, ["self", "kind"], never_ok, T.k_Reader, T.m_Reader_sees_kind, F.bindsN (fun _ _ _ _ _ _ us hl => match us, hl with | [_, _], _ => rfl)⟩
theorem sc_Reader_follows : FnScope ["self", "kind", "value"] ["self", "kind", "value"] (defScope s_Reader_follows) := ⟨rfl, rfl, rfl, by decide +kernel, rfl, by decide +kernel, by decide +kernel⟩
theorem ok_Reader_follows {P : Program} {w : World} {K : PySem.W.Frag} {mg : Str → Option Value} {base : Heap} (T : Facts K mg w) {k : Nat} {G : AFn} 
    (sp : ∀ ds S E Q, G ds S E Q → ds.length = 3 ∧ (a_Reader_follows) (bodyEnds Q E) (startA 3 ds) S) : MD P w K mg base "Reader" "follows" (k + 1) G := by
  obtain ⟨fd, F⟩ := T.d_Reader_follows
  exact ⟨_, fd, ["self", "kind", "value"], fn_ok F sc_Reader_follows (fun ds S E Q h => (sp ds S E Q h).1) (fun cdv A outer s H E hr => ⟨a_Reader_follows, (ass_cons (as_if (AW.at (aw_or (at_cmp ao_ge (ae_op ao_add (ae_fld T.f_Reader_place (av 0)) ae_int) (ae_callB ac_len T.no_len (aa_cons (ae_fld T.f_Reader_rest (av 0)) aa_nil))) (aw_or1 (at_cmp (ao_ne (ru64 hr)) (ae_ix (ru1 hr) (ae_ix (ru1 hr) (ae_fld T.f_Reader_rest (av 0)) (ae_op ao_add (ae_fld T.f_Reader_place (av 0)) ae_int)) ae_int) (av 1))))) (ass_one (as_ret ae_bl)) ass_nil)
      (ass_one (as_ret (ae_or (ae_cmp ao_is (av 2) ae_non) (ae_one (ae_cmp (ao_eq (ru64 hr)) (ae_ix (ru1 hr) (ae_ix (ru1 hr) (ae_fld T.f_Reader_rest (av 0)) (ae_op ao_add (ae_fld T.f_Reader_place (av 0)) ae_int)) ae_int) (av 2))))))), fun ds S Ea Qa h => (sp ds S Ea Qa h).2⟩), T.k_Reader, T.m_Reader_follows, F.bindsN (fun _ _ _ _ _ _ us hl => match us, hl with | [_, _, _], _ => rfl)⟩
theorem z_Reader_follows {P : Program} {w : World} {K : PySem.W.Frag} {mg : Str → Option Value} {base : Heap} (T : Facts K mg w) {k : Nat} : MD P w K mg base "Reader" "follows" k fun _ _ _ _ => False := by
  obtain ⟨fd, F⟩ := T.d_Reader_follows
  exact ⟨_, fd, ["self", "kind", "value"], never_ok, T.k_Reader, T.m_Reader_follows, F.bindsN (fun _ _ _ _ _ _ us hl => match us, hl with | [_, _, _], _ => rfl)⟩
theorem sc_Reader_accept : FnScope ["self", "kind", "value"] ["self", "kind", "value"] (defScope s_Reader_accept) := ⟨rfl, rfl, rfl, by decide +kernel, rfl, by decide +kernel, by decide +kernel⟩
theorem ok_Reader_accept {P : Program} {w : World} {K : PySem.W.Frag} {mg : Str → Option Value} {base : Heap} (T : Facts K mg w) {k : Nat} {G : AFn} {F_Reader_sees : AFn} (h_Reader_sees : MD P w K mg base "Reader" "sees" k F_Reader_sees)
    (sp : ∀ ds S E Q, G ds S E Q → ds.length = 3 ∧ (a_Reader_accept F_Reader_sees) (bodyEnds Q E) (startA 3 ds) S) : MD P w K mg base "Reader" "accept" (k + 1) G := by
  obtain ⟨fd, F⟩ := T.d_Reader_accept
  exact ⟨_, fd, ["self", "kind", "value"], fn_ok F sc_Reader_accept (fun ds S E Q h => (sp ds S E Q h).1) (fun cdv A outer s H E hr => ⟨a_Reader_accept F_Reader_sees, (ass_cons (as_if (at_val (ae_meth h_Reader_sees hr takesE (av 0) (aa_cons (av 1) (aa_cons (av 2) aa_nil)))) (ass_cons (as_fld T.f_Reader_place (av 0) (ae_op ao_add (ae_fld T.f_Reader_place (av 0)) ae_int))
      (ass_one (as_ret ae_bl))) ass_nil)
      (ass_one (as_ret ae_bl))), fun ds S Ea Qa h => (sp ds S Ea Qa h).2⟩), T.k_Reader, T.m_Reader_accept, F.bindsN (fun _ _ _ _ _ _ us hl => match us, hl with | [_, _, _], _ => rfl)⟩
theorem z_Reader_accept {P : Program} {w : World} {K : PySem.W.Frag} {mg : Str → Option Value} {base : Heap} (T : Facts K mg w) {k : Nat} : MD P w K mg base "Reader" "accept" k fun _ _ _ _ => False := by
  obtain ⟨fd, F⟩ := T.d_Reader_accept
  exact ⟨_, fd, ["self", "kind", "value"], never_ok, T.k_Reader, T.m_Reader_accept, F.bindsN (fun _ _ _ _ _ _ us hl => match us, hl with | [_, _, _], _ => rfl)⟩
theorem sc_Reader_expect : FnScope ["self", "kind", "value"] ["self", "kind", "value"] (defScope s_Reader_expect) := ⟨rfl, rfl, rfl, by decide +kernel, rfl, by decide +kernel, by decide +kernel⟩
theorem ok_Reader_expect {P : Program} {w : World} {K : PySem.W.Frag} {mg : Str → Option Value} {base : Heap} (T : Facts K mg w) {k : Nat} {G : AFn} {F_Reader_accept : AFn} (h_Reader_accept : MD P w K mg base "Reader" "accept" k F_Reader_accept)
    (sp : ∀ ds S E Q, G ds S E Q → ds.length = 3 ∧ (a_Reader_expect F_Reader_accept) (bodyEnds Q E) (startA 3 ds) S) : MD P w K mg base "Reader" "expect" (k + 1) G := by
  obtain ⟨fd, F⟩ := T.d_Reader_expect
  exact ⟨_, fd, ["self", "kind", "value"], fn_ok F sc_Reader_expect (fun ds S E Q h => (sp ds S E Q h).1) (fun cdv A outer s H E hr => ⟨a_Reader_expect F_Reader_accept, (ass_one (as_if (at_not (at_val (ae_meth h_Reader_accept hr takesE (av 0) (aa_cons (av 1) (aa_cons (av 2) aa_nil))))) (ass_one as_never) ass_nil)), fun ds S Ea Qa h => (sp ds S Ea Qa h).2⟩), T.k_Reader, T.m_Reader_expect, F.bindsN (fun _ _ _ _ _ _ us hl => match us, hl with | [_, _, _], _ => rfl)⟩
theorem z_Reader_expect {P : Program} {w : World} {K : PySem.W.Frag} {mg : Str → Option Value} {base : Heap} (T : Facts K mg w) {k : Nat} : MD P w K mg base "Reader" "expect" k fun _ _ _ _ => False := by
  obtain ⟨fd, F⟩ := T.d_Reader_expect
  exact ⟨_, fd, ["self", "kind", "value"], never_ok, T.k_Reader, T.m_Reader_expect, F.bindsN (fun _ _ _ _ _ _ us hl => match us, hl with | [_, _, _], _ => rfl)⟩
theorem sc_Reader_read : FnScope ["self", "kind"] ["self", "kind"] (defScope s_Reader_read) := ⟨rfl, rfl, rfl, by decide +kernel, rfl, by decide +kernel, by decide +kernel⟩
theorem ok_Reader_read {P : Program} {w : World} {K : PySem.W.Frag} {mg : Str → Option Value} {base : Heap} (T : Facts K mg w) {k : Nat} {G : AFn} {F_Reader_sees_kind : AFn} (h_Reader_sees_kind : MD P w K mg base "Reader" "sees_kind" k F_Reader_sees_kind)
    (sp : ∀ ds S E Q, G ds S E Q → ds.length = 2 ∧ (a_Reader_read F_Reader_sees_kind) (bodyEnds Q E) (startA 2 ds) S) : MD P w K mg base "Reader" "read" (k + 1) G := by
  obtain ⟨fd, F⟩ := T.d_Reader_read
  exact ⟨_, fd, ["self", "kind"], fn_ok F sc_Reader_read (fun ds S E Q h => (sp ds S E Q h).1) (fun cdv A outer s H E hr => ⟨a_Reader_read F_Reader_sees_kind, (ass_cons (as_if (at_not (at_val (ae_meth h_Reader_sees_kind hr takesE (av 0) (aa_cons (av 1) aa_nil)))) (ass_one as_never) ass_nil)
      (ass_cons (as_fld T.f_Reader_place (av 0) (ae_op ao_add (ae_fld T.f_Reader_place (av 0)) ae_int))
      (ass_one (as_ret (ae_ix (ru1 hr) (ae_ix (ru1 hr) (ae_fld T.f_Reader_rest (av 0)) (ae_op ao_sub (ae_fld T.f_Reader_place (av 0)) ae_int)) ae_int))))), fun ds S Ea Qa h => (sp ds S Ea Qa h).2⟩), T.k_Reader, T.m_Reader_read, F.bindsN (fun _ _ _ _ _ _ us hl => match us, hl with | [_, _], _ => rfl)⟩
theorem z_Reader_read {P : Program} {w : World} {K : PySem.W.Frag} {mg : Str → Option Value} {base : Heap} (T : Facts K mg w) {k : Nat} : MD P w K mg base "Reader" "read" k fun _ _ _ _ => False := by
  obtain ⟨fd, F⟩ := T.d_Reader_read
  exact ⟨_, fd, ["self", "kind"], never_ok, T.k_Reader, T.m_Reader_read, F.bindsN (fun _ _ _ _ _ _ us hl => match us, hl with | [_, _], _ => rfl)⟩
theorem sc_Reader_deeper : FnScope ["self", "level"] ["self", "level"] (defScope s_Reader_deeper) := ⟨rfl, rfl, rfl, by decide +kernel, rfl, by decide +kernel, by decide +kernel⟩
theorem ok_Reader_deeper {P : Program} {w : World} {K : PySem.W.Frag} {mg : Str → Option Value} {base : Heap} (T : Facts K mg w) {k : Nat} {G : AFn} 
    (sp : ∀ ds S E Q, G ds S E Q → ds.length = 2 ∧ (a_Reader_deeper) (bodyEnds Q E) (startA 2 ds) S) : MD P w K mg base "Reader" "deeper" (k + 1) G := by
  obtain ⟨fd, F⟩ := T.d_Reader_deeper
  exact ⟨_, fd, ["self", "level"], fn_ok F sc_Reader_deeper (fun ds S E Q h => (sp ds S E Q h).1) (fun cdv A outer s H E hr => ⟨a_Reader_deeper, (ass_cons (as_if (at_cmp ao_ge (av 1) (ae_glob T.c_MAX_NESTING)) (ass_one as_never) ass_nil)
      (ass_one (as_ret (ae_op ao_add (av 1) ae_int)))), fun ds S Ea Qa h => (sp ds S Ea Qa h).2⟩), T.k_Reader, T.m_Reader_deeper, F.bindsN (fun _ _ _ _ _ _ us hl => match us, hl with | [_, _], _ => rfl)⟩
theorem z_Reader_deeper {P : Program} {w : World} {K : PySem.W.Frag} {mg : Str → Option Value} {base : Heap} (T : Facts K mg w) {k : Nat} : MD P w K mg base "Reader" "deeper" k fun _ _ _ _ => False := by
  obtain ⟨fd, F⟩ := T.d_Reader_deeper
  exact ⟨_, fd, ["self", "level"], never_ok, T.k_Reader, T.m_Reader_deeper, F.bindsN (fun _ _ _ _ _ _ us hl => match us, hl with | [_, _], _ => rfl)⟩
theorem sc_read_parameters : FnScope ["reader", "names"] ["reader"] (defScope s_read_parameters) := ⟨rfl, rfl, rfl, by decide +kernel, rfl, by decide +kernel, by decide +kernel⟩
theorem ok_read_parameters {P : Program} {w : World} {K : PySem.W.Frag} {mg : Str → Option Value} {base : Heap} (T : Facts K mg w) {k : Nat} {G : AFn} {F_Reader_expect F_Reader_accept F_Reader_read : AFn} (h_Reader_expect : MD P w K mg base "Reader" "expect" k F_Reader_expect) (h_Reader_accept : MD P w K mg base "Reader" "accept" k F_Reader_accept) (h_Reader_read : MD P w K mg base "Reader" "read" k F_Reader_read)
    (sp : ∀ ds S E Q, G ds S E Q → ds.length = 1 ∧ (a_read_parameters F_Reader_expect F_Reader_accept F_Reader_read) (bodyEnds Q E) (startA 2 ds) S) : FD P w K mg base "read_parameters" (k + 1) G := by
  obtain ⟨fd, F⟩ := T.d_read_parameters
  exact ⟨_, fd, ["reader"], fn_ok F sc_read_parameters (fun ds S E Q h => (sp ds S E Q h).1) (fun cdv A outer s H E hr => ⟨a_read_parameters F_Reader_expect F_Reader_accept F_Reader_read, (ass_cons (as_expr (ae_meth h_Reader_expect hr takesE (av 0) (aa_cons ae_str (aa_cons ae_str aa_nil))))
      (ass_cons (as_set sc_read_parameters.nd (ae_lst aa_nil))
      (ass_cons (as_if (at_not (at_val (ae_meth h_Reader_accept hr takesE (av 0) (aa_cons ae_str (aa_cons ae_str aa_nil))))) (ass_cons (as_expr (ae_append (av 1) (ae_meth h_Reader_read hr takesE (av 0) (aa_cons ae_str aa_nil))))
      (ass_cons (as_while passesE (at_val (ae_meth h_Reader_accept hr takesE (av 0) (aa_cons ae_str (aa_cons ae_str aa_nil)))) (ass_one (as_expr (ae_append (av 1) (ae_meth h_Reader_read hr takesE (av 0) (aa_cons ae_str aa_nil))))))
      (ass_one (as_expr (ae_meth h_Reader_expect hr takesE (av 0) (aa_cons ae_str (aa_cons ae_str aa_nil))))))) ass_nil)
      (ass_one (as_ret (ae_callTy ac_tuple T.no_tuple (aa_cons (av 1) aa_nil))))))), fun ds S Ea Qa h => (sp ds S Ea Qa h).2⟩), T.g_read_parameters, F.kp, F.bindsN (fun _ _ _ _ _ _ us hl => match us, hl with | [_], _ => rfl)⟩
theorem z_read_parameters {P : Program} {w : World} {K : PySem.W.Frag} {mg : Str → Option Value} {base : Heap} (T : Facts K mg w) {k : Nat} : FD P w K mg base "read_parameters" k fun _ _ _ _ => False := by
  obtain ⟨fd, F⟩ := T.d_read_parameters
  exact ⟨_, fd, ["reader"], never_ok, T.g_read_parameters, F.kp, F.bindsN (fun _ _ _ _ _ _ us hl => match us, hl with | [_], _ => rfl)⟩
theorem sc_read_body : FnScope ["reader", "level", "block"] ["reader", "level"] (defScope s_read_body) := ⟨rfl, rfl, rfl, by decide +kernel, rfl, by decide +kernel, by decide +kernel⟩
theorem ok_read_body {P : Program} {w : World} {K : PySem.W.Frag} {mg : Str → Option Value} {base : Heap} (T : Facts K mg w) {k : Nat} {G : AFn} {F_Reader_deeper F_read_block : AFn} (h_Reader_deeper : MD P w K mg base "Reader" "deeper" k F_Reader_deeper) (h_read_block : FD P w K mg base "read_block" k F_read_block)
    (sp : ∀ ds S E Q, G ds S E Q → ds.length = 2 ∧ (a_read_body F_Reader_deeper F_read_block) (bodyEnds Q E) (startA 3 ds) S) : FD P w K mg base "read_body" (k + 1) G := by
  obtain ⟨fd, F⟩ := T.d_read_body
  exact ⟨_, fd, ["reader", "level"], fn_ok F sc_read_body (fun ds S E Q h => (sp ds S E Q h).1) (fun cdv A outer s H E hr => ⟨a_read_body F_Reader_deeper F_read_block, (ass_cons (as_fld T.f_Reader_inside (av 0) (ae_op ao_add (ae_fld T.f_Reader_inside (av 0)) ae_int))
      (ass_cons (as_set sc_read_body.nd (ae_call h_read_block hr takesE (aa_cons (av 0) (aa_cons (ae_meth h_Reader_deeper hr takesE (av 0) (aa_cons (av 1) aa_nil)) aa_nil))))
      (ass_cons (as_fld T.f_Reader_inside (av 0) (ae_op ao_sub (ae_fld T.f_Reader_inside (av 0)) ae_int))
      (ass_one (as_ret (av 2)))))), fun ds S Ea Qa h => (sp ds S Ea Qa h).2⟩), T.g_read_body, F.kp, F.bindsN (fun _ _ _ _ _ _ us hl => match us, hl with | [_, _], _ => rfl)⟩
theorem z_read_body {P : Program} {w : World} {K : PySem.W.Frag} {mg : Str → Option Value} {base : Heap} (T : Facts K mg w) {k : Nat} : FD P w K mg base "read_body" k fun _ _ _ _ => False := by
  obtain ⟨fd, F⟩ := T.d_read_body
  exact ⟨_, fd, ["reader", "level"], never_ok, T.g_read_body, F.kp, F.bindsN (fun _ _ _ _ _ _ us hl => match us, hl with | [_, _], _ => rfl)⟩
theorem sc_read_arguments : FnScope ["reader", "level", "result"] ["reader", "level"] (defScope s_read_arguments) := ⟨rfl, rfl, rfl, by decide +kernel, rfl, by decide +kernel, by decide +kernel⟩
theorem ok_read_arguments {P : Program} {w : World} {K : PySem.W.Frag} {mg : Str → Option Value} {base : Heap} (T : Facts K mg w) {k : Nat} {G : AFn} {F_Reader_accept F_Reader_deeper F_read_expression F_Reader_expect : AFn} (h_Reader_accept : MD P w K mg base "Reader" "accept" k F_Reader_accept) (h_Reader_deeper : MD P w K mg base "Reader" "deeper" k F_Reader_deeper) (h_read_expression : FD P w K mg base "read_expression" k F_read_expression) (h_Reader_expect : MD P w K mg base "Reader" "expect" k F_Reader_expect)
    (sp : ∀ ds S E Q, G ds S E Q → ds.length = 2 ∧ (a_read_arguments F_Reader_accept F_Reader_deeper F_read_expression F_Reader_expect) (bodyEnds Q E) (startA 3 ds) S) : FD P w K mg base "read_arguments" (k + 1) G := by
  obtain ⟨fd, F⟩ := T.d_read_arguments
  exact ⟨_, fd, ["reader", "level"], fn_ok F sc_read_arguments (fun ds S E Q h => (sp ds S E Q h).1) (fun cdv A outer s H E hr => ⟨a_read_arguments F_Reader_accept F_Reader_deeper F_read_expression F_Reader_expect, (ass_cons (as_set sc_read_arguments.nd (ae_lst aa_nil))
      (ass_cons (as_if (at_not (at_val (ae_meth h_Reader_accept hr takesE (av 0) (aa_cons ae_str (aa_cons ae_str aa_nil))))) (ass_cons (as_expr (ae_append (av 2) (ae_call h_read_expression hr takesE (aa_cons (av 0) (aa_cons (ae_meth h_Reader_deeper hr takesE (av 0) (aa_cons (av 1) aa_nil)) aa_nil)))))
      (ass_cons (as_while passesE (at_val (ae_meth h_Reader_accept hr takesE (av 0) (aa_cons ae_str (aa_cons ae_str aa_nil)))) (ass_one (as_expr (ae_append (av 2) (ae_call h_read_expression hr takesE (aa_cons (av 0) (aa_cons (ae_meth h_Reader_deeper hr takesE (av 0) (aa_cons (av 1) aa_nil)) aa_nil)))))))
      (ass_one (as_expr (ae_meth h_Reader_expect hr takesE (av 0) (aa_cons ae_str (aa_cons ae_str aa_nil))))))) ass_nil)
      (ass_one (as_ret (ae_callTy ac_tuple T.no_tuple (aa_cons (av 2) aa_nil)))))), fun ds S Ea Qa h => (sp ds S Ea Qa h).2⟩), T.g_read_arguments, F.kp, F.bindsN (fun _ _ _ _ _ _ us hl => match us, hl with | [_, _], _ => rfl)⟩
theorem z_read_arguments {P : Program} {w : World} {K : PySem.W.Frag} {mg : Str → Option Value} {base : Heap} (T : Facts K mg w) {k : Nat} : FD P w K mg base "read_arguments" k fun _ _ _ _ => False := by
  obtain ⟨fd, F⟩ := T.d_read_arguments
  exact ⟨_, fd, ["reader", "level"], never_ok, T.g_read_arguments, F.kp, F.bindsN (fun _ _ _ _ _ _ us hl => match us, hl with | [_, _], _ => rfl)⟩
theorem sc_read_primary : FnScope ["reader", "level", "at", "inner", "parameters", "name"] ["reader", "level"] (defScope s_read_primary) := ⟨rfl, rfl, rfl, by decide +kernel, rfl, by decide +kernel, by decide +kernel⟩
theorem ok_read_primary {P : Program} {w : World} {K : PySem.W.Frag} {mg : Str → Option Value} {base : Heap} (T : Facts K mg w) {k : Nat} {G : AFn} {F_Reader_at F_Reader_accept F_Reader_expect F_Reader_deeper F_read_expression F_read_parameters F_read_body F_Reader_sees_kind F_Reader_read : AFn} (h_Reader_at : MD P w K mg base "Reader" "at" k F_Reader_at) (h_Reader_accept : MD P w K mg base "Reader" "accept" k F_Reader_accept) (h_Reader_expect : MD P w K mg base "Reader" "expect" k F_Reader_expect) (h_Reader_deeper : MD P w K mg base "Reader" "deeper" k F_Reader_deeper) (h_read_expression : FD P w K mg base "read_expression" k F_read_expression) (h_read_parameters : FD P w K mg base "read_parameters" k F_read_parameters) (h_read_body : FD P w K mg base "read_body" k F_read_body) (h_Reader_sees_kind : MD P w K mg base "Reader" "sees_kind" k F_Reader_sees_kind) (h_Reader_read : MD P w K mg base "Reader" "read" k F_Reader_read)
    (sp : ∀ ds S E Q, G ds S E Q → ds.length = 2 ∧ (a_read_primary F_Reader_at F_Reader_accept F_Reader_expect F_Reader_deeper F_read_expression F_read_parameters F_read_body F_Reader_sees_kind F_Reader_read) (bodyEnds Q E) (startA 6 ds) S) : FD P w K mg base "read_primary" (k + 1) G := by
  obtain ⟨fd, F⟩ := T.d_read_primary
  exact ⟨_, fd, ["reader", "level"], fn_ok F sc_read_primary (fun ds S E Q h => (sp ds S E Q h).1) (fun cdv A outer s H E hr => ⟨a_read_primary F_Reader_at F_Reader_accept F_Reader_expect F_Reader_deeper F_read_expression F_read_parameters F_read_body F_Reader_sees_kind F_Reader_read, (ass_cons (as_set sc_read_primary.nd (ae_meth0 h_Reader_at hr takesE (av 0)))
      (ass_cons (as_if (at_val (ae_meth h_Reader_accept hr takesE (av 0) (aa_cons ae_str (aa_cons ae_str aa_nil)))) (ass_one (as_ret (ae_tup (aa_cons ae_str (aa_cons ae_bl aa_nil))))) ass_nil)
      (ass_cons (as_if (at_val (ae_meth h_Reader_accept hr takesE (av 0) (aa_cons ae_str (aa_cons ae_str aa_nil)))) (ass_one (as_ret (ae_tup (aa_cons ae_str (aa_cons ae_bl aa_nil))))) ass_nil)
      (ass_cons (as_if (at_val (ae_meth h_Reader_accept hr takesE (av 0) (aa_cons ae_str (aa_cons ae_str aa_nil)))) (ass_one (as_ret (ae_tup (aa_cons ae_str aa_nil)))) ass_nil)
      (ass_cons (as_if (at_val (ae_meth h_Reader_accept hr takesE (av 0) (aa_cons ae_str (aa_cons ae_str aa_nil)))) (ass_cons (as_expr (ae_meth h_Reader_expect hr takesE (av 0) (aa_cons ae_str (aa_cons ae_str aa_nil))))
      (ass_cons (as_set sc_read_primary.nd (ae_call h_read_expression hr takesE (aa_cons (av 0) (aa_cons (ae_meth h_Reader_deeper hr takesE (av 0) (aa_cons (av 1) aa_nil)) aa_nil))))
      (ass_cons (as_expr (ae_meth h_Reader_expect hr takesE (av 0) (aa_cons ae_str (aa_cons ae_str aa_nil))))
      (ass_one (as_ret (ae_tup (aa_cons ae_str (aa_cons (av 3) (aa_cons (av 2) aa_nil))))))))) ass_nil)
      (ass_cons (as_if (at_val (ae_meth h_Reader_accept hr takesE (av 0) (aa_cons ae_str (aa_cons ae_str aa_nil)))) (ass_cons (as_set sc_read_primary.nd (ae_call h_read_parameters hr takesE (aa_cons (av 0) aa_nil)))
      (ass_one (as_ret (ae_tup (aa_cons ae_str (aa_cons (av 4) (aa_cons (ae_call h_read_body hr takesE (aa_cons (av 0) (aa_cons (av 1) aa_nil))) aa_nil))))))) ass_nil)
      (ass_cons (as_if (at_val (ae_meth h_Reader_accept hr takesE (av 0) (aa_cons ae_str (aa_cons ae_str aa_nil)))) (ass_cons (as_set sc_read_primary.nd (ae_call h_read_expression hr takesE (aa_cons (av 0) (aa_cons (ae_meth h_Reader_deeper hr takesE (av 0) (aa_cons (av 1) aa_nil)) aa_nil))))
      (ass_cons (as_expr (ae_meth h_Reader_expect hr takesE (av 0) (aa_cons ae_str (aa_cons ae_str aa_nil))))
      (ass_one (as_ret (av 3))))) ass_nil)
      (ass_cons (as_if (at_val (ae_meth h_Reader_sees_kind hr takesE (av 0) (aa_cons ae_str aa_nil))) (ass_one (as_ret (ae_tup (aa_cons ae_str (aa_cons (ae_meth h_Reader_read hr takesE (av 0) (aa_cons ae_str aa_nil)) aa_nil))))) ass_nil)
      (ass_cons (as_set sc_read_primary.nd (ae_meth h_Reader_read hr takesE (av 0) (aa_cons ae_str aa_nil)))
      (ass_cons (as_if (at_val (ae_meth h_Reader_accept hr takesE (av 0) (aa_cons ae_str (aa_cons ae_str aa_nil)))) (ass_one (as_ret (ae_tup (aa_cons ae_str (aa_cons (av 5) (aa_cons (ae_meth h_Reader_read hr takesE (av 0) (aa_cons ae_str aa_nil)) aa_nil)))))) ass_nil)
      (ass_one (as_ret (ae_tup (aa_cons ae_str (aa_cons (av 5) aa_nil))))))))))))))), fun ds S Ea Qa h => (sp ds S Ea Qa h).2⟩), T.g_read_primary, F.kp, F.bindsN (fun _ _ _ _ _ _ us hl => match us, hl with | [_, _], _ => rfl)⟩
theorem z_read_primary {P : Program} {w : World} {K : PySem.W.Frag} {mg : Str → Option Value} {base : Heap} (T : Facts K mg w) {k : Nat} : FD P w K mg base "read_primary" k fun _ _ _ _ => False := by
  obtain ⟨fd, F⟩ := T.d_read_primary
  exact ⟨_, fd, ["reader", "level"], never_ok, T.g_read_primary, F.kp, F.bindsN (fun _ _ _ _ _ _ us hl => match us, hl with | [_, _], _ => rfl)⟩
theorem sc_read_call : FnScope ["reader", "level", "result"] ["reader", "level"] (defScope s_read_call) := ⟨rfl, rfl, rfl, by decide +kernel, rfl, by decide +kernel, by decide +kernel⟩
theorem ok_read_call {P : Program} {w : World} {K : PySem.W.Frag} {mg : Str → Option Value} {base : Heap} (T : Facts K mg w) {k : Nat} {G : AFn} {F_read_primary F_Reader_accept F_Reader_deeper F_read_arguments : AFn} (h_read_primary : FD P w K mg base "read_primary" k F_read_primary) (h_Reader_accept : MD P w K mg base "Reader" "accept" k F_Reader_accept) (h_Reader_deeper : MD P w K mg base "Reader" "deeper" k F_Reader_deeper) (h_read_arguments : FD P w K mg base "read_arguments" k F_read_arguments)
    (sp : ∀ ds S E Q, G ds S E Q → ds.length = 2 ∧ (a_read_call F_read_primary F_Reader_accept F_Reader_deeper F_read_arguments) (bodyEnds Q E) (startA 3 ds) S) : FD P w K mg base "read_call" (k + 1) G := by
  obtain ⟨fd, F⟩ := T.d_read_call
  exact ⟨_, fd, ["reader", "level"], fn_ok F sc_read_call (fun ds S E Q h => (sp ds S E Q h).1) (fun cdv A outer s H E hr => ⟨a_read_call F_read_primary F_Reader_accept F_Reader_deeper F_read_arguments, (ass_cons (as_set sc_read_call.nd (ae_call h_read_primary hr takesE (aa_cons (av 0) (aa_cons (av 1) aa_nil))))
      (ass_cons (as_while passesE (at_val (ae_meth h_Reader_accept hr takesE (av 0) (aa_cons ae_str (aa_cons ae_str aa_nil)))) (ass_cons (as_set sc_read_call.nd (ae_meth h_Reader_deeper hr takesE (av 0) (aa_cons (av 1) aa_nil)))
      (ass_one (as_set sc_read_call.nd (ae_tup (aa_cons ae_str (aa_cons (av 2) (aa_cons (ae_call h_read_arguments hr takesE (aa_cons (av 0) (aa_cons (av 1) aa_nil))) aa_nil))))))))
      (ass_one (as_ret (av 2))))), fun ds S Ea Qa h => (sp ds S Ea Qa h).2⟩), T.g_read_call, F.kp, F.bindsN (fun _ _ _ _ _ _ us hl => match us, hl with | [_, _], _ => rfl)⟩
theorem z_read_call {P : Program} {w : World} {K : PySem.W.Frag} {mg : Str → Option Value} {base : Heap} (T : Facts K mg w) {k : Nat} : FD P w K mg base "read_call" k fun _ _ _ _ => False := by
  obtain ⟨fd, F⟩ := T.d_read_call
  exact ⟨_, fd, ["reader", "level"], never_ok, T.g_read_call, F.kp, F.bindsN (fun _ _ _ _ _ _ us hl => match us, hl with | [_, _], _ => rfl)⟩
theorem sc_read_product : FnScope ["reader", "level", "result"] ["reader", "level"] (defScope s_read_product) := ⟨rfl, rfl, rfl, by decide +kernel, rfl, by decide +kernel, by decide +kernel⟩
theorem ok_read_product {P : Program} {w : World} {K : PySem.W.Frag} {mg : Str → Option Value} {base : Heap} (T : Facts K mg w) {k : Nat} {G : AFn} {F_read_call F_Reader_accept F_Reader_deeper : AFn} (h_read_call : FD P w K mg base "read_call" k F_read_call) (h_Reader_accept : MD P w K mg base "Reader" "accept" k F_Reader_accept) (h_Reader_deeper : MD P w K mg base "Reader" "deeper" k F_Reader_deeper)
    (sp : ∀ ds S E Q, G ds S E Q → ds.length = 2 ∧ (a_read_product F_read_call F_Reader_accept F_Reader_deeper) (bodyEnds Q E) (startA 3 ds) S) : FD P w K mg base "read_product" (k + 1) G := by
  obtain ⟨fd, F⟩ := T.d_read_product
  exact ⟨_, fd, ["reader", "level"], fn_ok F sc_read_product (fun ds S E Q h => (sp ds S E Q h).1) (fun cdv A outer s H E hr => ⟨a_read_product F_read_call F_Reader_accept F_Reader_deeper, (ass_cons (as_set sc_read_product.nd (ae_call h_read_call hr takesE (aa_cons (av 0) (aa_cons (av 1) aa_nil))))
      (ass_cons (as_while passesE (at_val (ae_meth h_Reader_accept hr takesE (av 0) (aa_cons ae_str (aa_cons ae_str aa_nil)))) (ass_cons (as_set sc_read_product.nd (ae_meth h_Reader_deeper hr takesE (av 0) (aa_cons (av 1) aa_nil)))
      (ass_one (as_set sc_read_product.nd (ae_tup (aa_cons ae_str (aa_cons (av 2) (aa_cons (ae_call h_read_call hr takesE (aa_cons (av 0) (aa_cons (av 1) aa_nil))) aa_nil))))))))
      (ass_one (as_ret (av 2))))), fun ds S Ea Qa h => (sp ds S Ea Qa h).2⟩), T.g_read_product, F.kp, F.bindsN (fun _ _ _ _ _ _ us hl => match us, hl with | [_, _], _ => rfl)⟩
theorem z_read_product {P : Program} {w : World} {K : PySem.W.Frag} {mg : Str → Option Value} {base : Heap} (T : Facts K mg w) {k : Nat} : FD P w K mg base "read_product" k fun _ _ _ _ => False := by
  obtain ⟨fd, F⟩ := T.d_read_product
  exact ⟨_, fd, ["reader", "level"], never_ok, T.g_read_product, F.kp, F.bindsN (fun _ _ _ _ _ _ us hl => match us, hl with | [_, _], _ => rfl)⟩
theorem sc_read_sum : FnScope ["reader", "level", "result", "sign"] ["reader", "level"] (defScope s_read_sum) := ⟨rfl, rfl, rfl, by decide +kernel, rfl, by decide +kernel, by decide +kernel⟩
theorem ok_read_sum {P : Program} {w : World} {K : PySem.W.Frag} {mg : Str → Option Value} {base : Heap} (T : Facts K mg w) {k : Nat} {G : AFn} {F_read_product F_Reader_sees F_Reader_read F_Reader_deeper : AFn} (h_read_product : FD P w K mg base "read_product" k F_read_product) (h_Reader_sees : MD P w K mg base "Reader" "sees" k F_Reader_sees) (h_Reader_read : MD P w K mg base "Reader" "read" k F_Reader_read) (h_Reader_deeper : MD P w K mg base "Reader" "deeper" k F_Reader_deeper)
    (sp : ∀ ds S E Q, G ds S E Q → ds.length = 2 ∧ (a_read_sum F_read_product F_Reader_sees F_Reader_read F_Reader_deeper) (bodyEnds Q E) (startA 4 ds) S) : FD P w K mg base "read_sum" (k + 1) G := by
  obtain ⟨fd, F⟩ := T.d_read_sum
  exact ⟨_, fd, ["reader", "level"], fn_ok F sc_read_sum (fun ds S E Q h => (sp ds S E Q h).1) (fun cdv A outer s H E hr => ⟨a_read_sum F_read_product F_Reader_sees F_Reader_read F_Reader_deeper, (ass_cons (as_set sc_read_sum.nd (ae_call h_read_product hr takesE (aa_cons (av 0) (aa_cons (av 1) aa_nil))))
      (ass_cons (as_while passesE (AW.at (aw_or (at_val (ae_meth h_Reader_sees hr takesE (av 0) (aa_cons ae_str (aa_cons ae_str aa_nil)))) (aw_or1 (at_val (ae_meth h_Reader_sees hr takesE (av 0) (aa_cons ae_str (aa_cons ae_str aa_nil))))))) (ass_cons (as_set sc_read_sum.nd (ae_meth h_Reader_read hr takesE (av 0) (aa_cons ae_str aa_nil)))
      (ass_cons (as_set sc_read_sum.nd (ae_meth h_Reader_deeper hr takesE (av 0) (aa_cons (av 1) aa_nil)))
      (ass_one (as_set sc_read_sum.nd (ae_tup (aa_cons (ae_kd T.k_SUMS (av 3)) (aa_cons (av 2) (aa_cons (ae_call h_read_product hr takesE (aa_cons (av 0) (aa_cons (av 1) aa_nil))) aa_nil)))))))))
      (ass_one (as_ret (av 2))))), fun ds S Ea Qa h => (sp ds S Ea Qa h).2⟩), T.g_read_sum, F.kp, F.bindsN (fun _ _ _ _ _ _ us hl => match us, hl with | [_, _], _ => rfl)⟩
theorem z_read_sum {P : Program} {w : World} {K : PySem.W.Frag} {mg : Str → Option Value} {base : Heap} (T : Facts K mg w) {k : Nat} : FD P w K mg base "read_sum" k fun _ _ _ _ => False := by
  obtain ⟨fd, F⟩ := T.d_read_sum
  exact ⟨_, fd, ["reader", "level"], never_ok, T.g_read_sum, F.kp, F.bindsN (fun _ _ _ _ _ _ us hl => match us, hl with | [_, _], _ => rfl)⟩
theorem sc_read_plain : FnScope ["reader", "level", "result", "sign"] ["reader", "level"] (defScope s_read_plain) := ⟨rfl, rfl, rfl, by decide +kernel, rfl, by decide +kernel, by decide +kernel⟩
theorem ok_read_plain {P : Program} {w : World} {K : PySem.W.Frag} {mg : Str → Option Value} {base : Heap} (T : Facts K mg w) {k : Nat} {G : AFn} {F_Reader_accept F_Reader_deeper F_read_plain F_read_sum : AFn} (h_Reader_accept : MD P w K mg base "Reader" "accept" k F_Reader_accept) (h_Reader_deeper : MD P w K mg base "Reader" "deeper" k F_Reader_deeper) (h_read_plain : FD P w K mg base "read_plain" k F_read_plain) (h_read_sum : FD P w K mg base "read_sum" k F_read_sum)
    (sp : ∀ ds S E Q, G ds S E Q → ds.length = 2 ∧ (a_read_plain F_Reader_accept F_Reader_deeper F_read_plain F_read_sum) (bodyEnds Q E) (startA 4 ds) S) : FD P w K mg base "read_plain" (k + 1) G := by
  obtain ⟨fd, F⟩ := T.d_read_plain
  exact ⟨_, fd, ["reader", "level"], fn_ok F sc_read_plain (fun ds S E Q h => (sp ds S E Q h).1) (fun cdv A outer s H E hr => ⟨a_read_plain F_Reader_accept F_Reader_deeper F_read_plain F_read_sum, (ass_cons (as_if (at_val (ae_meth h_Reader_accept hr takesE (av 0) (aa_cons ae_str (aa_cons ae_str aa_nil)))) (ass_one (as_ret (ae_tup (aa_cons ae_str (aa_cons (ae_call h_read_plain hr takesE (aa_cons (av 0) (aa_cons (ae_meth h_Reader_deeper hr takesE (av 0) (aa_cons (av 1) aa_nil)) aa_nil))) aa_nil))))) ass_nil)
      (ass_cons (as_set sc_read_plain.nd (ae_call h_read_sum hr takesE (aa_cons (av 0) (aa_cons (av 1) aa_nil))))
      (ass_cons (as_for passesE rfl (ai_kd T.k_COMPARISONS) (ag_name sc_read_plain.nd) (ass_one (as_if (at_val (ae_meth h_Reader_accept hr takesE (av 0) (aa_cons ae_str (aa_cons (av 3) aa_nil)))) (ass_one (as_ret (ae_tup (aa_cons (ae_kd T.k_COMPARISONS (av 3)) (aa_cons (av 2) (aa_cons (ae_call h_read_sum hr takesE (aa_cons (av 0) (aa_cons (ae_meth h_Reader_deeper hr takesE (av 0) (aa_cons (av 1) aa_nil)) aa_nil))) aa_nil)))))) ass_nil)))
      (ass_one (as_ret (av 2)))))), fun ds S Ea Qa h => (sp ds S Ea Qa h).2⟩), T.g_read_plain, F.kp, F.bindsN (fun _ _ _ _ _ _ us hl => match us, hl with | [_, _], _ => rfl)⟩
theorem z_read_plain {P : Program} {w : World} {K : PySem.W.Frag} {mg : Str → Option Value} {base : Heap} (T : Facts K mg w) {k : Nat} : FD P w K mg base "read_plain" k fun _ _ _ _ => False := by
  obtain ⟨fd, F⟩ := T.d_read_plain
  exact ⟨_, fd, ["reader", "level"], never_ok, T.g_read_plain, F.kp, F.bindsN (fun _ _ _ _ _ _ us hl => match us, hl with | [_, _], _ => rfl)⟩
theorem sc_read_both : FnScope ["reader", "level", "result"] ["reader", "level"] (defScope s_read_both) := ⟨rfl, rfl, rfl, by decide +kernel, rfl, by decide +kernel, by decide +kernel⟩
theorem ok_read_both {P : Program} {w : World} {K : PySem.W.Frag} {mg : Str → Option Value} {base : Heap} (T : Facts K mg w) {k : Nat} {G : AFn} {F_read_plain F_Reader_accept F_Reader_deeper : AFn} (h_read_plain : FD P w K mg base "read_plain" k F_read_plain) (h_Reader_accept : MD P w K mg base "Reader" "accept" k F_Reader_accept) (h_Reader_deeper : MD P w K mg base "Reader" "deeper" k F_Reader_deeper)
    (sp : ∀ ds S E Q, G ds S E Q → ds.length = 2 ∧ (a_read_both F_read_plain F_Reader_accept F_Reader_deeper) (bodyEnds Q E) (startA 3 ds) S) : FD P w K mg base "read_both" (k + 1) G := by
  obtain ⟨fd, F⟩ := T.d_read_both
  exact ⟨_, fd, ["reader", "level"], fn_ok F sc_read_both (fun ds S E Q h => (sp ds S E Q h).1) (fun cdv A outer s H E hr => ⟨a_read_both F_read_plain F_Reader_accept F_Reader_deeper, (ass_cons (as_set sc_read_both.nd (ae_call h_read_plain hr takesE (aa_cons (av 0) (aa_cons (av 1) aa_nil))))
      (ass_cons (as_while passesE (at_val (ae_meth h_Reader_accept hr takesE (av 0) (aa_cons ae_str (aa_cons ae_str aa_nil)))) (ass_cons (as_set sc_read_both.nd (ae_meth h_Reader_deeper hr takesE (av 0) (aa_cons (av 1) aa_nil)))
      (ass_one (as_set sc_read_both.nd (ae_tup (aa_cons ae_str (aa_cons (av 2) (aa_cons (ae_call h_read_plain hr takesE (aa_cons (av 0) (aa_cons (av 1) aa_nil))) aa_nil))))))))
      (ass_one (as_ret (av 2))))), fun ds S Ea Qa h => (sp ds S Ea Qa h).2⟩), T.g_read_both, F.kp, F.bindsN (fun _ _ _ _ _ _ us hl => match us, hl with | [_, _], _ => rfl)⟩
theorem z_read_both {P : Program} {w : World} {K : PySem.W.Frag} {mg : Str → Option Value} {base : Heap} (T : Facts K mg w) {k : Nat} : FD P w K mg base "read_both" k fun _ _ _ _ => False := by
  obtain ⟨fd, F⟩ := T.d_read_both
  exact ⟨_, fd, ["reader", "level"], never_ok, T.g_read_both, F.kp, F.bindsN (fun _ _ _ _ _ _ us hl => match us, hl with | [_, _], _ => rfl)⟩
theorem sc_read_expression : FnScope ["reader", "level", "result"] ["reader", "level"] (defScope s_read_expression) := ⟨rfl, rfl, rfl, by decide +kernel, rfl, by decide +kernel, by decide +kernel⟩
theorem ok_read_expression {P : Program} {w : World} {K : PySem.W.Frag} {mg : Str → Option Value} {base : Heap} (T : Facts K mg w) {k : Nat} {G : AFn} {F_read_both F_Reader_accept F_Reader_deeper : AFn} (h_read_both : FD P w K mg base "read_both" k F_read_both) (h_Reader_accept : MD P w K mg base "Reader" "accept" k F_Reader_accept) (h_Reader_deeper : MD P w K mg base "Reader" "deeper" k F_Reader_deeper)
    (sp : ∀ ds S E Q, G ds S E Q → ds.length = 2 ∧ (a_read_expression F_read_both F_Reader_accept F_Reader_deeper) (bodyEnds Q E) (startA 3 ds) S) : FD P w K mg base "read_expression" (k + 1) G := by
  obtain ⟨fd, F⟩ := T.d_read_expression
  exact ⟨_, fd, ["reader", "level"], fn_ok F sc_read_expression (fun ds S E Q h => (sp ds S E Q h).1) (fun cdv A outer s H E hr => ⟨a_read_expression F_read_both F_Reader_accept F_Reader_deeper, (ass_cons (as_set sc_read_expression.nd (ae_call h_read_both hr takesE (aa_cons (av 0) (aa_cons (av 1) aa_nil))))
      (ass_cons (as_while passesE (at_val (ae_meth h_Reader_accept hr takesE (av 0) (aa_cons ae_str (aa_cons ae_str aa_nil)))) (ass_cons (as_set sc_read_expression.nd (ae_meth h_Reader_deeper hr takesE (av 0) (aa_cons (av 1) aa_nil)))
      (ass_one (as_set sc_read_expression.nd (ae_tup (aa_cons ae_str (aa_cons (av 2) (aa_cons (ae_call h_read_both hr takesE (aa_cons (av 0) (aa_cons (av 1) aa_nil))) aa_nil))))))))
      (ass_one (as_ret (av 2))))), fun ds S Ea Qa h => (sp ds S Ea Qa h).2⟩), T.g_read_expression, F.kp, F.bindsN (fun _ _ _ _ _ _ us hl => match us, hl with | [_, _], _ => rfl)⟩
theorem z_read_expression {P : Program} {w : World} {K : PySem.W.Frag} {mg : Str → Option Value} {base : Heap} (T : Facts K mg w) {k : Nat} : FD P w K mg base "read_expression" k fun _ _ _ _ => False := by
  obtain ⟨fd, F⟩ := T.d_read_expression
  exact ⟨_, fd, ["reader", "level"], never_ok, T.g_read_expression, F.kp, F.bindsN (fun _ _ _ _ _ _ us hl => match us, hl with | [_, _], _ => rfl)⟩
theorem sc_read_block : FnScope ["reader", "level", "result"] ["reader", "level"] (defScope s_read_block) := ⟨rfl, rfl, rfl, by decide +kernel, rfl, by decide +kernel, by decide +kernel⟩
theorem ok_read_block {P : Program} {w : World} {K : PySem.W.Frag} {mg : Str → Option Value} {base : Heap} (T : Facts K mg w) {k : Nat} {G : AFn} {F_Reader_expect F_Reader_accept F_read_statement : AFn} (h_Reader_expect : MD P w K mg base "Reader" "expect" k F_Reader_expect) (h_Reader_accept : MD P w K mg base "Reader" "accept" k F_Reader_accept) (h_read_statement : FD P w K mg base "read_statement" k F_read_statement)
    (sp : ∀ ds S E Q, G ds S E Q → ds.length = 2 ∧ (a_read_block F_Reader_expect F_Reader_accept F_read_statement) (bodyEnds Q E) (startA 3 ds) S) : FD P w K mg base "read_block" (k + 1) G := by
  obtain ⟨fd, F⟩ := T.d_read_block
  exact ⟨_, fd, ["reader", "level"], fn_ok F sc_read_block (fun ds S E Q h => (sp ds S E Q h).1) (fun cdv A outer s H E hr => ⟨a_read_block F_Reader_expect F_Reader_accept F_read_statement, (ass_cons (as_expr (ae_meth h_Reader_expect hr takesE (av 0) (aa_cons ae_str (aa_cons ae_str aa_nil))))
      (ass_cons (as_set sc_read_block.nd (ae_lst aa_nil))
      (ass_cons (as_while passesE (at_not (at_val (ae_meth h_Reader_accept hr takesE (av 0) (aa_cons ae_str (aa_cons ae_str aa_nil))))) (ass_one (as_expr (ae_append (av 2) (ae_call h_read_statement hr takesE (aa_cons (av 0) (aa_cons (av 1) aa_nil)))))))
      (ass_one (as_ret (ae_callTy ac_tuple T.no_tuple (aa_cons (av 2) aa_nil))))))), fun ds S Ea Qa h => (sp ds S Ea Qa h).2⟩), T.g_read_block, F.kp, F.bindsN (fun _ _ _ _ _ _ us hl => match us, hl with | [_, _], _ => rfl)⟩
theorem z_read_block {P : Program} {w : World} {K : PySem.W.Frag} {mg : Str → Option Value} {base : Heap} (T : Facts K mg w) {k : Nat} : FD P w K mg base "read_block" k fun _ _ _ _ => False := by
  obtain ⟨fd, F⟩ := T.d_read_block
  exact ⟨_, fd, ["reader", "level"], never_ok, T.g_read_block, F.kp, F.bindsN (fun _ _ _ _ _ _ us hl => match us, hl with | [_, _], _ => rfl)⟩
theorem sc_read_let : FnScope ["reader", "at", "level", "name", "value"] ["reader", "at", "level"] (defScope s_read_let) := ⟨rfl, rfl, rfl, by decide +kernel, rfl, by decide +kernel, by decide +kernel⟩
theorem ok_read_let {P : Program} {w : World} {K : PySem.W.Frag} {mg : Str → Option Value} {base : Heap} (T : Facts K mg w) {k : Nat} {G : AFn} {F_Reader_read F_Reader_expect F_read_expression : AFn} (h_Reader_read : MD P w K mg base "Reader" "read" k F_Reader_read) (h_Reader_expect : MD P w K mg base "Reader" "expect" k F_Reader_expect) (h_read_expression : FD P w K mg base "read_expression" k F_read_expression)
    (sp : ∀ ds S E Q, G ds S E Q → ds.length = 3 ∧ (a_read_let F_Reader_read F_Reader_expect F_read_expression) (bodyEnds Q E) (startA 5 ds) S) : FD P w K mg base "read_let" (k + 1) G := by
  obtain ⟨fd, F⟩ := T.d_read_let
  exact ⟨_, fd, ["reader", "at", "level"], fn_ok F sc_read_let (fun ds S E Q h => (sp ds S E Q h).1) (fun cdv A outer s H E hr => ⟨a_read_let F_Reader_read F_Reader_expect F_read_expression, (ass_cons (as_set sc_read_let.nd (ae_meth h_Reader_read hr takesE (av 0) (aa_cons ae_str aa_nil)))
      (ass_cons (as_expr (ae_meth h_Reader_expect hr takesE (av 0) (aa_cons ae_str (aa_cons ae_str aa_nil))))
      (ass_cons (as_set sc_read_let.nd (ae_call h_read_expression hr takesE (aa_cons (av 0) (aa_cons (av 2) aa_nil))))
      (ass_cons (as_expr (ae_meth h_Reader_expect hr takesE (av 0) (aa_cons ae_str (aa_cons ae_str aa_nil))))
      (ass_one (as_ret (ae_tup (aa_cons ae_str (aa_cons (av 3) (aa_cons (av 4) (aa_cons (av 1) aa_nil))))))))))), fun ds S Ea Qa h => (sp ds S Ea Qa h).2⟩), T.g_read_let, F.kp, F.bindsN (fun _ _ _ _ _ _ us hl => match us, hl with | [_, _, _], _ => rfl)⟩
theorem z_read_let {P : Program} {w : World} {K : PySem.W.Frag} {mg : Str → Option Value} {base : Heap} (T : Facts K mg w) {k : Nat} : FD P w K mg base "read_let" k fun _ _ _ _ => False := by
  obtain ⟨fd, F⟩ := T.d_read_let
  exact ⟨_, fd, ["reader", "at", "level"], never_ok, T.g_read_let, F.kp, F.bindsN (fun _ _ _ _ _ _ us hl => match us, hl with | [_, _, _], _ => rfl)⟩
theorem sc_read_fun : FnScope ["reader", "at", "level", "name", "parameters"] ["reader", "at", "level"] (defScope s_read_fun) := ⟨rfl, rfl, rfl, by decide +kernel, rfl, by decide +kernel, by decide +kernel⟩
theorem ok_read_fun {P : Program} {w : World} {K : PySem.W.Frag} {mg : Str → Option Value} {base : Heap} (T : Facts K mg w) {k : Nat} {G : AFn} {F_Reader_read F_read_parameters F_read_body : AFn} (h_Reader_read : MD P w K mg base "Reader" "read" k F_Reader_read) (h_read_parameters : FD P w K mg base "read_parameters" k F_read_parameters) (h_read_body : FD P w K mg base "read_body" k F_read_body)
    (sp : ∀ ds S E Q, G ds S E Q → ds.length = 3 ∧ (a_read_fun F_Reader_read F_read_parameters F_read_body) (bodyEnds Q E) (startA 5 ds) S) : FD P w K mg base "read_fun" (k + 1) G := by
  obtain ⟨fd, F⟩ := T.d_read_fun
  exact ⟨_, fd, ["reader", "at", "level"], fn_ok F sc_read_fun (fun ds S E Q h => (sp ds S E Q h).1) (fun cdv A outer s H E hr => ⟨a_read_fun F_Reader_read F_read_parameters F_read_body, (ass_cons (as_set sc_read_fun.nd (ae_meth h_Reader_read hr takesE (av 0) (aa_cons ae_str aa_nil)))
      (ass_cons (as_set sc_read_fun.nd (ae_call h_read_parameters hr takesE (aa_cons (av 0) aa_nil)))
      (ass_one (as_ret (ae_tup (aa_cons ae_str (aa_cons (av 3) (aa_cons (av 4) (aa_cons (ae_call h_read_body hr takesE (aa_cons (av 0) (aa_cons (av 2) aa_nil))) (aa_cons (av 1) aa_nil)))))))))), fun ds S Ea Qa h => (sp ds S Ea Qa h).2⟩), T.g_read_fun, F.kp, F.bindsN (fun _ _ _ _ _ _ us hl => match us, hl with | [_, _, _], _ => rfl)⟩
theorem z_read_fun {P : Program} {w : World} {K : PySem.W.Frag} {mg : Str → Option Value} {base : Heap} (T : Facts K mg w) {k : Nat} : FD P w K mg base "read_fun" k fun _ _ _ _ => False := by
  obtain ⟨fd, F⟩ := T.d_read_fun
  exact ⟨_, fd, ["reader", "at", "level"], never_ok, T.g_read_fun, F.kp, F.bindsN (fun _ _ _ _ _ _ us hl => match us, hl with | [_, _, _], _ => rfl)⟩
theorem sc_read_compound : FnScope ["reader", "at", "level", "test", "first", "second", "count", "name"] ["reader", "at", "level"] (defScope s_read_compound) := ⟨rfl, rfl, rfl, by decide +kernel, rfl, by decide +kernel, by decide +kernel⟩
theorem ok_read_compound {P : Program} {w : World} {K : PySem.W.Frag} {mg : Str → Option Value} {base : Heap} (T : Facts K mg w) {k : Nat} {G : AFn} {F_Reader_accept F_read_expression F_Reader_deeper F_read_block F_Reader_expect F_Reader_read F_Reader_sees : AFn} (h_Reader_accept : MD P w K mg base "Reader" "accept" k F_Reader_accept) (h_read_expression : FD P w K mg base "read_expression" k F_read_expression) (h_Reader_deeper : MD P w K mg base "Reader" "deeper" k F_Reader_deeper) (h_read_block : FD P w K mg base "read_block" k F_read_block) (h_Reader_expect : MD P w K mg base "Reader" "expect" k F_Reader_expect) (h_Reader_read : MD P w K mg base "Reader" "read" k F_Reader_read) (h_Reader_sees : MD P w K mg base "Reader" "sees" k F_Reader_sees)
    (sp : ∀ ds S E Q, G ds S E Q → ds.length = 3 ∧ (a_read_compound F_Reader_accept F_read_expression F_Reader_deeper F_read_block F_Reader_expect F_Reader_read F_Reader_sees) (bodyEnds Q E) (startA 8 ds) S) : FD P w K mg base "read_compound" (k + 1) G := by
  obtain ⟨fd, F⟩ := T.d_read_compound
  exact ⟨_, fd, ["reader", "at", "level"], fn_ok F sc_read_compound (fun ds S E Q h => (sp ds S E Q h).1) (fun cdv A outer s H E hr => ⟨a_read_compound F_Reader_accept F_read_expression F_Reader_deeper F_read_block F_Reader_expect F_Reader_read F_Reader_sees, (ass_cons (as_if (at_val (ae_meth h_Reader_accept hr takesE (av 0) (aa_cons ae_str (aa_cons ae_str aa_nil)))) (ass_cons (as_set sc_read_compound.nd (ae_call h_read_expression hr takesE (aa_cons (av 0) (aa_cons (av 2) aa_nil))))
      (ass_cons (as_set sc_read_compound.nd (ae_call h_read_block hr takesE (aa_cons (av 0) (aa_cons (ae_meth h_Reader_deeper hr takesE (av 0) (aa_cons (av 2) aa_nil)) aa_nil))))
      (ass_cons (as_set sc_read_compound.nd (ae_tup aa_nil))
      (ass_cons (as_if (at_val (ae_meth h_Reader_accept hr takesE (av 0) (aa_cons ae_str (aa_cons ae_str aa_nil)))) (ass_one (as_set sc_read_compound.nd (ae_call h_read_block hr takesE (aa_cons (av 0) (aa_cons (ae_meth h_Reader_deeper hr takesE (av 0) (aa_cons (av 2) aa_nil)) aa_nil))))) ass_nil)
      (ass_one (as_ret (ae_tup (aa_cons ae_str (aa_cons (av 3) (aa_cons (av 4) (aa_cons (av 5) (aa_cons (av 1) aa_nil)))))))))))) ass_nil)
      (ass_cons (as_if (at_val (ae_meth h_Reader_accept hr takesE (av 0) (aa_cons ae_str (aa_cons ae_str aa_nil)))) (ass_cons (as_set sc_read_compound.nd (ae_call h_read_expression hr takesE (aa_cons (av 0) (aa_cons (av 2) aa_nil))))
      (ass_one (as_ret (ae_tup (aa_cons ae_str (aa_cons (av 6) (aa_cons (ae_call h_read_block hr takesE (aa_cons (av 0) (aa_cons (ae_meth h_Reader_deeper hr takesE (av 0) (aa_cons (av 2) aa_nil)) aa_nil))) (aa_cons (av 1) aa_nil)))))))) ass_nil)
      (ass_cons (as_if (at_val (ae_meth h_Reader_accept hr takesE (av 0) (aa_cons ae_str (aa_cons ae_str aa_nil)))) (ass_cons (as_set sc_read_compound.nd (ae_call h_read_block hr takesE (aa_cons (av 0) (aa_cons (ae_meth h_Reader_deeper hr takesE (av 0) (aa_cons (av 2) aa_nil)) aa_nil))))
      (ass_cons (as_expr (ae_meth h_Reader_expect hr takesE (av 0) (aa_cons ae_str (aa_cons ae_str aa_nil))))
      (ass_cons (as_set sc_read_compound.nd (ae_meth h_Reader_read hr takesE (av 0) (aa_cons ae_str aa_nil)))
      (ass_one (as_ret (ae_tup (aa_cons ae_str (aa_cons (av 4) (aa_cons (av 7) (aa_cons (ae_call h_read_block hr takesE (aa_cons (av 0) (aa_cons (ae_meth h_Reader_deeper hr takesE (av 0) (aa_cons (av 2) aa_nil)) aa_nil))) (aa_cons (av 1) aa_nil))))))))))) ass_nil)
      (ass_cons (as_if (at_val (ae_meth h_Reader_sees hr takesE (av 0) (aa_cons ae_str (aa_cons ae_str aa_nil)))) (ass_one (as_ret (ae_tup (aa_cons ae_str (aa_cons (ae_call h_read_block hr takesE (aa_cons (av 0) (aa_cons (ae_meth h_Reader_deeper hr takesE (av 0) (aa_cons (av 2) aa_nil)) aa_nil))) (aa_cons (av 1) aa_nil)))))) ass_nil)
      (ass_one (as_ret ae_non)))))), fun ds S Ea Qa h => (sp ds S Ea Qa h).2⟩), T.g_read_compound, F.kp, F.bindsN (fun _ _ _ _ _ _ us hl => match us, hl with | [_, _, _], _ => rfl)⟩
theorem z_read_compound {P : Program} {w : World} {K : PySem.W.Frag} {mg : Str → Option Value} {base : Heap} (T : Facts K mg w) {k : Nat} : FD P w K mg base "read_compound" k fun _ _ _ _ => False := by
  obtain ⟨fd, F⟩ := T.d_read_compound
  exact ⟨_, fd, ["reader", "at", "level"], never_ok, T.g_read_compound, F.kp, F.bindsN (fun _ _ _ _ _ _ us hl => match us, hl with | [_, _, _], _ => rfl)⟩
theorem sc_read_simple : FnScope ["reader", "at", "level", "result", "name"] ["reader", "at", "level"] (defScope s_read_simple) := ⟨rfl, rfl, rfl, by decide +kernel, rfl, by decide +kernel, by decide +kernel⟩
theorem ok_read_simple {P : Program} {w : World} {K : PySem.W.Frag} {mg : Str → Option Value} {base : Heap} (T : Facts K mg w) {k : Nat} {G : AFn} {F_Reader_accept F_read_expression F_Reader_sees_kind F_Reader_follows F_Reader_read F_Reader_expect : AFn} (h_Reader_accept : MD P w K mg base "Reader" "accept" k F_Reader_accept) (h_read_expression : FD P w K mg base "read_expression" k F_read_expression) (h_Reader_sees_kind : MD P w K mg base "Reader" "sees_kind" k F_Reader_sees_kind) (h_Reader_follows : MD P w K mg base "Reader" "follows" k F_Reader_follows) (h_Reader_read : MD P w K mg base "Reader" "read" k F_Reader_read) (h_Reader_expect : MD P w K mg base "Reader" "expect" k F_Reader_expect)
    (sp : ∀ ds S E Q, G ds S E Q → ds.length = 3 ∧ (a_read_simple F_Reader_accept F_read_expression F_Reader_sees_kind F_Reader_follows F_Reader_read F_Reader_expect) (bodyEnds Q E) (startA 5 ds) S) : FD P w K mg base "read_simple" (k + 1) G := by
  obtain ⟨fd, F⟩ := T.d_read_simple
  exact ⟨_, fd, ["reader", "at", "level"], fn_ok F sc_read_simple (fun ds S E Q h => (sp ds S E Q h).1) (fun cdv A outer s H E hr => ⟨a_read_simple F_Reader_accept F_read_expression F_Reader_sees_kind F_Reader_follows F_Reader_read F_Reader_expect, (ass_cons (as_if (at_val (ae_meth h_Reader_accept hr takesE (av 0) (aa_cons ae_str (aa_cons ae_str aa_nil)))) (ass_one (as_set sc_read_simple.nd (ae_tup (aa_cons ae_str (aa_cons (ae_call h_read_expression hr takesE (aa_cons (av 0) (aa_cons (av 2) aa_nil))) (aa_cons (av 1) aa_nil)))))) (ass_one (as_if (at_val (ae_meth h_Reader_accept hr takesE (av 0) (aa_cons ae_str (aa_cons ae_str aa_nil)))) (ass_one (as_set sc_read_simple.nd (ae_tup (aa_cons ae_str (aa_cons (ae_call h_read_expression hr takesE (aa_cons (av 0) (aa_cons (av 2) aa_nil))) (aa_cons (av 1) aa_nil)))))) (ass_one (as_if (AW.at (aw_and (at_cmp ao_gt (ae_fld T.f_Reader_inside (av 0)) ae_int) (aw_and1 (at_val (ae_meth h_Reader_accept hr takesE (av 0) (aa_cons ae_str (aa_cons ae_str aa_nil))))))) (ass_one (as_set sc_read_simple.nd (ae_tup (aa_cons ae_str (aa_cons (ae_call h_read_expression hr takesE (aa_cons (av 0) (aa_cons (av 2) aa_nil))) (aa_cons (av 1) aa_nil)))))) (ass_one (as_if (AW.at (aw_and (at_val (ae_meth h_Reader_sees_kind hr takesE (av 0) (aa_cons ae_str aa_nil))) (aw_and1 (at_val (ae_meth h_Reader_follows hr takesE (av 0) (aa_cons ae_str (aa_cons ae_str aa_nil))))))) (ass_cons (as_set sc_read_simple.nd (ae_meth h_Reader_read hr takesE (av 0) (aa_cons ae_str aa_nil)))
      (ass_cons (as_expr (ae_meth h_Reader_expect hr takesE (av 0) (aa_cons ae_str (aa_cons ae_str aa_nil))))
      (ass_one (as_set sc_read_simple.nd (ae_tup (aa_cons ae_str (aa_cons (av 4) (aa_cons (ae_call h_read_expression hr takesE (aa_cons (av 0) (aa_cons (av 2) aa_nil))) (aa_cons (av 1) aa_nil))))))))) (ass_one (as_set sc_read_simple.nd (ae_tup (aa_cons ae_str (aa_cons (ae_call h_read_expression hr takesE (aa_cons (av 0) (aa_cons (av 2) aa_nil))) (aa_cons (av 1) aa_nil)))))))))))))
      (ass_cons (as_expr (ae_meth h_Reader_expect hr takesE (av 0) (aa_cons ae_str (aa_cons ae_str aa_nil))))
      (ass_one (as_ret (av 3))))), fun ds S Ea Qa h => (sp ds S Ea Qa h).2⟩), T.g_read_simple, F.kp, F.bindsN (fun _ _ _ _ _ _ us hl => match us, hl with | [_, _, _], _ => rfl)⟩
theorem z_read_simple {P : Program} {w : World} {K : PySem.W.Frag} {mg : Str → Option Value} {base : Heap} (T : Facts K mg w) {k : Nat} : FD P w K mg base "read_simple" k fun _ _ _ _ => False := by
  obtain ⟨fd, F⟩ := T.d_read_simple
  exact ⟨_, fd, ["reader", "at", "level"], never_ok, T.g_read_simple, F.kp, F.bindsN (fun _ _ _ _ _ _ us hl => match us, hl with | [_, _, _], _ => rfl)⟩
theorem sc_read_statement : FnScope ["reader", "level", "at", "result"] ["reader", "level"] (defScope s_read_statement) := ⟨rfl, rfl, rfl, by decide +kernel, rfl, by decide +kernel, by decide +kernel⟩
theorem ok_read_statement {P : Program} {w : World} {K : PySem.W.Frag} {mg : Str → Option Value} {base : Heap} (T : Facts K mg w) {k : Nat} {G : AFn} {F_Reader_at F_Reader_accept F_read_let F_Reader_sees F_Reader_follows F_Reader_expect F_read_fun F_read_compound F_read_simple : AFn} (h_Reader_at : MD P w K mg base "Reader" "at" k F_Reader_at) (h_Reader_accept : MD P w K mg base "Reader" "accept" k F_Reader_accept) (h_read_let : FD P w K mg base "read_let" k F_read_let) (h_Reader_sees : MD P w K mg base "Reader" "sees" k F_Reader_sees) (h_Reader_follows : MD P w K mg base "Reader" "follows" k F_Reader_follows) (h_Reader_expect : MD P w K mg base "Reader" "expect" k F_Reader_expect) (h_read_fun : FD P w K mg base "read_fun" k F_read_fun) (h_read_compound : FD P w K mg base "read_compound" k F_read_compound) (h_read_simple : FD P w K mg base "read_simple" k F_read_simple)
    (sp : ∀ ds S E Q, G ds S E Q → ds.length = 2 ∧ (a_read_statement F_Reader_at F_Reader_accept F_read_let F_Reader_sees F_Reader_follows F_Reader_expect F_read_fun F_read_compound F_read_simple) (bodyEnds Q E) (startA 4 ds) S) : FD P w K mg base "read_statement" (k + 1) G := by
  obtain ⟨fd, F⟩ := T.d_read_statement
  exact ⟨_, fd, ["reader", "level"], fn_ok F sc_read_statement (fun ds S E Q h => (sp ds S E Q h).1) (fun cdv A outer s H E hr => ⟨a_read_statement F_Reader_at F_Reader_accept F_read_let F_Reader_sees F_Reader_follows F_Reader_expect F_read_fun F_read_compound F_read_simple, (ass_cons (as_set sc_read_statement.nd (ae_meth0 h_Reader_at hr takesE (av 0)))
      (ass_cons (as_if (at_val (ae_meth h_Reader_accept hr takesE (av 0) (aa_cons ae_str (aa_cons ae_str aa_nil)))) (ass_one (as_ret (ae_call h_read_let hr takesE (aa_cons (av 0) (aa_cons (av 2) (aa_cons (av 1) aa_nil)))))) ass_nil)
      (ass_cons (as_if (AW.at (aw_and (at_val (ae_meth h_Reader_sees hr takesE (av 0) (aa_cons ae_str (aa_cons ae_str aa_nil)))) (aw_and1 (at_val (ae_meth h_Reader_follows hr takesE (av 0) (aa_cons ae_str (aa_cons ae_non aa_nil))))))) (ass_cons (as_expr (ae_meth h_Reader_expect hr takesE (av 0) (aa_cons ae_str (aa_cons ae_str aa_nil))))
      (ass_one (as_ret (ae_call h_read_fun hr takesE (aa_cons (av 0) (aa_cons (av 2) (aa_cons (av 1) aa_nil))))))) ass_nil)
      (ass_cons (as_set sc_read_statement.nd (ae_call h_read_compound hr takesE (aa_cons (av 0) (aa_cons (av 2) (aa_cons (av 1) aa_nil)))))
      (ass_cons (as_if (at_cmp ao_isnot (av 3) ae_non) (ass_one (as_ret (av 3))) ass_nil)
      (ass_one (as_ret (ae_call h_read_simple hr takesE (aa_cons (av 0) (aa_cons (av 2) (aa_cons (av 1) aa_nil))))))))))), fun ds S Ea Qa h => (sp ds S Ea Qa h).2⟩), T.g_read_statement, F.kp, F.bindsN (fun _ _ _ _ _ _ us hl => match us, hl with | [_, _], _ => rfl)⟩
theorem z_read_statement {P : Program} {w : World} {K : PySem.W.Frag} {mg : Str → Option Value} {base : Heap} (T : Facts K mg w) {k : Nat} : FD P w K mg base "read_statement" k fun _ _ _ _ => False := by
  obtain ⟨fd, F⟩ := T.d_read_statement
  exact ⟨_, fd, ["reader", "level"], never_ok, T.g_read_statement, F.kp, F.bindsN (fun _ _ _ _ _ _ us hl => match us, hl with | [_, _], _ => rfl)⟩
theorem sc_read_pairs : FnScope ["reader", "pairs", "more", "name", "other"] ["reader"] (defScope s_read_pairs) := ⟨rfl, rfl, rfl, by decide +kernel, rfl, by decide +kernel, by decide +kernel⟩
theorem ok_read_pairs {P : Program} {w : World} {K : PySem.W.Frag} {mg : Str → Option Value} {base : Heap} (T : Facts K mg w) {k : Nat} {G : AFn} {F_Reader_expect F_Reader_accept F_Reader_read : AFn} (h_Reader_expect : MD P w K mg base "Reader" "expect" k F_Reader_expect) (h_Reader_accept : MD P w K mg base "Reader" "accept" k F_Reader_accept) (h_Reader_read : MD P w K mg base "Reader" "read" k F_Reader_read)
    (sp : ∀ ds S E Q, G ds S E Q → ds.length = 1 ∧ (a_read_pairs F_Reader_expect F_Reader_accept F_Reader_read) (bodyEnds Q E) (startA 5 ds) S) : FD P w K mg base "read_pairs" (k + 1) G := by
  obtain ⟨fd, F⟩ := T.d_read_pairs
  exact ⟨_, fd, ["reader"], fn_ok F sc_read_pairs (fun ds S E Q h => (sp ds S E Q h).1) (fun cdv A outer s H E hr => ⟨a_read_pairs F_Reader_expect F_Reader_accept F_Reader_read, (ass_cons (as_expr (ae_meth h_Reader_expect hr takesE (av 0) (aa_cons ae_str (aa_cons ae_str aa_nil))))
      (ass_cons (as_set sc_read_pairs.nd (ae_lst aa_nil))
      (ass_cons (as_if (at_not (at_val (ae_meth h_Reader_accept hr takesE (av 0) (aa_cons ae_str (aa_cons ae_str aa_nil))))) (ass_cons (as_set sc_read_pairs.nd ae_bl)
      (ass_cons (as_while passesE (at_val (av 2)) (ass_cons (as_set sc_read_pairs.nd (ae_meth h_Reader_read hr takesE (av 0) (aa_cons ae_str aa_nil)))
      (ass_cons (as_set sc_read_pairs.nd (av 3))
      (ass_cons (as_if (at_val (ae_meth h_Reader_accept hr takesE (av 0) (aa_cons ae_str (aa_cons ae_str aa_nil)))) (ass_one (as_set sc_read_pairs.nd (ae_meth h_Reader_read hr takesE (av 0) (aa_cons ae_str aa_nil)))) ass_nil)
      (ass_cons (as_expr (ae_append (av 1) (ae_tup (aa_cons (av 3) (aa_cons (av 4) aa_nil)))))
      (ass_one (as_set sc_read_pairs.nd (ae_meth h_Reader_accept hr takesE (av 0) (aa_cons ae_str (aa_cons ae_str aa_nil))))))))))
      (ass_one (as_expr (ae_meth h_Reader_expect hr takesE (av 0) (aa_cons ae_str (aa_cons ae_str aa_nil))))))) ass_nil)
      (ass_one (as_ret (ae_callTy ac_tuple T.no_tuple (aa_cons (av 1) aa_nil))))))), fun ds S Ea Qa h => (sp ds S Ea Qa h).2⟩), T.g_read_pairs, F.kp, F.bindsN (fun _ _ _ _ _ _ us hl => match us, hl with | [_], _ => rfl)⟩
theorem z_read_pairs {P : Program} {w : World} {K : PySem.W.Frag} {mg : Str → Option Value} {base : Heap} (T : Facts K mg w) {k : Nat} : FD P w K mg base "read_pairs" k fun _ _ _ _ => False := by
  obtain ⟨fd, F⟩ := T.d_read_pairs
  exact ⟨_, fd, ["reader"], never_ok, T.g_read_pairs, F.kp, F.bindsN (fun _ _ _ _ _ _ us hl => match us, hl with | [_], _ => rfl)⟩
theorem sc_read_from : FnScope ["reader", "name"] ["reader"] (defScope s_read_from) := ⟨rfl, rfl, rfl, by decide +kernel, rfl, by decide +kernel, by decide +kernel⟩
theorem ok_read_from {P : Program} {w : World} {K : PySem.W.Frag} {mg : Str → Option Value} {base : Heap} (T : Facts K mg w) {k : Nat} {G : AFn} {F_Reader_expect F_Reader_read : AFn} (h_Reader_expect : MD P w K mg base "Reader" "expect" k F_Reader_expect) (h_Reader_read : MD P w K mg base "Reader" "read" k F_Reader_read)
    (sp : ∀ ds S E Q, G ds S E Q → ds.length = 1 ∧ (a_read_from F_Reader_expect F_Reader_read) (bodyEnds Q E) (startA 2 ds) S) : FD P w K mg base "read_from" (k + 1) G := by
  obtain ⟨fd, F⟩ := T.d_read_from
  exact ⟨_, fd, ["reader"], fn_ok F sc_read_from (fun ds S E Q h => (sp ds S E Q h).1) (fun cdv A outer s H E hr => ⟨a_read_from F_Reader_expect F_Reader_read, (ass_cons (as_expr (ae_meth h_Reader_expect hr takesE (av 0) (aa_cons ae_str (aa_cons ae_str aa_nil))))
      (ass_cons (as_set sc_read_from.nd (ae_meth h_Reader_read hr takesE (av 0) (aa_cons ae_str aa_nil)))
      (ass_cons (as_expr (ae_meth h_Reader_expect hr takesE (av 0) (aa_cons ae_str (aa_cons ae_str aa_nil))))
      (ass_one (as_ret (av 1)))))), fun ds S Ea Qa h => (sp ds S Ea Qa h).2⟩), T.g_read_from, F.kp, F.bindsN (fun _ _ _ _ _ _ us hl => match us, hl with | [_], _ => rfl)⟩
theorem z_read_from {P : Program} {w : World} {K : PySem.W.Frag} {mg : Str → Option Value} {base : Heap} (T : Facts K mg w) {k : Nat} : FD P w K mg base "read_from" k fun _ _ _ _ => False := by
  obtain ⟨fd, F⟩ := T.d_read_from
  exact ⟨_, fd, ["reader"], never_ok, T.g_read_from, F.kp, F.bindsN (fun _ _ _ _ _ _ us hl => match us, hl with | [_], _ => rfl)⟩
theorem sc_read_import : FnScope ["reader", "at", "name", "local", "pairs"] ["reader", "at"] (defScope s_read_import) := ⟨rfl, rfl, rfl, by decide +kernel, rfl, by decide +kernel, by decide +kernel⟩
theorem ok_read_import {P : Program} {w : World} {K : PySem.W.Frag} {mg : Str → Option Value} {base : Heap} (T : Facts K mg w) {k : Nat} {G : AFn} {F_Reader_sees_kind F_Reader_read F_Reader_expect F_Reader_accept F_read_from F_read_pairs : AFn} (h_Reader_sees_kind : MD P w K mg base "Reader" "sees_kind" k F_Reader_sees_kind) (h_Reader_read : MD P w K mg base "Reader" "read" k F_Reader_read) (h_Reader_expect : MD P w K mg base "Reader" "expect" k F_Reader_expect) (h_Reader_accept : MD P w K mg base "Reader" "accept" k F_Reader_accept) (h_read_from : FD P w K mg base "read_from" k F_read_from) (h_read_pairs : FD P w K mg base "read_pairs" k F_read_pairs)
    (sp : ∀ ds S E Q, G ds S E Q → ds.length = 2 ∧ (a_read_import F_Reader_sees_kind F_Reader_read F_Reader_expect F_Reader_accept F_read_from F_read_pairs) (bodyEnds Q E) (startA 5 ds) S) : FD P w K mg base "read_import" (k + 1) G := by
  obtain ⟨fd, F⟩ := T.d_read_import
  exact ⟨_, fd, ["reader", "at"], fn_ok F sc_read_import (fun ds S E Q h => (sp ds S E Q h).1) (fun cdv A outer s H E hr => ⟨a_read_import F_Reader_sees_kind F_Reader_read F_Reader_expect F_Reader_accept F_read_from F_read_pairs, (ass_cons (as_if (at_val (ae_meth h_Reader_sees_kind hr takesE (av 0) (aa_cons ae_str aa_nil))) (ass_cons (as_set sc_read_import.nd (ae_meth h_Reader_read hr takesE (av 0) (aa_cons ae_str aa_nil)))
      (ass_cons (as_expr (ae_meth h_Reader_expect hr takesE (av 0) (aa_cons ae_str (aa_cons ae_str aa_nil))))
      (ass_one (as_ret (ae_tup (aa_cons ae_str (aa_cons (av 2) (aa_cons (av 1) aa_nil)))))))) ass_nil)
      (ass_cons (as_if (at_val (ae_meth h_Reader_accept hr takesE (av 0) (aa_cons ae_str (aa_cons ae_str aa_nil)))) (ass_cons (as_expr (ae_meth h_Reader_expect hr takesE (av 0) (aa_cons ae_str (aa_cons ae_str aa_nil))))
      (ass_cons (as_set sc_read_import.nd (ae_meth h_Reader_read hr takesE (av 0) (aa_cons ae_str aa_nil)))
      (ass_one (as_ret (ae_tup (aa_cons ae_str (aa_cons (ae_call h_read_from hr takesE (aa_cons (av 0) aa_nil)) (aa_cons (av 3) (aa_cons (av 1) aa_nil))))))))) ass_nil)
      (ass_cons (as_set sc_read_import.nd (ae_call h_read_pairs hr takesE (aa_cons (av 0) aa_nil)))
      (ass_one (as_ret (ae_tup (aa_cons ae_str (aa_cons (ae_call h_read_from hr takesE (aa_cons (av 0) aa_nil)) (aa_cons (av 4) (aa_cons (av 1) aa_nil)))))))))), fun ds S Ea Qa h => (sp ds S Ea Qa h).2⟩), T.g_read_import, F.kp, F.bindsN (fun _ _ _ _ _ _ us hl => match us, hl with | [_, _], _ => rfl)⟩
theorem z_read_import {P : Program} {w : World} {K : PySem.W.Frag} {mg : Str → Option Value} {base : Heap} (T : Facts K mg w) {k : Nat} : FD P w K mg base "read_import" k fun _ _ _ _ => False := by
  obtain ⟨fd, F⟩ := T.d_read_import
  exact ⟨_, fd, ["reader", "at"], never_ok, T.g_read_import, F.kp, F.bindsN (fun _ _ _ _ _ _ us hl => match us, hl with | [_, _], _ => rfl)⟩
theorem sc_read_export : FnScope ["reader", "at", "pairs", "start", "item"] ["reader", "at"] (defScope s_read_export) := ⟨rfl, rfl, rfl, by decide +kernel, rfl, by decide +kernel, by decide +kernel⟩
theorem ok_read_export {P : Program} {w : World} {K : PySem.W.Frag} {mg : Str → Option Value} {base : Heap} (T : Facts K mg w) {k : Nat} {G : AFn} {F_Reader_accept F_read_from F_Reader_sees F_read_pairs F_Reader_expect F_Reader_at F_read_let F_read_fun : AFn} (h_Reader_accept : MD P w K mg base "Reader" "accept" k F_Reader_accept) (h_read_from : FD P w K mg base "read_from" k F_read_from) (h_Reader_sees : MD P w K mg base "Reader" "sees" k F_Reader_sees) (h_read_pairs : FD P w K mg base "read_pairs" k F_read_pairs) (h_Reader_expect : MD P w K mg base "Reader" "expect" k F_Reader_expect) (h_Reader_at : MD P w K mg base "Reader" "at" k F_Reader_at) (h_read_let : FD P w K mg base "read_let" k F_read_let) (h_read_fun : FD P w K mg base "read_fun" k F_read_fun)
    (sp : ∀ ds S E Q, G ds S E Q → ds.length = 2 ∧ (a_read_export F_Reader_accept F_read_from F_Reader_sees F_read_pairs F_Reader_expect F_Reader_at F_read_let F_read_fun) (bodyEnds Q E) (startA 5 ds) S) : FD P w K mg base "read_export" (k + 1) G := by
  obtain ⟨fd, F⟩ := T.d_read_export
  exact ⟨_, fd, ["reader", "at"], fn_ok F sc_read_export (fun ds S E Q h => (sp ds S E Q h).1) (fun cdv A outer s H E hr => ⟨a_read_export F_Reader_accept F_read_from F_Reader_sees F_read_pairs F_Reader_expect F_Reader_at F_read_let F_read_fun, (ass_cons (as_if (at_val (ae_meth h_Reader_accept hr takesE (av 0) (aa_cons ae_str (aa_cons ae_str aa_nil)))) (ass_one (as_ret (ae_lst (aa_cons (ae_tup (aa_cons ae_str (aa_cons (ae_call h_read_from hr takesE (aa_cons (av 0) aa_nil)) (aa_cons (av 1) aa_nil)))) aa_nil)))) ass_nil)
      (ass_cons (as_if (at_val (ae_meth h_Reader_sees hr takesE (av 0) (aa_cons ae_str (aa_cons ae_str aa_nil)))) (ass_cons (as_set sc_read_export.nd (ae_call h_read_pairs hr takesE (aa_cons (av 0) aa_nil)))
      (ass_cons (as_if (at_val (ae_meth h_Reader_sees hr takesE (av 0) (aa_cons ae_str (aa_cons ae_str aa_nil)))) (ass_one (as_ret (ae_lst (aa_cons (ae_tup (aa_cons ae_str (aa_cons (ae_call h_read_from hr takesE (aa_cons (av 0) aa_nil)) (aa_cons (av 2) (aa_cons (av 1) aa_nil))))) aa_nil)))) ass_nil)
      (ass_cons (as_expr (ae_meth h_Reader_expect hr takesE (av 0) (aa_cons ae_str (aa_cons ae_str aa_nil))))
      (ass_one (as_ret (ae_lst (aa_cons (ae_tup (aa_cons ae_str (aa_cons (av 2) (aa_cons (av 1) aa_nil)))) aa_nil))))))) ass_nil)
      (ass_cons (as_set sc_read_export.nd (ae_meth0 h_Reader_at hr takesE (av 0)))
      (ass_cons (as_if (at_val (ae_meth h_Reader_accept hr takesE (av 0) (aa_cons ae_str (aa_cons ae_str aa_nil)))) (ass_one (as_set sc_read_export.nd (ae_call h_read_let hr takesE (aa_cons (av 0) (aa_cons (av 3) (aa_cons ae_int aa_nil)))))) (ass_cons (as_expr (ae_meth h_Reader_expect hr takesE (av 0) (aa_cons ae_str (aa_cons ae_str aa_nil))))
      (ass_one (as_set sc_read_export.nd (ae_call h_read_fun hr takesE (aa_cons (av 0) (aa_cons (av 3) (aa_cons ae_int aa_nil))))))))
      (ass_one (as_ret (ae_lst (aa_cons (av 4) (aa_cons (ae_tup (aa_cons ae_str (aa_cons (ae_tup (aa_cons (ae_tup (aa_cons (ae_ix (ru1 hr) (av 4) ae_int) (aa_cons (ae_ix (ru1 hr) (av 4) ae_int) aa_nil))) aa_nil)) (aa_cons (av 1) aa_nil)))) aa_nil))))))))), fun ds S Ea Qa h => (sp ds S Ea Qa h).2⟩), T.g_read_export, F.kp, F.bindsN (fun _ _ _ _ _ _ us hl => match us, hl with | [_, _], _ => rfl)⟩
theorem z_read_export {P : Program} {w : World} {K : PySem.W.Frag} {mg : Str → Option Value} {base : Heap} (T : Facts K mg w) {k : Nat} : FD P w K mg base "read_export" k fun _ _ _ _ => False := by
  obtain ⟨fd, F⟩ := T.d_read_export
  exact ⟨_, fd, ["reader", "at"], never_ok, T.g_read_export, F.kp, F.bindsN (fun _ _ _ _ _ _ us hl => match us, hl with | [_, _], _ => rfl)⟩
theorem sc_expression_depth : FnScope ["e", "head", "argument"] ["e"] (defScope s_expression_depth) := ⟨rfl, rfl, rfl, by decide +kernel, rfl, by decide +kernel, by decide +kernel⟩
theorem ok_expression_depth {P : Program} {w : World} {K : PySem.W.Frag} {mg : Str → Option Value} {base : Heap} (T : Facts K mg w) {k : Nat} {G : AFn} {F_block_depth F_expression_depth : AFn} (h_block_depth : FD P w K mg base "block_depth" k F_block_depth) (h_expression_depth : FD P w K mg base "expression_depth" k F_expression_depth)
    (sp : ∀ ds S E Q, G ds S E Q → ds.length = 1 ∧ (a_expression_depth F_block_depth F_expression_depth) (bodyEnds Q E) (startA 3 ds) S) : FD P w K mg base "expression_depth" (k + 1) G := by
  obtain ⟨fd, F⟩ := T.d_expression_depth
  exact ⟨_, fd, ["e"], fn_ok F sc_expression_depth (fun ds S E Q h => (sp ds S E Q h).1) (fun cdv A outer s H E hr => ⟨a_expression_depth F_block_depth F_expression_depth, (ass_cons (as_set sc_expression_depth.nd (ae_ix (ru1 hr) (av 0) ae_int))
      (ass_cons (as_if (at_cmp (ao_in (ru65 hr)) (av 1) (ae_tup (aa_cons ae_str (aa_cons ae_str (aa_cons ae_str (aa_cons ae_str (aa_cons ae_str aa_nil))))))) (ass_one (as_ret ae_int)) ass_nil)
      (ass_cons (as_if (at_cmp (ao_eq (ru64 hr)) (av 1) ae_str) (ass_one (as_ret (ae_op ao_add ae_int (ae_call h_block_depth hr takesE (aa_cons (ae_ix (ru1 hr) (av 0) ae_int) aa_nil))))) ass_nil)
      (ass_cons (as_if (at_cmp (ao_eq (ru64 hr)) (av 1) ae_str) (ass_one (as_ret (ae_op ao_add ae_int (ae_callB (ac_max rfl) T.no_max (aa_cons (ae_op ao_add (ae_lst (aa_cons (ae_call h_expression_depth hr takesE (aa_cons (ae_ix (ru1 hr) (av 0) ae_int) aa_nil)) aa_nil)) (ae_lc rfl sc_expression_depth.nd [("argument", 2)] (ai_any (ae_ix (ru1 hr) (av 0) ae_int)) (agc_name (by decide) sc_expression_depth.nd) (fun _ _ _ _ _ => aifs_nil) (fun _ _ _ _ _ => (ae_call h_expression_depth hr takesB (aa_cons (av 2) aa_nil))))) aa_nil))))) ass_nil)
      (ass_cons (as_if (AW.at (aw_or (at_cmp (ao_eq (ru64 hr)) (av 1) ae_str) (aw_or1 (at_cmp (ao_eq (ru64 hr)) (av 1) ae_str)))) (ass_one (as_ret (ae_op ao_add ae_int (ae_call h_expression_depth hr takesE (aa_cons (ae_ix (ru1 hr) (av 0) ae_int) aa_nil))))) ass_nil)
      (ass_one (as_ret (ae_op ao_add ae_int (ae_callB (ac_max rfl) T.no_max (aa_cons (ae_call h_expression_depth hr takesE (aa_cons (ae_ix (ru1 hr) (av 0) ae_int) aa_nil)) (aa_cons (ae_call h_expression_depth hr takesE (aa_cons (ae_ix (ru1 hr) (av 0) ae_int) aa_nil)) aa_nil))))))))))), fun ds S Ea Qa h => (sp ds S Ea Qa h).2⟩), T.g_expression_depth, F.kp, F.bindsN (fun _ _ _ _ _ _ us hl => match us, hl with | [_], _ => rfl)⟩
theorem z_expression_depth {P : Program} {w : World} {K : PySem.W.Frag} {mg : Str → Option Value} {base : Heap} (T : Facts K mg w) {k : Nat} : FD P w K mg base "expression_depth" k fun _ _ _ _ => False := by
  obtain ⟨fd, F⟩ := T.d_expression_depth
  exact ⟨_, fd, ["e"], never_ok, T.g_expression_depth, F.kp, F.bindsN (fun _ _ _ _ _ _ us hl => match us, hl with | [_], _ => rfl)⟩
theorem sc_block_depth : FnScope ["block", "statement"] ["block"] (defScope s_block_depth) := ⟨rfl, rfl, rfl, by decide +kernel, rfl, by decide +kernel, by decide +kernel⟩
theorem ok_block_depth {P : Program} {w : World} {K : PySem.W.Frag} {mg : Str → Option Value} {base : Heap} (T : Facts K mg w) {k : Nat} {G : AFn} {F_depth : AFn} (h_depth : FD P w K mg base "depth" k F_depth)
    (sp : ∀ ds S E Q, G ds S E Q → ds.length = 1 ∧ (a_block_depth F_depth) (bodyEnds Q E) (startA 2 ds) S) : FD P w K mg base "block_depth" (k + 1) G := by
  obtain ⟨fd, F⟩ := T.d_block_depth
  exact ⟨_, fd, ["block"], fn_ok F sc_block_depth (fun ds S E Q h => (sp ds S E Q h).1) (fun cdv A outer s H E hr => ⟨a_block_depth F_depth, (ass_one (as_ret (ae_callB (ac_max rfl) T.no_max (aa_cons (ae_op ao_add (ae_lst (aa_cons ae_int aa_nil)) (ae_lc rfl sc_block_depth.nd [("statement", 1)] (ai_any (av 0)) (agc_name (by decide) sc_block_depth.nd) (fun _ _ _ _ _ => aifs_nil) (fun _ _ _ _ _ => (ae_call h_depth hr takesB (aa_cons (av 1) aa_nil))))) aa_nil)))), fun ds S Ea Qa h => (sp ds S Ea Qa h).2⟩), T.g_block_depth, F.kp, F.bindsN (fun _ _ _ _ _ _ us hl => match us, hl with | [_], _ => rfl)⟩
theorem z_block_depth {P : Program} {w : World} {K : PySem.W.Frag} {mg : Str → Option Value} {base : Heap} (T : Facts K mg w) {k : Nat} : FD P w K mg base "block_depth" k fun _ _ _ _ => False := by
  obtain ⟨fd, F⟩ := T.d_block_depth
  exact ⟨_, fd, ["block"], never_ok, T.g_block_depth, F.kp, F.bindsN (fun _ _ _ _ _ _ us hl => match us, hl with | [_], _ => rfl)⟩
theorem sc_depth : FnScope ["item", "head"] ["item"] (defScope s_depth) := ⟨rfl, rfl, rfl, by decide +kernel, rfl, by decide +kernel, by decide +kernel⟩
theorem ok_depth {P : Program} {w : World} {K : PySem.W.Frag} {mg : Str → Option Value} {base : Heap} (T : Facts K mg w) {k : Nat} {G : AFn} {F_expression_depth F_block_depth : AFn} (h_expression_depth : FD P w K mg base "expression_depth" k F_expression_depth) (h_block_depth : FD P w K mg base "block_depth" k F_block_depth)
    (sp : ∀ ds S E Q, G ds S E Q → ds.length = 1 ∧ (a_depth F_expression_depth F_block_depth) (bodyEnds Q E) (startA 2 ds) S) : FD P w K mg base "depth" (k + 1) G := by
  obtain ⟨fd, F⟩ := T.d_depth
  exact ⟨_, fd, ["item"], fn_ok F sc_depth (fun ds S E Q h => (sp ds S E Q h).1) (fun cdv A outer s H E hr => ⟨a_depth F_expression_depth F_block_depth, (ass_cons (as_set sc_depth.nd (ae_ix (ru1 hr) (av 0) ae_int))
      (ass_cons (as_if (AW.at (aw_or (at_cmp (ao_eq (ru64 hr)) (av 1) ae_str) (aw_or1 (at_cmp (ao_eq (ru64 hr)) (av 1) ae_str)))) (ass_one (as_ret (ae_op ao_add ae_int (ae_call h_expression_depth hr takesE (aa_cons (ae_ix (ru1 hr) (av 0) ae_int) aa_nil))))) ass_nil)
      (ass_cons (as_if (at_cmp (ao_eq (ru64 hr)) (av 1) ae_str) (ass_one (as_ret (ae_op ao_add ae_int (ae_call h_block_depth hr takesE (aa_cons (ae_ix (ru1 hr) (av 0) ae_int) aa_nil))))) ass_nil)
      (ass_cons (as_if (at_cmp (ao_in (ru65 hr)) (av 1) (ae_tup (aa_cons ae_str (aa_cons ae_str (aa_cons ae_str (aa_cons ae_str aa_nil)))))) (ass_one (as_ret (ae_op ao_add ae_int (ae_call h_expression_depth hr takesE (aa_cons (ae_ix (ru1 hr) (av 0) ae_int) aa_nil))))) ass_nil)
      (ass_cons (as_if (at_cmp (ao_eq (ru64 hr)) (av 1) ae_str) (ass_one (as_ret (ae_op ao_add ae_int (ae_callB (ac_max rfl) T.no_max (aa_cons (ae_call h_expression_depth hr takesE (aa_cons (ae_ix (ru1 hr) (av 0) ae_int) aa_nil)) (aa_cons (ae_call h_block_depth hr takesE (aa_cons (ae_ix (ru1 hr) (av 0) ae_int) aa_nil)) (aa_cons (ae_call h_block_depth hr takesE (aa_cons (ae_ix (ru1 hr) (av 0) ae_int) aa_nil)) aa_nil))))))) ass_nil)
      (ass_cons (as_if (at_cmp (ao_eq (ru64 hr)) (av 1) ae_str) (ass_one (as_ret (ae_op ao_add ae_int (ae_callB (ac_max rfl) T.no_max (aa_cons (ae_call h_expression_depth hr takesE (aa_cons (ae_ix (ru1 hr) (av 0) ae_int) aa_nil)) (aa_cons (ae_call h_block_depth hr takesE (aa_cons (ae_ix (ru1 hr) (av 0) ae_int) aa_nil)) aa_nil)))))) ass_nil)
      (ass_cons (as_if (at_cmp (ao_eq (ru64 hr)) (av 1) ae_str) (ass_one (as_ret (ae_op ao_add ae_int (ae_call h_block_depth hr takesE (aa_cons (ae_ix (ru1 hr) (av 0) ae_int) aa_nil))))) ass_nil)
      (ass_cons (as_if (at_cmp (ao_eq (ru64 hr)) (av 1) ae_str) (ass_one (as_ret (ae_op ao_add ae_int (ae_callB (ac_max rfl) T.no_max (aa_cons (ae_call h_block_depth hr takesE (aa_cons (ae_ix (ru1 hr) (av 0) ae_int) aa_nil)) (aa_cons (ae_call h_block_depth hr takesE (aa_cons (ae_ix (ru1 hr) (av 0) ae_int) aa_nil)) aa_nil)))))) ass_nil)
      (ass_one (as_ret ae_int)))))))))), fun ds S Ea Qa h => (sp ds S Ea Qa h).2⟩), T.g_depth, F.kp, F.bindsN (fun _ _ _ _ _ _ us hl => match us, hl with | [_], _ => rfl)⟩
theorem z_depth {P : Program} {w : World} {K : PySem.W.Frag} {mg : Str → Option Value} {base : Heap} (T : Facts K mg w) {k : Nat} : FD P w K mg base "depth" k fun _ _ _ _ => False := by
  obtain ⟨fd, F⟩ := T.d_depth
  exact ⟨_, fd, ["item"], never_ok, T.g_depth, F.kp, F.bindsN (fun _ _ _ _ _ _ us hl => match us, hl with | [_], _ => rfl)⟩
theorem sc_parse : FnScope ["text", "module", "reader", "items", "at"] ["text", "module"] (defScope s_parse) := ⟨rfl, rfl, rfl, by decide +kernel, rfl, by decide +kernel, by decide +kernel⟩
theorem ok_parse {P : Program} {w : World} {K : PySem.W.Frag} {mg : Str → Option Value} {base : Heap} (T : Facts K mg w) {k k' : Nat} (hk : k' + 1 ≤ k) {G : AFn} {F_Reader F_Reader_at F_Reader_accept F_read_import F_read_export F_read_statement F_depth : AFn} (h_Reader : CD P w K mg base "Reader" k' F_Reader) (h_Reader_at : MD P w K mg base "Reader" "at" k F_Reader_at) (h_Reader_accept : MD P w K mg base "Reader" "accept" k F_Reader_accept) (h_read_import : FD P w K mg base "read_import" k F_read_import) (h_read_export : FD P w K mg base "read_export" k F_read_export) (h_read_statement : FD P w K mg base "read_statement" k F_read_statement) (h_depth : FD P w K mg base "depth" k F_depth)
    (sp : ∀ ds S E Q, G ds S E Q → ds.length = 2 ∧ (a_parse F_Reader F_Reader_at F_Reader_accept F_read_import F_read_export F_read_statement F_depth) (bodyEnds Q E) (startA 5 ds) S) : FD P w K mg base "parse" (k + 1) G := by
  obtain ⟨fd, F⟩ := T.d_parse
  exact ⟨_, fd, ["text", "module"], fn_ok F sc_parse (fun ds S E Q h => (sp ds S E Q h).1) (fun cdv A outer s H E hr => ⟨a_parse F_Reader F_Reader_at F_Reader_accept F_read_import F_read_export F_read_statement F_depth, (ass_cons (as_set sc_parse.nd (ae_make h_Reader (hr.mono hk) takesE (aa_cons (av 0) (aa_cons (av 1) aa_nil))))
      (ass_cons (as_set sc_parse.nd (ae_lst aa_nil))
      (ass_cons (as_while passesE (at_cmp ao_lt (ae_fld T.f_Reader_place (av 2)) (ae_callB ac_len T.no_len (aa_cons (ae_fld T.f_Reader_rest (av 2)) aa_nil))) (ass_cons (as_set sc_parse.nd (ae_meth0 h_Reader_at hr takesE (av 2)))
      (ass_cons (as_if (at_val (ae_meth h_Reader_accept hr takesE (av 2) (aa_cons ae_str (aa_cons ae_str aa_nil)))) (ass_one (as_expr (ae_append (av 3) (ae_call h_read_import hr takesE (aa_cons (av 2) (aa_cons (av 4) aa_nil)))))) (ass_one (as_if (at_val (ae_meth h_Reader_accept hr takesE (av 2) (aa_cons ae_str (aa_cons ae_str aa_nil)))) (ass_one (as_set sc_parse.nd (ae_op ao_add (av 3) (ae_call h_read_export hr takesE (aa_cons (av 2) (aa_cons (av 4) aa_nil)))))) (ass_one (as_expr (ae_append (av 3) (ae_call h_read_statement hr takesE (aa_cons (av 2) (aa_cons ae_int aa_nil)))))))))
      (ass_one (as_if (AW.at (aw_or (at_cmp ao_gt (ae_call h_depth hr takesE (aa_cons (ae_ix (ru1 hr) (av 3) (ae_op ao_sub (ae_callB ac_len T.no_len (aa_cons (av 3) aa_nil)) ae_int)) aa_nil)) (ae_glob T.c_MAX_DEPTH)) (aw_or1 (AW.at (aw_and (at_cmp ao_gt (ae_callB ac_len T.no_len (aa_cons (av 3) aa_nil)) ae_int) (aw_and1 (at_cmp ao_gt (ae_call h_depth hr takesE (aa_cons (ae_ix (ru1 hr) (av 3) (ae_op ao_sub (ae_callB ac_len T.no_len (aa_cons (av 3) aa_nil)) ae_int)) aa_nil)) (ae_glob T.c_MAX_DEPTH)))))))) (ass_one as_never) ass_nil)))))
      (ass_one (as_ret (av 3)))))), fun ds S Ea Qa h => (sp ds S Ea Qa h).2⟩), T.g_parse, F.kp, F.bindsN (fun _ _ _ _ _ _ us hl => match us, hl with | [_, _], _ => rfl)⟩
theorem z_parse {P : Program} {w : World} {K : PySem.W.Frag} {mg : Str → Option Value} {base : Heap} (T : Facts K mg w) {k : Nat} : FD P w K mg base "parse" k fun _ _ _ _ => False := by
  obtain ⟨fd, F⟩ := T.d_parse
  exact ⟨_, fd, ["text", "module"], never_ok, T.g_parse, F.kp, F.bindsN (fun _ _ _ _ _ _ us hl => match us, hl with | [_, _], _ => rfl)⟩
theorem sc__law_cell : FnScope ["_law_script", "_law_k"] ["_law_script", "_law_k"] (defScope s__law_cell) := ⟨rfl, rfl, rfl, by decide +kernel, rfl, by decide +kernel, by decide +kernel⟩
theorem ok__law_cell {P : Program} {w : World} {K : PySem.W.Frag} {mg : Str → Option Value} {base : Heap} (T : Facts K mg w) {k : Nat} {G : AFn} 
    (sp : ∀ ds S E Q, G ds S E Q → ds.length = 2 ∧ (a__law_cell) (bodyEnds Q E) (startA 2 ds) S) : FD P w K mg base "_law_cell" (k + 1) G := by
  obtain ⟨fd, F⟩ := T.d__law_cell
  exact ⟨_, fd, ["_law_script", "_law_k"], fn_ok F sc__law_cell (fun ds S E Q h => (sp ds S E Q h).1) (fun cdv A outer s H E hr => ⟨a__law_cell, (ass_cons (as_if (at_cmp ao_lt (av 1) (ae_callB ac_len T.no_len (aa_cons (av 0) aa_nil))) (ass_one (as_ret (ae_callTy ac_int T.no_int (aa_cons (ae_ix (ru1 hr) (av 0) (av 1)) aa_nil)))) ass_nil)
      (ass_one (as_ret ae_int))), fun ds S Ea Qa h => (sp ds S Ea Qa h).2⟩), T.g__law_cell, F.kp, F.bindsN (fun _ _ _ _ _ _ us hl => match us, hl with | [_, _], _ => rfl)⟩
theorem z__law_cell {P : Program} {w : World} {K : PySem.W.Frag} {mg : Str → Option Value} {base : Heap} (T : Facts K mg w) {k : Nat} : FD P w K mg base "_law_cell" k fun _ _ _ _ => False := by
  obtain ⟨fd, F⟩ := T.d__law_cell
  exact ⟨_, fd, ["_law_script", "_law_k"], never_ok, T.g__law_cell, F.kp, F.bindsN (fun _ _ _ _ _ _ us hl => match us, hl with | [_, _], _ => rfl)⟩
theorem sc__law_operand : FnScope ["_law_cell_here", "_law_kind", "_law_n", "_law_name"] ["_law_cell_here"] (defScope s__law_operand) := ⟨rfl, rfl, rfl, by decide +kernel, rfl, by decide +kernel, by decide +kernel⟩
theorem ok__law_operand {P : Program} {w : World} {K : PySem.W.Frag} {mg : Str → Option Value} {base : Heap} (T : Facts K mg w) {k : Nat} {G : AFn} 
    (sp : ∀ ds S E Q, G ds S E Q → ds.length = 1 ∧ (a__law_operand) (bodyEnds Q E) (startA 4 ds) S) : FD P w K mg base "_law_operand" (k + 1) G := by
  obtain ⟨fd, F⟩ := T.d__law_operand
  exact ⟨_, fd, ["_law_cell_here"], fn_ok F sc__law_operand (fun ds S E Q h => (sp ds S E Q h).1) (fun cdv A outer s H E hr => ⟨a__law_operand, (ass_cons (as_set sc__law_operand.nd (ae_op ao_mod (ae_callTy ac_int T.no_int (aa_cons (av 0) aa_nil)) ae_int))
      (ass_cons (as_set sc__law_operand.nd (ae_op ao_mod (ae_callTy ac_int T.no_int (aa_cons (ae_op ao_div (av 0) ae_int) aa_nil)) ae_int))
      (ass_cons (as_set sc__law_operand.nd (ae_ix (ru1 hr) (ae_lst (aa_cons ae_str (aa_cons ae_str (aa_cons ae_str (aa_cons ae_str aa_nil))))) (ae_op ao_mod (ae_callTy ac_int T.no_int (aa_cons (ae_op ao_div (av 0) ae_int) aa_nil)) ae_int)))
      (ass_cons (as_if (at_cmp ao_lt (av 1) ae_int) (ass_one (as_ret (ae_lst (aa_cons (ae_callTy ac_str T.no_str (aa_cons (av 2) aa_nil)) (aa_cons (ae_tup (aa_cons ae_str (aa_cons (av 2) aa_nil))) aa_nil))))) ass_nil)
      (ass_cons (as_if (at_cmp (ao_eq (ru64 hr)) (av 1) ae_int) (ass_one (as_ret (ae_lst (aa_cons (av 3) (aa_cons (ae_tup (aa_cons ae_str (aa_cons (av 3) aa_nil))) aa_nil))))) ass_nil)
      (ass_cons (as_if (at_cmp (ao_eq (ru64 hr)) (av 1) ae_int) (ass_one (as_ret (ae_lst (aa_cons (ae_op ao_add ae_str (av 3)) (aa_cons (ae_tup (aa_cons ae_str (aa_cons ae_str (aa_cons (av 3) aa_nil)))) aa_nil))))) ass_nil)
      (ass_cons (as_if (at_cmp (ao_eq (ru64 hr)) (av 1) ae_int) (ass_one (as_ret (ae_lst (aa_cons (ae_op ao_add (ae_op ao_add (ae_op ao_add (av 3) ae_str) (ae_callTy ac_str T.no_str (aa_cons (av 2) aa_nil))) ae_str) (aa_cons (ae_tup (aa_cons ae_str (aa_cons (ae_tup (aa_cons ae_str (aa_cons (av 3) aa_nil))) (aa_cons (ae_tup (aa_cons (ae_tup (aa_cons ae_str (aa_cons (av 2) aa_nil))) (aa_cons (ae_tup (aa_cons ae_str (aa_cons ae_str aa_nil))) aa_nil))) aa_nil)))) aa_nil))))) ass_nil)
      (ass_one (as_ret (ae_lst (aa_cons ae_str (aa_cons (ae_tup (aa_cons ae_str (aa_cons (ae_tup (aa_cons ae_str (aa_cons ae_bl aa_nil))) aa_nil))) aa_nil)))))))))))), fun ds S Ea Qa h => (sp ds S Ea Qa h).2⟩), T.g__law_operand, F.kp, F.bindsN (fun _ _ _ _ _ _ us hl => match us, hl with | [_], _ => rfl)⟩
theorem z__law_operand {P : Program} {w : World} {K : PySem.W.Frag} {mg : Str → Option Value} {base : Heap} (T : Facts K mg w) {k : Nat} : FD P w K mg base "_law_operand" k fun _ _ _ _ => False := by
  obtain ⟨fd, F⟩ := T.d__law_operand
  exact ⟨_, fd, ["_law_cell_here"], never_ok, T.g__law_operand, F.kp, F.bindsN (fun _ _ _ _ _ _ us hl => match us, hl with | [_], _ => rfl)⟩
theorem sc__law_chain : FnScope ["_law_parts", "_law_signs", "_law_heads", "_law_tree_here", "_law_k"] ["_law_parts", "_law_signs", "_law_heads"] (defScope s__law_chain) := ⟨rfl, rfl, rfl, by decide +kernel, rfl, by decide +kernel, by decide +kernel⟩
theorem ok__law_chain {P : Program} {w : World} {K : PySem.W.Frag} {mg : Str → Option Value} {base : Heap} (T : Facts K mg w) {k : Nat} {G : AFn} 
    (sp : ∀ ds S E Q, G ds S E Q → ds.length = 3 ∧ (a__law_chain) (bodyEnds Q E) (startA 5 ds) S) : FD P w K mg base "_law_chain" (k + 1) G := by
  obtain ⟨fd, F⟩ := T.d__law_chain
  exact ⟨_, fd, ["_law_parts", "_law_signs", "_law_heads"], fn_ok F sc__law_chain (fun ds S E Q h => (sp ds S E Q h).1) (fun cdv A outer s H E hr => ⟨a__law_chain, (ass_cons (as_set sc__law_chain.nd (ae_ix (ru1 hr) (av 0) ae_int))
      (ass_cons (as_for passesE rfl (ai_range1 T.no_range (aa_cons (ae_callB ac_len T.no_len (aa_cons (av 1) aa_nil)) aa_nil)) (ag_name sc__law_chain.nd) (ass_one (as_set sc__law_chain.nd (ae_tup (aa_cons (ae_ix (ru1 hr) (av 2) (ae_ix (ru1 hr) (av 1) (av 4))) (aa_cons (av 3) (aa_cons (ae_ix (ru1 hr) (av 0) (ae_op ao_add (av 4) ae_int)) aa_nil)))))))
      (ass_one (as_ret (av 3))))), fun ds S Ea Qa h => (sp ds S Ea Qa h).2⟩), T.g__law_chain, F.kp, F.bindsN (fun _ _ _ _ _ _ us hl => match us, hl with | [_, _, _], _ => rfl)⟩
theorem z__law_chain {P : Program} {w : World} {K : PySem.W.Frag} {mg : Str → Option Value} {base : Heap} (T : Facts K mg w) {k : Nat} : FD P w K mg base "_law_chain" k fun _ _ _ _ => False := by
  obtain ⟨fd, F⟩ := T.d__law_chain
  exact ⟨_, fd, ["_law_parts", "_law_signs", "_law_heads"], never_ok, T.g__law_chain, F.kp, F.bindsN (fun _ _ _ _ _ _ us hl => match us, hl with | [_, _, _], _ => rfl)⟩
theorem sc__law_split : FnScope ["_law_parts", "_law_signs", "_law_wanted", "_law_groups", "_law_found", "_law_k", "_law_last"] ["_law_parts", "_law_signs", "_law_wanted"] (defScope s__law_split) := ⟨rfl, rfl, rfl, by decide +kernel, rfl, by decide +kernel, by decide +kernel⟩
theorem ok__law_split {P : Program} {w : World} {K : PySem.W.Frag} {mg : Str → Option Value} {base : Heap} (T : Facts K mg w) {k : Nat} {G : AFn} 
    (sp : ∀ ds S E Q, G ds S E Q → ds.length = 3 ∧ (a__law_split) (bodyEnds Q E) (startA 7 ds) S) : FD P w K mg base "_law_split" (k + 1) G := by
  obtain ⟨fd, F⟩ := T.d__law_split
  exact ⟨_, fd, ["_law_parts", "_law_signs", "_law_wanted"], fn_ok F sc__law_split (fun ds S E Q h => (sp ds S E Q h).1) (fun cdv A outer s H E hr => ⟨a__law_split, (ass_cons (as_set sc__law_split.nd (ae_lst (aa_cons (ae_lst (aa_cons (ae_lst (aa_cons (ae_ix (ru1 hr) (av 0) ae_int) aa_nil)) (aa_cons (ae_lst aa_nil) aa_nil))) aa_nil)))
      (ass_cons (as_set sc__law_split.nd (ae_lst aa_nil))
      (ass_cons (as_for passesE rfl (ai_range1 T.no_range (aa_cons (ae_callB ac_len T.no_len (aa_cons (av 1) aa_nil)) aa_nil)) (ag_name sc__law_split.nd) (ass_one (as_if (at_cmp (ao_in (ru65 hr)) (ae_ix (ru1 hr) (av 1) (av 5)) (av 2)) (ass_cons (as_expr (ae_append (av 4) (ae_ix (ru1 hr) (av 1) (av 5))))
      (ass_one (as_expr (ae_append (av 3) (ae_lst (aa_cons (ae_lst (aa_cons (ae_ix (ru1 hr) (av 0) (ae_op ao_add (av 5) ae_int)) aa_nil)) (aa_cons (ae_lst aa_nil) aa_nil))))))) (ass_cons (as_set sc__law_split.nd (ae_ix (ru1 hr) (av 3) (ae_op ao_sub (ae_callB ac_len T.no_len (aa_cons (av 3) aa_nil)) ae_int)))
      (ass_one (as_put2 (ru1 hr) (av 3) (ae_op ao_sub (ae_callB ac_len T.no_len (aa_cons (av 3) aa_nil)) ae_int) (ae_lst (aa_cons (ae_op ao_add (ae_ix (ru1 hr) (av 6) ae_int) (ae_lst (aa_cons (ae_ix (ru1 hr) (av 0) (ae_op ao_add (av 5) ae_int)) aa_nil))) (aa_cons (ae_op ao_add (ae_ix (ru1 hr) (av 6) ae_int) (ae_lst (aa_cons (ae_ix (ru1 hr) (av 1) (av 5)) aa_nil))) aa_nil)))))))))
      (ass_one (as_ret (ae_lst (aa_cons (av 3) (aa_cons (av 4) aa_nil)))))))), fun ds S Ea Qa h => (sp ds S Ea Qa h).2⟩), T.g__law_split, F.kp, F.bindsN (fun _ _ _ _ _ _ us hl => match us, hl with | [_, _, _], _ => rfl)⟩
theorem z__law_split {P : Program} {w : World} {K : PySem.W.Frag} {mg : Str → Option Value} {base : Heap} (T : Facts K mg w) {k : Nat} : FD P w K mg base "_law_split" k fun _ _ _ _ => False := by
  obtain ⟨fd, F⟩ := T.d__law_split
  exact ⟨_, fd, ["_law_parts", "_law_signs", "_law_wanted"], never_ok, T.g__law_split, F.kp, F.bindsN (fun _ _ _ _ _ _ us hl => match us, hl with | [_, _, _], _ => rfl)⟩
theorem sc__law_tree : FnScope ["_law_parts", "_law_signs", "_law_level", "_law_levels", "_law_heads", "_law_groups", "_law_found", "_law_group"] ["_law_parts", "_law_signs", "_law_level"] (defScope s__law_tree) := ⟨rfl, rfl, rfl, by decide +kernel, rfl, by decide +kernel, by decide +kernel⟩
theorem ok__law_tree {P : Program} {w : World} {K : PySem.W.Frag} {mg : Str → Option Value} {base : Heap} (T : Facts K mg w) {k : Nat} {G : AFn} {F__law_split F__law_tree F__law_chain : AFn} (h__law_split : FD P w K mg base "_law_split" k F__law_split) (h__law_tree : FD P w K mg base "_law_tree" k F__law_tree) (h__law_chain : FD P w K mg base "_law_chain" k F__law_chain)
    (sp : ∀ ds S E Q, G ds S E Q → ds.length = 3 ∧ (a__law_tree F__law_split F__law_tree F__law_chain) (bodyEnds Q E) (startA 8 ds) S) : FD P w K mg base "_law_tree" (k + 1) G := by
  obtain ⟨fd, F⟩ := T.d__law_tree
  exact ⟨_, fd, ["_law_parts", "_law_signs", "_law_level"], fn_ok F sc__law_tree (fun ds S E Q h => (sp ds S E Q h).1) (fun cdv A outer s H E hr => ⟨a__law_tree F__law_split F__law_tree F__law_chain, (ass_cons (as_set sc__law_tree.nd (ae_lst (aa_cons (ae_lst (aa_cons ae_str aa_nil)) (aa_cons (ae_lst (aa_cons ae_str aa_nil)) (aa_cons (ae_lst (aa_cons ae_str (aa_cons ae_str aa_nil))) (aa_cons (ae_lst (aa_cons ae_str (aa_cons ae_str aa_nil))) (aa_cons (ae_lst (aa_cons ae_str aa_nil)) aa_nil)))))))
      (ass_cons (as_set sc__law_tree.nd (ae_disp (apx_cons ae_str ae_str (apx_cons ae_str ae_str (apx_cons ae_str ae_str (apx_cons ae_str ae_str (apx_cons ae_str ae_str (apx_cons ae_str ae_str (apx_cons ae_str ae_str apx_nil)))))))))
      (ass_cons (as_if (at_cmp (ao_eq (ru64 hr)) (av 2) ae_int) (ass_one (as_ret (ae_ix (ru1 hr) (av 0) ae_int))) ass_nil)
      (ass_cons (as_asg (ae_call h__law_split hr takesE (aa_cons (av 0) (aa_cons (av 1) (aa_cons (ae_ix (ru1 hr) (av 3) (av 2)) aa_nil)))) (ag_tup rfl (ags_cons (ag_name sc__law_tree.nd) (ags_cons (ag_name sc__law_tree.nd) ags_nil))))
      (ass_one (as_ret (ae_call h__law_chain hr takesE (aa_cons (ae_lc rfl sc__law_tree.nd [("_law_group", 7)] (ai_any (av 5)) (agc_name (by decide) sc__law_tree.nd) (fun _ _ _ _ _ => aifs_nil) (fun _ _ _ _ _ => (ae_call h__law_tree hr takesB (aa_cons (ae_ix (ru1 hr) (av 7) ae_int) (aa_cons (ae_ix (ru1 hr) (av 7) ae_int) (aa_cons (ae_op ao_add (av 2) ae_int) aa_nil)))))) (aa_cons (av 6) (aa_cons (av 4) aa_nil)))))))))), fun ds S Ea Qa h => (sp ds S Ea Qa h).2⟩), T.g__law_tree, F.kp, F.bindsN (fun _ _ _ _ _ _ us hl => match us, hl with | [_, _, _], _ => rfl)⟩
theorem z__law_tree {P : Program} {w : World} {K : PySem.W.Frag} {mg : Str → Option Value} {base : Heap} (T : Facts K mg w) {k : Nat} : FD P w K mg base "_law_tree" k fun _ _ _ _ => False := by
  obtain ⟨fd, F⟩ := T.d__law_tree
  exact ⟨_, fd, ["_law_parts", "_law_signs", "_law_level"], never_ok, T.g__law_tree, F.kp, F.bindsN (fun _ _ _ _ _ _ us hl => match us, hl with | [_, _, _], _ => rfl)⟩
theorem sc_law : FnScope ["_law_script", "_law_parts", "_law_signs", "_law_text", "_law_compared", "_law_k", "_law_cell_here", "_law_shown", "_law_tree_here", "_law_sign", "_law_items", "_law_due"] ["_law_script"] (defScope s_law) := ⟨rfl, rfl, rfl, by decide +kernel, rfl, by decide +kernel, by decide +kernel⟩
theorem ok_law {P : Program} {w : World} {K : PySem.W.Frag} {mg : Str → Option Value} {base : Heap} (T : Facts K mg w) {k : Nat} {G : AFn} {F__law_cell F__law_operand F_parse F__law_tree : AFn} (h__law_cell : FD P w K mg base "_law_cell" k F__law_cell) (h__law_operand : FD P w K mg base "_law_operand" k F__law_operand) (h_parse : FD P w K mg base "parse" k F_parse) (h__law_tree : FD P w K mg base "_law_tree" k F__law_tree)
    (sp : ∀ ds S E Q, G ds S E Q → ds.length = 1 ∧ (a_law F__law_cell F__law_operand F_parse F__law_tree) (bodyEnds Q E) (startA 12 ds) S) : FD P w K mg base "law" (k + 1) G := by
  obtain ⟨fd, F⟩ := T.d_law
  exact ⟨_, fd, ["_law_script"], fn_ok F sc_law (fun ds S E Q h => (sp ds S E Q h).1) (fun cdv A outer s H E hr => ⟨a_law F__law_cell F__law_operand F_parse F__law_tree, (ass_cons (as_set sc_law.nd (ae_lst aa_nil))
      (ass_cons (as_set sc_law.nd (ae_lst aa_nil))
      (ass_cons (as_set sc_law.nd ae_str)
      (ass_cons (as_set sc_law.nd ae_bl)
      (ass_cons (as_for passesE rfl (ai_range1 T.no_range (aa_cons (ae_op ao_add ae_int (ae_callB (ac_min rfl) T.no_min (aa_cons (ae_callB ac_len T.no_len (aa_cons (av 0) aa_nil)) (aa_cons ae_int aa_nil)))) aa_nil)) (ag_name sc_law.nd) (ass_cons (as_set sc_law.nd (ae_callB ac_abs T.no_abs (aa_cons (ae_call h__law_cell hr takesE (aa_cons (av 0) (aa_cons (av 5) aa_nil))) aa_nil)))
      (ass_cons (as_asg (ae_call h__law_operand hr takesE (aa_cons (ae_op ao_div (av 6) ae_int) aa_nil)) (ag_tup rfl (ags_cons (ag_name sc_law.nd) (ags_cons (ag_name sc_law.nd) ags_nil))))
      (ass_cons (as_if (at_cmp ao_gt (av 5) ae_int) (ass_cons (as_set sc_law.nd (ae_ix (ru1 hr) (ae_lst (aa_cons ae_str (aa_cons ae_str (aa_cons ae_str (aa_cons ae_str (aa_cons ae_str (aa_cons ae_str (aa_cons ae_str (aa_cons ae_str aa_nil))))))))) (ae_op ao_mod (ae_callTy ac_int T.no_int (aa_cons (av 6) aa_nil)) ae_int)))
      (ass_cons (as_if (AW.at (aw_and (at_val (av 4)) (aw_and1 (at_cmp (ao_in (ru65 hr)) (av 9) (ae_lst (aa_cons ae_str (aa_cons ae_str aa_nil))))))) (ass_one (as_set sc_law.nd ae_str)) ass_nil)
      (ass_cons (as_set sc_law.nd (ae_or (ae_cmp (ao_in (ru65 hr)) (av 9) (ae_lst (aa_cons ae_str (aa_cons ae_str aa_nil)))) (ae_one (ae_and (av 4) (ae_one (ae_cmp (ao_notin (ru65 hr)) (av 9) (ae_lst (aa_cons ae_str (aa_cons ae_str aa_nil)))))))))
      (ass_cons (as_expr (ae_append (av 2) (av 9)))
      (ass_one (as_set sc_law.nd (ae_op ao_add (ae_op ao_add (ae_op ao_add (av 3) (ae_ix (ru1 hr) (ae_lst (aa_cons ae_str (aa_cons ae_str aa_nil))) (ae_op ao_mod (ae_callTy ac_int T.no_int (aa_cons (ae_op ao_div (av 6) ae_int) aa_nil)) ae_int))) (av 9)) ae_str))))))) ass_nil)
      (ass_cons (as_expr (ae_append (av 1) (av 8)))
      (ass_one (as_set sc_law.nd (ae_op ao_add (av 3) (av 7)))))))))
      (ass_cons (as_set sc_law.nd (ae_call h_parse hr takesE (aa_cons (ae_op ao_add (ae_op ao_add ae_str (av 3)) ae_str) (aa_cons ae_str aa_nil))))
      (ass_cons (as_set sc_law.nd (ae_lst (aa_cons (ae_tup (aa_cons ae_str (aa_cons ae_str (aa_cons (ae_call h__law_tree hr takesE (aa_cons (av 1) (aa_cons (av 2) (aa_cons ae_int aa_nil)))) (aa_cons ae_int aa_nil))))) aa_nil)))
      (ass_one (as_ret (ae_and (ae_isi (.inl rfl) T.no_isinstance T.no_list Boot.«list» (av 10)) (ae_one (ae_cmp (ao_eq (ru64 hr)) (ae_callB (ac_repr hr.gs (ru66 hr)) T.no_repr (aa_cons (av 10) aa_nil)) (ae_callB (ac_repr hr.gs (ru66 hr)) T.no_repr (aa_cons (av 11) aa_nil)))))))))))))), fun ds S Ea Qa h => (sp ds S Ea Qa h).2⟩), T.g_law, F.kp, F.bindsN (fun _ _ _ _ _ _ us hl => match us, hl with | [_], _ => rfl)⟩
theorem z_law {P : Program} {w : World} {K : PySem.W.Frag} {mg : Str → Option Value} {base : Heap} (T : Facts K mg w) {k : Nat} : FD P w K mg base "law" k fun _ _ _ _ => False := by
  obtain ⟨fd, F⟩ := T.d_law
  exact ⟨_, fd, ["_law_script"], never_ok, T.g_law, F.kp, F.bindsN (fun _ _ _ _ _ _ us hl => match us, hl with | [_], _ => rfl)⟩
end Rw
namespace Hd
open PySem PySem.Spec
open PyProof.Rows L2 AL Ab Rw
def fa_0 : List (He.Fa) := [.free "abs", .free "all", .free "int", .free "isinstance", .free "len", .free "list", .free "max", .free "min", .free "range", .free "repr", .free "str", .free "tuple", .cls "Reader", .noat "Reader" "inside", .noat "Reader" "limit", .noat "Reader" "module", .noat "Reader" "place", .noat "Reader" "rest", .glo "is_letter", .glo "is_digit", .glo "in_name", .glo "run_end", .glo "comment_end", .glo "read_word", .glo "read_number", .glo "read_string", .glo "read_sign", .glo "read_token", .glo "tokens", .meth "Reader" "at"]
def fa_1 : List (He.Fa) := [.meth "Reader" "sees", .meth "Reader" "sees_kind", .meth "Reader" "follows", .meth "Reader" "accept", .meth "Reader" "expect", .meth "Reader" "read", .meth "Reader" "deeper", .glo "read_parameters", .glo "read_body", .glo "read_arguments", .glo "read_primary", .glo "read_call", .glo "read_product", .glo "read_sum", .glo "read_plain", .glo "read_both", .glo "read_expression", .glo "read_block", .glo "read_let", .glo "read_fun", .glo "read_compound", .glo "read_simple", .glo "read_statement", .glo "read_pairs", .glo "read_from", .glo "read_import", .glo "read_export", .glo "expression_depth", .glo "block_depth", .glo "depth"]
def fa_2 : List (He.Fa) := [.glo "parse", .glo "_law_cell", .glo "_law_operand", .glo "_law_chain", .glo "_law_split", .glo "_law_tree", .glo "law", .glo "Reader", .mkr "Reader"]
def fa : List (He.Fa) := fa_0 ++ fa_1 ++ fa_2
def fn_0 : List (He.DefD) := [⟨("is_letter", none), "is_letter", "is_letter", defArgs s_is_letter, defBody s_is_letter, defScope s_is_letter, [], []⟩, ⟨("is_digit", none), "is_digit", "is_digit", defArgs s_is_digit, defBody s_is_digit, defScope s_is_digit, [], []⟩, ⟨("in_name", none), "in_name", "in_name", defArgs s_in_name, defBody s_in_name, defScope s_in_name, [], []⟩, ⟨("run_end", none), "run_end", "run_end", defArgs s_run_end, defBody s_run_end, defScope s_run_end, [], []⟩, ⟨("comment_end", none), "comment_end", "comment_end", defArgs s_comment_end, defBody s_comment_end, defScope s_comment_end, [], []⟩, ⟨("read_word", none), "read_word", "read_word", defArgs s_read_word, defBody s_read_word, defScope s_read_word, [], []⟩, ⟨("read_number", none), "read_number", "read_number", defArgs s_read_number, defBody s_read_number, defScope s_read_number, [], []⟩, ⟨("read_string", none), "read_string", "read_string", defArgs s_read_string, defBody s_read_string, defScope s_read_string, [], []⟩, ⟨("read_sign", none), "read_sign", "read_sign", defArgs s_read_sign, defBody s_read_sign, defScope s_read_sign, [], []⟩, ⟨("read_token", none), "read_token", "read_token", defArgs s_read_token, defBody s_read_token, defScope s_read_token, [], []⟩, ⟨("tokens", none), "tokens", "tokens", defArgs s_tokens, defBody s_tokens, defScope s_tokens, [], []⟩, ⟨("Reader", some "__init__"), "__init__", "Reader.__init__", defArgs s_Reader_init, defBody s_Reader_init, defScope s_Reader_init, [], []⟩, ⟨("Reader", some "at"), "at", "Reader.at", defArgs s_Reader_at, defBody s_Reader_at, defScope s_Reader_at, [], []⟩, ⟨("Reader", some "sees"), "sees", "Reader.sees", defArgs s_Reader_sees, defBody s_Reader_sees, defScope s_Reader_sees, [], []⟩, ⟨("Reader", some "sees_kind"), "sees_kind", "Reader.sees_kind", defArgs s_Reader_sees_kind, defBody s_Reader_sees_kind, defScope s_Reader_sees_kind, [], []⟩, ⟨("Reader", some "follows"), "follows", "Reader.follows", defArgs s_Reader_follows, defBody s_Reader_follows, defScope s_Reader_follows, [], []⟩, ⟨("Reader", some "accept"), "accept", "Reader.accept", defArgs s_Reader_accept, defBody s_Reader_accept, defScope s_Reader_accept, [], []⟩, ⟨("Reader", some "expect"), "expect", "Reader.expect", defArgs s_Reader_expect, defBody s_Reader_expect, defScope s_Reader_expect, [], []⟩, ⟨("Reader", some "read"), "read", "Reader.read", defArgs s_Reader_read, defBody s_Reader_read, defScope s_Reader_read, [], []⟩, ⟨("Reader", some "deeper"), "deeper", "Reader.deeper", defArgs s_Reader_deeper, defBody s_Reader_deeper, defScope s_Reader_deeper, [], []⟩, ⟨("read_parameters", none), "read_parameters", "read_parameters", defArgs s_read_parameters, defBody s_read_parameters, defScope s_read_parameters, [], []⟩, ⟨("read_body", none), "read_body", "read_body", defArgs s_read_body, defBody s_read_body, defScope s_read_body, [], []⟩, ⟨("read_arguments", none), "read_arguments", "read_arguments", defArgs s_read_arguments, defBody s_read_arguments, defScope s_read_arguments, [], []⟩, ⟨("read_primary", none), "read_primary", "read_primary", defArgs s_read_primary, defBody s_read_primary, defScope s_read_primary, [], []⟩, ⟨("read_call", none), "read_call", "read_call", defArgs s_read_call, defBody s_read_call, defScope s_read_call, [], []⟩, ⟨("read_product", none), "read_product", "read_product", defArgs s_read_product, defBody s_read_product, defScope s_read_product, [], []⟩, ⟨("read_sum", none), "read_sum", "read_sum", defArgs s_read_sum, defBody s_read_sum, defScope s_read_sum, [], []⟩, ⟨("read_plain", none), "read_plain", "read_plain", defArgs s_read_plain, defBody s_read_plain, defScope s_read_plain, [], []⟩, ⟨("read_both", none), "read_both", "read_both", defArgs s_read_both, defBody s_read_both, defScope s_read_both, [], []⟩, ⟨("read_expression", none), "read_expression", "read_expression", defArgs s_read_expression, defBody s_read_expression, defScope s_read_expression, [], []⟩]
def fn_1 : List (He.DefD) := [⟨("read_block", none), "read_block", "read_block", defArgs s_read_block, defBody s_read_block, defScope s_read_block, [], []⟩, ⟨("read_let", none), "read_let", "read_let", defArgs s_read_let, defBody s_read_let, defScope s_read_let, [], []⟩, ⟨("read_fun", none), "read_fun", "read_fun", defArgs s_read_fun, defBody s_read_fun, defScope s_read_fun, [], []⟩, ⟨("read_compound", none), "read_compound", "read_compound", defArgs s_read_compound, defBody s_read_compound, defScope s_read_compound, [], []⟩, ⟨("read_simple", none), "read_simple", "read_simple", defArgs s_read_simple, defBody s_read_simple, defScope s_read_simple, [], []⟩, ⟨("read_statement", none), "read_statement", "read_statement", defArgs s_read_statement, defBody s_read_statement, defScope s_read_statement, [], []⟩, ⟨("read_pairs", none), "read_pairs", "read_pairs", defArgs s_read_pairs, defBody s_read_pairs, defScope s_read_pairs, [], []⟩, ⟨("read_from", none), "read_from", "read_from", defArgs s_read_from, defBody s_read_from, defScope s_read_from, [], []⟩, ⟨("read_import", none), "read_import", "read_import", defArgs s_read_import, defBody s_read_import, defScope s_read_import, [], []⟩, ⟨("read_export", none), "read_export", "read_export", defArgs s_read_export, defBody s_read_export, defScope s_read_export, [], []⟩, ⟨("expression_depth", none), "expression_depth", "expression_depth", defArgs s_expression_depth, defBody s_expression_depth, defScope s_expression_depth, [], []⟩, ⟨("block_depth", none), "block_depth", "block_depth", defArgs s_block_depth, defBody s_block_depth, defScope s_block_depth, [], []⟩, ⟨("depth", none), "depth", "depth", defArgs s_depth, defBody s_depth, defScope s_depth, [], []⟩, ⟨("parse", none), "parse", "parse", defArgs s_parse, defBody s_parse, defScope s_parse, [], []⟩, ⟨("_law_cell", none), "_law_cell", "_law_cell", defArgs s__law_cell, defBody s__law_cell, defScope s__law_cell, [], []⟩, ⟨("_law_operand", none), "_law_operand", "_law_operand", defArgs s__law_operand, defBody s__law_operand, defScope s__law_operand, [], []⟩, ⟨("_law_chain", none), "_law_chain", "_law_chain", defArgs s__law_chain, defBody s__law_chain, defScope s__law_chain, [], []⟩, ⟨("_law_split", none), "_law_split", "_law_split", defArgs s__law_split, defBody s__law_split, defScope s__law_split, [], []⟩, ⟨("_law_tree", none), "_law_tree", "_law_tree", defArgs s__law_tree, defBody s__law_tree, defScope s__law_tree, [], []⟩, ⟨("law", none), "law", "law", defArgs s_law, defBody s_law, defScope s_law, [], []⟩]
def fn : List (He.DefD) := fn_0 ++ fn_1
def cs_0 : List (Str × D) := [("MAX_TEXT", C_MAX_TEXT), ("MAX_NAME", C_MAX_NAME), ("RESERVED", C_RESERVED), ("SIGNS", C_SIGNS), ("MAX_NESTING", C_MAX_NESTING), ("MAX_DEPTH", C_MAX_DEPTH)]
def cs : List (Str × D) := cs_0
def ks_0 : List (Str × List (Str × D)) := [("SUMS", K_SUMS), ("COMPARISONS", K_COMPARISONS)]
def ks : List (Str × List (Str × D)) := ks_0
theorem facts {K : PySem.W.Frag} {h : Heap} {mg : Str → Option Value} (X : K.In h) (G : h.Ns mainGlobals mg) {w : World} (c : SaysK fa fn cs ks w K) : Rw.Facts K mg w where
  no_abs := He.free_ok X G (c.t.fact 0 rfl)
  no_all := He.free_ok X G (c.t.fact 1 rfl)
  no_int := He.free_ok X G (c.t.fact 2 rfl)
  no_isinstance := He.free_ok X G (c.t.fact 3 rfl)
  no_len := He.free_ok X G (c.t.fact 4 rfl)
  no_list := He.free_ok X G (c.t.fact 5 rfl)
  no_max := He.free_ok X G (c.t.fact 6 rfl)
  no_min := He.free_ok X G (c.t.fact 7 rfl)
  no_range := He.free_ok X G (c.t.fact 8 rfl)
  no_repr := He.free_ok X G (c.t.fact 9 rfl)
  no_str := He.free_ok X G (c.t.fact 10 rfl)
  no_tuple := He.free_ok X G (c.t.fact 11 rfl)
  c_MAX_TEXT := csB_ok X G c.c 0 rfl
  c_MAX_NAME := csB_ok X G c.c 1 rfl
  c_RESERVED := csB_ok X G c.c 2 rfl
  c_SIGNS := csB_ok X G c.c 3 rfl
  c_MAX_NESTING := csB_ok X G c.c 4 rfl
  c_MAX_DEPTH := csB_ok X G c.c 5 rfl
  k_SUMS := glk_ok X G c 0 rfl
  k_COMPARISONS := glk_ok X G c 1 rfl
  f_Reader_inside := field_ok (c.t.fact 12 rfl) (c.t.fact 13 rfl)
  f_Reader_limit := field_ok (c.t.fact 12 rfl) (c.t.fact 14 rfl)
  f_Reader_module := field_ok (c.t.fact 12 rfl) (c.t.fact 15 rfl)
  f_Reader_place := field_ok (c.t.fact 12 rfl) (c.t.fact 16 rfl)
  f_Reader_rest := field_ok (c.t.fact 12 rfl) (c.t.fact 17 rfl)
  d_is_letter := c.t.def_ 0 rfl
  g_is_letter := He.glo_ok X G (c.t.fact 18 rfl)
  d_is_digit := c.t.def_ 1 rfl
  g_is_digit := He.glo_ok X G (c.t.fact 19 rfl)
  d_in_name := c.t.def_ 2 rfl
  g_in_name := He.glo_ok X G (c.t.fact 20 rfl)
  d_run_end := c.t.def_ 3 rfl
  g_run_end := He.glo_ok X G (c.t.fact 21 rfl)
  d_comment_end := c.t.def_ 4 rfl
  g_comment_end := He.glo_ok X G (c.t.fact 22 rfl)
  d_read_word := c.t.def_ 5 rfl
  g_read_word := He.glo_ok X G (c.t.fact 23 rfl)
  d_read_number := c.t.def_ 6 rfl
  g_read_number := He.glo_ok X G (c.t.fact 24 rfl)
  d_read_string := c.t.def_ 7 rfl
  g_read_string := He.glo_ok X G (c.t.fact 25 rfl)
  d_read_sign := c.t.def_ 8 rfl
  g_read_sign := He.glo_ok X G (c.t.fact 26 rfl)
  d_read_token := c.t.def_ 9 rfl
  g_read_token := He.glo_ok X G (c.t.fact 27 rfl)
  d_tokens := c.t.def_ 10 rfl
  g_tokens := He.glo_ok X G (c.t.fact 28 rfl)
  d_Reader_init := c.t.def_ 11 rfl
  d_Reader_at := c.t.def_ 12 rfl
  m_Reader_at := He.meth_ok (c.t.fact 29 rfl)
  d_Reader_sees := c.t.def_ 13 rfl
  m_Reader_sees := He.meth_ok (c.t.fact 30 rfl)
  d_Reader_sees_kind := c.t.def_ 14 rfl
  m_Reader_sees_kind := He.meth_ok (c.t.fact 31 rfl)
  d_Reader_follows := c.t.def_ 15 rfl
  m_Reader_follows := He.meth_ok (c.t.fact 32 rfl)
  d_Reader_accept := c.t.def_ 16 rfl
  m_Reader_accept := He.meth_ok (c.t.fact 33 rfl)
  d_Reader_expect := c.t.def_ 17 rfl
  m_Reader_expect := He.meth_ok (c.t.fact 34 rfl)
  d_Reader_read := c.t.def_ 18 rfl
  m_Reader_read := He.meth_ok (c.t.fact 35 rfl)
  d_Reader_deeper := c.t.def_ 19 rfl
  m_Reader_deeper := He.meth_ok (c.t.fact 36 rfl)
  d_read_parameters := c.t.def_ 20 rfl
  g_read_parameters := He.glo_ok X G (c.t.fact 37 rfl)
  d_read_body := c.t.def_ 21 rfl
  g_read_body := He.glo_ok X G (c.t.fact 38 rfl)
  d_read_arguments := c.t.def_ 22 rfl
  g_read_arguments := He.glo_ok X G (c.t.fact 39 rfl)
  d_read_primary := c.t.def_ 23 rfl
  g_read_primary := He.glo_ok X G (c.t.fact 40 rfl)
  d_read_call := c.t.def_ 24 rfl
  g_read_call := He.glo_ok X G (c.t.fact 41 rfl)
  d_read_product := c.t.def_ 25 rfl
  g_read_product := He.glo_ok X G (c.t.fact 42 rfl)
  d_read_sum := c.t.def_ 26 rfl
  g_read_sum := He.glo_ok X G (c.t.fact 43 rfl)
  d_read_plain := c.t.def_ 27 rfl
  g_read_plain := He.glo_ok X G (c.t.fact 44 rfl)
  d_read_both := c.t.def_ 28 rfl
  g_read_both := He.glo_ok X G (c.t.fact 45 rfl)
  d_read_expression := c.t.def_ 29 rfl
  g_read_expression := He.glo_ok X G (c.t.fact 46 rfl)
  d_read_block := c.t.def_ 30 rfl
  g_read_block := He.glo_ok X G (c.t.fact 47 rfl)
  d_read_let := c.t.def_ 31 rfl
  g_read_let := He.glo_ok X G (c.t.fact 48 rfl)
  d_read_fun := c.t.def_ 32 rfl
  g_read_fun := He.glo_ok X G (c.t.fact 49 rfl)
  d_read_compound := c.t.def_ 33 rfl
  g_read_compound := He.glo_ok X G (c.t.fact 50 rfl)
  d_read_simple := c.t.def_ 34 rfl
  g_read_simple := He.glo_ok X G (c.t.fact 51 rfl)
  d_read_statement := c.t.def_ 35 rfl
  g_read_statement := He.glo_ok X G (c.t.fact 52 rfl)
  d_read_pairs := c.t.def_ 36 rfl
  g_read_pairs := He.glo_ok X G (c.t.fact 53 rfl)
  d_read_from := c.t.def_ 37 rfl
  g_read_from := He.glo_ok X G (c.t.fact 54 rfl)
  d_read_import := c.t.def_ 38 rfl
  g_read_import := He.glo_ok X G (c.t.fact 55 rfl)
  d_read_export := c.t.def_ 39 rfl
  g_read_export := He.glo_ok X G (c.t.fact 56 rfl)
  d_expression_depth := c.t.def_ 40 rfl
  g_expression_depth := He.glo_ok X G (c.t.fact 57 rfl)
  d_block_depth := c.t.def_ 41 rfl
  g_block_depth := He.glo_ok X G (c.t.fact 58 rfl)
  d_depth := c.t.def_ 42 rfl
  g_depth := He.glo_ok X G (c.t.fact 59 rfl)
  d_parse := c.t.def_ 43 rfl
  g_parse := He.glo_ok X G (c.t.fact 60 rfl)
  d__law_cell := c.t.def_ 44 rfl
  g__law_cell := He.glo_ok X G (c.t.fact 61 rfl)
  d__law_operand := c.t.def_ 45 rfl
  g__law_operand := He.glo_ok X G (c.t.fact 62 rfl)
  d__law_chain := c.t.def_ 46 rfl
  g__law_chain := He.glo_ok X G (c.t.fact 63 rfl)
  d__law_split := c.t.def_ 47 rfl
  g__law_split := He.glo_ok X G (c.t.fact 64 rfl)
  d__law_tree := c.t.def_ 48 rfl
  g__law_tree := He.glo_ok X G (c.t.fact 65 rfl)
  d_law := c.t.def_ 49 rfl
  g_law := He.glo_ok X G (c.t.fact 66 rfl)
  k_Reader := He.cls_ok (c.t.fact 12 rfl)
  mk_Reader := ⟨He.glo_ok X G (c.t.fact 67 rfl), He.mkr_ok (c.t.fact 68 rfl)⟩
def loose_0 : List (PySem.Str) := ["Refused", "Malformed", "Oversized", "MAX_TEXT", "MAX_NAME", "RESERVED", "SIGNS", "is_letter", "is_digit", "in_name", "run_end", "comment_end", "read_word", "read_number", "read_string", "read_sign", "read_token", "tokens", "MAX_NESTING", "MAX_DEPTH", "SUMS", "COMPARISONS", "Reader", "read_parameters", "read_body", "read_arguments", "read_primary", "read_call", "read_product", "read_sum"]
def loose_1 : List (PySem.Str) := ["read_plain", "read_both", "read_expression", "read_block", "read_let", "read_fun", "read_compound", "read_simple", "read_statement", "read_pairs", "read_from", "read_import", "read_export", "expression_depth", "block_depth", "depth", "parse", "_law_cell", "_law_operand", "_law_chain", "_law_split", "_law_tree"]
def loose : List (PySem.Str) := loose_0 ++ loose_1
abbrev LW : PySem.W.OpenLaw := PySem.Challenge.rw_fascicle_k02_chains_of_operators
abbrev R : PySem.W.OpenRow := PySem.W.OpenLaw.row LW
abbrev hk : PySem.W.Hook := hookK 5 fa fn cs ks
def ob (s : PySem.W.SharedT) : He.AlT × Bool := obsK 5 fa fn cs ks (HandSHeadRun.getT s)
theorem ob_eq (s : PySem.W.SharedT) : ob s = hk.obs s.abs := obsK_eq (HandSHeadRun.getT_eq s)
theorem run (w : World) : HandSHeadRun.RunEq R (PySem.W.view R.prog [56]) hk ob 3000 loose w :=
  PySem.W.byRow2 "special-get-raises" (P := fun w => HandSHeadRun.RunEq R (PySem.W.view R.prog [56]) hk ob 3000 loose w) (fun w => by intro os; kernel_rfl) (fun w => by intro os; kernel_rfl) w
end Hd
open PySem PySem.W
open PySem.Calls PyProof.Rows
theorem hd_holds {k : Nat} (room : AL.RG k callerA) (hF : ∀ (w : World) (K : PySem.W.Frag) (mg : PySem.Str → Option Value) (base : Heap), Rw.Facts K mg w → AL.FD Hd.LW.prog w K mg base "law" k AL.lawF) : Hd.LW.Holds := by
  w_on; o_law
  refine HandSHeadRun.head_any (r := OpenLaw.row Hd.LW) (q := view (OpenLaw.row Hd.LW).prog [56]) (H := Hd.hk) (ob := Hd.ob) (M := 3000) (loose := Hd.loose) (d := HandSHeadRun.topDef (OpenLaw.row Hd.LW).prog 56) (kwd := []) Hd.ob_eq
    (by kernel_rfl) (fun s => by kernel_rfl) Hd.run (by kernel_rfl) (by kernel_rfl) (by kernel_rfl) (by rfl) (by first | assumption | decide +kernel) (by decide +kernel) ⟨rfl, rfl, rfl, rfl, rfl, by decide +kernel⟩ ?hw ?hc
  case hw => w_witness2
  case hc =>
    refine AL.law_walk (l := Hd.LW) (k := k) rfl (by kernel_rfl) room ?F
    intro w mg fa h Y G hmg0
    obtain ⟨K, KX, c⟩ := Y
    have e : (HandSHeadRun.topDef (OpenLaw.row Hd.LW).prog 56).name = ("law" : PySem.Str) := by kernel_rfl
    rw [e] at hmg0 ⊢
    exact ⟨K, KX, fun base => hF w K mg base (Hd.facts KX G c)⟩
namespace Fi
open PySem PySem.Spec
open PyProof.Rows L2 AL Ab Lx Ps Pl Lw Rw
section
variable {P : Program} {w : World} {K : PySem.W.Frag} {mg : Str → Option Value} {base : Heap} (T : Facts K mg w)
include T
theorem l_tokens : FD P w K mg base "tokens" 6 GTokens := by
  have le : ∀ k, FD P w K mg base "is_letter" (k + 1) (G1 letter) := fun k => ok_is_letter T sp_letter
  have di : ∀ k, FD P w K mg base "is_digit" (k + 1) (G1 digit) := fun k => ok_is_digit T sp_digit
  have nm : FD P w K mg base "in_name" 2 (G1 inName) := ok_in_name T (le 0) (di 0) sp_inname
  have ru : FD P w K mg base "run_end" 3 GRun := ok_run_end T nm sp_run
  have wo : FD P w K mg base "read_word" 4 GWord := ok_read_word T ru sp_word
  have nu : FD P w K mg base "read_number" 4 GNum := ok_read_number T ru (di 2) sp_number
  have sr : FD P w K mg base "read_string" 4 GStr := ok_read_string T ru sp_string
  have si : FD P w K mg base "read_sign" 4 GSign := ok_read_sign T sp_sign
  have tk : FD P w K mg base "read_token" 5 GTok := ok_read_token T (le 3) wo (di 3) nu sr si sp_token
  have co : FD P w K mg base "comment_end" 5 GCom := ok_comment_end T sp_com
  exact ok_tokens T co tk sp_tokens
theorem m_sees (k : Nat) : MD P w K mg base "Reader" "sees" (k + 1) GSees := ok_Reader_sees T sp_sees
theorem m_seesK (k : Nat) : MD P w K mg base "Reader" "sees_kind" (k + 1) GSeesK := ok_Reader_sees_kind T sp_seesK
theorem m_acc (k : Nat) : MD P w K mg base "Reader" "accept" (k + 2) GAcc := ok_Reader_accept T (m_sees T k) sp_acc
theorem m_exp (k : Nat) : MD P w K mg base "Reader" "expect" (k + 3) GExp := ok_Reader_expect T (m_acc T k) sp_expct
theorem m_read (k : Nat) : MD P w K mg base "Reader" "read" (k + 2) GRead := ok_Reader_read T (m_seesK T k) sp_read
theorem m_deep (k : Nat) : MD P w K mg base "Reader" "deeper" (k + 1) GDeep := ok_Reader_deeper T sp_deep
theorem m_at (k : Nat) : MD P w K mg base "Reader" "at" (k + 1) GAt := ok_Reader_at T sp_at
structure Exprs (k : Nat) : Prop where
  args : FD P w K mg base "read_arguments" (k + 4) (GP .args k)
  prim : FD P w K mg base "read_primary" (k + 4) (GP .prim k)
  call : FD P w K mg base "read_call" (k + 4) (GP .call k)
  prod : FD P w K mg base "read_product" (k + 4) (GP (.bin .prod) k)
  sum : FD P w K mg base "read_sum" (k + 4) (GP .sum k)
  plain : FD P w K mg base "read_plain" (k + 4) (GP .plain k)
  both : FD P w K mg base "read_both" (k + 4) (GP (.bin .both) k)
  ex : FD P w K mg base "read_expression" (k + 4) (GP .ex k)
theorem l_exprs : ∀ k : Nat, Exprs (P := P) (w := w) (K := K) (mg := mg) (base := base) k
  | 0 => ⟨(z_read_arguments T).imp gp0, (z_read_primary T).imp gp0, (z_read_call T).imp gp0, (z_read_product T).imp gp0, (z_read_sum T).imp gp0, (z_read_plain T).imp gp0, (z_read_both T).imp gp0, (z_read_expression T).imp gp0⟩
  | k + 1 => by
    obtain ⟨h1, h2, h3, h4, h5, h6, h7, h8⟩ := l_exprs k
    exact ⟨ok_read_arguments T (m_acc T (k + 2)) (m_deep T (k + 3)) h8 (m_exp T (k + 1)) sp_args,
      ok_read_primary T (m_at T (k + 3)) (m_acc T (k + 2)) (m_exp T (k + 1)) (m_deep T (k + 3)) h8 (z_read_parameters T) (z_read_body T) (m_seesK T (k + 3)) (m_read T (k + 2)) sp_prim,
      ok_read_call T h2 (m_acc T (k + 2)) (m_deep T (k + 3)) h1 sp_call,
      ok_read_product T h3 (m_acc T (k + 2)) (m_deep T (k + 3)) (sp_bin .prod),
      ok_read_sum T h4 (m_sees T (k + 3)) (m_read T (k + 2)) (m_deep T (k + 3)) sp_sum,
      ok_read_plain T (m_acc T (k + 2)) (m_deep T (k + 3)) h6 h5 sp_plain,
      ok_read_both T h6 (m_acc T (k + 2)) (m_deep T (k + 3)) (sp_bin .both),
      ok_read_expression T h7 (m_acc T (k + 2)) (m_deep T (k + 3)) (sp_bin .exp)⟩
theorem l_edepth : ∀ k : Nat, FD P w K mg base "expression_depth" (k + 1) (GDp k)
  | 0 => (z_expression_depth T).imp gdp0
  | k + 1 => ok_expression_depth T (z_block_depth T) (l_edepth k) sp_edepth
theorem l_parse : FD P w K mg base "parse" 46 (GParse 40) := by
  have lt : FD P w K mg base "read_let" 44 (GLet 39) := ok_read_let T (m_read T 41) (m_exp T 40) (l_exprs T 39).ex sp_let
  have sta : FD P w K mg base "read_statement" 45 (GSt 40) := ok_read_statement T (m_at T 43) (m_acc T 42) lt (m_sees T 43) (z_Reader_follows T) (m_exp T 41) (z_read_fun T) (z_read_compound T) (z_read_simple T) sp_stat
  have de : FD P w K mg base "depth" 42 (GDs 40) := ok_depth T (l_edepth T 40) (z_block_depth T) sp_depth
  have ci : CD P w K mg base "Reader" 7 GInit := ok_Reader_init T (l_tokens T) sp_init
  exact ok_parse T (show 7 + 1 ≤ 45 by decide) ci (m_at T 44) (m_acc T 43) (z_read_import T) (z_read_export T) sta (de.mono (by decide)) sp_parse
theorem l_tree : ∀ k : Nat, FD P w K mg base "_law_tree" (k + 1) (GTree k)
  | 0 => (z__law_tree T).imp gtree0
  | k + 1 => ok__law_tree T (ok__law_split T sp_split) (l_tree k) (ok__law_chain T sp_chain) sp_tree
theorem l_law : FD P w K mg base "law" 47 lawF :=
  ok_law T (ok__law_cell T sp_cell) (ok__law_operand T sp_opnd) (l_parse T) ((l_tree T 6).mono (by decide)) (sp_law (k := 0))
end
theorem room47 : RG 47 callerA := ⟨⟨rfl, by decide, by decide⟩, rfl⟩
end Fi
theorem PySem.Challenge.cw_fascicle_k02_chains_of_operators_holds : PySem.Challenge.rw_fascicle_k02_chains_of_operators.Holds :=
  hd_holds Fi.room47 fun w K mg base T => Fi.l_law T
