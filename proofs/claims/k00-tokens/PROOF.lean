import PyProof.Rows.All
import Wide.All
import OpenK.AllK
import Wide.FinOn
import HandS.ForMost
import HandS.Evl
import HandS.Exc
import HandS.ExcOwn
import HandS.WordsExc
import HandS.HeadHook1
import HandS.HeadHook2
import HandS.Style
import HandS.Flow
import HandS.Deep
import HandS.WordsDict
import HandS.StrMore
import HandS.RaiseMore
import HandS.NoneIn
import HandS.Defaults
import HandS.HeadEnd
import HandS.Head0
import HandS.Head1
import HandS.Head2
import HandS.IsInst
import HandS.More
import HandS.Small
import HandS.HeadHook3
import KE.KDictWalk
import HandS.ExcInit
import HandS.ExcSuper
import HandS.ExcField
import HandS.TryOnly
import KE.KExcSuper
import PySem.Challenge.RW_fascicle_k00_tokens
set_option Elab.async false
set_option linter.all false
set_option maxRecDepth 100000
set_option maxHeartbeats 3900000
/-! AL0: plain data D, a store S of mutable objects, and how they stand in HandS's heap. -/
namespace AL
open PySem PySem.Spec
open PyProof.Rows L2

/-- data: tuples are values, a mutable object is a number, a list of the written part (never changed) is a value -/
inductive D where
  | non | bl (b : Bool) | int (i : Int) | str (s : Str) | tup (l : List D) | ref (i : Nat) | kl (l : List D) | exn (a d : Addr) (j : Nat)
/-- a list of the written part -/
def KL (K : PySem.W.Frag) (a : Addr) (xs : List V) : Prop :=
  ∃ (ob : Obj) (us : Array Value) (cap : Nat), K.lookup a = some ob ∧ ob.cls = .type "list" ∧ ob.dict = none ∧ ob.data = .seq us cap ∧ us.size ≤ sizeLine ∧ Vals xs us.toList
instance : Inhabited D := ⟨.non⟩
/-- a mutable object -/
inductive O where
  | lst (l : List D)
  | rol (l : List D)
  | dK (kvs : List (Key × D))
  | ins (c : Str) (fs : List (Str × D))
  | xd (fs : List (Str × D))
instance : Inhabited O := ⟨.lst []⟩
abbrev Sto := List O

section
variable (K : PySem.W.Frag) (A : List Addr) (H : Hp)
mutual
inductive Rp : D → V → Prop
  | non : Rp .non .non
  | bl (b : Bool) : Rp (.bl b) (.bl b)
  | int (i : Int) : Rp (.int i) (.int i)
  | str (x : Str) : Rp (.str x) (.str x)
  | ref {i : Nat} {a : Addr} : A[i]? = some a → Rp (.ref i) (.ref a)
  | tup {a : Addr} {vs : List V} {l : List D} : SqT K H a vs → RpL l vs → Rp (.tup l) (.ref a)
  | kl {a : Addr} {vs : List V} {l : List D} : KL K a vs → RpL l vs → Rp (.kl l) (.ref a)
  | exn {a d : Addr} {j : Nat} : A[j]? = some d → Rp (.exn a d j) (.ref a)
inductive RpL : List D → List V → Prop
  | nil : RpL [] []
  | cons {d : D} {v : V} {l : List D} {vs : List V} : Rp d v → RpL l vs → RpL (d :: l) (v :: vs)
end
def RpK (κ : Type) : List (κ × D) → List (κ × V) → Prop := Paired fun p q => p.1 = q.1 ∧ Rp K A H p.2 q.2
/-- the object o stands at a -/
def OR : O → Addr → Prop
  | .lst l, a => ∃ vs, H a = some (.lst vs) ∧ RpL K A H l vs
  | .rol l, a => ∃ vs, Rd H a (.lst vs) ∧ RpL K A H l vs
  | .dK kvs, a => ∃ ks, H a = some (.dK ks) ∧ RpK K A H Key kvs ks
  | .ins c fs, a => ∃ dx gs, H a = some (.ins (He.ga K c) dx gs) ∧ RpK K A H Str fs gs
  | .xd fs, a => ∃ gs, H a = some (.xd gs) ∧ RpK K A H Str fs gs
structure MtS (S : Sto) : Prop where
  len : S.length = A.length
  nd : A.Nodup
  ok : ∀ (i : Nat) (o : O) (a : Addr), S[i]? = some o → A[i]? = some a → OR K A H o a
end
abbrev Rho := List (Option D)
structure Mt (K : PySem.W.Frag) (A : List Addr) (H : Hp) (ρ : Rho) (σ : L2.St) : Prop where
  len : ρ.length = σ.length
  ok : ∀ (i : Nat) (d : D), ρ[i]? = some (some d) → ∃ v, σ[i]? = some (some v) ∧ Rp K A H d v
/-- what data lean on is kept -/
structure Uw (K : PySem.W.Frag) (A : List Addr) (H : Hp) (A' : List Addr) (H' : Hp) : Prop where
  pre : A <+: A'
  tup : ∀ a vs, SqT K H a vs → SqT K H' a vs
/-- a step of the world -/
structure Up (K : PySem.W.Frag) (A : List Addr) (H : Hp) (A' : List Addr) (H' : Hp) : Prop extends Uw K A H A' H' where
  fr : ∀ b o, H b = some o → b ∉ A → H' b = some o
  new : ∀ b, b ∈ A' → b ∉ A → H b = none

section
variable {K : PySem.W.Frag} {A A' A1 A2 : List Addr} {H H' H1 H2 : Hp} {S S' : Sto} {d : D} {v : V} {l : List D} {vs : List V} {ρ : Rho} {σ : L2.St}
theorem pre_get {α : Type} {l l' : List α} {i : Nat} {x : α} (h : l <+: l') (e : l[i]? = some x) : l'[i]? = some x := by
  obtain ⟨t, rfl⟩ := h
  rw [List.getElem?_append_left (List.getElem?_eq_some_iff.mp e).1]; exact e
theorem Up.refl : Up K A H A H := ⟨⟨List.prefix_refl _, fun _ _ h => h⟩, fun _ _ h _ => h, fun _ h n => absurd h n⟩
theorem Up.trans (u : Up K A H A1 H1) (w : Up K A1 H1 A2 H2) : Up K A H A2 H2 := by
  refine ⟨⟨u.pre.trans w.pre, fun a vs h => w.tup a vs (u.tup a vs h)⟩, fun b o e n => ?_, fun b h n => ?_⟩
  · by_cases m : b ∈ A1
    · have z := u.new b m n
      rw [e] at z; cases z
    · exact w.fr b o (u.fr b o e n) m
  · by_cases m : b ∈ A1
    · exact u.new b m n
    · have z := w.new b h m
      cases e : H b with
      | none => rfl
      | some o =>
        rw [u.fr b o e n] at z; cases z
mutual
theorem Rp.up (u : Uw K A H A' H') : ∀ (d : D) (v : V), Rp K A H d v → Rp K A' H' d v
  | .non, _, h => by cases h; exact .non
  | .bl b, _, h => by cases h; exact .bl b
  | .int i, _, h => by cases h; exact .int i
  | .str x, _, h => by cases h; exact .str x
  | .ref i, _, h => by cases h; rename_i e; exact .ref (pre_get u.pre e)
  | .tup l, _, h => by cases h; rename_i h1 h2; exact .tup (u.tup _ _ h1) (RpL.up u l _ h2)
  | .kl l, _, h => by cases h; rename_i h1 h2; exact .kl h1 (RpL.up u l _ h2)
  | .exn a d j, _, h => by cases h; rename_i e; exact .exn (pre_get u.pre e)
theorem RpL.up (u : Uw K A H A' H') : ∀ (l : List D) (vs : List V), RpL K A H l vs → RpL K A' H' l vs
  | [], _, h => by cases h; exact .nil
  | d :: l, _, h => by cases h; rename_i h1 h2; exact .cons (Rp.up u d _ h1) (RpL.up u l _ h2)
end
theorem Rp.mono (h : Rp K A H d v) (u : Up K A H A' H') : Rp K A' H' d v := Rp.up u.toUw d v h
theorem Rp.monow (h : Rp K A H d v) (u : Uw K A H A' H') : Rp K A' H' d v := Rp.up u d v h
theorem RpL.mono (h : RpL K A H l vs) (u : Up K A H A' H') : RpL K A' H' l vs := RpL.up u.toUw l vs h
theorem RpL.monow (h : RpL K A H l vs) (u : Uw K A H A' H') : RpL K A' H' l vs := RpL.up u l vs h
theorem RpK.mono {κ : Type} {kvs : List (κ × D)} {ks : List (κ × V)} (h : RpK K A H κ kvs ks) (u : Up K A H A' H') : RpK K A' H' κ kvs ks := Paired.mapP h fun _ _ z => ⟨z.1, z.2.mono u⟩
theorem RpK.monow {κ : Type} {kvs : List (κ × D)} {ks : List (κ × V)} (h : RpK K A H κ kvs ks) (u : Uw K A H A' H') : RpK K A' H' κ kvs ks := Paired.mapP h fun _ _ z => ⟨z.1, z.2.monow u⟩
theorem Mt.mono (h : Mt K A H ρ σ) (u : Up K A H A' H') : Mt K A' H' ρ σ := ⟨h.len, fun i d e => let ⟨v, e1, r⟩ := h.ok i d e; ⟨v, e1, r.mono u⟩⟩
theorem Mt.set {i : Nat} (h : Mt K A H ρ σ) (r : Rp K A H d v) : Mt K A H (ρ.set i (some d)) (σ.set i (some v)) := by
  refine ⟨by simp [h.len], fun j e q => ?_⟩
  by_cases hj : i = j
  · subst hj
    have hl : i < ρ.length := by
      have := (List.getElem?_eq_some_iff.mp q).1
      simpa using this
    rw [List.getElem?_set_self hl] at q
    cases q
    exact ⟨v, List.getElem?_set_self (by rw [← h.len]; exact hl), r⟩
  · rw [List.getElem?_set_ne hj] at q ⊢
    exact h.ok j e q
/-- forgetting a slot -/
theorem Mt.unset {i : Nat} {x : Option V} (h : Mt K A H ρ σ) : Mt K A H (ρ.set i none) (σ.set i x) := by
  refine ⟨by simp [h.len], fun j e q => ?_⟩
  by_cases hj : i = j
  · subst hj
    have hl : i < ρ.length := by
      have := (List.getElem?_eq_some_iff.mp q).1
      simpa using this
    rw [List.getElem?_set_self hl] at q
    cases q
  · rw [List.getElem?_set_ne hj] at q ⊢
    exact h.ok j e q
theorem RpL.length : ∀ {l : List D} {vs : List V}, RpL K A H l vs → l.length = vs.length
  | [], _, h => by cases h; rfl
  | _ :: _, _, h => by cases h; rename_i _ h2; simp [RpL.length h2]
theorem RpL.get : ∀ {l : List D} {vs : List V} {i : Nat} {d : D}, RpL K A H l vs → l[i]? = some d → ∃ v, vs[i]? = some v ∧ Rp K A H d v
  | [], _, _, _, _, e => by simp at e
  | x :: l, _, 0, d, h, e => by
    cases h; rename_i h1 h2
    simp at e; subst e
    exact ⟨_, rfl, h1⟩
  | x :: l, _, i + 1, d, h, e => by
    cases h; rename_i h1 h2
    obtain ⟨v, q, r⟩ := RpL.get (i := i) h2 (by simpa using e)
    exact ⟨v, by simpa using q, r⟩
theorem RpL.back : ∀ {l : List D} {vs : List V} {i : Nat} {v : V}, RpL K A H l vs → vs[i]? = some v → ∃ d, l[i]? = some d ∧ Rp K A H d v
  | [], _, _, _, h, e => by cases h; simp at e
  | x :: l, _, 0, v, h, e => by
    cases h; rename_i h1 h2
    simp at e; subst e
    exact ⟨_, rfl, h1⟩
  | x :: l, _, i + 1, v, h, e => by
    cases h; rename_i h1 h2
    obtain ⟨d, q, r⟩ := RpL.back (i := i) h2 (by simpa using e)
    exact ⟨d, by simpa using q, r⟩
theorem RpL.append : ∀ {l l' : List D} {vs vs' : List V}, RpL K A H l vs → RpL K A H l' vs' → RpL K A H (l ++ l') (vs ++ vs')
  | [], _, _, _, h, h' => by cases h; exact h'
  | _ :: _, _, _, _, h, h' => by cases h; rename_i h1 h2; exact .cons h1 (RpL.append h2 h')
theorem RpL.one (r : Rp K A H d v) : RpL K A H [d] [v] := .cons r .nil
theorem RpL.set : ∀ {l : List D} {vs : List V} {i : Nat}, RpL K A H l vs → Rp K A H d v → RpL K A H (l.set i d) (vs.set i v)
  | [], _, _, h, _ => by cases h; exact .nil
  | _ :: _, _, 0, h, r => by cases h; rename_i h1 h2; exact .cons r h2
  | _ :: _, _, i + 1, h, r => by cases h; rename_i h1 h2; exact .cons h1 (RpL.set h2 r)
theorem RpL.take : ∀ {l : List D} {vs : List V} (n : Nat), RpL K A H l vs → RpL K A H (l.take n) (vs.take n)
  | _, _, 0, _ => by simpa using RpL.nil
  | [], _, _ + 1, h => by cases h; exact .nil
  | _ :: _, _, n + 1, h => by cases h; rename_i h1 h2; exact .cons h1 (RpL.take n h2)
theorem RpL.drop : ∀ {l : List D} {vs : List V} (n : Nat), RpL K A H l vs → RpL K A H (l.drop n) (vs.drop n)
  | _, _, 0, h => by simpa using h
  | [], _, _ + 1, h => by cases h; exact .nil
  | _ :: _, _, n + 1, h => by cases h; rename_i h1 h2; exact RpL.drop n h2

/-- the object of a number -/
theorem MtS.at (m : MtS K A H S) {i : Nat} {o : O} (e : S[i]? = some o) : ∃ a, A[i]? = some a ∧ OR K A H o a := by
  have hi : i < A.length := by rw [← m.len]; exact (List.getElem?_eq_some_iff.mp e).1
  exact ⟨A[i], List.getElem?_eq_getElem hi, m.ok i o _ e (List.getElem?_eq_getElem hi)⟩
theorem OR.some_at {o : O} {a : Addr} (h : OR K A H o a) : ∃ u, H a = some u := by
  cases o with
  | lst l => obtain ⟨_, e, _⟩ := h; exact ⟨_, e⟩
  | rol l =>
    obtain ⟨_, e, _⟩ := h
    rcases e with e | ⟨_, e⟩
    · exact ⟨_, e⟩
    · exact ⟨_, e⟩
  | dK l => obtain ⟨_, e, _⟩ := h; exact ⟨_, e⟩
  | ins c fs => obtain ⟨_, _, e, _⟩ := h; exact ⟨_, e⟩
  | xd fs => obtain ⟨_, e, _⟩ := h; exact ⟨_, e⟩
theorem MtS.some_at (m : MtS K A H S) {a : Addr} (h : a ∈ A) : ∃ u, H a = some u := by
  obtain ⟨i, hi⟩ := List.getElem?_of_mem h
  have hl : i < S.length := by rw [m.len]; exact (List.getElem?_eq_some_iff.mp hi).1
  exact (m.ok i _ a (List.getElem?_eq_getElem hl) hi).some_at
theorem MtS.notin (m : MtS K A H S) {p : Addr} (h : H p = none) : p ∉ A := fun q => by
  obtain ⟨u, e⟩ := m.some_at q
  rw [h] at e; cases e
/-- no number stands at a tuple -/
theorem OR.notup {o : O} {a : Addr} (h : OR K A H o a) {vs : List V} : ¬ H a = some (.tup vs) := fun q => by
  cases o with
  | lst l => obtain ⟨_, e, _⟩ := h; rw [q] at e; cases e
  | rol l =>
    obtain ⟨_, e, _⟩ := h
    rcases e with e | ⟨_, e⟩ <;> (rw [q] at e; cases e)
  | dK l => obtain ⟨_, e, _⟩ := h; rw [q] at e; cases e
  | ins c fs => obtain ⟨_, _, e, _⟩ := h; rw [q] at e; cases e
  | xd fs => obtain ⟨_, e, _⟩ := h; rw [q] at e; cases e

/-- an object kept where its place and what it names are kept -/
theorem OR.keep {o : O} {a : Addr} (h : OR K A H o a) (e : H' a = H a) (u : Uw K A H A' H') : OR K A' H' o a := by
  cases o with
  | lst l => obtain ⟨vs, q, r⟩ := h; exact ⟨vs, e.trans q, r.monow u⟩
  | rol l =>
    obtain ⟨vs, q, r⟩ := h
    refine ⟨vs, ?_, r.monow u⟩
    rcases q with q | ⟨ob, q⟩
    · exact .inl (e.trans q)
    · exact .inr ⟨ob, e.trans q⟩
  | dK l => obtain ⟨ks, q, r⟩ := h; exact ⟨ks, e.trans q, r.monow u⟩
  | ins c fs => obtain ⟨dx, gs, q, r⟩ := h; exact ⟨dx, gs, e.trans q, r.monow u⟩
  | xd fs => obtain ⟨gs, q, r⟩ := h; exact ⟨gs, e.trans q, r.monow u⟩

/-- something untracked is laid (a tuple, a hidden list): no number -/
theorem Up.lay {p : Addr} {o : HO} (hp : H p = none) : Up K A H A (upd H p o) := by
  have ne : ∀ {b : Addr} {u : HO}, H b = some u → b ≠ p := fun e => ne_of_none e hp
  refine ⟨⟨List.prefix_refl _, fun a vs h => ?_⟩, fun b u e _ => by rw [upd_ne (ne e)]; exact e, fun _ h n => absurd h n⟩
  rcases h with (h | ⟨ob, h⟩) | h
  · exact .inl (.inl (by rw [upd_ne (ne h)]; exact h))
  · exact .inl (.inr ⟨ob, by rw [upd_ne (ne h)]; exact h⟩)
  · exact .inr h
theorem MtS.lay (m : MtS K A H S) {p : Addr} {o : HO} (hp : H p = none) : MtS K A (upd H p o) S := by
  refine ⟨m.len, m.nd, fun i ob a e1 e2 => ?_⟩
  refine (m.ok i ob a e1 e2).keep ?_ (Up.lay hp).toUw
  have hne : a ≠ p := fun z => m.notin hp (z ▸ List.mem_of_getElem? e2)
  exact upd_ne hne
/-- a new number -/
theorem Up.alloc (m : MtS K A H S) {p : Addr} {o : HO} (hp : H p = none) : Up K A H (A ++ [p]) (upd H p o) := by
  have u : Up K A H A (upd H p o) := Up.lay hp
  refine ⟨⟨List.prefix_append _ _, u.tup⟩, u.fr, fun b h n => ?_⟩
  obtain h | h := List.mem_append.mp h
  · exact absurd h n
  · rw [List.mem_singleton.mp h]; exact hp
theorem MtS.alloc (m : MtS K A H S) {p : Addr} {ho : HO} {o : O} (hp : H p = none) (ok : OR K (A ++ [p]) (upd H p ho) o p) : MtS K (A ++ [p]) (upd H p ho) (S ++ [o]) := by
  have u : Up K A H (A ++ [p]) (upd H p ho) := Up.alloc m hp
  have np := m.notin hp
  refine ⟨by simp [m.len], ?_, fun i ob a e1 e2 => ?_⟩
  · rw [List.nodup_append]
    refine ⟨m.nd, by simp, fun x hx y hy z => ?_⟩
    rw [List.mem_singleton.mp hy] at z
    exact np (z ▸ hx)
  · by_cases hi : i < A.length
    · rw [List.getElem?_append_left hi] at e2
      rw [List.getElem?_append_left (by rw [m.len]; exact hi)] at e1
      have hne : a ≠ p := fun z => np (z ▸ List.mem_of_getElem? e2)
      exact (m.ok i ob a e1 e2).keep (upd_ne hne) u.toUw
    · have hi' : i = A.length := by
        have := (List.getElem?_eq_some_iff.mp e2).1
        simp at this; omega
      subst hi'
      rw [List.getElem?_append_right (Nat.le_refl _)] at e2
      rw [List.getElem?_append_right (by rw [m.len]; exact Nat.le_refl _), m.len] at e1
      simp at e1 e2
      subst e1; subst e2
      exact ok
theorem alloc_at {p : Addr} : (A ++ [p])[A.length]? = some p := by simp
/-- a number's object is changed -/
theorem Up.write (m : MtS K A H S) {i : Nat} {a : Addr} {ho : HO} (e : A[i]? = some a) : Up K A H A (upd H a ho) := by
  have hm : a ∈ A := List.mem_of_getElem? e
  have hl : i < S.length := by rw [m.len]; exact (List.getElem?_eq_some_iff.mp e).1
  have ho := m.ok i _ a (List.getElem?_eq_getElem hl) e
  have nofrz : ∀ ob vs, ¬ H a = some (.frz ob (.tup vs)) := fun ob vs q => by
    revert ho
    cases S[i] with
    | lst l => rintro ⟨_, z, _⟩; rw [q] at z; cases z
    | rol l =>
      rintro ⟨_, z, _⟩
      rcases z with z | ⟨_, z⟩
      · rw [q] at z; cases z
      · rw [q] at z; injection z with z; injection z with _ z; cases z
    | dK l => rintro ⟨_, z, _⟩; rw [q] at z; cases z
    | ins c fs => rintro ⟨_, _, z, _⟩; rw [q] at z; cases z
    | xd fs => rintro ⟨_, z, _⟩; rw [q] at z; cases z
  refine ⟨⟨List.prefix_refl _, fun b vs h => ?_⟩, fun b u q n => ?_, fun _ h n => absurd h n⟩
  · rcases h with (h | ⟨ob, h⟩) | h
    · refine .inl (.inl ?_)
      rw [upd_ne (fun z => by subst z; exact ho.notup h)]; exact h
    · refine .inl (.inr ⟨ob, ?_⟩)
      rw [upd_ne (fun z => by subst z; exact nofrz _ _ h)]; exact h
    · exact .inr h
  · have hne : b ≠ a := fun z => n (z ▸ hm)
    rw [upd_ne hne]; exact q
theorem MtS.write (m : MtS K A H S) {i : Nat} {a : Addr} {ho : HO} {o : O} (e : A[i]? = some a) (ok : OR K A (upd H a ho) o a) : MtS K A (upd H a ho) (S.set i o) := by
  have u : Up K A H A (upd H a ho) := Up.write m e
  refine ⟨by simp [m.len], m.nd, fun j ob b e1 e2 => ?_⟩
  by_cases hj : i = j
  · subst hj
    have hl : i < S.length := by
      have := (List.getElem?_eq_some_iff.mp e1).1
      simpa using this
    rw [List.getElem?_set_self hl] at e1
    rw [e] at e2
    cases e1; cases e2
    exact ok
  · rw [List.getElem?_set_ne hj] at e1
    have hne : b ≠ a := fun z => by
      subst z
      exact hj (nodup_ixA m.nd e e2)
    exact (m.ok j ob b e1 e2).keep (upd_ne hne) u.toUw
where
  nodup_ixA {N : List Addr} (hN : N.Nodup) {i j : Nat} {x : Addr} (a : N[i]? = some x) (b : N[j]? = some x) : i = j := by
    have ha := List.getElem?_eq_some_iff.mp a
    have hb := List.getElem?_eq_some_iff.mp b
    exact (List.getElem_inj hN).mp (ha.2.trans hb.2.symm)
/-- an object that no number stands at is changed -/
theorem Uw.hid {p : Addr} {o : HO} {xs : List V} (e : H p = some (.lst xs)) : Uw K A H A (upd H p o) := by
  refine ⟨List.prefix_refl _, fun a us hh => ?_⟩
  rcases hh with (hh | ⟨ob, hh⟩) | hh
  · exact .inl (.inl (by rw [upd_ne (fun z => by subst z; rw [e] at hh; cases hh)]; exact hh))
  · exact .inl (.inr ⟨ob, by rw [upd_ne (fun z => by subst z; rw [e] at hh; cases hh)]; exact hh⟩)
  · exact .inr hh
theorem MtS.hid (m : MtS K A H S) {p : Addr} {o : HO} {xs : List V} (e : H p = some (.lst xs)) (n : p ∉ A) : MtS K A (upd H p o) S :=
  ⟨m.len, m.nd, fun i ob a e1 e2 => (m.ok i ob a e1 e2).keep (upd_ne fun z => n (z ▸ List.mem_of_getElem? e2)) (Uw.hid e)⟩
/-- a hidden object becomes a number -/
theorem MtS.show (m : MtS K A H S) {p : Addr} {l : List D} {xs : List V} (e : H p = some (.lst xs)) (n : p ∉ A) (r : RpL K A H l xs) : MtS K (A ++ [p]) H (S ++ [.lst l]) := by
  have u : Uw K A H (A ++ [p]) H := ⟨List.prefix_append _ _, fun _ _ h => h⟩
  refine ⟨by simp [m.len], ?_, fun i ob a e1 e2 => ?_⟩
  · rw [List.nodup_append]
    refine ⟨m.nd, by simp, fun x hx y hy z => ?_⟩
    rw [List.mem_singleton.mp hy] at z
    exact n (z ▸ hx)
  · by_cases hi : i < A.length
    · rw [List.getElem?_append_left hi] at e2
      rw [List.getElem?_append_left (by rw [m.len]; exact hi)] at e1
      exact (m.ok i ob a e1 e2).keep rfl u
    · have hi' : i = A.length := by
        have := (List.getElem?_eq_some_iff.mp e2).1
        simp at this; omega
      subst hi'
      rw [List.getElem?_append_right (Nat.le_refl _)] at e2
      rw [List.getElem?_append_right (by rw [m.len]; exact Nat.le_refl _), m.len] at e1
      simp at e1 e2
      subst e1; subst e2
      exact ⟨xs, e, r.monow u⟩
end
end AL
/-! AL1: abstract readings of expressions. -/
namespace AL
open PySem PySem.Spec
open PyProof.Rows L2

/-- an exception: its class's name, the number of its fields (none: it has no field) -/
structure Exn where
  cls : Str
  fs : Option Nat
abbrev VA := D → Sto → Prop
abbrev XA := Exn → Sto → Prop
abbrev ATE := Rho → Sto → XA → VA → Prop
abbrev ATT := Rho → Sto → XA → (Bool → Sto → Prop) → Prop
abbrev ATA := Rho → Sto → XA → (List D → Sto → Prop) → Prop

/-- an exception in the concrete -/
def ExR (K : PySem.W.Frag) (A : List Addr) (H : Hp) (x : Exn) (cls : Value) (d : Option Addr) : Prop :=
  cls = .ref (He.ga K x.cls) ∧ ((x.fs = none ∧ d = none) ∨ ∃ j a, x.fs = some j ∧ d = some a ∧ A[j]? = some a)
section
variable (K : PySem.W.Frag) (A : List Addr) (H : Hp)
def KQ (P : VK) (Q : VA) : Prop := ∀ v H' d A' S', Up K A H A' H' → MtS K A' H' S' → Rp K A' H' d v → Q d S' → P v H'
def KT (P : Bool → Hp → Prop) (Q : Bool → Sto → Prop) : Prop := ∀ b H' A' S', Up K A H A' H' → MtS K A' H' S' → Q b S' → P b H'
def KA (P : List V → Hp → Prop) (Q : List D → Sto → Prop) : Prop := ∀ vs H' ds A' S', Up K A H A' H' → MtS K A' H' S' → RpL K A' H' ds vs → Q ds S' → P vs H'
def KX (W : XK) (E : XA) : Prop := ∀ x cls d H' A' S', Up K A H A' H' → MtS K A' H' S' → ExR K A' H' x cls d → E x S' → W cls d H'
end
section
variable {K : PySem.W.Frag} {A A' : List Addr} {H H' : Hp}
theorem KQ.mono {P : VK} {Q : VA} (k : KQ K A H P Q) (u : Up K A H A' H') : KQ K A' H' P Q := fun v H2 d A2 S2 w m r q => k v H2 d A2 S2 (u.trans w) m r q
theorem KT.mono {P : Bool → Hp → Prop} {Q : Bool → Sto → Prop} (k : KT K A H P Q) (u : Up K A H A' H') : KT K A' H' P Q := fun v H2 A2 S2 w m q => k v H2 A2 S2 (u.trans w) m q
theorem KA.mono {P : List V → Hp → Prop} {Q : List D → Sto → Prop} (k : KA K A H P Q) (u : Up K A H A' H') : KA K A' H' P Q := fun v H2 d A2 S2 w m r q => k v H2 d A2 S2 (u.trans w) m r q
theorem KX.mono {W : XK} {E : XA} (k : KX K A H W E) (u : Up K A H A' H') : KX K A' H' W E := fun x c d H2 A2 S2 w m r q => k x c d H2 A2 S2 (u.trans w) m r q
end
abbrev WE' (W : WX) (σ : L2.St) : XK := fun c d H => W c d σ H
section
variable (K : PySem.W.Frag) (W : WX)
def LE (t : TE) (a : ATE) : Prop := ∀ σ H A ρ S (P : VK) (Q : VA) (E : XA), MtS K A H S → Mt K A H ρ σ → a ρ S E Q → KQ K A H P Q → KX K A H (WE' W σ) E → t σ H P
def LT (t : TT) (a : ATT) : Prop := ∀ σ H A ρ S (P : Bool → Hp → Prop) (Q : Bool → Sto → Prop) (E : XA), MtS K A H S → Mt K A H ρ σ → a ρ S E Q → KT K A H P Q → KX K A H (WE' W σ) E → t σ H P
def LA (t : TA) (a : ATA) : Prop := ∀ σ H A ρ S (P : List V → Hp → Prop) (Q : List D → Sto → Prop) (E : XA), MtS K A H S → Mt K A H ρ σ → a ρ S E Q → KA K A H P Q → KX K A H (WE' W σ) E → t σ H P
end
/-- the judgements -/
def AE (X : Cx) (W : WX) (e : Expr) (a : ATE) : Prop := ∃ t, PE X e t ∧ LE X.K W t a
def AT (X : Cx) (W : WX) (e : Expr) (a : ATT) : Prop := ∃ t, PT X e t ∧ LT X.K W t a
def AW (X : Cx) (W : WX) (e : Expr) (a : ATT) : Prop := ∃ t, PW X e t ∧ LT X.K W t a
def AA (X : Cx) (W : WX) (es : List Expr) (a : ATA) : Prop := ∃ t, PA X es t ∧ LA X.K W t a
theorem AW.at {X : Cx} {W : WX} {e : Expr} {a : ATT} (h : AW X W e a) : AT X W e a := let ⟨t, p, l⟩ := h; ⟨t, p.pt, l⟩

/-! ### names, constants -/
def gt : Rho → Nat → Option D
  | [], _ => none
  | x :: _, 0 => x
  | _ :: r, i + 1 => gt r i
theorem gt_eq : ∀ {ρ : Rho} {i : Nat} {d : D}, gt ρ i = some d → ρ[i]? = some (some d)
  | [], _, _, h => by cases h
  | x :: _, 0, _, h => by
    have h' : x = some _ := h
    simp [h']
  | _ :: r, i + 1, _, h => by simpa using gt_eq (ρ := r) (i := i) h
/-- what must be there -/
def must {α : Type} (o : Option α) (f : α → Prop) : Prop := match o with
  | some x => f x
  | none => False
theorem must_some {α : Type} {x : α} {f : α → Prop} : must (some x) f = f x := rfl
theorem must_none {α : Type} {f : α → Prop} : must none f = False := rfl
theorem of_must {α : Type} {o : Option α} {f : α → Prop} (h : must o f) : ∃ x, o = some x ∧ f x := by
  cases o with
  | none => exact h.elim
  | some x => exact ⟨x, rfl, h⟩
def aVar (i : Nat) : ATE := fun ρ S _ Q => must (gt ρ i) fun d => Q d S
def aC (d : D) : ATE := fun _ S _ Q => Q d S
section
variable {X : Cx} {W : WX} {a b c : Expr} {aa ab ac : ATE} {pos : Pos} {at1 at2 : ATT}
theorem le_var {K : PySem.W.Frag} {i : Nat} : LE K W (tVar i) (aVar i) := fun σ H A ρ S P Q E m mt h kq _ => by
  obtain ⟨d, e, q⟩ := of_must h
  obtain ⟨v, e1, r⟩ := mt.ok i d (gt_eq e)
  exact ⟨v, e1, kq v H d A S Up.refl m r q⟩
theorem av (i : Nat) {x : Str} {pos : Pos} (hN : X.N[i]? = some x := by rfl) (hv : Vis X.env.scope x := by first | exact Or.inl rfl | exact Or.inr (Or.inl rfl) | exact Or.inr (Or.inr rfl)) (hd : (x == ("__debug__" : Str)) = false := by decide)
    (hcd : (x == ("__classdict__" : Str)) = false := by decide) : AE X W (.Name x pos) (aVar i) := ⟨_, pe_var hN hv hd hcd, le_var⟩
theorem le_c {K : PySem.W.Frag} {v : V} {d : D} (r : ∀ A H, Rp K A H d v) : LE K W (tC v) (aC d) := fun σ H A ρ S P Q E m mt h kq _ => kq v H d A S Up.refl m (r A H) h
theorem ae_int {i j pos} : AE X W (.Constant (.int i) j pos) (aC (.int i)) := ⟨_, pe_int, le_c fun _ _ => .int i⟩
theorem ae_bl {b j pos} : AE X W (.Constant (.bool b) j pos) (aC (.bl b)) := ⟨_, pe_bl, le_c fun _ _ => .bl b⟩
theorem ae_non {j pos} : AE X W (.Constant .none j pos) (aC .non) := ⟨_, pe_non, le_c fun _ _ => .non⟩
theorem ae_str {x j pos} : AE X W (.Constant (.str x) j pos) (aC (.str x)) := ⟨_, pe_str, le_c fun _ _ => .str x⟩
/-- a constant of the module -/
def GlD (K : PySem.W.Frag) (mg : Str → Option Value) (x : Str) (d : D) : Prop := ∃ v u, mg x = some u ∧ RelV v u ∧ ∀ A H, Rp K A H d v
theorem ae_glob {x : Str} {d : D} (g : GlD X.K X.mg x d) (hg : Gl X x := by rfl) (hd : (x == ("__debug__" : Str)) = false := by decide) : AE X W (.Name x pos) (aC d) := by
  obtain ⟨v, u, hm, r, h⟩ := g
  exact ⟨_, pe_glob hg hm r hd, le_c h⟩

/-! ### two-place operations -/
abbrev AR2 := D → D → Sto → VA → Prop
def LO (K : PySem.W.Frag) (r' : R2) (r : AR2) : Prop := ∀ x y H A dx dy S (P : VK) (Q : VA), MtS K A H S → Rp K A H dx x → Rp K A H dy y → r dx dy S Q → KQ K A H P Q → r' x y H P
def AOp (X : Cx) (f : Value → Value → Sem Value) (r : AR2) : Prop := ∃ r', OpR X f r' ∧ LO X.K r' r
theorem AOp.or {f : Value → Value → Sem Value} {r1 r2 : AR2} (h1 : AOp X f r1) (h2 : AOp X f r2) : AOp X f (fun x y S Q => r1 x y S Q ∨ r2 x y S Q) := by
  obtain ⟨t1, o1, l1⟩ := h1
  obtain ⟨t2, o2, l2⟩ := h2
  refine ⟨_, o1.or o2, fun x y H A dx dy S P Q m rx ry h k => ?_⟩
  rcases h with h | h
  · exact .inl (l1 x y H A dx dy S P Q m rx ry h k)
  · exact .inr (l2 x y H A dx dy S P Q m rx ry h k)
theorem AOp.imp {f : Value → Value → Sem Value} {r1 r2 : AR2} (h1 : AOp X f r1) (h : ∀ x y S Q, r2 x y S Q → r1 x y S Q) : AOp X f r2 := by
  obtain ⟨t1, o1, l1⟩ := h1
  exact ⟨_, o1, fun x y H A dx dy S P Q m rx ry q k => l1 x y H A dx dy S P Q m rx ry (h _ _ _ _ q) k⟩
def aOp (r : AR2) (a b : ATE) : ATE := fun ρ S E Q => a ρ S E fun x S1 => b ρ S1 E fun y S2 => r x y S2 Q
theorem le_op {K : PySem.W.Frag} {r' : R2} {r : AR2} {ta tb : TE} (lo : LO K r' r) (la : LE K W ta aa) (lb : LE K W tb ab) : LE K W (tOp r' ta tb) (aOp r aa ab) := fun σ H A ρ S P Q E m mt h kq kx =>
  la σ H A ρ S _ _ E m mt h (fun x H1 dx A1 S1 u1 m1 r1 q1 => lb σ H1 A1 ρ S1 _ _ E m1 (mt.mono u1) q1 (fun y H2 dy A2 S2 u2 m2 r2 q2 =>
    lo x y H2 A2 dx dy S2 P Q m2 (r1.mono u2) r2 q2 (kq.mono (u1.trans u2))) (kx.mono u1)) kx
theorem ae_op {op : Operator} {r : AR2} (ho : AOp X (binaryOp op) r) (ha : AE X W a aa) (hb : AE X W b ab) : AE X W (.BinOp a op b pos) (aOp r aa ab) := by
  obtain ⟨r', o, lo⟩ := ho
  obtain ⟨ta, pa, la⟩ := ha
  obtain ⟨tb, pb, lb⟩ := hb
  exact ⟨_, pe_op o pa pb, le_op lo la lb⟩
theorem ae_cmp {op : CmpOp} {r : AR2} (ho : AOp X (compareOp op) r) (ha : AE X W a aa) (hb : AE X W b ab) (hm : behindInMarks op b = false := by first | exact nobehind _ (by decide) (by decide) | rfl) : AE X W (.Compare a [op] [b] pos) (aOp r aa ab) := by
  obtain ⟨r', o, lo⟩ := ho
  obtain ⟨ta, pa, la⟩ := ha
  obtain ⟨tb, pb, lb⟩ := hb
  exact ⟨_, pe_cmpR o pa pb hm, le_op lo la lb⟩
def aChain (r r' : AR2) (a b c : ATE) : ATE := fun ρ S E Q => a ρ S E fun x S1 => b ρ S1 E fun y S2 => r x y S2 fun z S3 => match z with
  | .bl true => c ρ S3 E fun w S4 => r' y w S4 Q
  | .bl false => Q (.bl false) S3
  | _ => False
theorem le_chain {K : PySem.W.Frag} {r1 r1' : R2} {r2 r2' : AR2} {ta tb tc : TE} (lo : LO K r1 r2) (lo' : LO K r1' r2') (la : LE K W ta aa) (lb : LE K W tb ab) (lc : LE K W tc ac) :
    LE K W (tChain r1 r1' ta tb tc) (aChain r2 r2' aa ab ac) := fun σ H A ρ S P Q E m mt h kq kx =>
  la σ H A ρ S _ _ E m mt h (fun x H1 dx A1 S1 u1 m1 x1 q1 => lb σ H1 A1 ρ S1 _ _ E m1 (mt.mono u1) q1 (fun y H2 dy A2 S2 u2 m2 x2 q2 => by
    refine lo x y H2 A2 dx dy S2 _ _ m2 (x1.mono u2) x2 q2 fun z H3 dz A3 S3 u3 m3 x3 q3 => ?_
    have uu := (u1.trans u2).trans u3
    cases dz with
    | bl k =>
      cases x3
      refine ⟨k, rfl, ?_⟩
      cases k with
      | true =>
        show tc σ H3 _
        exact lc σ H3 A3 ρ S3 _ _ E m3 (mt.mono uu) q3 (fun w H4 dw A4 S4 u4 m4 x4 q4 => lo' y w H4 A4 dy dw S4 P Q m4 ((x2.mono u3).mono u4) x4 q4 (kq.mono (uu.trans u4))) (kx.mono uu)
      | false =>
        show P (.bl false) H3
        exact kq _ H3 (.bl false) A3 S3 uu m3 (.bl false) q3
    | _ => exact q3.elim) (kx.mono u1)) kx
theorem ae_chain {op op' : CmpOp} {r r' : AR2} (ho : AOp X (compareOp op) r) (ho' : AOp X (compareOp op') r') (ha : AE X W a aa) (hb : AE X W b ab) (hc : AE X W c ac) (hm : lastMarks [op, op'] [b, c] = false := by rfl) : AE X W (.Compare a [op, op'] [b, c] pos) (aChain r r' aa ab ac) := by
  obtain ⟨r1, o1, l1⟩ := ho
  obtain ⟨r2, o2, l2⟩ := ho'
  obtain ⟨ta, pa, la⟩ := ha
  obtain ⟨tb, pb, lb⟩ := hb
  obtain ⟨tc, pc, lc⟩ := hc
  exact ⟨_, pe_chain o1 o2 pa pb pc hm, le_chain l1 l2 la lb lc⟩

/-! ### tests -/
def aB (a : ATE) : ATT := fun ρ S E Q => a ρ S E fun d S1 => match d with
  | .bl k => Q k S1
  | _ => False
theorem lt_B {K : PySem.W.Frag} {ta : TE} (la : LE K W ta aa) : LT K W (tB ta) (aB aa) := fun σ H A ρ S P Q E m mt h kt kx =>
  la σ H A ρ S _ _ E m mt h (fun x H1 dx A1 S1 u1 m1 r1 q1 => by
    cases dx with
    | bl k => cases r1; exact ⟨k, rfl, kt k H1 A1 S1 u1 m1 q1⟩
    | _ => exact q1.elim) kx
theorem lt_T {K : PySem.W.Frag} {ta : TE} (la : LE K W ta aa) : LT K W (tTest ta) (aB aa) := fun σ H A ρ S P Q E m mt h kt kx =>
  la σ H A ρ S _ _ E m mt h (fun x H1 dx A1 S1 u1 m1 r1 q1 => by
    cases dx with
    | bl k => cases r1; exact ⟨k, rfl, kt k H1 A1 S1 u1 m1 q1⟩
    | _ => exact q1.elim) kx
theorem at_cmp {op : CmpOp} {r : AR2} (ho : AOp X (compareOp op) r) (ha : AE X W a aa) (hb : AE X W b ab) (hm : behindInMarks op b = false := by first | exact nobehind _ (by decide) (by decide) | rfl) : AT X W (.Compare a [op] [b] pos) (aB (aOp r aa ab)) := by
  obtain ⟨r', o, lo⟩ := ho
  obtain ⟨ta, pa, la⟩ := ha
  obtain ⟨tb, pb, lb⟩ := hb
  exact ⟨_, pt_cmpR o pa pb hm, lt_T (le_op lo la lb)⟩
theorem at_chain {op op' : CmpOp} {r r' : AR2} (ho : AOp X (compareOp op) r) (ho' : AOp X (compareOp op') r') (ha : AE X W a aa) (hb : AE X W b ab) (hc : AE X W c ac) (hm : lastMarks [op, op'] [b, c] = false := by rfl) : AT X W (.Compare a [op, op'] [b, c] pos) (aB (aChain r r' aa ab ac)) := by
  obtain ⟨r1, o1, l1⟩ := ho
  obtain ⟨r2, o2, l2⟩ := ho'
  obtain ⟨ta, pa, la⟩ := ha
  obtain ⟨tb, pb, lb⟩ := hb
  obtain ⟨tc, pc, lc⟩ := hc
  exact ⟨_, pt_chain o1 o2 pa pb pc hm, lt_T (le_chain l1 l2 la lb lc)⟩
theorem at_val {e : Expr} (h : AE X W e aa) (he : ∀ whole, isTrue e X.env whole = (do let v ← whole; standAt e.pos; holding [v] (truthy v)) := by intro _; rfl) : AT X W e (aB aa) := by
  obtain ⟨ta, pa, la⟩ := h
  exact ⟨_, pt_val pa he, lt_B la⟩
def aAnd (t u : ATT) : ATT := fun ρ S E Q => t ρ S E fun k S1 => match k with
  | true => u ρ S1 E Q
  | false => Q false S1
def aOr (t u : ATT) : ATT := fun ρ S E Q => t ρ S E fun k S1 => match k with
  | true => Q true S1
  | false => u ρ S1 E Q
def aNot (t : ATT) : ATT := fun ρ S E Q => t ρ S E fun k S1 => Q (!k) S1
theorem lt_and {K : PySem.W.Frag} {t u : TT} (l1 : LT K W t at1) (l2 : LT K W u at2) : LT K W (tAnd t u) (aAnd at1 at2) := fun σ H A ρ S P Q E m mt h kt kx =>
  l1 σ H A ρ S _ _ E m mt h (fun k H1 A1 S1 u1 m1 q1 => by
    cases k with
    | true => exact l2 σ H1 A1 ρ S1 P Q E m1 (mt.mono u1) q1 (kt.mono u1) (kx.mono u1)
    | false => exact kt false H1 A1 S1 u1 m1 q1) kx
theorem lt_or {K : PySem.W.Frag} {t u : TT} (l1 : LT K W t at1) (l2 : LT K W u at2) : LT K W (tOr t u) (aOr at1 at2) := fun σ H A ρ S P Q E m mt h kt kx =>
  l1 σ H A ρ S _ _ E m mt h (fun k H1 A1 S1 u1 m1 q1 => by
    cases k with
    | false => exact l2 σ H1 A1 ρ S1 P Q E m1 (mt.mono u1) q1 (kt.mono u1) (kx.mono u1)
    | true => exact kt true H1 A1 S1 u1 m1 q1) kx
theorem lt_not {K : PySem.W.Frag} {t : TT} (l1 : LT K W t at1) : LT K W (tNot t) (aNot at1) := fun σ H A ρ S P Q E m mt h kt kx =>
  l1 σ H A ρ S _ _ E m mt h (fun k H1 A1 S1 u1 m1 q1 => kt (!k) H1 A1 S1 u1 m1 q1) kx
variable {rest : List Expr}
theorem aw_and1 (h : AT X W a at1) : AW X W (.BoolOp .And [a] pos) at1 := let ⟨t, p, l⟩ := h; ⟨t, pw_and1 p, l⟩
theorem aw_or1 (h : AT X W a at1) : AW X W (.BoolOp .Or [a] pos) at1 := let ⟨t, p, l⟩ := h; ⟨t, pw_or1 p, l⟩
theorem aw_and (h : AT X W a at1) (g : AW X W (.BoolOp .And (b :: rest) pos) at2) : AW X W (.BoolOp .And (a :: b :: rest) pos) (aAnd at1 at2) := let ⟨_, p, l⟩ := h; let ⟨_, q, l'⟩ := g; ⟨_, pw_and p q, lt_and l l'⟩
theorem aw_or (h : AT X W a at1) (g : AW X W (.BoolOp .Or (b :: rest) pos) at2) : AW X W (.BoolOp .Or (a :: b :: rest) pos) (aOr at1 at2) := let ⟨_, p, l⟩ := h; let ⟨_, q, l'⟩ := g; ⟨_, pw_or p q, lt_or l l'⟩
theorem at_not (h : AT X W a at1) : AT X W (.UnaryOp .Not a pos) (aNot at1) := let ⟨_, p, l⟩ := h; ⟨_, pt_not p, lt_not l⟩
/-! .. as values (all but the last True or False) -/
def aAndV (a b : ATE) : ATE := fun ρ S E Q => a ρ S E fun x S1 => match x with
  | .bl true => b ρ S1 E Q
  | .bl false => Q (.bl false) S1
  | _ => False
def aOrV (a b : ATE) : ATE := fun ρ S E Q => a ρ S E fun x S1 => match x with
  | .bl true => Q (.bl true) S1
  | .bl false => b ρ S1 E Q
  | _ => False
def aNotV (a : ATE) : ATE := fun ρ S E Q => a ρ S E fun x S1 => match x with
  | .bl k => Q (.bl (!k)) S1
  | _ => False
theorem ae_one {op} (h : AE X W a aa) : AE X W (.BoolOp op [a] pos) aa := let ⟨_, p, l⟩ := h; ⟨_, pe_one p, l⟩
theorem ae_and (h : AE X W a aa) (g : AE X W (.BoolOp .And (b :: rest) pos) ab) : AE X W (.BoolOp .And (a :: b :: rest) pos) (aAndV aa ab) := by
  obtain ⟨ta, pa, la⟩ := h
  obtain ⟨tb, pb, lb⟩ := g
  refine ⟨_, pe_and pa pb, fun σ H A ρ S P Q E m mt h kq kx => la σ H A ρ S _ _ E m mt h (fun x H1 dx A1 S1 u1 m1 r1 q1 => ?_) kx⟩
  cases dx with
  | bl k =>
    cases r1
    refine ⟨k, rfl, ?_⟩
    cases k with
    | true => exact lb σ H1 A1 ρ S1 P Q E m1 (mt.mono u1) q1 (kq.mono u1) (kx.mono u1)
    | false => exact kq _ H1 _ A1 S1 u1 m1 (.bl false) q1
  | _ => exact q1.elim
theorem ae_or (h : AE X W a aa) (g : AE X W (.BoolOp .Or (b :: rest) pos) ab) : AE X W (.BoolOp .Or (a :: b :: rest) pos) (aOrV aa ab) := by
  obtain ⟨ta, pa, la⟩ := h
  obtain ⟨tb, pb, lb⟩ := g
  refine ⟨_, pe_or pa pb, fun σ H A ρ S P Q E m mt h kq kx => la σ H A ρ S _ _ E m mt h (fun x H1 dx A1 S1 u1 m1 r1 q1 => ?_) kx⟩
  cases dx with
  | bl k =>
    cases r1
    refine ⟨k, rfl, ?_⟩
    cases k with
    | false => exact lb σ H1 A1 ρ S1 P Q E m1 (mt.mono u1) q1 (kq.mono u1) (kx.mono u1)
    | true => exact kq _ H1 _ A1 S1 u1 m1 (.bl true) q1
  | _ => exact q1.elim
theorem ae_not (h : AE X W a aa) : AE X W (.UnaryOp .Not a pos) (aNotV aa) := by
  obtain ⟨ta, pa, la⟩ := h
  refine ⟨_, pe_not pa, fun σ H A ρ S P Q E m mt h kq kx => la σ H A ρ S _ _ E m mt h (fun x H1 dx A1 S1 u1 m1 r1 q1 => ?_) kx⟩
  cases dx with
  | bl k => cases r1; exact ⟨k, rfl, kq _ H1 _ A1 S1 u1 m1 (.bl (!k)) q1⟩
  | _ => exact q1.elim
def aIf (t : ATT) (a b : ATE) : ATE := fun ρ S E Q => t ρ S E fun k S1 => match k with
  | true => a ρ S1 E Q
  | false => b ρ S1 E Q
theorem ae_if {e : Expr} (ht : AT X W e at1) (ha : AE X W a aa) (hb : AE X W b ab) : AE X W (.IfExp e a b pos) (aIf at1 aa ab) := by
  obtain ⟨tt, pt, lt⟩ := ht
  obtain ⟨ta, pa, la⟩ := ha
  obtain ⟨tb, pb, lb⟩ := hb
  refine ⟨_, pe_ifExp pt pa pb, fun σ H A ρ S P Q E m mt h kq kx => lt σ H A ρ S _ _ E m mt h (fun k H1 A1 S1 u1 m1 q1 => ?_) kx⟩
  cases k with
  | true => exact la σ H1 A1 ρ S1 P Q E m1 (mt.mono u1) q1 (kq.mono u1) (kx.mono u1)
  | false => exact lb σ H1 A1 ρ S1 P Q E m1 (mt.mono u1) q1 (kq.mono u1) (kx.mono u1)

/-! ### arguments, displays -/
def aNil : ATA := fun _ S _ Q => Q [] S
def aCons (a : ATE) (t : ATA) : ATA := fun ρ S E Q => a ρ S E fun x S1 => t ρ S1 E fun xs S2 => Q (x :: xs) S2
variable {es : List Expr} {ta' : ATA}
theorem aa_nil : AA X W [] aNil := ⟨_, pa_nil, fun σ H A ρ S P Q E m mt h kq _ => kq [] H [] A S Up.refl m .nil h⟩
theorem aa_cons (ha : AE X W a aa) (hs : AA X W es ta') (he : starEach (a :: es) X.env = (false, eval a X.env) :: starEach es X.env := by rfl) : AA X W (a :: es) (aCons aa ta') := by
  obtain ⟨ta, pa, la⟩ := ha
  obtain ⟨tr, pr, lr⟩ := hs
  exact ⟨_, pa_cons pa pr he, fun σ H A ρ S P Q E m mt h kq kx => la σ H A ρ S _ _ E m mt h (fun x H1 dx A1 S1 u1 m1 r1 q1 =>
    lr σ H1 A1 ρ S1 _ _ E m1 (mt.mono u1) q1 (fun xs H2 ds A2 S2 u2 m2 r2 q2 => kq _ H2 _ A2 S2 (u1.trans u2) m2 (.cons (r1.mono u2) r2) q2) (kx.mono u1)) kx⟩
end
end AL
/-! AL2: displays, operators, subscripts, calls of built-ins, fields. -/
namespace AL
open PySem PySem.Spec
open PyProof.Rows L2
section
variable {X : Cx} {W : WX} {a b c : Expr} {aa ab ac : ATE} {pos : Pos} {es : List Expr} {t' : ATA}

/-! ### displays -/
def aTup (t : ATA) : ATE := fun ρ S E Q => t ρ S E fun ds S1 => ds.length ≤ sizeLine ∧ Q (.tup ds) S1
def aLst (t : ATA) : ATE := fun ρ S E Q => t ρ S E fun ds S1 => ds.length ≤ sizeLine ∧ Q (.ref S1.length) (S1 ++ [.lst ds])
theorem kq_tup {K : PySem.W.Frag} {A : List Addr} {H : Hp} {S : Sto} {P : VK} {Q : VA} {vs : List V} {ds : List D} {p : Addr} (k : KQ K A H P Q) (m : MtS K A H S) (r : RpL K A H ds vs) (q : Q (.tup ds) S) (hp : H p = none) : P (.ref p) (upd H p (.tup vs)) :=
  k _ _ _ A S (Up.lay hp) (m.lay hp) (.tup (SqT.of upd_same) (r.mono (Up.lay hp))) q
theorem kq_lst {K : PySem.W.Frag} {A : List Addr} {H : Hp} {S : Sto} {P : VK} {Q : VA} {vs : List V} {ds : List D} {p : Addr} (k : KQ K A H P Q) (m : MtS K A H S) (r : RpL K A H ds vs) (q : Q (.ref S.length) (S ++ [.lst ds])) (hp : H p = none) : P (.ref p) (upd H p (.lst vs)) :=
  k _ _ _ (A ++ [p]) _ (Up.alloc m hp) (m.alloc (o := .lst ds) hp ⟨vs, upd_same, r.mono (Up.alloc m hp)⟩) (.ref (by rw [m.len]; exact alloc_at)) q
theorem ae_tup {x1} (h : AA X W es t') : AE X W (.Tuple es x1 pos) (aTup t') := by
  obtain ⟨t, p, l⟩ := h
  exact ⟨_, pe_tup p, fun σ H A ρ S P Q E m mt h kq kx => l σ H A ρ S _ _ E m mt h (fun vs H1 ds A1 S1 u1 m1 r1 q1 => ⟨by rw [← r1.length]; exact q1.1, fun p hp => kq_tup (kq.mono u1) m1 r1 q1.2 hp⟩) kx⟩
theorem ae_lst (h : AA X W es t') : AE X W (.List es pos) (aLst t') := by
  obtain ⟨t, p, l⟩ := h
  exact ⟨_, pe_lst p, fun σ H A ρ S P Q E m mt h kq kx => l σ H A ρ S _ _ E m mt h (fun vs H1 ds A1 S1 u1 m1 r1 q1 => ⟨by rw [← r1.length]; exact q1.1, fun p hp => kq_lst (kq.mono u1) m1 r1 q1.2 hp⟩) kx⟩

/-! ### ints and texts by operators -/
def oI (C : Int → Int → Prop) (g : Int → Int → D) : AR2 := fun x y S Q => match x, y with
  | .int i, .int j => C i j ∧ Q (g i j) S
  | _, _ => False
theorem ao_I {f : Value → Value → Sem Value} {C : Int → Int → Prop} {g : Int → Int → V} {g' : Int → Int → D} (h : OpR X f (rI C g)) (hg : ∀ i j A H, Rp X.K A H (g' i j) (g i j)) : AOp X f (oI C g') := by
  refine ⟨_, h, fun x y H A dx dy S P Q m rx ry q k => ?_⟩
  cases rx <;> cases ry <;> first | exact q.elim | skip
  exact ⟨_, _, rfl, rfl, q.1, k _ H _ A S Up.refl m (hg _ _ _ _) q.2⟩
theorem ao_I0 {f : Value → Value → Sem Value} {g : Int → Int → V} {g' : Int → Int → D} (h : OpR X f (rI0 g)) (hg : ∀ i j A H, Rp X.K A H (g' i j) (g i j)) : AOp X f (oI (fun _ _ => True) g') := by
  refine ⟨_, h, fun x y H A dx dy S P Q m rx ry q k => ?_⟩
  cases rx <;> cases ry <;> first | exact q.elim | skip
  exact ⟨_, _, rfl, rfl, k _ H _ A S Up.refl m (hg _ _ _ _) q.2⟩
def oS (C : Str → Str → Prop) (g : Str → Str → D) : AR2 := fun x y S Q => match x, y with
  | .str i, .str j => C i j ∧ Q (g i j) S
  | _, _ => False
theorem ao_S {f : Value → Value → Sem Value} {C : Str → Str → Prop} {g : Str → Str → D} {g' : Str → Str → V} {r : R2} (h : OpR X f r) (hr : ∀ i j H (P : VK), C i j → P (g' i j) H → r (.str i) (.str j) H P) (hg : ∀ i j A H, Rp X.K A H (g i j) (g' i j)) : AOp X f (oS C g) := by
  refine ⟨_, h, fun x y H A dx dy S P Q m rx ry q k => ?_⟩
  cases rx <;> cases ry <;> first | exact q.elim | skip
  exact hr _ _ H P q.1 (k _ H _ A S Up.refl m (hg _ _ _ _) q.2)
/-- the list that stands at a number -/
def lstOf (S : Sto) (i : Nat) : Option (List D) := match S[i]? with
  | some (.lst l) => some l
  | some (.rol l) => some l
  | _ => none
def oCat : AR2 := fun x y S Q => match x, y with
  | .ref i, .ref j => (match S[i]?, S[j]? with
    | some (.lst l), some (.lst n) => l.length + n.length ≤ sizeLine ∧ Q (.ref S.length) (S ++ [.lst (l ++ n)])
    | _, _ => False)
  | _, _ => False
theorem ao_cat : AOp X (binaryOp .Add) oCat := by
  refine ⟨_, op_cat, fun x y H A dx dy S P Q m rx ry q k => ?_⟩
  cases rx <;> cases ry <;> first | exact q.elim | skip
  rename_i i p e1 j p' e2
  simp only [oCat] at q
  split at q
  · rename_i l n h1 h2
    obtain ⟨vs, g1, r1⟩ := m.ok i _ p h1 e1
    obtain ⟨ws, g2, r2⟩ := m.ok j _ p' h2 e2
    refine ⟨p, p', vs, ws, rfl, rfl, g1, g2, by rw [← r1.length, ← r2.length]; exact q.1, fun pp hp => kq_lst k m (r1.append r2) q.2 hp⟩
  · exact q.elim
def oAdd : AR2 := fun x y S Q => match x, y with
  | .int i, .int j => Q (.int (i + j)) S
  | .str s, .str t => s.length + t.length ≤ sizeLine ∧ Q (.str (s ++ t)) S
  | .ref i, .ref j => (match S[i]?, S[j]? with
    | some (.lst l), some (.lst n) => l.length + n.length ≤ sizeLine ∧ Q (.ref S.length) (S ++ [.lst (l ++ n)])
    | _, _ => False)
  | _, _ => False
theorem ao_add : AOp X (binaryOp .Add) oAdd := by
  have h1 : AOp X (binaryOp .Add) (oI (fun _ _ => True) fun i j => .int (i + j)) := ao_I0 op_add fun _ _ _ _ => .int _
  have h2 : AOp X (binaryOp .Add) (oS (fun i j => i.length + j.length ≤ sizeLine) fun i j => .str (i ++ j)) := ao_S (g' := fun i j => .str (i ++ j)) op_add_str (fun i j H P c q => ⟨i, j, rfl, rfl, c, q⟩) fun _ _ _ _ => .str _
  refine (h1.or (h2.or ao_cat)).imp fun x y S Q q => ?_
  cases x <;> cases y <;> first | exact q.elim | skip
  · exact .inl ⟨trivial, q⟩
  · exact .inr (.inl q)
  · exact .inr (.inr q)
def oSub : AR2 := fun x y S Q => match x, y with
  | .int i, .int j => Q (.int (i - j)) S
  | _, _ => False
theorem ao_sub : AOp X (binaryOp .Sub) oSub := (ao_I0 (g' := fun i j => .int (i - j)) op_sub fun _ _ _ _ => .int _).imp fun x y S Q q => by
  cases x <;> cases y <;> first | exact q.elim | exact ⟨trivial, q⟩
/-- text * n -/
def repS (x : Str) (n : Int) : Str := ⟨(List.replicate n.toNat x.cps).foldl (· ++ ·) #[]⟩
theorem rep_len {l : List (Array Nat)} {a : Array Nat} {m : Nat} (h : ∀ y ∈ l, y.size = m) : (l.foldl (· ++ ·) a).size = a.size + l.length * m := by
  induction l generalizing a with
  | nil => simp
  | cons y l ih =>
    rw [List.foldl_cons, ih fun z hz => h z (List.mem_cons_of_mem _ hz), Array.size_append, h y (List.mem_cons_self ..), List.length_cons, Nat.succ_mul]
    omega
theorem op_mulS : OpR X (binaryOp .Mult) (fun x y H Q => ∃ i n, x = .str i ∧ y = .int n ∧ 0 < i.length ∧ i.length ≤ 1000 ∧ 2 ≤ n ∧ n ≤ 1000 ∧ Q (.str (repS i n)) H) := by
  rintro pins s σ H x y v u Q I rx ry ⟨i, n, e1, e2, h0, h1, h2, h3, q⟩
  subst e1 e2
  obtain ⟨t, rfl⟩ := rx
  obtain ⟨t', rfl⟩ := ry
  have hz : i.length * n.toNat ≤ 1000 * 1000 := Nat.mul_le_mul h1 (by omega)
  have hs : (1000 * 1000 : Nat) ≤ sizeLine := by decide
  have nl : Builtin.Str.tooLong (i.length * n.toNat) = false := by
    unfold Builtin.Str.tooLong
    exact decide_eq_false (show ¬ _ by omega)
  refine PySem.P.mul_str ?_ (fun _ _ => ?_) (fun _ _ => nl) ?_
  · rw [decide_eq_false (by omega), decide_eq_false (by omega)]; rfl
  · have h5 : (1000 : Int) ≤ (2 ^ 63 - 1) / n := Int.le_ediv_of_mul_le (by omega) (by omega)
    omega
  · rw [if_neg (by omega), if_neg (by simp; omega)]
    refine ⟨?_, .str (repS i n), H, I.tok _, ⟨_, rfl⟩, q⟩
    have e : ((List.replicate n.toNat i.cps).foldl (· ++ ·) #[]).size = (#[] : Array Nat).size + (List.replicate n.toNat i.cps).length * i.cps.size := rep_len fun y hy => by rw [List.eq_of_mem_replicate hy]
    show ((List.replicate n.toNat i.cps).foldl (· ++ ·) #[]).size ≤ sizeLine
    rw [e, List.length_replicate, Array.size_empty, Nat.zero_add, Nat.mul_comm]
    exact Nat.le_trans hz hs
def oMul : AR2 := fun x y S Q => match x, y with
  | .int i, .int j => CMul i j ∧ Q (.int (i * j)) S
  | .str s, .int n => (0 < s.length ∧ s.length ≤ 1000 ∧ 2 ≤ n ∧ n ≤ 1000) ∧ Q (.str (repS s n)) S
  | _, _ => False
theorem ao_mulS : AOp X (binaryOp .Mult) (fun x y S Q => match x, y with
  | .str s, .int n => (0 < s.length ∧ s.length ≤ 1000 ∧ 2 ≤ n ∧ n ≤ 1000) ∧ Q (.str (repS s n)) S
  | _, _ => False) := by
  refine ⟨_, op_mulS, fun x y H A dx dy S P Q m rx ry q k => ?_⟩
  cases rx <;> cases ry <;> first | exact q.elim | skip
  obtain ⟨⟨c1, c2, c3, c4⟩, q⟩ := q
  exact ⟨_, _, rfl, rfl, c1, c2, c3, c4, k _ H _ A S Up.refl m (.str _) q⟩
theorem ao_mul : AOp X (binaryOp .Mult) oMul := ((ao_I (g' := fun i j => .int (i * j)) op_mul fun _ _ _ _ => .int _).or ao_mulS).imp fun x y S Q q => by
  cases x <;> cases y <;> first | exact q.elim | exact .inl q | exact .inr q
def oDiv : AR2 := fun x y S Q => match x, y with
  | .int i, .int j => CDiv i j ∧ Q (.int (i / j)) S
  | _, _ => False
theorem ao_div : AOp X (binaryOp .FloorDiv) oDiv := (ao_I (g' := fun i j => .int (i / j)) op_fdiv fun _ _ _ _ => .int _).imp fun x y S Q q => by
  cases x <;> cases y <;> first | exact q.elim | exact q
def oMod : AR2 := fun x y S Q => match x, y with
  | .int i, .int j => 0 < j ∧ Q (.int (i % j)) S
  | _, _ => False
theorem ao_mod : AOp X (binaryOp .Mod) oMod := (ao_I (g' := fun i j => .int (i % j)) op_mod fun _ _ _ _ => .int _).imp fun x y S Q q => by
  cases x <;> cases y <;> first | exact q.elim | exact q
/-! ### order -/
def sLt (s t : Str) : Bool := decide (s.cps.toList < t.cps.toList)
def oLt : AR2 := fun x y S Q => match x, y with
  | .int i, .int j => Q (.bl (decide (i < j))) S
  | .str s, .str t => Q (.bl (sLt s t)) S
  | _, _ => False
def oLe : AR2 := fun x y S Q => match x, y with
  | .int i, .int j => Q (.bl (decide (i ≤ j))) S
  | .str s, .str t => Q (.bl (!sLt t s)) S
  | _, _ => False
def oGt : AR2 := fun x y S Q => match x, y with
  | .int i, .int j => Q (.bl (decide (j < i))) S
  | .str s, .str t => Q (.bl (sLt t s)) S
  | _, _ => False
def oGe : AR2 := fun x y S Q => match x, y with
  | .int i, .int j => Q (.bl (decide (j ≤ i))) S
  | .str s, .str t => Q (.bl (!sLt s t)) S
  | _, _ => False
theorem ao_two {f : Value → Value → Sem Value} {gi : Int → Int → Bool} {gs : Str → Str → Bool} {ri : R2} {rs : R2} (hi : OpR X f ri) (hs : OpR X f rs) (ei : ∀ i j H (P : VK), P (.bl (gi i j)) H → ri (.int i) (.int j) H P) (es : ∀ i j H (P : VK), P (.bl (gs i j)) H → rs (.str i) (.str j) H P) :
    AOp X f (fun x y S Q => match x, y with
      | .int i, .int j => Q (.bl (gi i j)) S
      | .str s, .str t => Q (.bl (gs s t)) S
      | _, _ => False) := by
  refine ⟨_, hi.or hs, fun x y H A dx dy S P Q m rx ry q k => ?_⟩
  cases rx <;> cases ry <;> first | exact q.elim | skip
  · exact .inl (ei _ _ H P (k _ H _ A S Up.refl m (.bl _) q))
  · exact .inr (es _ _ H P (k _ H _ A S Up.refl m (.bl _) q))
theorem ao_lt : AOp X (compareOp .Lt) oLt := (ao_two op_lt op_lt_str (fun i j H P q => ⟨i, j, rfl, rfl, q⟩) (fun i j H P q => ⟨i, j, rfl, rfl, q⟩)).imp fun x y S Q q => by cases x <;> cases y <;> first | exact q.elim | exact q
theorem ao_le : AOp X (compareOp .LtE) oLe := (ao_two op_le op_le_str (fun i j H P q => ⟨i, j, rfl, rfl, q⟩) (fun i j H P q => ⟨i, j, rfl, rfl, q⟩)).imp fun x y S Q q => by cases x <;> cases y <;> first | exact q.elim | exact q
theorem ao_gt : AOp X (compareOp .Gt) oGt := (ao_two op_gt op_gt_str (fun i j H P q => ⟨i, j, rfl, rfl, q⟩) (fun i j H P q => ⟨i, j, rfl, rfl, q⟩)).imp fun x y S Q q => by cases x <;> cases y <;> first | exact q.elim | exact q
theorem ao_ge : AOp X (compareOp .GtE) oGe := (ao_two op_ge op_ge_str (fun i j H P q => ⟨i, j, rfl, rfl, q⟩) (fun i j H P q => ⟨i, j, rfl, rfl, q⟩)).imp fun x y S Q q => by cases x <;> cases y <;> first | exact q.elim | exact q

/-! ### == -/
/-! what is read of data: lists through the store -/
mutual
inductive Py (S : Sto) : D → PyData → Prop
  | non : Py S .non .none
  | bl (b : Bool) : Py S (.bl b) (.bool b)
  | int (i : Int) : Py S (.int i) (.int i)
  | str (x : Str) : Py S (.str x) (.str x)
  | tup {l : List D} {ds : List PyData} : PyL S l ds → Py S (.tup l) (.tuple ds)
  | lst {i : Nat} {l : List D} {ds : List PyData} : lstOf S i = some l → PyL S l ds → Py S (.ref i) (.list ds)
inductive PyL (S : Sto) : List D → List PyData → Prop
  | nil : PyL S [] []
  | cons {d : D} {l : List D} {p : PyData} {ds : List PyData} : Py S d p → PyL S l ds → PyL S (d :: l) (p :: ds)
end
theorem lst_at {K : PySem.W.Frag} {A : List Addr} {H : Hp} {S : Sto} {i : Nat} {l : List D} {a : Addr} (m : MtS K A H S) (e : A[i]? = some a) (h : lstOf S i = some l) : ∃ vs, SqL K H a vs ∧ RpL K A H l vs := by
  unfold lstOf at h
  split at h
  · rename_i l' q
    cases h
    obtain ⟨vs, g, r⟩ := m.ok i _ a q e
    exact ⟨vs, SqL.of g, r⟩
  · rename_i l' q
    cases h
    obtain ⟨vs, g, r⟩ := m.ok i _ a q e
    exact ⟨vs, .inl g, r⟩
  · cases h
mutual
theorem Py.dp {K : PySem.W.Frag} {A : List Addr} {H : Hp} {S : Sto} (m : MtS K A H S) : ∀ (p : PyData) (d : D) (v : V), Py S d p → Rp K A H d v → Dp K H v p
  | .none, _, _, h, r => by cases h; cases r; exact .non
  | .bool b, _, _, h, r => by cases h; cases r; exact .bl b
  | .int i, _, _, h, r => by cases h; cases r; exact .int i
  | .str x, _, _, h, r => by cases h; cases r; exact .str x
  | .tuple ds, _, _, h, r => by
    cases h; rename_i l q
    cases r; rename_i a vs hs rl
    exact .tup hs (PyL.dp m ds l vs q rl)
  | .list ds, _, _, h, r => by
    cases h; rename_i i l e q
    cases r; rename_i a ea
    obtain ⟨vs, hs, rl⟩ := lst_at m ea e
    exact .lst hs (PyL.dp m ds l vs q rl)
  | .dict kvs, _, _, h, _ => by cases h
theorem PyL.dp {K : PySem.W.Frag} {A : List Addr} {H : Hp} {S : Sto} (m : MtS K A H S) : ∀ (ps : List PyData) (l : List D) (vs : List V), PyL S l ps → RpL K A H l vs → DpAll K H vs ps
  | [], _, _, h, r => by cases h; cases r; exact .nil
  | p :: ps, _, _, h, r => by
    cases h; rename_i d l h1 h2
    cases r; rename_i v vs r1 r2
    exact .cons (Py.dp m p d v h1 r1) (PyL.dp m ps l vs h2 r2)
end
/-- == of atoms -/
def eqA : D → D → Option Bool
  | .str x, .str y => some (decide (x = y))
  | .int i, .int j => some (decide (i = j))
  | .bl i, .bl j => some (decide (i = j))
  | .non, .non => some true
  | .non, .int _ => some false
  | .int _, .non => some false
  | .non, .bl _ => some false
  | .bl _, .non => some false
  | .non, .str _ => some false
  | .str _, .non => some false
  | .int _, .str _ => some false
  | .str _, .int _ => some false
  | .bl _, .str _ => some false
  | .str _, .bl _ => some false
  | _, _ => none
theorem eqA_ok {K : PySem.W.Frag} {A : List Addr} {H : Hp} {x y : D} {b : Bool} {v w : V} (h : eqA x y = some b) (rx : Rp K A H x v) (ry : Rp K A H y w) : scal v w = true ∧ decide (v = w) = b := by
  cases rx <;> cases ry <;> simp [eqA] at h <;> subst h <;> first | exact ⟨rfl, rfl⟩ | (refine ⟨rfl, ?_⟩; simp)
/-- == of nested data -/
def eqN (x y : D) (S : Sto) (Q : Bool → Prop) : Prop := ∃ p q, Py S x p ∧ Py S y q ∧ SeqAt.shaped p = true ∧ SeqAt.shaped q = true ∧ Q (PyData.eqv p q)
def oEq : AR2 := fun x y S Q => match eqA x y with
  | some b => Q (.bl b) S
  | none => eqN x y S fun b => Q (.bl b) S
def oNe : AR2 := fun x y S Q => match eqA x y with
  | some b => Q (.bl (!b)) S
  | none => eqN x y S fun b => Q (.bl (!b)) S
theorem ao_eq (hu : X.A.units + 64 < cLine) : AOp X (compareOp .Eq) oEq := by
  refine ⟨_, op_eq.or (op_eqD hu), fun x y H A dx dy S P Q m rx ry q k => ?_⟩
  unfold oEq at q
  split at q
  · rename_i b h
    obtain ⟨h1, h2⟩ := eqA_ok h rx ry
    exact .inl ⟨h1, by rw [h2]; exact k _ H _ A S Up.refl m (.bl _) q⟩
  · obtain ⟨p, p', h1, h2, s1, s2, q⟩ := q
    exact .inr ⟨p, p', Py.dp m p dx x h1 rx, Py.dp m p' dy y h2 ry, s1, s2, k _ H _ A S Up.refl m (.bl _) q⟩
theorem ao_ne (hu : X.A.units + 64 < cLine) : AOp X (compareOp .NotEq) oNe := by
  refine ⟨_, op_ne.or (op_neD hu), fun x y H A dx dy S P Q m rx ry q k => ?_⟩
  unfold oNe at q
  split at q
  · rename_i b h
    obtain ⟨h1, h2⟩ := eqA_ok h rx ry
    exact .inl ⟨h1, by rw [h2]; exact k _ H _ A S Up.refl m (.bl _) q⟩
  · obtain ⟨p, p', h1, h2, s1, s2, q⟩ := q
    exact .inr ⟨p, p', Py.dp m p dx x h1 rx, Py.dp m p' dy y h2 ry, s1, s2, k _ H _ A S Up.refl m (.bl _) q⟩
/-! ### is -/
def isNon : D → Bool
  | .non => true
  | _ => false
def oIs : AR2 := fun x y S Q => match y with
  | .non => Q (.bl (isNon x)) S
  | .bl b => (match x with
    | .bl k => Q (.bl (decide (k = b))) S
    | _ => False)
  | _ => False
def oIsNot : AR2 := fun x y S Q => match y with
  | .non => Q (.bl (!isNon x)) S
  | .bl b => (match x with
    | .bl k => Q (.bl (!decide (k = b))) S
    | _ => False)
  | _ => False
theorem isNon_ok {K : PySem.W.Frag} {A : List Addr} {H : Hp} {x : D} {v : V} (r : Rp K A H x v) : decide (v = V.non) = isNon x := by
  cases r <;> simp [isNon]
theorem ao_is : AOp X (compareOp .Is) oIs := by
  refine ⟨_, op_isN.or op_isBl, fun x y H A dx dy S P Q m rx ry q k => ?_⟩
  cases ry <;> first | exact q.elim | skip
  · exact .inl ⟨rfl, by rw [isNon_ok rx]; exact k _ H _ A S Up.refl m (.bl _) q⟩
  · cases rx <;> first | exact q.elim | skip
    exact .inr ⟨_, _, rfl, rfl, k _ H _ A S Up.refl m (.bl _) q⟩
theorem ao_isnot : AOp X (compareOp .IsNot) oIsNot := by
  refine ⟨_, op_notN.or op_notBl, fun x y H A dx dy S P Q m rx ry q k => ?_⟩
  cases ry <;> first | exact q.elim | skip
  · exact .inl ⟨rfl, by rw [isNon_ok rx]; exact k _ H _ A S Up.refl m (.bl _) q⟩
  · cases rx <;> first | exact q.elim | skip
    exact .inr ⟨_, _, rfl, rfl, k _ H _ A S Up.refl m (.bl _) q⟩
/-! ### in -/
def flatD : D → Bool
  | .non => true
  | .bl _ => true
  | .int _ => true
  | .str _ => true
  | _ => false
def eqF : D → D → Bool
  | .non, .non => true
  | .bl a, .bl b => a == b
  | .bl k, .int i => (if k then 1 else 0) == i
  | .int i, .bl k => i == (if k then 1 else 0)
  | .int a, .int b => a == b
  | .str a, .str b => decide (a = b)
  | _, _ => false
def inF (x : D) (l : List D) : Bool := l.any fun y => eqF y x
theorem flat_ok {K : PySem.W.Frag} {A : List Addr} {H : Hp} {x : D} {v : V} (r : Rp K A H x v) : flatV v = flatD x := by
  cases r <;> rfl
theorem flats_ok {K : PySem.W.Frag} {A : List Addr} {H : Hp} : ∀ {l : List D} {vs : List V}, RpL K A H l vs → vs.all flatV = l.all flatD
  | [], _, h => by cases h; rfl
  | d :: l, _, h => by cases h; rename_i h1 h2; simp [flat_ok h1, flats_ok h2]
theorem eqF_ok {K : PySem.W.Frag} {A : List Addr} {H : Hp} {x y : D} {v w : V} (rx : Rp K A H x v) (ry : Rp K A H y w) (fx : flatD x = true) : eqV v w = eqF x y := by
  cases rx <;> cases ry <;> simp [flatD] at fx <;> first | rfl | (simp [eqV, eqF]; try exact Bool.beq_eq_decide_eq _ _)
theorem inF_ok {K : PySem.W.Frag} {A : List Addr} {H : Hp} {x : D} {v : V} (rx : Rp K A H x v) : ∀ {l : List D} {vs : List V}, RpL K A H l vs → l.all flatD = true → inV v vs = inF x l
  | [], _, h, _ => by cases h; rfl
  | d :: l, _, h, f => by
    cases h; rename_i h1 h2
    simp only [List.all_cons, Bool.and_eq_true] at f
    have ih := inF_ok rx h2 f.2
    unfold inV inF at ih ⊢
    simp only [List.any_cons, eqF_ok h1 rx f.1, ih]
def seqOf (S : Sto) : D → Option (List D)
  | .tup l => some l
  | .kl l => some l
  | .ref i => lstOf S i
  | _ => none
/-- x in s: a flat thing in flat things | data in a list of data -/
def oInB (neg : Bool) : AR2 := fun x y S Q => must (seqOf S y) fun l => (flatD x && l.all flatD) = true ∧ Q (.bl (if neg then !inF x l else inF x l)) S
theorem seq_at {K : PySem.W.Frag} {A : List Addr} {H : Hp} {S : Sto} {d : D} {l : List D} {v : V} (m : MtS K A H S) (r : Rp K A H d v) (h : seqOf S d = some l) : ∃ a vs, v = .ref a ∧ (SqL K H a vs ∨ SqT K H a vs) ∧ RpL K A H l vs := by
  cases r <;> simp [seqOf] at h
  · rename_i i a e
    obtain ⟨vs, hs, rl⟩ := lst_at m e h
    exact ⟨a, vs, rfl, .inl hs, rl⟩
  · rename_i a vs l' hs rl
    subst h
    exact ⟨a, vs, rfl, .inr hs, rl⟩
  · rename_i a vs l' hs rl
    subst h
    exact ⟨a, vs, rfl, .inl (.inr hs), rl⟩
theorem ao_inB : AOp X (compareOp .In) (oInB false) := by
  refine ⟨_, op_in_seq, fun x y H A dx dy S P Q m rx ry q k => ?_⟩
  obtain ⟨l, e, f, q⟩ := of_must q
  obtain ⟨a, vs, rfl, hs, rl⟩ := seq_at m ry e
  simp only [Bool.and_eq_true] at f
  exact ⟨a, vs, rfl, hs, (flat_ok rx).trans f.1, (flats_ok rl).trans f.2, by rw [inF_ok rx rl f.2]; exact k _ H _ A S Up.refl m (.bl _) q⟩
theorem ao_notinB : AOp X (compareOp .NotIn) (oInB true) := by
  refine ⟨_, op_notIn_seq, fun x y H A dx dy S P Q m rx ry q k => ?_⟩
  obtain ⟨l, e, f, q⟩ := of_must q
  obtain ⟨a, vs, rfl, hs, rl⟩ := seq_at m ry e
  simp only [Bool.and_eq_true] at f
  exact ⟨a, vs, rfl, hs, (flat_ok rx).trans f.1, (flats_ok rl).trans f.2, by rw [inF_ok rx rl f.2]; exact k _ H _ A S Up.refl m (.bl _) q⟩
end
end AL
/-! AL3: subscripts, slices, calls of built-ins and of defs, fields, dicts. -/
namespace AL
open PySem PySem.Spec
open PyProof.Rows L2
theorem PE.or {X : Cx} {e : Expr} {t u : TE} (h : PE X e t) (g : PE X e u) : PE X e (fun σ H Q => t σ H Q ∨ u σ H Q) :=
  ⟨fun pins s σ H Q I q => q.elim (h.run pins s σ H Q I) (g.run pins s σ H Q I)⟩
theorem PT.or {X : Cx} {e : Expr} {t u : TT} (h : PT X e t) (g : PT X e u) : PT X e (fun σ H Q => t σ H Q ∨ u σ H Q) :=
  ⟨fun pins s σ H Q I q => q.elim (h.run pins s σ H Q I) (g.run pins s σ H Q I)⟩
section
variable {X : Cx} {W : WX} {a b c : Expr} {aa ab ac : ATE} {pos : Pos} {es : List Expr} {t' : ATA}
/-! ### subscripts -/
def at' {α : Type} (l : List α) (i : Int) : Option α := if 0 ≤ i then l[i.toNat]? else if -(l.length : Int) ≤ i then l[(i + l.length).toNat]? else none
theorem at_ok {α : Type} {l : List α} {i : Int} {d : α} (h : at' l i = some d) : ∃ j, ixN l.length i = some j ∧ l[j]? = some d := by
  unfold at' at h
  split at h
  · rename_i h0
    have hl := (List.getElem?_eq_some_iff.mp h).1
    refine ⟨i.toNat, ?_, h⟩
    unfold ixN
    rw [if_pos h0, if_pos (by omega)]
  · rename_i h0
    split at h
    · rename_i h1
      refine ⟨(i + l.length).toNat, ?_, h⟩
      unfold ixN
      rw [if_neg h0, if_pos h1]
    · cases h
theorem at_vs {K : PySem.W.Frag} {A : List Addr} {H : Hp} {l : List D} {vs : List V} {i : Int} {d : D} (r : RpL K A H l vs) (h : at' l i = some d) : ∃ v, atI vs i = some v ∧ Rp K A H d v := by
  obtain ⟨j, e, g⟩ := at_ok h
  obtain ⟨v, e2, rv⟩ := r.get g
  refine ⟨v, ?_, rv⟩
  unfold atI
  rw [← r.length, e]
  exact e2
def keyD : D → Option Key
  | .int i => some (.inl i)
  | .str x => some (.inr x)
  | _ => none
theorem key_ok {K : PySem.W.Frag} {A : List Addr} {H : Hp} {d : D} {k : Key} {v : V} (h : keyD d = some k) (r : Rp K A H d v) : v = kV k := by
  cases r <;> simp [keyD] at h <;> subst h <;> rfl
def valD {κ : Type} [DecidableEq κ] (kvs : List (κ × D)) (k : κ) : Option D := match kvs with
  | [] => none
  | (q, d) :: r => if q = k then some d else valD r k
theorem valV_cons {κ : Type} [DecidableEq κ] (q : κ) (v : V) (r : List (κ × V)) (k : κ) : valV ((q, v) :: r) k = if q = k then some v else valV r k := by
  unfold valV
  by_cases h : q = k
  · simp [h]
  · simp [h]
theorem val_ok {K : PySem.W.Frag} {A : List Addr} {H : Hp} {κ : Type} [DecidableEq κ] {kvs : List (κ × D)} {ks : List (κ × V)} (r : RpK K A H κ kvs ks) (k : κ) :
    (valD kvs k = none ∧ valV ks k = none) ∨ ∃ d v, valD kvs k = some d ∧ valV ks k = some v ∧ Rp K A H d v := by
  induction r with
  | nil => exact Or.inl ⟨rfl, rfl⟩
  | cons h1 h2 ih =>
    rename_i p q l1 l2
    obtain ⟨p1, p2⟩ := p
    obtain ⟨q1, q2⟩ := q
    obtain ⟨e, rp⟩ := h1
    dsimp only at e rp
    subst e
    rw [valV_cons]
    show ((if p1 = k then some p2 else valD l1 k) = none ∧ _) ∨ ∃ d v, (if p1 = k then some p2 else valD l1 k) = some d ∧ _
    by_cases h : p1 = k
    · rw [if_pos h, if_pos h]; exact .inr ⟨_, _, rfl, rfl, rp⟩
    · rw [if_neg h, if_neg h]; exact ih
def getIx (x y : D) (S : Sto) (Q : VA) : Prop := match x, y with
  | .tup l, .int i => must (at' l i) fun d => Q d S
  | .kl l, .int i => must (at' l i) fun d => Q d S
  | .str s, .int i => s.length ≤ sizeLine ∧ must (at' s.cps.toList i) fun c => Q (.str ⟨#[c]⟩) S
  | .ref k, y => (match S[k]? with
    | some (.lst l) => (match y with
      | .int i => must (at' l i) fun d => Q d S
      | _ => False)
    | some (.rol l) => (match y with
      | .int i => must (at' l i) fun d => Q d S
      | _ => False)
    | some (.dK kvs) => must (keyD y) fun k => must (valD kvs k) fun d => Q d S
    | _ => False)
  | _, _ => False
def aIx (a b : ATE) : ATE := fun ρ S E Q => a ρ S E fun x S1 => b ρ S1 E fun y S2 => getIx x y S2 Q
def rIxD : R2 := fun x y H Q => ∃ a v, x = .ref a ∧ DGet H a y (some v) ∧ Q v H
theorem ix_dict (hu : X.A.units + 1 < cLine) : IxR X rIxD := by
  intro whole part pins s σ H x y v u Q I rx ry h hs
  obtain ⟨a, z, rfl, g, q⟩ := h
  cases rx
  have hT := dict_typeIs I g
  unfold subscriptTail
  refine wpAny_bind ?_
  rw [getitemInPython_of_ne (dict_typeIs I g).not_modules]
  refine wpAny_bind (wpAny_specialOf hT PySem.F.slot_dict_getitem.lookup ?_)
  have got : wpAny (model X.prog X.w) X.A (subscripted part false (.ref a) u) (fun r s₃ => wpAny (model X.prog X.w) X.A (letTemporaryGo whole (.ref a) r >>= fun _ => pure r) (EP X pins σ Q) X.xe s₃) X.xe s := by
    rw [hs]
    exact wpAny_operating (wpAny_mono (d_getItem hu I g ry fun w' s3 I3 rw' => (⟨z, H, I3, rw', q⟩ : EP X pins σ Q w' s3)) (fun r s₃ h₃ => wpAny_bind (wpAny_letTemporaryGo (wpAny_pure h₃))) fun _ _ x => x)
  first
    | exact wpAny_pure (wpAny_bind got)
    | exact wpAny_bind (wpAny_pure (wpAny_bind got))
    | exact wpAny_bind got
theorem getIx_ok {K : PySem.W.Frag} {A : List Addr} {H : Hp} {S : Sto} {x y : D} {v w : V} {P : VK} {Q : VA} (m : MtS K A H S) (rx : Rp K A H x v) (ry : Rp K A H y w) (q : getIx x y S Q) (k : KQ K A H P Q) : rIx K v w H P ∨ rIxD v w H P := by
  cases rx with
  | non => exact q.elim
  | bl b => exact q.elim
  | exn _ => exact q.elim
  | int i => exact q.elim
  | str z =>
    cases ry <;> first | exact q.elim | skip
    rename_i i
    obtain ⟨h1, q⟩ := q
    obtain ⟨c, e, q⟩ := of_must q
    obtain ⟨j, e1, e2⟩ := at_ok e
    refine .inl (.inr (.inr ⟨z, i, c, rfl, rfl, h1, ?_, k _ H _ A S Up.refl m (.str _) q⟩))
    unfold atI
    rw [e1]; exact e2
  | tup hs rl =>
    rename_i a vs l
    cases ry <;> first | exact q.elim | skip
    rename_i i
    obtain ⟨d, e, q⟩ := of_must q
    obtain ⟨z, e1, rz⟩ := at_vs rl e
    exact .inl (.inr (.inl ⟨a, vs, i, z, rfl, rfl, hs, e1, k _ H _ A S Up.refl m rz q⟩))
  | kl hs rl =>
    rename_i a vs l
    cases ry <;> first | exact q.elim | skip
    rename_i i
    obtain ⟨d, e, q⟩ := of_must q
    obtain ⟨z, e1, rz⟩ := at_vs rl e
    exact .inl (.inl ⟨a, vs, i, z, rfl, rfl, .inr hs, e1, k _ H _ A S Up.refl m rz q⟩)
  | ref ea =>
    rename_i j a
    simp only [getIx] at q
    split at q
    · rename_i l e
      obtain ⟨vs, g, rl⟩ := m.ok j _ a e ea
      cases ry <;> first | exact q.elim | skip
      rename_i i
      obtain ⟨d, e, q⟩ := of_must q
      obtain ⟨z, e1, rz⟩ := at_vs rl e
      exact .inl (.inl ⟨a, vs, i, z, rfl, rfl, SqL.of g, e1, k _ H _ A S Up.refl m rz q⟩)
    · rename_i l e
      obtain ⟨vs, g, rl⟩ := m.ok j _ a e ea
      cases ry <;> first | exact q.elim | skip
      rename_i i
      obtain ⟨d, e, q⟩ := of_must q
      obtain ⟨z, e1, rz⟩ := at_vs rl e
      exact .inl (.inl ⟨a, vs, i, z, rfl, rfl, .inl g, e1, k _ H _ A S Up.refl m rz q⟩)
    · rename_i kvs e
      obtain ⟨ks, g, rk⟩ := m.ok j _ a e ea
      obtain ⟨key, ek, q⟩ := of_must q
      obtain ⟨d, ed, q⟩ := of_must q
      have ev := key_ok ek ry
      subst ev
      rcases val_ok rk key with ⟨h1, _⟩ | ⟨d', z, h1, h2, rz⟩
      · rw [h1] at ed; cases ed
      · rw [h1] at ed; cases ed
        exact .inr ⟨a, z, rfl, by have := DGet.k (k := key) g; rw [h2] at this; exact this, k _ H _ A S Up.refl m rz q⟩
    · exact q.elim
theorem ae_ix (hu : X.A.units + 1 < cLine) (ha : AE X W a aa) (hb : AE X W b ab) (hs : PlainIx b := by intro _ _; rfl) : AE X W (.Subscript a b pos) (aIx aa ab) := by
  obtain ⟨ta, pa, la⟩ := ha
  obtain ⟨tb, pb, lb⟩ := hb
  exact ⟨_, pe_ix (ix_seq.or (ix_dict hu)) pa pb hs, fun σ H A ρ S P Q E m mt h kq kx => la σ H A ρ S _ _ E m mt h (fun x H1 dx A1 S1 u1 m1 r1 q1 => lb σ H1 A1 ρ S1 _ _ E m1 (mt.mono u1) q1 (fun y H2 dy A2 S2 u2 m2 r2 q2 =>
    getIx_ok m2 (r1.mono u2) r2 q2 (kq.mono (u1.trans u2))) (kx.mono u1)) kx⟩

/-! ### in: a sequence of flat things, data in data, a sign in a text, a key in a dict -/
def opInD : R2 := fun x y H Q => ∃ a o, y = .ref a ∧ DGet H a x o ∧ Q (.bl o.isSome) H
def opNotInD : R2 := fun x y H Q => ∃ a o, y = .ref a ∧ DGet H a x o ∧ Q (.bl (!o.isSome)) H
theorem op_inDict (hu : X.A.units + 1 < cLine) : OpR X (compareOp .In) opInD := by
  intro pins s σ H x y v u Q inv rx ry h
  obtain ⟨a, o, rfl, g, q⟩ := h
  cases ry
  exact d_in hu inv g rx fun s3 I3 => ⟨.bl o.isSome, H, I3, rfl, q⟩
theorem op_notinDict (hu : X.A.units + 1 < cLine) : OpR X (compareOp .NotIn) opNotInD := by
  intro pins s σ H x y v u Q inv rx ry h
  obtain ⟨a, o, rfl, g, q⟩ := h
  cases ry
  exact d_notIn hu inv g rx fun s3 I3 => ⟨.bl (!o.isSome), H, I3, rfl, q⟩
def isIn (x y : D) (S : Sto) (Q : Bool → Prop) : Prop := match y with
  | .str t => (match x with
    | .str s => (match s.cps.toList with
      | [c] => Q (decide (c ∈ t.cps.toList))
      | _ => False)
    | _ => False)
  | y => (match y with
    | .ref j => (match S[j]? with
      | some (.dK kvs) => must (keyD x) fun k => Q (valD kvs k).isSome
      | _ => must (lstOf S j) fun l => if (flatD x && l.all flatD) = true then Q (inF x l) else ∃ p ps, Py S x p ∧ PyL S l ps ∧ SeqAt.shaped p = true ∧ SeqAt.shaped (.list ps) = true ∧ Q (ps.any fun z => PyData.eqv z p))
    | .tup l => (flatD x && l.all flatD) = true ∧ Q (inF x l)
    | _ => False)
def oIn : AR2 := fun x y S Q => isIn x y S fun b => Q (.bl b) S
def oNotIn : AR2 := fun x y S Q => isIn x y S fun b => Q (.bl (!b)) S
theorem isIn_ok {K : PySem.W.Frag} {A : List Addr} {H : Hp} {S : Sto} {x y : D} {v w : V} {Q : Bool → Prop} (m : MtS K A H S) (rx : Rp K A H x v) (ry : Rp K A H y w) (q : isIn x y S Q) {G : Prop}
    (g1 : ∀ (p : Addr) (vs : List V), w = .ref p → (SqL K H p vs ∨ SqT K H p vs) → flatV v = true → vs.all flatV = true → Q (inV v vs) → G)
    (g2 : ∀ d ds, Dp K H v d → Dp K H w (.list ds) → SeqAt.shaped d = true → SeqAt.shaped (.list ds) = true → Q (ds.any fun z => PyData.eqv z d) → G)
    (g3 : ∀ (c : Nat) (z : Str), v = .str ⟨#[c]⟩ → w = .str z → Q (decide (c ∈ z.cps.toList)) → G)
    (g4 : ∀ a o, w = .ref a → DGet H a v o → Q o.isSome → G) : G := by
  cases ry with
  | non => exact q.elim
  | bl b => exact q.elim
  | int i => exact q.elim
  | str t =>
    cases rx <;> first | exact q.elim | skip
    rename_i s
    simp only [isIn] at q
    split at q
    · rename_i c e
      refine g3 c t ?_ rfl q
      obtain ⟨⟨l⟩⟩ := s
      simp at e; subst e; rfl
    · exact q.elim
  | tup hs rl =>
    simp only [isIn, Bool.and_eq_true] at q
    obtain ⟨⟨f1, f2⟩, q⟩ := q
    exact g1 _ _ rfl (.inr hs) ((flat_ok rx).trans f1) ((flats_ok rl).trans f2) (by rw [inF_ok rx rl f2]; exact q)
  | kl hs rl => exact q.elim
  | exn _ => exact q.elim
  | ref ea =>
    rename_i j a
    simp only [isIn] at q
    split at q
    · rename_i kvs e
      obtain ⟨ks, g, rk⟩ := m.ok j _ a e ea
      obtain ⟨k, ek, q⟩ := of_must q
      have ev := key_ok ek rx
      subst ev
      rcases val_ok rk k with ⟨h1, h2⟩ | ⟨d', z, h1, h2, rz⟩
      · rw [h1] at q
        exact g4 a none rfl (by have := DGet.k (k := k) g; rw [h2] at this; exact this) q
      · rw [h1] at q
        exact g4 a (some z) rfl (by have := DGet.k (k := k) g; rw [h2] at this; exact this) q
    · obtain ⟨l, e, q⟩ := of_must q
      obtain ⟨vs, hs, rl⟩ := lst_at m ea e
      by_cases f : (flatD x && l.all flatD) = true
      · rw [if_pos f] at q
        simp only [Bool.and_eq_true] at f
        exact g1 a vs rfl (.inl hs) ((flat_ok rx).trans f.1) ((flats_ok rl).trans f.2) (by rw [inF_ok rx rl f.2]; exact q)
      · rw [if_neg f] at q
        obtain ⟨p, ps, h1, h2, s1, s2, q⟩ := q
        exact g2 p ps (Py.dp m p x v h1 rx) (.lst hs (PyL.dp m ps l vs h2 rl)) s1 s2 q
theorem ao_in (hu : X.A.units + 65 < cLine) : AOp X (compareOp .In) oIn := by
  refine ⟨_, (op_in_seq (X := X)).or ((op_inD hu).or (op_in_sign.or (op_inDict (by omega)))), fun x y H A dx dy S P Q m rx ry q k => ?_⟩
  refine isIn_ok m rx ry q (fun p vs e h f1 f2 z => .inl ⟨p, vs, e, h, f1, f2, ?_⟩) (fun d ds h1 h2 s1 s2 z => .inr (.inl ⟨d, ds, h1, h2, s1, s2, ?_⟩)) (fun c z e1 e2 q => .inr (.inr (.inl ⟨c, z, e1, e2, ?_⟩))) (fun a o e g q => .inr (.inr (.inr ⟨a, o, e, g, ?_⟩)))
  all_goals exact k _ H _ A S Up.refl m (.bl _) (by assumption)
theorem ao_notin (hu : X.A.units + 65 < cLine) : AOp X (compareOp .NotIn) oNotIn := by
  refine ⟨_, (op_notIn_seq (X := X)).or ((op_notInD hu).or (op_notIn_sign.or (op_notinDict (by omega)))), fun x y H A dx dy S P Q m rx ry q k => ?_⟩
  refine isIn_ok m rx ry q (fun p vs e h f1 f2 z => .inl ⟨p, vs, e, h, f1, f2, ?_⟩) (fun d ds h1 h2 s1 s2 z => .inr (.inl ⟨d, ds, h1, h2, s1, s2, ?_⟩)) (fun c z e1 e2 q => .inr (.inr (.inl ⟨c, z, e1, e2, ?_⟩))) (fun a o e g q => .inr (.inr (.inr ⟨a, o, e, g, ?_⟩)))
  all_goals exact k _ H _ A S Up.refl m (.bl _) (by assumption)
end
end AL
/-! AL4: slices, calls of built-ins, of defs, methods, makers; fields. -/
namespace AL
open PySem PySem.Spec
open PyProof.Rows L2
section
variable {X : Cx} {W : WX} {a b c : Expr} {aa ab ac : ATE} {pos : Pos} {es : List Expr} {t' : ATA}
/-! ### slices -/
abbrev ATO := Rho → Sto → XA → (Option Int → Sto → Prop) → Prop
def KO (K : PySem.W.Frag) (A : List Addr) (H : Hp) (P : Option Int → Hp → Prop) (Q : Option Int → Sto → Prop) : Prop := ∀ v H' A' S', Up K A H A' H' → MtS K A' H' S' → Q v S' → P v H'
def LPo (K : PySem.W.Frag) (W : WX) (t : TO) (a : ATO) : Prop := ∀ σ H A ρ S (P : Option Int → Hp → Prop) (Q : Option Int → Sto → Prop) (E : XA), MtS K A H S → Mt K A H ρ σ → a ρ S E Q → KO K A H P Q → KX K A H (WE' W σ) E → t σ H P
def AO (X : Cx) (W : WX) (e : Option Expr) (a : ATO) : Prop := ∃ t, PO X e t ∧ LPo X.K W t a
def aNoPart : ATO := fun _ S _ Q => Q none S
def aPart (a : ATE) : ATO := fun ρ S E Q => a ρ S E fun x S1 => match x with
  | .int i => Q (some i) S1
  | _ => False
theorem ao_none : AO X W none aNoPart := ⟨_, po_none, fun σ H A ρ S P Q E m mt h kq _ => kq none H A S Up.refl m h⟩
theorem ao_some (h : AE X W a aa) : AO X W (some a) (aPart aa) := by
  obtain ⟨t, p, l⟩ := h
  refine ⟨_, po_some p, fun σ H A ρ S P Q E m mt h kq kx => l σ H A ρ S _ _ E m mt h (fun x H1 dx A1 S1 u1 m1 r1 q1 => ?_) kx⟩
  cases r1 <;> first | exact q1.elim | exact ⟨_, rfl, kq _ H1 A1 S1 u1 m1 q1⟩
def cutL {α : Type} (xs : List α) (lo hi : Option Int) : List α := (xs.drop (HT.sIx xs.length 0 lo)).take (HT.sIx xs.length xs.length hi - HT.sIx xs.length 0 lo)
def getSl (x : D) (lo hi : Option Int) (S : Sto) (Q : VA) : Prop := match x with
  | .str s => s.length ≤ sizeLine ∧ Q (.str (cutS s lo hi)) S
  | .ref i => must (lstOf S i) fun l => Q (.ref S.length) (S ++ [.lst (cutL l lo hi)])
  | _ => False
variable {lo hi : Option Expr} {tl th : ATO} {p2 : Pos}
def aSl (a : ATE) (lo hi : ATO) : ATE := fun ρ S E Q => a ρ S E fun x S1 => lo ρ S1 E fun l S2 => hi ρ S2 E fun h S3 => getSl x l h S3 Q
theorem ae_slice (ha : AE X W a aa) (hl : AO X W lo tl) (hu : AO X W hi th) : AE X W (.Subscript a (.Slice lo hi none p2) pos) (aSl aa tl th) := by
  obtain ⟨ta, pa, la⟩ := ha
  obtain ⟨t1, p1, l1⟩ := hl
  obtain ⟨t2, q2, l2⟩ := hu
  refine ⟨_, pe_slice ((sl_str (X := X)).or sl_list) pa p1 q2, fun σ H A ρ S P Q E m mt h kq kx => la σ H A ρ S _ _ E m mt h (fun x H1 dx A1 S1 u1 m1 r1 q1 => l1 σ H1 A1 ρ S1 _ _ E m1 (mt.mono u1) q1 (fun l H2 A2 S2 u2 m2 q2 =>
    l2 σ H2 A2 ρ S2 _ _ E m2 ((mt.mono u1).mono u2) q2 (fun u H3 A3 S3 u3 m3 q3 => ?_) (kx.mono (u1.trans u2))) (kx.mono u1)) kx⟩
  have uu := (u1.trans u2).trans u3
  have r3 := (r1.mono u2).mono u3
  cases r3 <;> first | exact q3.elim | skip
  · rename_i s
    exact .inl ⟨s, rfl, q3.1, kq _ H3 _ A3 S3 uu m3 (.str _) q3.2⟩
  · rename_i i ad e
    obtain ⟨ls, e1, q⟩ := of_must q3
    obtain ⟨vs, hs, rl⟩ := lst_at m3 e e1
    refine .inr ⟨ad, vs, rfl, hs, fun pp hp => ?_⟩
    refine kq_lst (kq.mono uu) m3 ?_ q hp
    unfold cutV cutL
    rw [← rl.length]
    exact (rl.drop _).take _

/-! ### built-ins -/
def LC (K : PySem.W.Frag) (r' : List V → Hp → VK → Prop) (r : List D → Sto → VA → Prop) : Prop := ∀ vs H A ds S (P : VK) (Q : VA), MtS K A H S → RpL K A H ds vs → r ds S Q → KQ K A H P Q → r' vs H P
def ACall (X : Cx) (f : Value) (r : List D → Sto → VA → Prop) : Prop := ∃ r', CallR X f r' ∧ LC X.K r' r
theorem CallR.or {f : Value} {r r' : List V → Hp → VK → Prop} (h : CallR X f r) (h' : CallR X f r') : CallR X f (fun xs H Q => r xs H Q ∨ r' xs H Q) := fun pins s σ H xs us Q I rv q =>
  q.elim (h pins s σ H xs us Q I rv) (h' pins s σ H xs us Q I rv)
def aCB (r : List D → Sto → VA → Prop) (t : ATA) : ATE := fun ρ S E Q => t ρ S E fun ds S1 => r ds S1 Q
theorem le_cb {K : PySem.W.Frag} {r' : List V → Hp → VK → Prop} {r : List D → Sto → VA → Prop} {t : TA} (lc : LC K r' r) (l : LA K W t t') : LE K W (tCB r' t) (aCB r t') := fun σ H A ρ S P Q E m mt h kq kx =>
  l σ H A ρ S _ _ E m mt h (fun vs H1 ds A1 S1 u1 m1 r1 q1 => lc vs H1 A1 ds S1 P Q m1 r1 q1 (kq.mono u1)) kx
variable {x : Str} {e : Expr} {p : Pos} {r : List D → Sto → VA → Prop} {id T : String}
theorem ae_callB (hc : ACall X (.builtin id) r) (hm : X.mg x = none) (ha : AA X W (e :: es) t') (hv : bootBuiltins x = some (.builtin id) := by decide +kernel) (hg : Gl X x := by rfl) (hn : x ≠ "__name__" := by decide) (hdb : (x == ("__debug__" : Str)) = false := by decide)
    (he : starEach (e :: es) X.env = (false, eval e X.env) :: starEach es X.env := by rfl) (hpl : (backTo pos (starEach es X.env)).any (·.1) = false := by rfl) : AE X W (.Call (.Name x p) (e :: es) [] pos) (aCB r t') := by
  obtain ⟨r', o, lc⟩ := hc
  obtain ⟨t, pa, l⟩ := ha
  exact ⟨_, pe_callB o hg hm hv pa hn hdb he hpl, le_cb lc l⟩
theorem ae_callTy (hc : ACall X (.type T) r) (hm : X.mg x = none) (ha : AA X W (e :: es) t') (hv : bootBuiltins x = some (.type T) := by decide +kernel) (hg : Gl X x := by rfl) (hn : x ≠ "__name__" := by decide) (hdb : (x == ("__debug__" : Str)) = false := by decide)
    (he : starEach (e :: es) X.env = (false, eval e X.env) :: starEach es X.env := by rfl) (hpl : (backTo pos (starEach es X.env)).any (·.1) = false := by rfl) : AE X W (.Call (.Name x p) (e :: es) [] pos) (aCB r t') := by
  obtain ⟨r', o, lc⟩ := hc
  obtain ⟨t, pa, l⟩ := ha
  exact ⟨_, pe_callTy o hg hm hv pa hn hdb he hpl, le_cb lc l⟩
theorem rp1 {K : PySem.W.Frag} {A : List Addr} {H : Hp} {d : D} {vs : List V} (h : RpL K A H [d] vs) : ∃ v, vs = [v] ∧ Rp K A H d v := by
  cases h; rename_i h1 h2; cases h2; exact ⟨_, rfl, h1⟩
theorem rp2 {K : PySem.W.Frag} {A : List Addr} {H : Hp} {d d' : D} {vs : List V} (h : RpL K A H [d, d'] vs) : ∃ v w, vs = [v, w] ∧ Rp K A H d v ∧ Rp K A H d' w := by
  cases h; rename_i h1 h2; obtain ⟨w, rfl, h3⟩ := rp1 h2; exact ⟨_, _, rfl, h1, h3⟩
def cLen : List D → Sto → VA → Prop := fun ds S Q => match ds with
  | [.str s] => s.length ≤ sizeLine ∧ Q (.int (s.length : Int)) S
  | [.tup l] => Q (.int (l.length : Int)) S
  | [.kl l] => Q (.int (l.length : Int)) S
  | [.ref i] => (match S[i]? with
    | some (.lst l) => Q (.int (l.length : Int)) S
    | some (.rol l) => Q (.int (l.length : Int)) S
    | some (.dK kvs) => Q (.int (kvs.length : Int)) S
    | _ => False)
  | _ => False
theorem RpK.length {K : PySem.W.Frag} {A : List Addr} {H : Hp} {κ : Type} {kvs : List (κ × D)} {ks : List (κ × V)} (h : RpK K A H κ kvs ks) : kvs.length = ks.length := Paired.length h
theorem ac_len : ACall X (.builtin "len") cLen := by
  refine ⟨_, CallR.or call_len_str (CallR.or call_len_seq call_lenD), fun vs H A ds S P Q m r q k => ?_⟩
  match ds, q with
  | [.str s], q =>
    obtain ⟨v, rfl, rv⟩ := rp1 r
    cases rv
    exact .inl ⟨s, rfl, q.1, k _ H _ A S Up.refl m (.int _) q.2⟩
  | [.tup l], q =>
    obtain ⟨v, rfl, rv⟩ := rp1 r
    cases rv; rename_i ad ws hs rl
    refine .inr (.inl ⟨ad, ws, rfl, .inr hs, ?_⟩)
    rw [← rl.length]; exact k _ H _ A S Up.refl m (.int _) q
  | [.kl l], q =>
    obtain ⟨v, rfl, rv⟩ := rp1 r
    cases rv; rename_i ad ws hs rl
    refine .inr (.inl ⟨ad, ws, rfl, .inl (.inr hs), ?_⟩)
    rw [← rl.length]; exact k _ H _ A S Up.refl m (.int _) q
  | [.ref i], q =>
    obtain ⟨v, rfl, rv⟩ := rp1 r
    cases rv; rename_i ad e
    simp only [cLen] at q
    split at q
    · rename_i l h
      obtain ⟨ws, g, rl⟩ := m.ok i _ ad h e
      refine .inr (.inl ⟨ad, ws, rfl, .inl (SqL.of g), ?_⟩)
      rw [← rl.length]; exact k _ H _ A S Up.refl m (.int _) q
    · rename_i l h
      obtain ⟨ws, g, rl⟩ := m.ok i _ ad h e
      refine .inr (.inl ⟨ad, ws, rfl, .inl (.inl g), ?_⟩)
      rw [← rl.length]; exact k _ H _ A S Up.refl m (.int _) q
    · rename_i l h
      obtain ⟨ks, g, rl⟩ := m.ok i _ ad h e
      refine .inr (.inr ⟨ad, ks, rfl, g, ?_⟩)
      rw [← RpK.length rl]; exact k _ H _ A S Up.refl m (.int _) q
    · exact q.elim
def cInt : List D → Sto → VA → Prop := fun ds S Q => match ds with
  | [.int i] => Q (.int i) S
  | [.bl k] => Q (.int (if k then 1 else 0)) S
  | [.str s] => s.length ≤ 640 ∧ must (PySem.intText? s) fun n => Q (.int n) S
  | _ => False
theorem ac_int : ACall X (.type "int") cInt := by
  refine ⟨_, CallR.or call_int1 call_int_str, fun vs H A ds S P Q m r q k => ?_⟩
  match ds, q with
  | [.int i], q => obtain ⟨v, rfl, rv⟩ := rp1 r; cases rv; exact .inl (.inl ⟨i, rfl, k _ H _ A S Up.refl m (.int _) q⟩)
  | [.bl b], q => obtain ⟨v, rfl, rv⟩ := rp1 r; cases rv; exact .inl (.inr ⟨b, rfl, k _ H _ A S Up.refl m (.int _) q⟩)
  | [.str s], q =>
    obtain ⟨v, rfl, rv⟩ := rp1 r; cases rv
    obtain ⟨n, e, q2⟩ := of_must q.2
    exact .inr ⟨s, n, rfl, e, q.1, k _ H _ A S Up.refl m (.int _) q2⟩
def cStr : List D → Sto → VA → Prop := fun ds S Q => match ds with
  | [.int i] => i.natAbs.log2 < 1920 ∧ Q (.str (toString i)) S
  | [.str x] => Q (.str x) S
  | _ => False
theorem ac_str : ACall X (.type "str") cStr := by
  refine ⟨_, CallR.or call_str_int SkE.call_str_str, fun vs H A ds S P Q m r q k => ?_⟩
  match ds, q with
  | [.int i], q => obtain ⟨v, rfl, rv⟩ := rp1 r; cases rv; exact .inl ⟨i, rfl, q.1, k _ H _ A S Up.refl m (.str _) q.2⟩
  | [.str x], q => obtain ⟨v, rfl, rv⟩ := rp1 r; cases rv; exact .inr ⟨x, rfl, k _ H _ A S Up.refl m (.str _) q⟩
def cAbs : List D → Sto → VA → Prop := fun ds S Q => match ds with
  | [.int i] => Q (.int (if i < 0 then -i else i)) S
  | _ => False
theorem ac_abs : ACall X (.builtin "abs") cAbs := by
  refine ⟨_, call_abs, fun vs H A ds S P Q m r q k => ?_⟩
  match ds, q with
  | [.int i], q => obtain ⟨v, rfl, rv⟩ := rp1 r; cases rv; exact ⟨i, rfl, k _ H _ A S Up.refl m (.int _) q⟩
def cMin : List D → Sto → VA → Prop := fun ds S Q => match ds with
  | [.int i, .int j] => Q (.int (if j < i then j else i)) S
  | _ => False
theorem ac_min (hc : X.calm = true) : ACall X (.builtin "min") cMin := by
  refine ⟨_, call_min2 hc, fun vs H A ds S P Q m r q k => ?_⟩
  match ds, q with
  | [.int i, .int j], q => obtain ⟨v, w, rfl, rv, rw'⟩ := rp2 r; cases rv; cases rw'; exact ⟨i, j, rfl, k _ H _ A S Up.refl m (.int _) q⟩
theorem map_int {K : PySem.W.Frag} {A : List Addr} {H : Hp} : ∀ {ns : List Int} {vs : List V}, RpL K A H (ns.map D.int) vs → vs = ns.map V.int
  | [], _, h => by cases h; rfl
  | n :: ns, _, h => by cases h; rename_i h1 h2; cases h1; rw [map_int h2]; rfl
theorem map_bl {K : PySem.W.Frag} {A : List Addr} {H : Hp} : ∀ {ns : List Bool} {vs : List V}, RpL K A H (ns.map D.bl) vs → vs = ns.map V.bl
  | [], _, h => by cases h; rfl
  | n :: ns, _, h => by cases h; rename_i h1 h2; cases h1; rw [map_bl h2]; rfl
theorem map_str {K : PySem.W.Frag} {A : List Addr} {H : Hp} : ∀ {ns : List Str} {vs : List V}, RpL K A H (ns.map D.str) vs → vs = ns.map V.str
  | [], _, h => by cases h; rfl
  | n :: ns, _, h => by cases h; rename_i h1 h2; cases h1; rw [map_str h2]; rfl
/-- max: of two ints, of a list of ints -/
def cMax : List D → Sto → VA → Prop := fun ds S Q => match ds with
  | [.int i, .int j] => Q (.int (if j > i then j else i)) S
  | [.ref a] => must (lstOf S a) fun l => ∃ ns : List Int, l = ns.map .int ∧ 0 < ns.length ∧ ∀ m, m ∈ ns → (∀ y, y ∈ ns → y ≤ m) → Q (.int m) S
  | _ => False
theorem ac_max (hc : X.calm = true) : ACall X (.builtin "max") cMax := by
  refine ⟨_, CallR.or (call_max2 hc) (cr_max hc), fun vs H A ds S P Q m r q k => ?_⟩
  match ds, q with
  | [.int i, .int j], q => obtain ⟨v, w, rfl, rv, rw'⟩ := rp2 r; cases rv; cases rw'; exact .inl ⟨i, j, rfl, k _ H _ A S Up.refl m (.int _) q⟩
  | [.ref i], q =>
    obtain ⟨v, rfl, rv⟩ := rp1 r
    cases rv; rename_i ad e
    obtain ⟨l, h, ns, rfl, h0, q⟩ := of_must q
    obtain ⟨ws, hs, rl⟩ := lst_at m e h
    have ew := map_int rl
    subst ew
    exact .inr ⟨ad, ns, rfl, hs, h0, fun y hy hle => k _ H _ A S Up.refl m (.int _) (q y hy hle)⟩
def cAll : List D → Sto → VA → Prop := fun ds S Q => match ds with
  | [.ref a] => must (lstOf S a) fun l => ∃ bs : List Bool, l = bs.map .bl ∧ Q (.bl (bs.all _root_.id)) S
  | _ => False
theorem ac_all (hc : X.calm = true) : ACall X (.builtin "all") cAll := by
  refine ⟨_, cr_all hc, fun vs H A ds S P Q m r q k => ?_⟩
  match ds, q with
  | [.ref i], q =>
    obtain ⟨v, rfl, rv⟩ := rp1 r
    cases rv; rename_i ad e
    obtain ⟨l, h, ns, rfl, q⟩ := of_must q
    obtain ⟨ws, hs, rl⟩ := lst_at m e h
    have ew := map_bl rl
    subst ew
    exact ⟨ad, ns, rfl, hs, k _ H _ A S Up.refl m (.bl _) q⟩
def cAny : List D → Sto → VA → Prop := fun ds S Q => match ds with
  | [.ref a] => must (lstOf S a) fun l => ∃ bs : List Bool, l = bs.map .bl ∧ Q (.bl (bs.any _root_.id)) S
  | _ => False
theorem ac_any (hc : X.calm = true) : ACall X (.builtin "any") cAny := by
  refine ⟨_, cr_any hc, fun vs H A ds S P Q m r q k => ?_⟩
  match ds, q with
  | [.ref i], q =>
    obtain ⟨v, rfl, rv⟩ := rp1 r
    cases rv; rename_i ad e
    obtain ⟨l, h, ns, rfl, q⟩ := of_must q
    obtain ⟨ws, hs, rl⟩ := lst_at m e h
    have ew := map_bl rl
    subst ew
    exact ⟨ad, ns, rfl, hs, k _ H _ A S Up.refl m (.bl _) q⟩
def cTuple : List D → Sto → VA → Prop := fun ds S Q => match ds with
  | [d] => must (seqOf S d) fun l => Q (.tup l) S
  | _ => False
theorem ac_tuple : ACall X (.type "tuple") cTuple := by
  refine ⟨_, call_tuple_of, fun vs H A ds S P Q m r q k => ?_⟩
  match ds, q with
  | [d], q =>
    obtain ⟨v, rfl, rv⟩ := rp1 r
    obtain ⟨l, h, q2⟩ := of_must q
    cases rv <;> simp [seqOf] at h
    · rename_i i ad e
      obtain ⟨ws, hs, rl⟩ := lst_at m e h
      exact ⟨ad, ws, rfl, .inl ⟨hs, fun pp hp => kq_tup k m rl q2 hp⟩⟩
    · rename_i ad ws l' hs rl
      subst h
      exact ⟨ad, ws, rfl, .inr ⟨hs, k _ H _ A S Up.refl m (.tup hs rl) q2⟩⟩
    · rename_i ad ws l' hs rl
      subst h
      exact ⟨ad, ws, rfl, .inl ⟨.inr hs, fun pp hp => kq_tup k m rl q2 hp⟩⟩
def cList : List D → Sto → VA → Prop := fun ds S Q => match ds with
  | [d] => must (seqOf S d) fun l => Q (.ref S.length) (S ++ [.lst l])
  | _ => False
theorem ac_list : ACall X (.type "list") cList := by
  refine ⟨_, call_list_of, fun vs H A ds S P Q m r q k => ?_⟩
  match ds, q with
  | [d], q =>
    obtain ⟨v, rfl, rv⟩ := rp1 r
    obtain ⟨l, h, q2⟩ := of_must q
    cases rv <;> simp [seqOf] at h
    · rename_i i ad e
      obtain ⟨ws, hs, rl⟩ := lst_at m e h
      exact ⟨ad, ws, rfl, .inl hs, fun pp hp => kq_lst k m rl q2 hp⟩
    · rename_i ad ws l' hs rl
      subst h
      exact ⟨ad, ws, rfl, .inr hs, fun pp hp => kq_lst k m rl q2 hp⟩
    · rename_i ad ws l' hs rl
      subst h
      exact ⟨ad, ws, rfl, .inl (.inr hs), fun pp hp => kq_lst k m rl q2 hp⟩

/-! ### defs -/
/-- room, and no repr under way -/
structure RG (k : Nat) (A : Around) : Prop where
  rm : Room k A
  gs : A.guards = some []
theorem RG.mono {j k : Nat} {A : Around} (r : RG k A) (h : j ≤ k) : RG j A := ⟨r.rm.mono h, r.gs⟩
theorem RG.deeper {k : Nat} {A : Around} (r : RG (k + 1) A) (env : Env) : RG k (A.deeper env) := ⟨r.rm.deeper env, r.gs⟩
theorem RG.make {k : Nat} {A : Around} (r : RG (k + 1) A) (C : Addr) (us : List Value) (kw : List (Str × Value)) : RG k (A.under (.builtin "type.__call__" ⟨.ref C :: us, kw⟩)) := ⟨r.rm.make C us kw, r.gs⟩
/-- a def's promise, wherever no repr is under way -/
structure FnG (P : Program) (w : World) (K : PySem.W.Frag) (mg : Str → Option Value) (base : Heap) (CX : CXT) (k : Nat) (f : Addr) (fd : FuncData) (ps : List Str) (sp : Sp) : Prop where
  few : ∀ vs H Q E, sp vs H Q E → vs.length = ps.length
  go : ∀ (A : Around) (outer : List Env) (s : Shared) (H : Hp) (args : Args) (us : List Value) (vs : List V) (Q : VK) (E : XK), RG k A → Env0 P w K mg base A outer s H →
    BindsTo s fd args (ps.zip us) → Vals vs us → sp vs H Q E → codeAny (model P w) A (.call (.ref f) args) (CR CX outer P w H s Q E) s
section
variable {P : Program} {w : World} {K : PySem.W.Frag} {mg : Str → Option Value} {base : Heap} {CX : CXT} {j k : Nat} {f : Addr} {fd : FuncData} {ps : List Str} {sp sp' : Sp}
theorem FnG.mono (o : FnG P w K mg base CX j f fd ps sp) (h : j ≤ k) : FnG P w K mg base CX k f fd ps sp := ⟨o.few, fun A outer s H args us vs Q E r => o.go A outer s H args us vs Q E (r.mono h)⟩
theorem FnG.imp (o : FnG P w K mg base CX k f fd ps sp) (h : ∀ vs H Q E, sp' vs H Q E → sp vs H Q E) : FnG P w K mg base CX k f fd ps sp' :=
  ⟨fun vs H Q E q => o.few vs H Q E (h _ _ _ _ q), fun A outer s H args us vs Q E r e0 b rv q => o.go A outer s H args us vs Q E r e0 b rv (h _ _ _ _ q)⟩
end
theorem run_fnG {CX : CXT} {k : Nat} {f : Addr} {fd : FuncData} {ps : List Str} {sp : Sp} {ex : XK} {pins : List (Addr × Obj)} {σ : L2.St} {H : Hp} {s : Shared} {Q : VK} {us : List Value} {vs : List V} (o : FnG X.prog X.w X.K X.mg X.base CX k f fd ps sp) (hr : RG k X.A) (hb : Binds X.K fd ps [])
    (hx : PassesAt CX X σ ex) (I : Inv X pins σ H s) (rv : Vals vs us) (q : sp vs H Q ex) : wpAny (model X.prog X.w) X.A (call (.ref f) us) (EP X pins σ Q) X.xe s := by
  have many : us.length = ps.length := rv.length.symm.trans (o.few _ _ _ _ q)
  have bnd := hb s us I.kIn (by simpa using many)
  simp only [List.append_nil] at bnd
  have main := o.go X.A X.stack s H ⟨us, []⟩ us vs Q ex hr I.env0 bnd rv q
  refine wpAny_call (codeAny_mono main fun res s2 got => ?_)
  match res, got with
  | .error e, got => exact hx pins H s e s2 I got
  | .ok (.ret u), got => exact I.after got
theorem pe_callG {CX : CXT} {k : Nat} {f : Addr} {fd : FuncData} {ps : List Str} {sp : Sp} {ex : L2.St → XK} {t : TA} (o : FnG X.prog X.w X.K X.mg X.base CX k f fd ps sp) (hr : RG k X.A) (hg : Gl X x) (hm : X.mg x = some (.ref f)) (hk : PySem.W.keepIn X.K (.ref f) = true) (hb : Binds X.K fd ps [])
    (hx : ∀ σ, PassesAt CX X σ (ex σ)) (ha : PA X (e :: es) t) (hdb : (x == ("__debug__" : Str)) = false) (he : starEach (e :: es) X.env = (false, eval e X.env) :: starEach es X.env) (hpl : (backTo pos (starEach es X.env)).any (·.1) = false) :
    PE X (.Call (.Name x p) (e :: es) [] pos) (tCallS sp ex t) := by
  refine ⟨fun pins s σ H Q inv h => wpAny_Call_Name_kw (ld_glob inv hg hm ?_ hdb)⟩
  have args := ha.run pos pins s σ H _ inv h
  exact PySem.W.callWith_K (h₀ := X.base) inv.ok.mod.kin hk (thn args fun us s1 ⟨vs, H1, inv1, rv, q⟩ => ⟨inv1.kIn, run_fnG o hr hb (hx σ) inv1 rv q⟩) he hpl
abbrev AFn := List D → Sto → XA → VA → Prop
def spOf (K : PySem.W.Frag) (F : AFn) : Sp := fun vs H Q E => ∃ (A : List Addr) (S : Sto) (ds : List D) (Qa : VA) (Ea : XA), MtS K A H S ∧ RpL K A H ds vs ∧ F ds S Ea Qa ∧ KQ K A H Q Qa ∧ KX K A H E Ea
/-- the def at f, how it binds -/
def FB (K : PySem.W.Frag) (f : Addr) (fd : FuncData) (ps : List Str) : Prop := Binds K fd ps [] ∧ (∃ oc od osl, K.lookup f = some ⟨oc, od, .func fd, osl⟩) ∧ fd.params.args.map (fun a => a.arg) = ps
theorem fb_one {K : PySem.W.Frag} {f : Addr} {fd fd' : FuncData} {ps ps' : List Str} (h : FB K f fd ps) (g : FB K f fd' ps') : fd = fd' ∧ ps = ps' := by
  obtain ⟨_, ⟨oc, od, osl, e1⟩, e2⟩ := h
  obtain ⟨_, ⟨oc', od', osl', e3⟩, e4⟩ := g
  rw [e1] at e3
  cases e3
  exact ⟨rfl, e2.symm.trans e4⟩
/-- a def of the module keeps F -/
def FD (P : Program) (w : World) (K : PySem.W.Frag) (mg : Str → Option Value) (base : Heap) (x : Str) (k : Nat) (F : AFn) : Prop :=
  ∃ (f : Addr) (fd : FuncData) (ps : List Str), FnG P w K mg base (L2.CX P w) k f fd ps (spOf K F) ∧ mg x = some (.ref f) ∧ PySem.W.keepIn K (.ref f) = true ∧ FB K f fd ps
/-- a method of a class -/
def MD (P : Program) (w : World) (K : PySem.W.Frag) (mg : Str → Option Value) (base : Heap) (cl mt : Str) (k : Nat) (F : AFn) : Prop :=
  ∃ (f : Addr) (fd : FuncData) (ps : List Str), FnG P w K mg base (L2.CX P w) k f fd ps (spOf K F) ∧ Cls K (He.ga K cl) ∧ Meth K (He.ga K cl) mt f ∧ FB K f fd ps
/-- a class that is made by its __init__ -/
def CD (P : Program) (w : World) (K : PySem.W.Frag) (mg : Str → Option Value) (base : Heap) (cl : Str) (k : Nat) (F : AFn) : Prop :=
  ∃ (f : Addr) (fd : FuncData) (ps : List Str), FnG P w K mg base (L2.CX P w) k f fd ps (spOf K F) ∧ mg cl = some (.ref (He.ga K cl)) ∧ Mk K (He.ga K cl) f ∧ FB K f fd ps
theorem FD.mono {P : Program} {w : World} {K : PySem.W.Frag} {mg : Str → Option Value} {base : Heap} {x : Str} {j k : Nat} {F : AFn} (h : FD P w K mg base x j F) (hj : j ≤ k) : FD P w K mg base x k F := let ⟨f, fd, ps, o, r⟩ := h; ⟨f, fd, ps, o.mono hj, r⟩
theorem MD.mono {P : Program} {w : World} {K : PySem.W.Frag} {mg : Str → Option Value} {base : Heap} {cl x : Str} {j k : Nat} {F : AFn} (h : MD P w K mg base cl x j F) (hj : j ≤ k) : MD P w K mg base cl x k F := let ⟨f, fd, ps, o, r⟩ := h; ⟨f, fd, ps, o.mono hj, r⟩
theorem FD.imp {P : Program} {w : World} {K : PySem.W.Frag} {mg : Str → Option Value} {base : Heap} {x : Str} {k : Nat} {F G : AFn} (h : FD P w K mg base x k F) (hg : ∀ ds S E Q, G ds S E Q → F ds S E Q) : FD P w K mg base x k G := by
  obtain ⟨f, fd, ps, o, r⟩ := h
  exact ⟨f, fd, ps, o.imp fun vs H Q E ⟨A, S, ds, Qa, Ea, m, rl, g, k1, k2⟩ => ⟨A, S, ds, Qa, Ea, m, rl, hg _ _ _ _ g, k1, k2⟩, r⟩
theorem MD.imp {P : Program} {w : World} {K : PySem.W.Frag} {mg : Str → Option Value} {base : Heap} {cl x : Str} {k : Nat} {F G : AFn} (h : MD P w K mg base cl x k F) (hg : ∀ ds S E Q, G ds S E Q → F ds S E Q) : MD P w K mg base cl x k G := by
  obtain ⟨f, fd, ps, o, r⟩ := h
  exact ⟨f, fd, ps, o.imp fun vs H Q E ⟨A, S, ds, Qa, Ea, m, rl, g, k1, k2⟩ => ⟨A, S, ds, Qa, Ea, m, rl, hg _ _ _ _ g, k1, k2⟩, r⟩
/-- promises join -/
def uF {ι : Type} (F : ι → AFn) : AFn := fun ds S E Q => ∃ i, F i ds S E Q
theorem FnG.all {ι : Type} {P : Program} {w : World} {K : PySem.W.Frag} {mg : Str → Option Value} {base : Heap} {CX : CXT} {k : Nat} {f : Addr} {fd : FuncData} {ps : List Str} {F : ι → AFn} (h : ∀ i, FnG P w K mg base CX k f fd ps (spOf K (F i))) : FnG P w K mg base CX k f fd ps (spOf K (uF F)) :=
  ⟨fun vs H Q E ⟨A, S, ds, Qa, Ea, m, r, ⟨i, hi⟩, k1, k2⟩ => (h i).few vs H Q E ⟨A, S, ds, Qa, Ea, m, r, hi, k1, k2⟩,
   fun A0 outer s H args us vs Q E rg e0 b rv ⟨A, S, ds, Qa, Ea, m, r, ⟨i, hi⟩, k1, k2⟩ => (h i).go A0 outer s H args us vs Q E rg e0 b rv ⟨A, S, ds, Qa, Ea, m, r, hi, k1, k2⟩⟩
theorem FD.all {ι : Type} (i0 : ι) {P : Program} {w : World} {K : PySem.W.Frag} {mg : Str → Option Value} {base : Heap} {x : Str} {k : Nat} {F : ι → AFn} (h : ∀ i, FD P w K mg base x k (F i)) : FD P w K mg base x k (uF F) := by
  obtain ⟨f, fd, ps, _, hm, hk, hb⟩ := h i0
  refine ⟨f, fd, ps, FnG.all fun i => ?_, hm, hk, hb⟩
  obtain ⟨f', fd', ps', ok', hm', _, hb'⟩ := h i
  rw [hm] at hm'
  cases hm'
  obtain ⟨rfl, rfl⟩ := fb_one hb hb'
  exact ok'
theorem MD.all {ι : Type} (i0 : ι) {P : Program} {w : World} {K : PySem.W.Frag} {mg : Str → Option Value} {base : Heap} {cl x : Str} {k : Nat} {F : ι → AFn} (h : ∀ i, MD P w K mg base cl x k (F i)) : MD P w K mg base cl x k (uF F) := by
  obtain ⟨f, fd, ps, _, hm, hk, hb⟩ := h i0
  refine ⟨f, fd, ps, FnG.all fun i => ?_, hm, hk, hb⟩
  obtain ⟨f', fd', ps', ok', hm', hk', hb'⟩ := h i
  have e := hk.at_
  rw [hk'.at_] at e
  cases e
  obtain ⟨rfl, rfl⟩ := fb_one hb hb'
  exact ok'
def oF (F G : AFn) : AFn := fun ds S E Q => F ds S E Q ∨ G ds S E Q
theorem FD.or {P : Program} {w : World} {K : PySem.W.Frag} {mg : Str → Option Value} {base : Heap} {x : Str} {k : Nat} {F G : AFn} (h : FD P w K mg base x k F) (g : FD P w K mg base x k G) : FD P w K mg base x k (oF F G) :=
  (FD.all true (F := fun b => if b = true then F else G) (fun b => match b with | true => h | false => g)).imp fun ds S E Q q => q.elim (fun z => ⟨true, z⟩) fun z => ⟨false, z⟩
theorem MD.or {P : Program} {w : World} {K : PySem.W.Frag} {mg : Str → Option Value} {base : Heap} {cl x : Str} {k : Nat} {F G : AFn} (h : MD P w K mg base cl x k F) (g : MD P w K mg base cl x k G) : MD P w K mg base cl x k (oF F G) :=
  (MD.all true (F := fun b => if b = true then F else G) (fun b => match b with | true => h | false => g)).imp fun ds S E Q q => q.elim (fun z => ⟨true, z⟩) fun z => ⟨false, z⟩
def aCall (F : AFn) (t : ATA) : ATE := fun ρ S E Q => t ρ S E fun ds S1 => F ds S1 E Q
theorem sp_mk {K : PySem.W.Frag} {A : List Addr} {H : Hp} {S : Sto} {ds : List D} {vs : List V} {F : AFn} {P : VK} {Q : VA} {E : XA} {W' : XK} (m : MtS K A H S) (r : RpL K A H ds vs) (h : F ds S E Q) (kq : KQ K A H P Q) (kx : KX K A H W' E) : spOf K F vs H P W' := ⟨A, S, ds, Q, E, m, r, h, kq, kx⟩
variable {k : Nat} {F : AFn} {m cl : Str} {apos : Pos} {o : Expr} {ao : ATE}
theorem ae_call (h : FD X.prog X.w X.K X.mg X.base x k F) (hr : RG k X.A) (tk : Takes X W) (ha : AA X W (e :: es) t') (hg : Gl X x := by rfl) (hdb : (x == ("__debug__" : Str)) = false := by decide)
    (he : starEach (e :: es) X.env = (false, eval e X.env) :: starEach es X.env := by rfl) (hpl : (backTo pos (starEach es X.env)).any (·.1) = false := by rfl) : AE X W (.Call (.Name x p) (e :: es) [] pos) (aCall F t') := by
  obtain ⟨f, fd, ps, ok, hm, hk, hb, _⟩ := h
  obtain ⟨t, pa, l⟩ := ha
  exact ⟨_, pe_callG ok hr hg hm hk hb (fun σ => passAt tk σ) pa hdb he hpl, fun σ H A ρ S P Q E mm mt h kq kx => l σ H A ρ S _ _ E mm mt h (fun vs H1 ds A1 S1 u1 m1 r1 q1 => sp_mk m1 r1 q1 (kq.mono u1) (kx.mono u1)) kx⟩
theorem ae_call0 (h : FD X.prog X.w X.K X.mg X.base x k F) (hr : RG k X.A) (tk : Takes X W) (hg : Gl X x := by rfl) (hdb : (x == ("__debug__" : Str)) = false := by decide) : AE X W (.Call (.Name x p) [] [] pos) (aCall F aNil) := by
  obtain ⟨f, fd, ps, ok, hm, hk, hb, _⟩ := h
  refine ⟨tCallS (spOf X.K F) (WE W) tNil, ⟨fun pins s σ H Q inv h => ?_⟩, fun σ H A ρ S P Q E mm mt h kq kx => sp_mk mm .nil h kq kx⟩
  exact wpAny_Call_Name_kw (ld_glob inv hg hm (PySem.W.callWith_K0 inv.kIn hk (run_fnG (us := []) ok hr hb (passAt tk σ) inv .nil h)) hdb)
def tMethS (C : Addr) (m : Str) (sp : Sp) (E : L2.St → XK) (ta : TE) (t : TA) : TE := fun σ H Q => ta σ H fun x H1 => ∃ a dx fs, x = .ref a ∧ H1 a = some (.ins C dx fs) ∧ fs.lookup m = none ∧
  t σ H1 fun vs H2 => sp (x :: vs) H2 Q (E σ)
theorem pe_methS {CX : CXT} {C f : Addr} {fd : FuncData} {ps : List Str} {sp : Sp} {E : L2.St → XK} {ta : TE} {t : TA} {pl : Sem Bool} (he : PE X o ta) (c : Cls X.K C) (hm : Meth X.K C m f) (F : FnG X.prog X.w X.K X.mg X.base CX k f fd ps sp) (hr : RG k X.A) (hb : Binds X.K fd ps []) (hx : ∀ σ, PassesAt CX X σ (E σ)) (ha : PA X (e :: es) t) (hst : starEach (e :: es) X.env = (false, eval e X.env) :: starEach es X.env := by rfl) (hpl : (backTo pos (starEach es X.env)).any (·.1) = false := by rfl) (ht : eval (.Call (.Attribute o m apos) (e :: es) [] pos) X.env = (do let ov ← eval o X.env; standAt apos.atName; let (f, first) ← holding [ov] (getMethod ov m pl); callWith pos f first (backTo pos (starEach (e :: es) X.env)) (backToKw pos (keywordEach [] X.env))) := by rfl) :
    PE X (.Call (.Attribute o m apos) (e :: es) [] pos) (tMethS C m sp E ta t) := ⟨fun pins s σ H Q inv h => by
  refine PySem.W.methodCall_KW (pl := pl) (thn (he.run pins s σ H _ inv h) fun u s1 ⟨x, H1, J, rx, a, dx, fs, ex, ea, l, q⟩ => ?_) ht
  subst ex
  have eu : u = Value.ref a := rx
  subst eu
  refine getmeth_ok J ea c hm l (PySem.W.callWith_K (first := [.ref a]) (h₀ := X.base) inv.ok.mod.kin hm.kp (thn (ha.run pos pins s1 σ H1 _ J q) fun us s2 ⟨vs, H2, I2, r, q2⟩ => ⟨I2.kIn, ?_⟩) hst hpl)
  exact run_fnG (us := .ref a :: us) (vs := .ref a :: vs) F hr hb (hx σ) I2 (.cons rfl r) q2⟩
theorem pe_meth0S {CX : CXT} {C f : Addr} {fd : FuncData} {ps : List Str} {sp : Sp} {E : L2.St → XK} {ta : TE} {pl : Sem Bool} (he : PE X o ta) (c : Cls X.K C) (hm : Meth X.K C m f) (F : FnG X.prog X.w X.K X.mg X.base CX k f fd ps sp) (hr : RG k X.A) (hb : Binds X.K fd ps []) (hx : ∀ σ, PassesAt CX X σ (E σ)) (ht : eval (.Call (.Attribute o m apos) [] [] pos) X.env = (do let ov ← eval o X.env; standAt apos.atName; let (f, first) ← holding [ov] (getMethod ov m pl); callWith pos f first (backTo pos (starEach [] X.env)) (backToKw pos (keywordEach [] X.env))) := by rfl) :
    PE X (.Call (.Attribute o m apos) [] [] pos) (tMethS C m sp E ta tNil) := ⟨fun pins s σ H Q inv h => by
  refine PySem.W.methodCall_KW (pl := pl) (thn (he.run pins s σ H _ inv h) fun u s1 ⟨x, H1, J, rx, a, dx, fs, ex, ea, l, q⟩ => ?_) ht
  subst ex
  have eu : u = Value.ref a := rx
  subst eu
  exact getmeth_ok J ea c hm l (PySem.W.callWith_K0 (first := [.ref a]) J.kIn hm.kp (run_fnG (us := [.ref a]) (vs := [.ref a]) F hr hb (hx σ) J (.cons rfl .nil) q))⟩
/-- the instance of the class cl at d, its fields -/
def insOf (S : Sto) (cl : Str) (d : D) : Option (List (Str × D)) := match d with
  | .ref i => (match S[i]? with
    | some (.ins c fs) => if c = cl then some fs else none
    | _ => none)
  | _ => none
theorem ins_at {K : PySem.W.Frag} {A : List Addr} {H : Hp} {S : Sto} {d : D} {v : V} {fs : List (Str × D)} (m : MtS K A H S) (r : Rp K A H d v) (h : insOf S cl d = some fs) : ∃ a dx gs i, d = .ref i ∧ A[i]? = some a ∧ S[i]? = some (.ins cl fs) ∧ v = .ref a ∧ H a = some (.ins (He.ga K cl) dx gs) ∧ RpK K A H Str fs gs := by
  cases r <;> simp [insOf] at h
  rename_i i a e
  split at h
  · rename_i c fs' es'
    split at h
    · rename_i ec
      cases h
      subst ec
      obtain ⟨dx, gs, g, rk⟩ := m.ok i _ a es' e
      exact ⟨a, dx, gs, i, rfl, e, es', rfl, g, rk⟩
    · cases h
  · cases h
def lookF (f : Str) : List (Str × D) → Option D
  | [] => none
  | (g, d) :: r => if f = g then some d else lookF f r
theorem look_ok {K : PySem.W.Frag} {A : List Addr} {H : Hp} {f : Str} {fs : List (Str × D)} {gs : List (Str × V)} (r : RpK K A H Str fs gs) : (lookF f fs = none ∧ gs.lookup f = none) ∨ ∃ d v, lookF f fs = some d ∧ gs.lookup f = some v ∧ Rp K A H d v := by
  induction r with
  | nil => exact Or.inl ⟨rfl, rfl⟩
  | cons h1 h2 ih =>
    rename_i p q l1 l2
    obtain ⟨p1, p2⟩ := p
    obtain ⟨q1, q2⟩ := q
    obtain ⟨e, rp⟩ := h1
    dsimp only at e rp
    subst e
    show ((if f = p1 then some p2 else lookF f l1) = none ∧ (match f == p1 with | true => some q2 | false => l2.lookup f) = none) ∨ ∃ d v, (if f = p1 then some p2 else lookF f l1) = some d ∧ (match f == p1 with | true => some q2 | false => l2.lookup f) = some v ∧ Rp K A H d v
    by_cases h : f = p1
    · have hb : (f == p1) = true := by simpa using h
      rw [if_pos h, hb]; exact .inr ⟨_, _, rfl, rfl, rp⟩
    · have hb : (f == p1) = false := by simpa using h
      rw [if_neg h, hb]; exact ih
def aMeth (cl m : Str) (F : AFn) (a : ATE) (t : ATA) : ATE := fun ρ S E Q => a ρ S E fun x S1 => must (insOf S1 cl x) fun fs => lookF m fs = none ∧ t ρ S1 E fun ds S2 => F (x :: ds) S2 E Q
theorem le_meth {K : PySem.W.Frag} {ta : TE} {t : TA} (la : LE K W ta ao) (l : LA K W t t') : LE K W (tMethS (He.ga K cl) m (spOf K F) (WE W) ta t) (aMeth cl m F ao t') := fun σ H A ρ S P Q E mm mt h kq kx =>
  la σ H A ρ S _ _ E mm mt h (fun x H1 dx A1 S1 u1 m1 r1 q1 => by
    obtain ⟨fs, e, hl, q⟩ := of_must q1
    obtain ⟨a, dxx, gs, i, ed, ea, es', ev, g, rk⟩ := ins_at m1 r1 e
    subst ev
    refine ⟨a, dxx, gs, rfl, g, ?_, ?_⟩
    · rcases look_ok (f := m) rk with ⟨_, h2⟩ | ⟨d, v, h1, _, _⟩
      · exact h2
      · rw [hl] at h1; cases h1
    · exact l σ H1 A1 ρ S1 _ _ E m1 (mt.mono u1) q (fun vs H2 ds A2 S2 u2 m2 r2 q2 => sp_mk m2 (.cons (r1.mono u2) r2) q2 (kq.mono (u1.trans u2)) (kx.mono (u1.trans u2))) (kx.mono u1)) kx
theorem ae_meth {pl : Sem Bool} (h : MD X.prog X.w X.K X.mg X.base cl m k F) (hr : RG k X.A) (tk : Takes X W) (ho : AE X W o ao) (ha : AA X W (e :: es) t') (hst : starEach (e :: es) X.env = (false, eval e X.env) :: starEach es X.env := by rfl) (hpl : (backTo pos (starEach es X.env)).any (·.1) = false := by rfl) (ht : eval (.Call (.Attribute o m apos) (e :: es) [] pos) X.env = (do let ov ← eval o X.env; standAt apos.atName; let (f, first) ← holding [ov] (getMethod ov m pl); callWith pos f first (backTo pos (starEach (e :: es) X.env)) (backToKw pos (keywordEach [] X.env))) := by rfl) : AE X W (.Call (.Attribute o m apos) (e :: es) [] pos) (aMeth cl m F ao t') := by
  obtain ⟨f, fd, ps, ok, hc, hm, hb, _⟩ := h
  obtain ⟨ta, po, la⟩ := ho
  obtain ⟨t, pa, l⟩ := ha
  exact ⟨_, pe_methS (pl := pl) po hc hm ok hr hb (fun σ => passAt tk σ) pa hst hpl ht, le_meth la l⟩
theorem ae_meth0 {pl : Sem Bool} (h : MD X.prog X.w X.K X.mg X.base cl m k F) (hr : RG k X.A) (tk : Takes X W) (ho : AE X W o ao) (ht : eval (.Call (.Attribute o m apos) [] [] pos) X.env = (do let ov ← eval o X.env; standAt apos.atName; let (f, first) ← holding [ov] (getMethod ov m pl); callWith pos f first (backTo pos (starEach [] X.env)) (backToKw pos (keywordEach [] X.env))) := by rfl) : AE X W (.Call (.Attribute o m apos) [] [] pos) (aMeth cl m F ao aNil) := by
  obtain ⟨f, fd, ps, ok, hc, hm, hb, _⟩ := h
  obtain ⟨ta, po, la⟩ := ho
  exact ⟨_, pe_meth0S (pl := pl) po hc hm ok hr hb (fun σ => passAt tk σ) ht, le_meth la (fun σ H A ρ S P Q E m mt h kq _ => kq [] H [] A S Up.refl m .nil h)⟩
/-! ### fields -/
/-- the class keeps the field in its instances -/
def FieldOk (K : PySem.W.Frag) (cl f : Str) : Prop := Cls K (He.ga K cl) ∧ NoAttr K (He.ga K cl) f
/-- o.f, o of the class cl -/
def aFld (cl f : Str) (a : ATE) : ATE := fun ρ S E Q => a ρ S E fun x S1 => must (insOf S1 cl x) fun fs => must (lookF f fs) fun d => Q d S1
theorem ae_fld {f : Str} (hf : FieldOk X.K cl f) (ho : AE X W o ao) (hb : attributeBase o f X.env (eval o X.env) = eval o X.env := by rfl) : AE X W (.Attribute o f pos) (aFld cl f ao) := by
  obtain ⟨ta, po, la⟩ := ho
  refine ⟨_, pe_fld po hb, fun σ H A ρ S P Q E mm mt h kq kx => la σ H A ρ S _ _ E mm mt h (fun x H1 dx A1 S1 u1 m1 r1 q1 => ?_) kx⟩
  obtain ⟨fs, e, q⟩ := of_must q1
  obtain ⟨d, el, q⟩ := of_must q
  obtain ⟨a, dxx, gs, i, ed, ea, es', ev, g, rk⟩ := ins_at m1 r1 e
  subst ev
  rcases look_ok (f := f) rk with ⟨h1, _⟩ | ⟨d', v, h1, h2, rv⟩
  · rw [el] at h1; cases h1
  · rw [el] at h1; cases h1
    exact ⟨a, _, dxx, gs, v, rfl, g, hf.1, hf.2, h2, kq _ H1 _ A1 S1 u1 m1 rv q⟩
/-! ### dict displays (empty) -/
def aDNew : ATE := fun _ S _ Q => Q (.ref S.length) (S ++ [.dK []])
theorem ae_dnew : AE X W (.Dict [] [] pos) aDNew := ⟨_, pe_dnewK, fun σ H A ρ S P Q E m mt h kq kx pp hp => kq _ _ _ (A ++ [pp]) _ (Up.alloc m hp) (m.alloc (o := .dK []) hp ⟨[], upd_same, .nil⟩) (.ref (by rw [m.len]; exact alloc_at)) h⟩
end
end AL
/-! AL5: statements. -/
namespace AL
open PySem PySem.Spec
open PyProof.Rows L2
structure AEnds where
  nx : Rho → Sto → Prop
  rt : VA
  ex : Exn → Rho → Sto → Prop
  bk : Rho → Sto → Prop := fun _ _ => False
  ct : Rho → Sto → Prop := fun _ _ => False
abbrev ATS := AEnds → Rho → Sto → Prop
section
variable (K : PySem.W.Frag) (A : List Addr) (H : Hp)
def KN (P : L2.St → Hp → Prop) (Q : Rho → Sto → Prop) : Prop := ∀ σ' H' ρ' A' S', Up K A H A' H' → MtS K A' H' S' → Mt K A' H' ρ' σ' → Q ρ' S' → P σ' H'
def KXS (W : WX) (Q : Exn → Rho → Sto → Prop) : Prop := ∀ x c d σ' H' ρ' A' S', Up K A H A' H' → MtS K A' H' S' → Mt K A' H' ρ' σ' → ExR K A' H' x c d → Q x ρ' S' → W c d σ' H'
structure KS (W : WX) (D : Ends) (AD : AEnds) : Prop where
  nx : KN K A H D.nx AD.nx
  rt : KQ K A H D.rt AD.rt
  bk : KN K A H D.bk AD.bk
  ct : KN K A H D.ct AD.ct
  ex : KXS K A H W AD.ex
end
section
variable {K : PySem.W.Frag} {A A' : List Addr} {H H' : Hp} {W : WX}
theorem KN.mono {P : L2.St → Hp → Prop} {Q : Rho → Sto → Prop} (k : KN K A H P Q) (u : Up K A H A' H') : KN K A' H' P Q := fun s h r a t w m mt q => k s h r a t (u.trans w) m mt q
theorem KXS.mono {Q : Exn → Rho → Sto → Prop} (k : KXS K A H W Q) (u : Up K A H A' H') : KXS K A' H' W Q := fun x c d s h r a t w m mt e q => k x c d s h r a t (u.trans w) m mt e q
theorem KXS.at {Q : Exn → Rho → Sto → Prop} {ρ : Rho} {σ : L2.St} (k : KXS K A H W Q) (mt : Mt K A H ρ σ) : KX K A H (WE' W σ) (fun x S => Q x ρ S) := fun x c d H' A' S' u m r q => k x c d σ H' ρ A' S' u m (mt.mono u) r q
theorem KS.mono {D : Ends} {AD : AEnds} (k : KS K A H W D AD) (u : Up K A H A' H') : KS K A' H' W D AD := ⟨k.nx.mono u, k.rt.mono u, k.bk.mono u, k.ct.mono u, k.ex.mono u⟩
end
def LS (K : PySem.W.Frag) (W : WX) (t : TS) (a : ATS) : Prop := ∀ σ H A ρ S (D : Ends) (AD : AEnds), MtS K A H S → Mt K A H ρ σ → a AD ρ S → KS K A H W D AD → t D σ H
def AS (X : Cx) (W : WX) (st : Stmt) (a : ATS) : Prop := ∃ t, PS X st t ∧ LS X.K W t a
def ASs (X : Cx) (W : WX) (st : List Stmt) (a : ATS) : Prop := ∃ t, PSs X st t ∧ LS X.K W t a

section
variable {X : Cx} {W : WX} {a b c e : Expr} {aa ab ac : ATE} {pos pos' : Pos} {es : List Expr} {t' : ATA} {st : Stmt} {rest sts sts' : List Stmt} {as1 as2 : ATS} {at1 : ATT}
def aNext : ATS := fun D ρ S => D.nx ρ S
def aSeq (t u : ATS) : ATS := fun D ρ S => t { D with nx := u D } ρ S
theorem ass_nil : ASs X W [] aNext := ⟨_, pss_nil, fun σ H A ρ S D AD m mt h k => k.nx σ H ρ A S Up.refl m mt h⟩
theorem ass_one (h : AS X W st as1) : ASs X W [st] as1 := let ⟨_, p, l⟩ := h; ⟨_, pss_one p, l⟩
theorem ls_seq {K : PySem.W.Frag} {t u : TS} (l1 : LS K W t as1) (l2 : LS K W u as2) : LS K W (tSeq t u) (aSeq as1 as2) := fun σ H A ρ S D AD m mt h k =>
  l1 σ H A ρ S _ _ m mt h ⟨fun σ' H' ρ' A' S' u m' mt' q => l2 σ' H' A' ρ' S' D AD m' mt' q (k.mono u), k.rt, k.bk, k.ct, k.ex⟩
theorem ass_cons (h : AS X W st as1) (g : ASs X W rest as2) : ASs X W (st :: rest) (aSeq as1 as2) := let ⟨_, p, l⟩ := h; let ⟨_, q, l'⟩ := g; ⟨_, pss_cons p q, ls_seq l l'⟩
theorem as_pass : AS X W (.Pass pos) aNext := ⟨_, ps_pass, fun σ H A ρ S D AD m mt h k => k.nx σ H ρ A S Up.refl m mt h⟩
def aBreak : ATS := fun D ρ S => D.bk ρ S
def aCont : ATS := fun D ρ S => D.ct ρ S
theorem as_break : AS X W (.Break pos) aBreak := ⟨_, ps_break, fun σ H A ρ S D AD m mt h k => k.bk σ H ρ A S Up.refl m mt h⟩
theorem as_continue : AS X W (.Continue pos) aCont := ⟨_, ps_continue, fun σ H A ρ S D AD m mt h k => k.ct σ H ρ A S Up.refl m mt h⟩
theorem as_doc {x j} : AS X W (.Expr (.Constant (.str x) j pos) pos') aNext := ⟨_, ps_doc, fun σ H A ρ S D AD m mt h k => k.nx σ H ρ A S Up.refl m mt h⟩
def aDrop (a : ATE) : ATS := fun D ρ S => a ρ S (fun x S1 => D.ex x ρ S1) fun _ S1 => D.nx ρ S1
theorem as_expr (h : AE X W e aa) (hs : swapsWith e none pos.line X.env = pure false := by rfl) : AS X W (.Expr e pos) (aDrop aa) := by
  obtain ⟨t, p, l⟩ := h
  exact ⟨_, ps_expr p hs, fun σ H A ρ S D AD m mt h k => l σ H A ρ S _ _ _ m mt h (fun v H1 d A1 S1 u m1 r q => k.nx σ H1 ρ A1 S1 u m1 (mt.mono u) q) (k.ex.at mt)⟩
def aRet (a : ATE) : ATS := fun D ρ S => a ρ S (fun x S1 => D.ex x ρ S1) D.rt
theorem as_ret (h : AE X W e aa) : AS X W (.Return (some e) pos) (aRet aa) := by
  obtain ⟨t, p, l⟩ := h
  exact ⟨_, ps_ret p, fun σ H A ρ S D AD m mt h k => l σ H A ρ S _ _ _ m mt h k.rt (k.ex.at mt)⟩
def aRetN : ATS := fun D _ S => D.rt .non S
theorem as_retN : AS X W (.Return none pos) aRetN := ⟨_, ps_retN, fun σ H A ρ S D AD m mt h k => k.rt _ H _ A S Up.refl m .non h⟩
def aIfS (t : ATT) (a b : ATS) : ATS := fun D ρ S => t ρ S (fun x S1 => D.ex x ρ S1) fun k S1 => match k with
  | true => a D ρ S1
  | false => b D ρ S1
theorem as_if (h : AT X W c at1) (h1 : ASs X W sts as1) (h2 : ASs X W sts' as2) : AS X W (.If c sts sts' pos) (aIfS at1 as1 as2) := by
  obtain ⟨t, p, l⟩ := h
  obtain ⟨t1, p1, l1⟩ := h1
  obtain ⟨t2, p2, l2⟩ := h2
  refine ⟨_, ps_if p p1 p2, fun σ H A ρ S D AD m mt h k => l σ H A ρ S _ _ _ m mt h (fun b H1 A1 S1 u m1 q => ?_) (k.ex.at mt)⟩
  cases b with
  | true => exact l1 σ H1 A1 ρ S1 D AD m1 (mt.mono u) q (k.mono u)
  | false => exact l2 σ H1 A1 ρ S1 D AD m1 (mt.mono u) q (k.mono u)
/-! ### targets -/
abbrev ATG := D → Rho → Sto → (Rho → Sto → Prop) → Prop
def LG (K : PySem.W.Frag) (g : TG) (ag : ATG) : Prop := ∀ σ H A ρ S d v (P : L2.St → Hp → Prop) (Q : Rho → Sto → Prop), MtS K A H S → Mt K A H ρ σ → Rp K A H d v → ag d ρ S Q → KN K A H P Q → g v σ H P
def AG (X : Cx) (tg : Expr) (ag : ATG) : Prop := ∃ g, PG X tg g ∧ LG X.K g ag
abbrev ATGs := List D → Rho → Sto → (Rho → Sto → Prop) → Prop
def LGs (K : PySem.W.Frag) (g : TGs) (ag : ATGs) : Prop := ∀ σ H A ρ S ds vs (P : L2.St → Hp → Prop) (Q : Rho → Sto → Prop), MtS K A H S → Mt K A H ρ σ → RpL K A H ds vs → ag ds ρ S Q → KN K A H P Q → g vs σ H P
def AGs (X : Cx) (tgs : List Expr) (ag : ATGs) : Prop := ∃ g, PGs X tgs g ∧ LGs X.K g ag
def sset (ρ : Rho) (i : Nat) (d : D) : Rho := ρ.set i (some d)
def agName (i : Nat) : ATG := fun d ρ S Q => Q (sset ρ i d) S
theorem lg_name {K : PySem.W.Frag} {i : Nat} : LG K (gName i) (agName i) := fun σ H A ρ S d v P Q m mt r q k => k _ H _ A S Up.refl m (mt.set r) q
theorem ag_name {i : Nat} {x : Str} (hN : X.N.Nodup) (hi : X.N[i]? = some x := by rfl) (hx : Loc X.env.scope x := by first | exact Or.inl rfl | exact Or.inr rfl) (hf : X.fn x = true ∨ X.env.scope.names.lookup x = some .local := by first | exact .inl rfl | exact .inr rfl | assumption) : AG X (.Name x pos) (agName i) :=
  ⟨_, pg_name hN hi hx hf, lg_name⟩
def agNil : ATGs := fun ds ρ S Q => match ds with
  | [] => Q ρ S
  | _ => False
def agCons (t : ATG) (u : ATGs) : ATGs := fun ds ρ S Q => match ds with
  | d :: r => t d ρ S fun ρ1 S1 => u r ρ1 S1 Q
  | _ => False
theorem ags_nil : AGs X [] agNil := ⟨_, pgs_nil, fun σ H A ρ S ds vs P Q m mt r q k => by
  cases r with
  | nil => exact ⟨rfl, k σ H ρ A S Up.refl m mt q⟩
  | cons _ _ => exact q.elim⟩
theorem ags_cons {tg : Expr} {tgs : List Expr} {g1 : ATG} {g2 : ATGs} (h : AG X tg g1) (h2 : AGs X tgs g2) (hs : (assignEach (tg :: tgs) X.env).map (·.2) = assign tg X.env :: (assignEach tgs X.env).map (·.2) := by rfl) : AGs X (tg :: tgs) (agCons g1 g2) := by
  obtain ⟨t1, p1, l1⟩ := h
  obtain ⟨t2, p2, l2⟩ := h2
  refine ⟨_, pgs_cons p1 p2 hs, fun σ H A ρ S ds vs P Q m mt r q k => ?_⟩
  cases r with
  | nil => exact q.elim
  | cons r1 r2 => exact ⟨_, _, rfl, l1 σ H A ρ S _ _ _ _ m mt r1 q fun σ' H' ρ' A' S' u m' mt' q' => l2 σ' H' A' ρ' S' _ _ P Q m' mt' (r2.mono u) q' (k.mono u)⟩
/-- a tuple or a list is unpacked -/
def agTup (n : Nat) (u : ATGs) : ATG := fun d ρ S Q => must (seqOf S d) fun l => l.length = n ∧ u l ρ S Q
theorem ag_tup {tgs : List Expr} {k : Nat} {n : Nat} {g2 : ATGs} (hc : X.calm = true) (h : AGs X tgs g2) (hn : (assignEach tgs X.env).length = n := by rfl) (hst : (assignEach tgs X.env).findIdx? (·.1) = none := by rfl) : AG X (.Tuple tgs k pos) (agTup n g2) := by
  obtain ⟨t2, p2, l2⟩ := h
  have p : PG X (.Tuple tgs k pos) (fun v σ H Q => gTup X.K n t2 v σ H Q ∨ gUnl X.K n t2 v σ H Q) := ⟨fun pins s σ H v u Q I r q => q.elim ((pg_tup hc p2 hn hst).run pins s σ H v u Q I r) ((pg_unl hc p2 hn hst).run pins s σ H v u Q I r)⟩
  refine ⟨_, p, fun σ H A ρ S d v P Q m mt r q k => ?_⟩
  obtain ⟨l, h, hl, q2⟩ := of_must q
  cases r <;> simp [seqOf] at h
  · rename_i i ad e'
    obtain ⟨ws, hs, rl⟩ := lst_at m e' h
    exact .inr ⟨ad, ws, rfl, hs, by rw [← rl.length]; exact hl, l2 σ H A ρ S l ws P Q m mt rl q2 k⟩
  · rename_i ad ws l' hs rl
    subst h
    exact .inl ⟨ad, ws, rfl, hs, by rw [← rl.length]; exact hl, l2 σ H A ρ S _ ws P Q m mt rl q2 k⟩
  · rename_i ad ws l' hs rl
    subst h
    exact .inr ⟨ad, ws, rfl, .inr hs, by rw [← rl.length]; exact hl, l2 σ H A ρ S _ ws P Q m mt rl q2 k⟩
def aAsg (a : ATE) (g : ATG) : ATS := fun D ρ S => a ρ S (fun x S1 => D.ex x ρ S1) fun d S1 => g d ρ S1 D.nx
theorem ls_asg {K : PySem.W.Frag} {t : TE} {g : TG} {ag : ATG} (l : LE K W t aa) (lg : LG K g ag) : LS K W (tAsg t g) (aAsg aa ag) := fun σ H A ρ S D AD m mt h k =>
  l σ H A ρ S _ _ _ m mt h (fun v H1 d A1 S1 u m1 r q => lg σ H1 A1 ρ S1 d v _ _ m1 (mt.mono u) r q (k.nx.mono u)) (k.ex.at mt)
theorem as_asg {tg : Expr} {ag : ATG} (h : AE X W e aa) (hg : AG X tg ag) (hs : swapsWithSole [tg] e pos.line X.env = pure false := by rfl) (hw : swappedStores [tg] e X.env = pure none := by rfl)
    (h1 : (assignEach [tg] X.env).map (·.2) = [assign tg X.env] := by rfl) : AS X W (.Assign [tg] e pos) (aAsg aa ag) := by
  obtain ⟨t, p, l⟩ := h
  obtain ⟨g, pg, lg⟩ := hg
  exact ⟨_, ps_asg p pg hs hw h1, ls_asg l lg⟩
theorem as_set {i : Nat} {x : Str} (hN : X.N.Nodup) (h : AE X W e aa) (hi : X.N[i]? = some x := by rfl) (hx : Loc X.env.scope x := by first | exact Or.inl rfl | exact Or.inr rfl) (hs : swapsWith e (some (.Name x pos')) pos.line X.env = pure false := by rfl)
    (hf : X.fn x = true ∨ X.env.scope.names.lookup x = some .local := by first | exact .inl rfl | exact .inr rfl | assumption) : AS X W (.Assign [.Name x pos'] e pos) (aAsg aa (agName i)) := by
  obtain ⟨t, p, l⟩ := h
  exact ⟨_, ps_set hN hi hx p hs hf, ls_asg l lg_name⟩
/-! ### xs.append(e), xs.extend(ys) -/
def mAppend (o d : D) (S : Sto) (Q : Sto → Prop) : Prop := match o with
  | .ref i => (match S[i]? with
    | some (.lst l) => l.length < sizeLine ∧ Q (S.set i (.lst (l ++ [d])))
    | _ => False)
  | _ => False
/-- what is known to be a list when the method is looked up -/
def isLst (S : Sto) (o : D) : Bool := match o with
  | .ref i => (lstOf S i).isSome
  | _ => false
def aAppend (ao a : ATE) : ATE := fun ρ S E Q => ao ρ S E fun o S1 => isLst S1 o = true ∧ a ρ S1 E fun d S2 => mAppend o d S2 fun S3 => Q .non S3
theorem tyl_ok {K : PySem.W.Frag} {A : List Addr} {H : Hp} {S : Sto} {o : D} {v : V} (m : MtS K A H S) (r : Rp K A H o v) (h : isLst S o = true) : tyV K "list" v H := by
  cases r <;> simp [isLst] at h
  rename_i i a e
  obtain ⟨l, hl⟩ := Option.isSome_iff_exists.mp h
  obtain ⟨vs, hs, _⟩ := lst_at m e hl
  exact Or.inl ⟨rfl, vs, hs⟩
theorem ae_append {o : Expr} {ao : ATE} {apos cpos : Pos} (ho : AE X W o ao) (ha : AE X W e aa)
    (hbase : attributeBase o "append" X.env (eval o X.env) = eval o X.env := by rfl) (hfew : ((backTo cpos (starEach [e] X.env)).all (fun x => !x.1) && (backToKw cpos (keywordEach [] X.env)).all (fun x => x.1.isSome) && decide ([e].length + ([] : List Keyword).length + (if ([] : List Keyword).isEmpty then 0 else 1) < 30)) = true := by rfl) (hline : (apos.endLine == cpos.line) = true := by rfl) (hs : starEach [e] X.env = (false, eval e X.env) :: starEach [] X.env := by rfl) (hplain : (backTo cpos (starEach [] X.env)).any (·.1) = false := by rfl) :
    AE X W (.Call (.Attribute o "append" apos) [e] [] cpos) (aAppend ao aa) := by
  obtain ⟨to, po, lo⟩ := ho
  obtain ⟨ta, pa, la⟩ := ha
  refine ⟨_, pe_bm PySem.F.plainAttrs_list PySem.F.slot_list_append PySem.F.type_list_append mt_append po (pa_cons pa pa_nil hs) hbase hfew hline hs hplain, fun σ H A ρ S P Q E m mt h kq kx => lo σ H A ρ S _ _ E m mt h (fun x H1 dx A1 S1 u1 m1 r1 q1 => ?_) kx⟩
  refine ⟨tyl_ok m1 r1 q1.1, la σ H1 A1 ρ S1 _ _ E m1 (mt.mono u1) q1.2 (fun y H2 dy A2 S2 u2 m2 r2 q2 => ?_) (kx.mono u1)⟩
  have r1' := r1.mono u2
  cases r1' <;> first | exact q2.elim | skip
  rename_i i ad e'
  simp only [mAppend] at q2
  split at q2
  · rename_i l es'
    obtain ⟨vs, g, rl⟩ := m2.ok i _ ad es' e'
    have uw : Up X.K A2 H2 A2 (upd H2 ad (.lst (vs ++ [y]))) := Up.write m2 e'
    refine ⟨ad, vs, y, rfl, rfl, g, by rw [← rl.length]; exact q2.1, ?_⟩
    exact kq _ _ .non A2 _ ((u1.trans u2).trans uw) (m2.write (o := .lst (l ++ [dy])) e' ⟨_, upd_same, (rl.append (RpL.one r2)).mono uw⟩) .non q2.2
  · exact q2.elim
/-! ### o.f = e -/
def setF (f : Str) (d : D) : List (Str × D) → List (Str × D)
  | [] => [(f, d)]
  | (g, x) :: r => if g = f then (g, d) :: r else (g, x) :: setF f d r
theorem setF_ok {K : PySem.W.Frag} {A : List Addr} {H : Hp} {f : Str} {d : D} {v : V} (r : Rp K A H d v) : ∀ {fs : List (Str × D)} {gs : List (Str × V)}, RpK K A H Str fs gs → RpK K A H Str (setF f d fs) (putF f v gs) := by
  intro fs gs h
  induction h with
  | nil => exact .cons ⟨rfl, r⟩ .nil
  | cons h1 h2 ih =>
    rename_i p q l1 l2
    obtain ⟨p1, p2⟩ := p
    obtain ⟨q1, q2⟩ := q
    obtain ⟨e, rp⟩ := h1
    dsimp only at e rp
    subst e
    show RpK K A H Str (if p1 = f then (p1, d) :: l1 else (p1, p2) :: setF f d l1) (if p1 = f then (p1, v) :: l2 else (p1, q2) :: putF f v l2)
    by_cases hh : p1 = f
    · rw [if_pos hh, if_pos hh]; exact .cons ⟨rfl, r⟩ h2
    · rw [if_neg hh, if_neg hh]; exact .cons ⟨rfl, rp⟩ ih
/-- o.f = e, o an instance of cl -/
def aFldSet (cl f : Str) (ao a : ATE) : ATS := fun D ρ S => a ρ S (fun x S1 => D.ex x ρ S1) fun d S1 => ao ρ S1 (fun x S2 => D.ex x ρ S2) fun o S2 => must (insOf S2 cl o) fun fs => fs.length < 1000 ∧ (match o with
  | .ref i => D.nx ρ (S2.set i (.ins cl (setF f d fs)))
  | _ => False)
theorem as_fld {cl f : Str} {o : Expr} {ao : ATE} (hf : FieldOk X.K cl f) (ho : AE X W o ao) (hv : AE X W e aa) (hs : swapsWith e (some (.Attribute o f pos')) pos.line X.env = pure false := by rfl) : AS X W (.Assign [.Attribute o f pos'] e pos) (aFldSet cl f ao aa) := by
  obtain ⟨to, po, lo⟩ := ho
  obtain ⟨tv, pv, lv⟩ := hv
  refine ⟨_, ps_fld po pv hs, fun σ H A ρ S D AD m mt h k => lv σ H A ρ S _ _ _ m mt h (fun v H1 d A1 S1 u1 m1 r1 q1 => lo σ H1 A1 ρ S1 _ _ _ m1 (mt.mono u1) q1 (fun x H2 dx A2 S2 u2 m2 r2 q2 => ?_) ((k.ex.mono u1).at (mt.mono u1))) (k.ex.at mt)⟩
  obtain ⟨fs, ei, hl, q⟩ := of_must q2
  obtain ⟨ad, dxx, gs, i, ed, ea, es', ev, g, rk⟩ := ins_at m2 r2 ei
  subst ev; subst ed
  have uw : Up X.K A2 H2 A2 (upd H2 ad (.ins (He.ga X.K cl) dxx (putF f v gs))) := Up.write m2 ea
  refine ⟨ad, _, dxx, gs, rfl, g, hf.1, hf.2, by rw [← RpK.length rk]; exact hl, ?_⟩
  exact k.nx _ _ ρ A2 _ ((u1.trans u2).trans uw) (m2.write (o := .ins cl (setF f d fs)) ea ⟨dxx, _, upd_same, (setF_ok (r1.mono u2) rk).mono uw⟩) ((mt.mono (u1.trans u2)).mono uw) q
/-! ### d[k] = e -/
def setK {κ : Type} [DecidableEq κ] (k : κ) (d : D) : List (κ × D) → List (κ × D)
  | [] => [(k, d)]
  | (g, x) :: r => if g = k then (g, d) :: setMore k d r else (g, x) :: setK k d r
where
  setMore (k : κ) (d : D) : List (κ × D) → List (κ × D)
    | [] => []
    | (g, x) :: r => if g = k then (g, d) :: setMore k d r else (g, x) :: setMore k d r
theorem putK_cons {κ : Type} [DecidableEq κ] (k g : κ) (x v : V) (r : List (κ × V)) : putK ((g, x) :: r) k v = if g = k then (g, v) :: r.map (fun kv => if kv.1 = k then (kv.1, v) else kv) else (g, x) :: putK r k v := by
  unfold putK
  by_cases h : g = k
  · simp [h]
  · simp only [List.any_cons, h, decide_false, Bool.false_or, if_false, List.map_cons, List.cons_append]
    split <;> simp [h]
theorem setMore_ok {K : PySem.W.Frag} {A : List Addr} {H : Hp} {κ : Type} [DecidableEq κ] {k : κ} {d : D} {v : V} (r : Rp K A H d v) {kvs : List (κ × D)} {ks : List (κ × V)} (h : RpK K A H κ kvs ks) : RpK K A H κ (setK.setMore k d kvs) (ks.map fun kv => if kv.1 = k then (kv.1, v) else kv) := by
  induction h with
  | nil => exact .nil
  | cons h1 h2 ih =>
    rename_i p q l1 l2
    obtain ⟨p1, p2⟩ := p
    obtain ⟨q1, q2⟩ := q
    obtain ⟨e, rp⟩ := h1
    dsimp only at e rp
    subst e
    rw [List.map_cons]
    show RpK K A H κ (if p1 = k then (p1, d) :: setK.setMore k d l1 else (p1, p2) :: setK.setMore k d l1) ((if p1 = k then (p1, v) else (p1, q2)) :: _)
    by_cases hh : p1 = k
    · rw [if_pos hh, if_pos hh]; exact .cons ⟨rfl, r⟩ ih
    · rw [if_neg hh, if_neg hh]; exact .cons ⟨rfl, rp⟩ ih
theorem setK_ok {K : PySem.W.Frag} {A : List Addr} {H : Hp} {κ : Type} [DecidableEq κ] {k : κ} {d : D} {v : V} (r : Rp K A H d v) {kvs : List (κ × D)} {ks : List (κ × V)} (h : RpK K A H κ kvs ks) : RpK K A H κ (setK k d kvs) (putK ks k v) := by
  induction h with
  | nil =>
    show RpK K A H κ [(k, d)] (putK [] k v)
    exact .cons ⟨rfl, r⟩ .nil
  | cons h1 h2 ih =>
    rename_i p q l1 l2
    obtain ⟨p1, p2⟩ := p
    obtain ⟨q1, q2⟩ := q
    obtain ⟨e, rp⟩ := h1
    dsimp only at e rp
    subst e
    rw [putK_cons]
    show RpK K A H κ (if p1 = k then (p1, d) :: setK.setMore k d l1 else (p1, p2) :: setK k d l1) _
    by_cases hh : p1 = k
    · rw [if_pos hh, if_pos hh]; exact .cons ⟨rfl, r⟩ (setMore_ok r h2)
    · rw [if_neg hh, if_neg hh]; exact .cons ⟨rfl, rp⟩ ih
def mPut (o k d : D) (S : Sto) (Q : Sto → Prop) : Prop := match o with
  | .ref i => (match S[i]? with
    | some (.dK kvs) => must (keyD k) fun key => kvs.length < sizeLine ∧ Q (S.set i (.dK (setK key d kvs)))
    | _ => False)
  | _ => False
def aDPut (ao ak a : ATE) : ATS := fun D ρ S => a ρ S (fun x S1 => D.ex x ρ S1) fun d S1 => ao ρ S1 (fun x S2 => D.ex x ρ S2) fun o S2 => ak ρ S2 (fun x S3 => D.ex x ρ S3) fun k S3 => mPut o k d S3 (D.nx ρ)
theorem as_dput {o i : Expr} {ao ai : ATE} (hu : X.A.units + 1 < cLine) (ho : AE X W o ao) (hi : AE X W i ai) (hv : AE X W e aa) (hs : swapsWith e (some (.Subscript o i pos')) pos.line X.env = pure false := by rfl) : AS X W (.Assign [.Subscript o i pos'] e pos) (aDPut ao ai aa) := by
  obtain ⟨to, po, lo⟩ := ho
  obtain ⟨ti, pi', li⟩ := hi
  obtain ⟨tv, pv, lv⟩ := hv
  refine ⟨_, ps_dput hu po pi' pv hs, fun σ H A ρ S D AD m mt h k => lv σ H A ρ S _ _ _ m mt h (fun v H1 d A1 S1 u1 m1 r1 q1 => lo σ H1 A1 ρ S1 _ _ _ m1 (mt.mono u1) q1 (fun x H2 dx A2 S2 u2 m2 r2 q2 =>
    li σ H2 A2 ρ S2 _ _ _ m2 ((mt.mono u1).mono u2) q2 (fun y H3 dy A3 S3 u3 m3 r3 q3 => ?_) ((k.ex.mono (u1.trans u2)).at ((mt.mono u1).mono u2))) ((k.ex.mono u1).at (mt.mono u1))) (k.ex.at mt)⟩
  have r2' := r2.mono u3
  cases r2' <;> first | exact q3.elim | skip
  rename_i j ad ea
  simp only [mPut] at q3
  split at q3
  · rename_i kvs es'
    obtain ⟨key, ek, hl, q⟩ := of_must q3
    have ev := key_ok ek r3
    subst ev
    obtain ⟨ks, g, rk⟩ := m3.ok j _ ad es' ea
    have uw : Up X.K A3 H3 A3 (upd H3 ad (.dK (putK ks key v))) := Up.write m3 ea
    refine ⟨ad, _, rfl, DPut.k g (by rw [← RpK.length rk]; exact hl), ?_⟩
    exact k.nx _ _ ρ A3 _ (((u1.trans u2).trans u3).trans uw) (m3.write (o := .dK (setK key d kvs)) ea ⟨_, upd_same, (setK_ok ((r1.mono u2).mono u3) rk).mono uw⟩) ((mt.mono ((u1.trans u2).trans u3)).mono uw) q
  · exact q3.elim
end
end AL
/-! AL6: loops, comprehensions. -/
namespace AL
open PySem PySem.Spec
open PyProof.Rows L2
/-- what is walked -/
inductive Src where
  | fix (l : List D)
  | lst (i : Nat) (l : List D)
  | rvl (i : Nat) (l : List D)
  | rng (lo : Int) (n : Nat)
def Src.items : Src → List D
  | .fix l => l
  | .lst _ l => l
  | .rvl _ l => l.reverse
  | .rng lo n => (List.range n).map fun (k : Nat) => D.int (lo + (k : Int))
def Src.ok (S : Sto) : Src → Prop
  | .fix _ => True
  | .lst i l => lstOf S i = some l
  | .rvl i l => lstOf S i = some l
  | .rng _ _ => True
structure JOk (K : PySem.W.Frag) (A : List Addr) (H : Hp) (src : Src) (J : It) : Prop where
  stop : ∀ k A' H' S', Up K A H A' H' → MtS K A' H' S' → src.ok S' → src.items.length ≤ k → J.stop k H'
  go : ∀ k A' H' S', Up K A H A' H' → MtS K A' H' S' → src.ok S' → k < src.items.length → J.go k H'
  yld : ∀ k A' H' S' x H2, Up K A H A' H' → MtS K A' H' S' → src.ok S' → k < src.items.length → J.yld k H' x H2 → H2 = H' ∧ ∃ d, src.items[k]? = some d ∧ Rp K A' H' d x
theorem JOk.mono {K : PySem.W.Frag} {A A' : List Addr} {H H' : Hp} {src : Src} {J : It} (j : JOk K A H src J) (u : Up K A H A' H') : JOk K A' H' src J :=
  ⟨fun k A2 H2 S2 w => j.stop k A2 H2 S2 (u.trans w), fun k A2 H2 S2 w => j.go k A2 H2 S2 (u.trans w), fun k A2 H2 S2 x H3 w => j.yld k A2 H2 S2 x H3 (u.trans w)⟩
abbrev ATI := Rho → Sto → XA → (Src → Sto → Prop) → Prop
def LI (K : PySem.W.Frag) (W : WX) (wi : TI) (ai : ATI) : Prop := ∀ σ H A ρ S (R : It → Hp → Prop) (Q : Src → Sto → Prop) (E : XA), MtS K A H S → Mt K A H ρ σ → ai ρ S E Q →
  (∀ J H' src A' S', Up K A H A' H' → MtS K A' H' S' → JOk K A' H' src J → src.ok S' → Q src S' → R J H') → KX K A H (WE' W σ) E → wi σ H R
def AI (X : Cx) (W : WX) (tg iter : Expr) (ai : ATI) : Prop := ∃ wi, PI X tg iter wi ∧ LI X.K W wi ai
section
variable {K : PySem.W.Frag} {A : List Addr} {H : Hp} {S : Sto}
theorem jok_tup {a : Addr} {vs : List V} {l : List D} (hs : SqT K H a vs) (rl : RpL K A H l vs) : JOk K A H (.fix l) (Itt K a) := by
  refine ⟨fun k A' H' S' u m ok hk => ⟨vs, u.tup _ _ hs, by rw [← rl.length]; exact hk⟩, fun k A' H' S' u m ok hk => ?_, fun k A' H' S' x H2 u m ok hk y => ?_⟩
  · have hk' : k < l.length := hk
    obtain ⟨v, e, _⟩ := rl.get (List.getElem?_eq_getElem hk')
    exact ⟨vs, v, u.tup _ _ hs, e⟩
  · have hk' : k < l.length := hk
    obtain ⟨v, e, r⟩ := rl.get (List.getElem?_eq_getElem hk')
    obtain ⟨e1, e2⟩ := y
    have := e2 vs (u.tup _ _ hs)
    rw [e] at this
    cases this
    exact ⟨e1, _, List.getElem?_eq_getElem hk', r.mono u⟩
theorem jok_str {x : Str} : JOk K A H (.fix (x.cps.toList.map fun c => D.str ⟨#[c]⟩)) (Its x) := by
  refine ⟨fun k A' H' S' u m ok hk => ?_, fun k A' H' S' u m ok hk => ?_, fun k A' H' S' v H2 u m ok hk y => ?_⟩
  · show x.cps.size ≤ k
    simpa [Src.items] using hk
  · show k < x.cps.size
    simpa [Src.items] using hk
  · obtain ⟨e1, c, e2, rfl⟩ := y
    refine ⟨e1, _, ?_, .str _⟩
    show (x.cps.toList.map fun c => D.str ⟨#[c]⟩)[k]? = _
    rw [List.getElem?_map, Array.getElem?_toList, e2]; rfl
theorem jok_lst {i : Nat} {a : Addr} {l : List D} (e : A[i]? = some a) : JOk K A H (.lst i l) (Itl K a) := by
  refine ⟨fun k A' H' S' u m ok hk => ?_, fun k A' H' S' u m ok hk => ?_, fun k A' H' S' x H2 u m ok hk y => ?_⟩
  · obtain ⟨vs, hs, rl⟩ := lst_at m (pre_get u.pre e) ok
    exact ⟨vs, hs, by rw [← rl.length]; exact hk⟩
  · obtain ⟨vs, hs, rl⟩ := lst_at m (pre_get u.pre e) ok
    have hk' : k < l.length := hk
    obtain ⟨v, e', _⟩ := rl.get (List.getElem?_eq_getElem hk')
    exact ⟨vs, v, hs, e'⟩
  · obtain ⟨vs, hs, rl⟩ := lst_at m (pre_get u.pre e) ok
    have hk' : k < l.length := hk
    obtain ⟨v, e', r⟩ := rl.get (List.getElem?_eq_getElem hk')
    obtain ⟨e1, e2⟩ := y
    have := e2 vs hs
    rw [e'] at this
    cases this
    exact ⟨e1, _, List.getElem?_eq_getElem hk', r⟩
theorem jok_rng {lo : Int} {n : Nat} : JOk K A H (.rng lo n) (Itr lo n) := by
  refine ⟨fun k A' H' S' u m ok hk => ?_, fun k A' H' S' u m ok hk => ?_, fun k A' H' S' x H2 u m ok hk y => ?_⟩
  · show n ≤ k
    simpa [Src.items] using hk
  · show k < n
    simpa [Src.items] using hk
  · obtain ⟨e1, rfl⟩ := y
    have hk' : k < n := by simpa [Src.items] using hk
    refine ⟨e1, _, ?_, .int _⟩
    show ((List.range n).map fun (k : Nat) => D.int (lo + (k : Int)))[k]? = _
    rw [List.getElem?_map, List.getElem?_range hk']; rfl
end
section
variable {X : Cx} {W : WX} {a b c e tg iter : Expr} {aa ab ac : ATE} {pos : Pos} {es : List Expr} {t' : ATA} {sts : List Stmt} {as1 : ATS} {at1 : ATT} {ai : ATI} {ag : ATG}
/-- what a value gives to walk -/
def srcOf (S : Sto) : D → Option Src
  | .tup l => some (.fix l)
  | .str x => some (.fix (x.cps.toList.map fun c => D.str ⟨#[c]⟩))
  | .ref i => (lstOf S i).map (Src.lst i)
  | _ => none
def aiAny (a : ATE) : ATI := fun ρ S E Q => a ρ S E fun d S1 => must (srcOf S1 d) fun src => Q src S1
theorem ai_any (ha : AE X W iter aa) : AI X W tg iter (aiAny aa) := by
  obtain ⟨t, pa, la⟩ := ha
  have h1 : PI X tg iter (iList X.K t) := pi_list pa
  refine ⟨fun σ H R => t σ H fun x H1 => (∃ a, x = .ref a ∧ (∃ xs, SqL X.K H1 a xs) ∧ R (Itl X.K a) H1) ∨ (∃ a, x = .ref a ∧ (∃ xs, SqT X.K H1 a xs) ∧ R (Itt X.K a) H1) ∨ ∃ z, x = .str z ∧ R (Its z) H1, ⟨fun pins s σ H R I h => ?_⟩, fun σ H A ρ S R Q E m mt h hR kx => ?_⟩
  · refine thn (pa.run pins s σ H _ I h) fun v s1 ⟨x, H1, J, r1, q1⟩ => ?_
    rcases q1 with ⟨a, ex, ⟨xs, hq⟩, q⟩ | ⟨a, ex, ⟨xs, hq⟩, q⟩ | ⟨z, ex, q⟩
    · subst ex
      cases r1
      obtain ⟨its, rv, pl, hz⟩ := J.list hq
      refine wpAny_pyIter_list pl.isList ?_
      refine ⟨s1.heap.objs.size, [s1.heap.objs.size], _, _, H1, rfl, J.kept (t' := s1.toks) fun b o e => Heap.get?_push_of_some _ e, turn_list a _, ⟨_, Heap.get?_push_size _ rfl, rfl, rfl⟩, fun b hb => ?_, q⟩
      have eb : b = s1.heap.objs.size := by simpa using hb
      subst eb
      exact J.fpOk (Nat.le_refl _) (J.hok.fresh (Nat.le_refl _))
    · subst ex
      cases r1
      obtain ⟨its, rv, pl, hz⟩ := J.tuple hq
      refine wpAny_pyIter_tuple (show s1.heap.IsTuple a its.toArray from pl) ?_
      refine ⟨s1.heap.objs.size, [s1.heap.objs.size], _, _, H1, rfl, J.kept (t' := s1.toks) fun b o e => Heap.get?_push_of_some _ e, turn_tuple a _, ⟨_, Heap.get?_push_size _ rfl, rfl, rfl⟩, fun b hb => ?_, q⟩
      have eb : b = s1.heap.objs.size := by simpa using hb
      subst eb
      exact J.fpOk (Nat.le_refl _) (J.hok.fresh (Nat.le_refl _))
    · subst ex
      obtain ⟨t, rfl⟩ := r1
      cases ha : z.cps.all (· < 128)
      · exact wpAny_pyIter_wide ha (pi_one (tk := s1.toks) J _ (turn_str _ z t "str_iterator" (.inr rfl)) ⟨_, Heap.get?_push_size _ rfl, rfl, rfl⟩ q)
      · exact wpAny_pyIter_ascii ha (pi_one (tk := s1.toks) J _ (turn_str _ z t "str_ascii_iterator" (.inl rfl)) ⟨_, Heap.get?_push_size _ rfl, rfl, rfl⟩ q)
  · refine la σ H A ρ S _ _ E m mt h (fun x H1 dx A1 S1 u1 m1 r1 q1 => ?_) kx
    obtain ⟨src, es', q⟩ := of_must q1
    cases r1 <;> simp [srcOf] at es'
    · rename_i z
      subst es'
      exact .inr (.inr ⟨z, rfl, hR _ H1 _ A1 S1 u1 m1 jok_str trivial q⟩)
    · rename_i i ad ea
      obtain ⟨l, hl, rfl⟩ := es'
      obtain ⟨vs, hs, rl⟩ := lst_at m1 ea hl
      exact .inl ⟨ad, rfl, ⟨vs, hs⟩, hR _ H1 _ A1 S1 u1 m1 (jok_lst ea) hl q⟩
    · rename_i ad vs l hs rl
      subst es'
      exact .inr (.inl ⟨ad, rfl, ⟨vs, hs⟩, hR _ H1 _ A1 S1 u1 m1 (jok_tup hs rl) trivial q⟩)
def aiRng1 (t : ATA) : ATI := fun ρ S E Q => t ρ S E fun ds S1 => match ds with
  | [.int j] => (-(2 ^ 62) ≤ j ∧ j < 2 ^ 62) ∧ Q (.rng 0 j.toNat) S1
  | _ => False
theorem ai_range1 {p : Pos} (hm : X.mg "range" = none) (ha : AA X W [a] t') (hg : Gl X "range" := by rfl) (hs : starEach [a] X.env = [(false, eval a X.env)] := by rfl) : AI X W tg (.Call (.Name "range" p) [a] [] pos) (aiRng1 t') := by
  obtain ⟨t, pa, la⟩ := ha
  refine ⟨_, pi_range1 hg hm pa hs, fun σ H A ρ S R Q E m mt h hR kx => la σ H A ρ S _ _ E m mt h (fun vs H1 ds A1 S1 u1 m1 r1 q1 => ?_) kx⟩
  match ds, q1 with
  | [.int j], q1 =>
    obtain ⟨v, rfl, rv⟩ := rp1 r1
    cases rv
    exact ⟨j, rfl, q1.1.1, q1.1.2, hR _ H1 _ A1 S1 u1 m1 jok_rng trivial q1.2⟩
def aiRng2 (t : ATA) : ATI := fun ρ S E Q => t ρ S E fun ds S1 => match ds with
  | [.int i, .int j] => (-(2 ^ 62) ≤ i ∧ i < 2 ^ 62 ∧ -(2 ^ 62) ≤ j ∧ j < 2 ^ 62) ∧ Q (.rng i (j - i).toNat) S1
  | _ => False
theorem ai_range2 {p : Pos} (hm : X.mg "range" = none) (ha : AA X W [a, b] t') (hg : Gl X "range" := by rfl) (hs : starEach [a, b] X.env = [(false, eval a X.env), (false, eval b X.env)] := by rfl) (hs2 : starEach [b] X.env = [(false, eval b X.env)] := by rfl) : AI X W tg (.Call (.Name "range" p) [a, b] [] pos) (aiRng2 t') := by
  obtain ⟨t, pa, la⟩ := ha
  refine ⟨_, pi_range2 hg hm pa hs hs2, fun σ H A ρ S R Q E m mt h hR kx => la σ H A ρ S _ _ E m mt h (fun vs H1 ds A1 S1 u1 m1 r1 q1 => ?_) kx⟩
  match ds, q1 with
  | [.int i, .int j], q1 =>
    obtain ⟨v, w, rfl, rv, rw'⟩ := rp2 r1
    cases rv; cases rw'
    exact ⟨i, j, rfl, q1.1, hR _ H1 _ A1 S1 u1 m1 jok_rng trivial q1.2⟩

/-! ### while -/
def aWhile (t : ATT) (body : ATS) : ATS := fun D ρ S => ∃ Wv : Nat → Rho → Sto → Prop, (∃ m, Wv m ρ S) ∧ ∀ m ρ S, Wv m ρ S → t ρ S (fun x S1 => D.ex x ρ S1) fun k S1 => match k with
  | true => body { D with nx := fun ρ' S' => ∃ m', m' < m ∧ Wv m' ρ' S', ct := fun ρ' S' => ∃ m', m' < m ∧ Wv m' ρ' S', bk := D.nx } ρ S1
  | false => D.nx ρ S1
theorem as_while (hp : PassesOwn (model X.prog X.w) X.A X.env X.xe) (hc : AT X W c at1) (hb : ASs X W sts as1) : AS X W (.While c sts [] pos) (aWhile at1 as1) := by
  obtain ⟨t, p, l⟩ := hc
  obtain ⟨t1, p1, l1⟩ := hb
  refine ⟨_, ps_while hp p p1, fun σ H A ρ S D AD m mt h k => ?_⟩
  obtain ⟨Wv, ⟨m0, w0⟩, turn⟩ := h
  refine ⟨fun n σ' H' => ∃ A' ρ' S', Up X.K A H A' H' ∧ MtS X.K A' H' S' ∧ Mt X.K A' H' ρ' σ' ∧ Wv n ρ' S', ⟨m0, A, ρ, S, Up.refl, m, mt, w0⟩, ?_⟩
  rintro n σ1 H1 ⟨A1, ρ1, S1, u1, m1, mt1, w1⟩
  have k1 := k.mono u1
  refine l σ1 H1 A1 ρ1 S1 _ _ _ m1 mt1 (turn n ρ1 S1 w1) (fun bb H2 A2 S2 u2 m2 q2 => ?_) (k1.ex.at mt1)
  have k2 := k1.mono u2
  have mt2 := mt1.mono u2
  cases bb with
  | true =>
    refine ⟨_, fun _ _ z => z, l1 σ1 H2 A2 ρ1 S2 _ _ m2 mt2 q2 ⟨?_, k2.rt, k2.nx, ?_, k2.ex⟩⟩
    · rintro σ' H' ρ' A' S' u m' mt' ⟨j, hj, wj⟩
      exact ⟨j, hj, A', ρ', S', (u1.trans u2).trans u, m', mt', wj⟩
    · rintro σ' H' ρ' A' S' u m' mt' ⟨j, hj, wj⟩
      exact ⟨j, hj, A', ρ', S', (u1.trans u2).trans u, m', mt', wj⟩
  | false => exact k2.nx σ1 H2 ρ1 A2 S2 Up.refl m2 mt2 q2
/-! ### for -/
def aFor (ai : ATI) (ag : ATG) (body : ATS) : ATS := fun D ρ S => ai ρ S (fun x S1 => D.ex x ρ S1) fun src S1 => ∃ Wv : Nat → Rho → Sto → Prop, Wv 0 ρ S1 ∧ (∀ k ρ S, k ≤ src.items.length → Wv k ρ S → src.ok S) ∧
  (∀ k d ρ S, src.items[k]? = some d → Wv k ρ S → ag d ρ S fun ρ2 S2 => body { D with nx := Wv (k + 1), ct := Wv (k + 1), bk := D.nx } ρ2 S2) ∧ ∀ ρ S, Wv src.items.length ρ S → D.nx ρ S
theorem as_for (hp : PassesOwn (model X.prog X.w) X.A X.env X.xe) (hc : X.calm = true) (hi : AI X W tg iter ai) (hg : AG X tg ag) (hb : ASs X W sts as1) (hs : ∀ x, foldedSetIterable iter X.env x = pure x := by intro _; rfl) : AS X W (.For tg iter sts [] pos) (aFor ai ag as1) := by
  obtain ⟨wi, pi', li⟩ := hi
  obtain ⟨g, pg, lg⟩ := hg
  obtain ⟨t1, p1, l1⟩ := hb
  refine ⟨_, ps_for hp hc pi' pg p1 hs, fun σ H A ρ S D AD m mt h k => li σ H A ρ S _ _ _ m mt h (fun J H1 src A1 S1 u1 m1 jok ok1 q1 => ?_) (k.ex.at mt)⟩
  obtain ⟨Wv, w0, stays, turn, done⟩ := q1
  have k1 := k.mono u1
  have mt1 := mt.mono u1
  refine ⟨fun i n σ' H' => i ≤ src.items.length ∧ n = src.items.length - i ∧ ∃ A' ρ' S', Up X.K A1 H1 A' H' ∧ MtS X.K A' H' S' ∧ Mt X.K A' H' ρ' σ' ∧ Wv i ρ' S', ⟨_, Nat.zero_le _, rfl, A1, ρ, S1, Up.refl, m1, mt1, w0⟩, ?_⟩
  rintro i n σ2 H2 ⟨hi, hn, A2, ρ2, S2, u2, m2, mt2, w2⟩
  have ok2 := stays i ρ2 S2 hi w2
  have k2 := k1.mono u2
  by_cases hlt : i < src.items.length
  · refine .inr ⟨jok.go i A2 H2 S2 u2 m2 ok2 hlt, fun σ' H' => i + 1 ≤ src.items.length ∧ ∃ A' ρ' S', Up X.K A1 H1 A' H' ∧ MtS X.K A' H' S' ∧ Mt X.K A' H' ρ' σ' ∧ Wv (i + 1) ρ' S', ?_, ?_⟩
    · rintro σ' H' ⟨h1, h2⟩
      exact ⟨src.items.length - (i + 1), by omega, h1, rfl, h2⟩
    · intro x H3 y
      obtain ⟨rfl, d, ed, rx⟩ := jok.yld i A2 H2 S2 x H3 u2 m2 ok2 hlt y
      refine lg σ2 H3 A2 ρ2 S2 d x _ _ m2 mt2 rx (turn i d ρ2 S2 ed w2) fun σ4 H4 ρ4 A4 S4 u4 m4 mt4 q4 => ?_
      have k4 := k2.mono u4
      refine l1 σ4 H4 A4 ρ4 S4 _ _ m4 mt4 q4 ⟨?_, k4.rt, k4.nx, ?_, k4.ex⟩
      · intro σ' H' ρ' A' S' u m' mt' wj
        exact ⟨hlt, A', ρ', S', (u2.trans u4).trans u, m', mt', wj⟩
      · intro σ' H' ρ' A' S' u m' mt' wj
        exact ⟨hlt, A', ρ', S', (u2.trans u4).trans u, m', mt', wj⟩
  · have hi' : i = src.items.length := by omega
    exact .inl ⟨jok.stop i A2 H2 S2 u2 m2 ok2 (by omega), k2.nx σ2 H2 ρ2 A2 S2 Up.refl m2 mt2 (done ρ2 S2 (hi' ▸ w2))⟩

/-! ### comprehensions -/
/-- the reading that the abstract one gives -/
def cE (K : PySem.W.Frag) (W : WX) (a : ATE) : TE := fun σ H P => ∃ A ρ S Q E, MtS K A H S ∧ Mt K A H ρ σ ∧ a ρ S E Q ∧ KQ K A H P Q ∧ KX K A H (WE' W σ) E
def cT (K : PySem.W.Frag) (W : WX) (a : ATT) : TT := fun σ H P => ∃ A ρ S Q E, MtS K A H S ∧ Mt K A H ρ σ ∧ a ρ S E Q ∧ KT K A H P Q ∧ KX K A H (WE' W σ) E
theorem AE.can (h : AE X W e aa) : PE X e (cE X.K W aa) := by
  obtain ⟨t, p, l⟩ := h
  exact ⟨fun pins s σ H P I ⟨A, ρ, S, Q, E, m, mt, q, kq, kx⟩ => p.run pins s σ H P I (l σ H A ρ S P Q E m mt q kq kx)⟩
theorem AT.can (h : AT X W e at1) : PT X e (cT X.K W at1) := by
  obtain ⟨t, p, l⟩ := h
  exact ⟨fun pins s σ H P I ⟨A, ρ, S, Q, E, m, mt, q, kq, kx⟩ => p.run pins s σ H P I (l σ H A ρ S P Q E m mt q kq kx)⟩
theorem LE.can {K : PySem.W.Frag} : LE K W (cE K W aa) aa := fun σ H A ρ S P Q E m mt h kq kx => ⟨A, ρ, S, Q, E, m, mt, h, kq, kx⟩
theorem LT.can {K : PySem.W.Frag} : LT K W (cT K W at1) at1 := fun σ H A ρ S P Q E m mt h kq kx => ⟨A, ρ, S, Q, E, m, mt, h, kq, kx⟩
abbrev W0 : WX := fun _ _ _ _ => False
/-- tests of a comprehension -/
def AIfs (X : Cx) (ifs : List Expr) (a : ATT) : Prop := PTs X ifs (cT X.K W0 a)
def aYes : ATT := fun _ S _ Q => Q true S
theorem aifs_nil : AIfs X [] aYes := ⟨fun pins s σ H P I ⟨A, ρ, S, Q, E, m, mt, q, kq, _⟩ => (pts_nil (X := X)).run pins s σ H P I (kq true H A S Up.refl m q)⟩
theorem aifs_one (h : AT X W0 c at1) : AIfs X [c] at1 := pts_one h.can
/-- a comprehension's own targets -/
def LGc (g : TG) (vs : List Nat) : Prop := ∀ v σ H (P : L2.St → Hp → Prop), g v (wipe σ vs) H P → g v (wipe σ vs) H fun σ2 H2 => wipe σ2 vs = wipe σ vs ∧ P σ2 H2
theorem wipe_set {σ : L2.St} {j : Nat} {x : Option V} : ∀ {vs : List Nat}, j ∈ vs → wipe (σ.set j x) vs = wipe σ vs
  | v :: vs, h => by
    unfold wipe
    by_cases hj : j ∈ vs
    · rw [wipe_set hj]
    · have e : j = v := by
        obtain z | z := List.mem_cons.mp h
        · exact z
        · exact absurd z hj
      subst e
      exact aux hj
where
  aux {σ : L2.St} {j : Nat} {x : Option V} : ∀ {vs : List Nat}, j ∉ vs → (wipe (σ.set j x) vs).set j none = (wipe σ vs).set j none
    | [], _ => by unfold wipe; rw [List.set_set]
    | v :: vs, h => by
      unfold wipe
      have hne : v ≠ j := fun e => h (by rw [e]; exact List.mem_cons_self)
      rw [List.set_comm _ _ hne, aux fun z => h (List.mem_cons_of_mem _ z), List.set_comm _ _ hne.symm]
theorem wipe_wipe {σ : L2.St} : ∀ {vs : List Nat}, wipe (wipe σ vs) vs = wipe σ vs := by
  have key : ∀ (ws vs : List Nat), (∀ w ∈ ws, w ∈ vs) → wipe (wipe σ ws) vs = wipe σ vs := by
    intro ws
    induction ws with
    | nil => intro vs _; rfl
    | cons w ws ih =>
      intro vs h
      show wipe ((wipe σ ws).set w none) vs = _
      rw [wipe_set (h w List.mem_cons_self), ih vs fun z hz => h z (List.mem_cons_of_mem _ hz)]
  intro vs
  exact key vs vs fun _ h => h
theorem lgc_name {j : Nat} {vs : List Nat} (h : j ∈ vs) : LGc (gName j) vs := fun v σ H P q => ⟨by rw [wipe_set h, wipe_wipe], q⟩
/-- .. several names -/
def Wip (g : TGs) (vs : List Nat) : Prop := ∀ us σ σ0 H (P : L2.St → Hp → Prop), wipe σ vs = wipe σ0 vs → g us σ H P → g us σ H fun σ2 H2 => wipe σ2 vs = wipe σ0 vs ∧ P σ2 H2
theorem wip_nil {vs : List Nat} : Wip gNil vs := fun us σ σ0 H P e ⟨h1, h2⟩ => ⟨h1, e, h2⟩
theorem wip_cons {j : Nat} {vs : List Nat} {u : TGs} (h : j ∈ vs) (hu : Wip u vs) : Wip (gCons (gName j) u) vs := fun us σ σ0 H P e ⟨v, r, eu, q⟩ => ⟨v, r, eu, hu r _ σ0 H P (by rw [wipe_set h, e]) q⟩
structure AGc (X : Cx) (scope : Scope) (tg : Expr) (vs : List Nat) (ag : ATG) : Prop where
  ex : ∃ g, (∀ (s : Shared) (H : Hp) (C : Addr) (cl : List (Str × Addr)) (fp : List Addr), PG (X.blk s H scope (compEnvC scope cl C X.env) fp) tg g) ∧ LG X.K g ag ∧ LGc g vs
theorem agc_name {scope : Scope} {i : Nat} {x : Str} {vs : List Nat} (hv : i ∈ vs) (hN : X.N.Nodup) (hi : X.N[i]? = some x := by rfl) (hx : ∀ cl C, (compEnvC scope cl C X.env).scope.names.lookup x = some .local := by intro _ _; rfl) : AGc X scope (.Name x pos) vs (agName i) :=
  ⟨_, fun s H C cl fp => pg_name (X := X.blk s H scope (compEnvC scope cl C X.env) fp) hN hi (.inl (hx cl C)) (.inr (hx cl C)), lg_name, lgc_name hv⟩
structure AGcs (X : Cx) (scope : Scope) (tgs : List Expr) (vs : List Nat) (ag : ATGs) : Prop where
  ex : ∃ g, (∀ (s : Shared) (H : Hp) (C : Addr) (cl : List (Str × Addr)) (fp : List Addr), PGs (X.blk s H scope (compEnvC scope cl C X.env) fp) tgs g) ∧ LGs X.K g ag ∧ Wip g vs
theorem agcs_nil {scope : Scope} {vs : List Nat} : AGcs X scope [] vs agNil := by
  refine ⟨_, fun s H C cl fp => pgs_nil, fun σ H A ρ S ds vs P Q m mt r q k => ?_, wip_nil⟩
  cases r with
  | nil => exact ⟨rfl, k σ H ρ A S Up.refl m mt q⟩
  | cons _ _ => exact q.elim
theorem agcs_cons {scope : Scope} {i : Nat} {x : Str} {vs : List Nat} {tgs : List Expr} {g2 : ATGs} (hv : i ∈ vs) (hN : X.N.Nodup) (h2 : AGcs X scope tgs vs g2) (hi : X.N[i]? = some x := by rfl) (hx : ∀ cl C, (compEnvC scope cl C X.env).scope.names.lookup x = some .local := by intro _ _; rfl)
    (hs : ∀ cl C, (assignEach (.Name x pos :: tgs) (compEnvC scope cl C X.env)).map (·.2) = assign (.Name x pos) (compEnvC scope cl C X.env) :: (assignEach tgs (compEnvC scope cl C X.env)).map (·.2) := by intro _ _; rfl) : AGcs X scope (.Name x pos :: tgs) vs (agCons (agName i) g2) := by
  obtain ⟨t2, p2, l2, w2⟩ := h2.ex
  refine ⟨gCons (gName i) t2, fun s H C cl fp => pgs_cons (pg_name (X := X.blk s H scope (compEnvC scope cl C X.env) fp) hN hi (.inl (hx cl C)) (.inr (hx cl C))) (p2 s H C cl fp) (hs cl C), fun σ H A ρ S ds vs P Q m mt r q k => ?_, wip_cons hv w2⟩
  cases r with
  | nil => exact q.elim
  | cons r1 r2 => exact ⟨_, _, rfl, lg_name σ H A ρ S _ _ _ (fun ρ1 S1 => g2 _ ρ1 S1 Q) m mt r1 q fun σ' H' ρ' A' S' u m' mt' q' => l2 σ' H' A' ρ' S' _ _ P Q m' mt' (r2.mono u) q' (k.mono u)⟩
theorem agc_tup {scope : Scope} {tgs : List Expr} {vs : List Nat} {k : Nat} {n : Nat} {g2 : ATGs} (hc : X.calm = true) (h : AGcs X scope tgs vs g2) (hn : ∀ cl C, (assignEach tgs (compEnvC scope cl C X.env)).length = n := by intro _ _; rfl)
    (hst : ∀ cl C, (assignEach tgs (compEnvC scope cl C X.env)).findIdx? (·.1) = none := by intro _ _; rfl) : AGc X scope (.Tuple tgs k pos) vs (agTup n g2) := by
  obtain ⟨t2, p2, l2, w2⟩ := h.ex
  refine ⟨fun v σ H Q => gTup X.K n t2 v σ H Q ∨ gUnl X.K n t2 v σ H Q, fun s H C cl fp => ⟨fun pins s1 σ H v u Q I r q => q.elim ((pg_tup (X := X.blk s _ scope (compEnvC scope cl C X.env) fp) hc (p2 s _ C cl fp) (hn cl C) (hst cl C)).run pins s1 σ H v u Q I r) ((pg_unl (X := X.blk s _ scope (compEnvC scope cl C X.env) fp) hc (p2 s _ C cl fp) (hn cl C) (hst cl C)).run pins s1 σ H v u Q I r)⟩, fun σ H A ρ S d v P Q m mt r q k => ?_, ?_⟩
  · obtain ⟨l, h, hl, q2⟩ := of_must q
    cases r <;> simp [seqOf] at h
    · rename_i i ad e'
      obtain ⟨ws, hs, rl⟩ := lst_at m e' h
      exact .inr ⟨ad, ws, rfl, hs, by rw [← rl.length]; exact hl, l2 σ H A ρ S l ws P Q m mt rl q2 k⟩
    · rename_i ad ws l' hs rl
      subst h
      exact .inl ⟨ad, ws, rfl, hs, by rw [← rl.length]; exact hl, l2 σ H A ρ S _ ws P Q m mt rl q2 k⟩
    · rename_i ad ws l' hs rl
      subst h
      exact .inr ⟨ad, ws, rfl, .inr hs, by rw [← rl.length]; exact hl, l2 σ H A ρ S _ ws P Q m mt rl q2 k⟩
  · rintro v σ H P (⟨a1, xs, e1, e2, e3, q⟩ | ⟨a1, xs, e1, e2, e3, q⟩)
    · exact .inl ⟨a1, xs, e1, e2, e3, w2 xs _ σ H P wipe_wipe q⟩
    · exact .inr ⟨a1, xs, e1, e2, e3, w2 xs _ σ H P wipe_wipe q⟩
def wipeA (ρ : Rho) : List Nat → Rho
  | [] => ρ
  | v :: vs => (wipeA ρ vs).set v none
theorem Mt.wipe {K : PySem.W.Frag} {A : List Addr} {H : Hp} {ρ : Rho} {σ : L2.St} (h : Mt K A H ρ σ) : ∀ vs : List Nat, Mt K A H (wipeA ρ vs) (L2.wipe σ vs)
  | [] => h
  | v :: vs => (Mt.wipe h vs).unset
/-- [elt for target in iter if test]: Wv says what is made so far (places, the items made, the store) -/
def aLc (ai : ATI) (ag : ATG) (t : ATT) (elt : ATE) (vs : List Nat) : ATE := fun ρ S E Q => ai ρ S E fun src S1 => ∃ Wv : Nat → List D → Sto → Prop, Wv 0 [] S1 ∧ (∀ k acc S, k ≤ src.items.length → Wv k acc S → src.ok S ∧ acc.length ≤ k) ∧ src.items.length < sizeLine ∧
  (∀ k d acc S, src.items[k]? = some d → Wv k acc S → ag d (wipeA ρ vs) S fun ρ2 S2 => t ρ2 S2 (fun _ _ => False) fun b S3 => match b with
    | true => elt ρ2 S3 (fun _ _ => False) fun y S4 => Wv (k + 1) (acc ++ [y]) S4
    | false => Wv (k + 1) acc S3) ∧ ∀ acc S, Wv src.items.length acc S → Q (.ref S.length) (S ++ [.lst acc])
theorem kx0 {K : PySem.W.Frag} {A : List Addr} {H : Hp} {σ : L2.St} : KX K A H (WE' W0 σ) (fun _ _ => False) := fun _ _ _ _ _ _ _ _ _ q => q.elim
theorem le_lc {K : PySem.W.Frag} {wi : TI} {g : TG} {vs : List Nat} (li : LI K W wi ai) (lg : LG K g ag) (lw : LGc g vs) : LE K W (tLc wi g (cT K W0 at1) (cE K W0 aa) vs) (aLc ai ag at1 aa vs) := fun σ H A ρ S P Q E m mt h kq kx => by
  refine li σ H A ρ S _ _ E m mt h (fun J H1 src A1 S1 u1 m1 jok ok1 q1 => ?_) kx
  obtain ⟨Wv, w0, stays, hlen, turn, done⟩ := q1
  intro Dl hD
  have uD : Up K A1 H1 A1 (upd H1 Dl (.lst [])) := Up.lay hD
  have nDA : Dl ∉ A1 := m1.notin hD
  -- the list that is made stands at Dl, unknown to the store
  refine ⟨fun i n H' => i ≤ src.items.length ∧ n = src.items.length - i ∧ ∃ A' S' acc ws, Up K A1 H1 A' H' ∧ MtS K A' H' S' ∧ Dl ∉ A' ∧ H' Dl = some (.lst ws) ∧ RpL K A' H' acc ws ∧ Wv i acc S', ⟨_, Nat.zero_le _, rfl, A1, S1, [], [], uD, m1.lay hD, nDA, upd_same, .nil, w0⟩, ?_⟩
  rintro i n H2 ⟨hi, hn, A2, S2, acc, ws, uu, m2, nD2, e2, r2, w2⟩
  obtain ⟨ok2, hacc⟩ := stays i acc S2 hi w2
  by_cases hlt : i < src.items.length
  · refine .inr ⟨jok.go i A2 H2 S2 uu m2 ok2 hlt, fun H' => i + 1 ≤ src.items.length ∧ ∃ A' S' acc ws, Up K A1 H1 A' H' ∧ MtS K A' H' S' ∧ Dl ∉ A' ∧ H' Dl = some (.lst ws) ∧ RpL K A' H' acc ws ∧ Wv (i + 1) acc S', ?_, ?_⟩
    · rintro H' ⟨h1, h2⟩
      exact ⟨src.items.length - (i + 1), by omega, h1, rfl, h2⟩
    · intro x H3 y
      obtain ⟨rfl, d, ed, rx⟩ := jok.yld i A2 H2 S2 x H3 uu m2 ok2 hlt y
      have mt2 : Mt K A2 H3 (wipeA ρ vs) (wipe σ vs) := ((mt.mono u1).mono uu).wipe vs
      refine lw x σ H3 _ (lg (wipe σ vs) H3 A2 (wipeA ρ vs) S2 d x _ _ m2 mt2 rx (turn i d acc S2 ed w2) fun σ4 H4 ρ4 A4 S4 u4 m4 mt4 q4 => ?_)
      refine ⟨A4, ρ4, S4, _, _, m4, mt4, q4, fun b H5 A5 S5 u5 m5 q5 => ?_, kx0⟩
      have keepD : ∀ {A' : List Addr} {H' : Hp}, Up K A2 H3 A' H' → Dl ∉ A' ∧ H' Dl = some (.lst ws) := fun {A' H'} u => by
        refine ⟨fun z => ?_, u.fr Dl _ e2 nD2⟩
        have := u.new Dl z nD2
        rw [e2] at this; cases this
      have u25 := u4.trans u5
      cases b with
      | true =>
        refine ⟨A5, ρ4, S5, _, _, m5, mt4.mono u5, q5, fun y H6 dy A6 S6 u6 m6 ry q6 => ?_, kx0⟩
        have u26 := u25.trans u6
        obtain ⟨nD6, e6⟩ := keepD u26
        have hz : ws.length < sizeLine := by rw [← r2.length]; omega
        have uw : Uw K A6 H6 A6 (upd H6 Dl (.lst (ws ++ [y]))) := Uw.hid e6
        have u16 := uu.trans u26
        refine ⟨ws, e6, hz, hlt, A6, S6, acc ++ [dy], ws ++ [y], ⟨⟨u16.pre, fun a us hh => uw.tup a us (u16.tup a us hh)⟩, fun b o hb nb => ?_, u16.new⟩, m6.hid e6 nD6, nD6, upd_same, ((r2.mono u26).append (RpL.one ry)).monow uw, q6⟩
        rw [upd_ne (ne_of_none hb hD)]
        exact u16.fr b o hb nb
      | false =>
        obtain ⟨nD5, e5⟩ := keepD u25
        exact ⟨hlt, A5, S5, acc, ws, uu.trans u25, m5, nD5, e5, r2.mono u25, q5⟩
  · have hi' : i = src.items.length := by omega
    refine .inl ⟨jok.stop i A2 H2 S2 uu m2 ok2 (by omega), ?_⟩
    have u3 : Up K A1 H1 (A2 ++ [Dl]) H2 := ⟨⟨uu.pre.trans (List.prefix_append _ _), uu.tup⟩, uu.fr, fun b hb nb => by
      obtain hb | hb := List.mem_append.mp hb
      · exact uu.new b hb nb
      · rw [List.mem_singleton.mp hb]; exact hD⟩
    exact kq _ _ (.ref S2.length) (A2 ++ [Dl]) (S2 ++ [.lst acc]) (u1.trans u3) (m2.show e2 nD2 r2) (.ref (by rw [m2.len]; exact alloc_at)) (done acc S2 (hi' ▸ w2))
variable {elt : Expr} {ifs : List Expr} {scope : Scope} {own : List (Str × Nat)} {k : Nat}
theorem ae_lc (hc : X.calm = true) (hN : X.N.Nodup) (own : List (Str × Nat)) (hi : AI X W tg iter ai) (hg : AGc X scope tg (own.map (·.2)) ag)
    (ht : ∀ (s : Shared) (H : Hp) (C : Addr) (cl : List (Str × Addr)) (fp : List Addr), AIfs (X.blk s H scope (compEnvC scope cl C X.env) fp) ifs at1)
    (he : ∀ (s : Shared) (H : Hp) (C : Addr) (cl : List (Str × Addr)) (fp : List Addr), AE (X.blk s H scope (compEnvC scope cl C X.env) fp) W0 elt aa) (ok : BlkOk X.N X.env.scope scope own := by exact blkOk_by (by first | (with_unfolding_all exact Eq.refl true) | decide +kernel)) (hs : ∀ x, foldedSetIterable iter X.env x = pure x := by intro _; rfl) :
    AE X W (.ListComp elt [⟨tg, iter, ifs, 0⟩] scope pos) (aLc ai ag at1 aa (own.map (·.2))) := by
  obtain ⟨wi, pi', li⟩ := hi
  obtain ⟨g, pg, lg, lw⟩ := hg.ex
  exact ⟨_, pe_lc (tt := cT X.K W0 at1) (te := cE X.K W0 aa) hc hN pi' ok pg (fun s H C cl fp => ht s H C cl fp) (fun s H C cl fp => (he s H C cl fp).can) hs, le_lc li lg lw⟩
theorem as_setLc {i : Nat} {y : Str} {py spos : Pos} (hc : X.calm = true) (hN : X.N.Nodup) (own : List (Str × Nat)) (hi : AI X W tg iter ai) (hg : AGc X scope tg (own.map (·.2)) ag)
    (ht : ∀ (s : Shared) (H : Hp) (C : Addr) (cl : List (Str × Addr)) (fp : List Addr), AIfs (X.blk s H scope (compEnvC scope cl C X.env) fp) ifs at1)
    (he : ∀ (s : Shared) (H : Hp) (C : Addr) (cl : List (Str × Addr)) (fp : List Addr), AE (X.blk s H scope (compEnvC scope cl C X.env) fp) W0 elt aa) (hy : X.N[i]? = some y := by rfl) (hyl : X.env.scope.names.lookup y = some .local := by rfl)
    (hsw : swapsWith (.ListComp elt [⟨tg, iter, ifs, 0⟩] scope pos) (some (.Name y py)) spos.line X.env = pure true := by exact sw_true rfl rfl rfl (by decide +kernel))
    (ok : BlkOk X.N X.env.scope scope own := by exact blkOk_by (by first | (with_unfolding_all exact Eq.refl true) | decide +kernel)) (hs : ∀ x, foldedSetIterable iter X.env x = pure x := by intro _; rfl) :
    AS X W (.Assign [.Name y py] (.ListComp elt [⟨tg, iter, ifs, 0⟩] scope pos) spos) (aAsg (aLc ai ag at1 aa (own.map (·.2))) (agName i)) := by
  obtain ⟨wi, pi', li⟩ := hi
  obtain ⟨g, pg, lg, lw⟩ := hg.ex
  exact ⟨_, ps_setLc (tt := cT X.K W0 at1) (te := cE X.K W0 aa) hc hN hy hyl hsw pi' ok pg (fun s H C cl fp => ht s H C cl fp) (fun s H C cl fp => (he s H C cl fp).can) hs, ls_asg (le_lc li lg lw) lg_name⟩
theorem takesB {s : Shared} {H : Hp} {scope : Scope} {cenv : Env} {fp : List Addr} : Takes (X.blk s H scope cenv fp) W0 := takes0
end
end AL
/-! AL7: defs by their bodies; the law's end. -/
namespace AL
open PySem PySem.Spec
open PyProof.Rows L2
def startA (n : Nat) (ds : List D) : Rho := ds.map some ++ List.replicate (n - ds.length) none
theorem mt_start {K : PySem.W.Frag} {A : List Addr} {H : Hp} {N : List Str} {ds : List D} {vs : List V} (r : RpL K A H ds vs) : Mt K A H (startA N.length ds) (L2.start N vs) := by
  have hl := r.length
  refine ⟨by unfold startA L2.start; simp [hl], fun i d e => ?_⟩
  unfold startA at e
  have hi : i < ds.length := by
    by_cases hi : i < ds.length
    · exact hi
    · rw [List.getElem?_append_right (by simpa using hi), List.getElem?_replicate] at e
      split at e <;> cases e
  rw [List.getElem?_append_left (by simpa using hi), List.getElem?_map, List.getElem?_eq_getElem hi] at e
  cases e
  obtain ⟨v, e2, rv⟩ := r.get (List.getElem?_eq_getElem hi)
  refine ⟨v, ?_, rv⟩
  unfold L2.start
  rw [List.getElem?_append_left (by simpa using (List.getElem?_eq_some_iff.mp e2).1), List.getElem?_map, e2]; rfl
/-- what a body must do -/
def bodyEnds (Qa : VA) (Ea : XA) : AEnds := { nx := fun _ S => Qa .non S, rt := Qa, ex := fun x _ S => Ea x S }
section
variable {P : Program} {w : World} {K : PySem.W.Frag} {mg : Str → Option Value} {base : Heap} {x qual : Str} {params : Arguments} {body : List Stmt} {scope : Scope} {f : Addr} {fd : FuncData}
theorem run_body {N : List Str} {t : TS} {a : ATS} {W : WX} {E : XK} (l : LS K W t a) (hW : ∀ c d σ H, E c d H → W c d σ H) {A : List Addr} {H : Hp} {S : Sto} {ds : List D} {vs : List V} {Q : VK} {Qa : VA} {Ea : XA}
    (m : MtS K A H S) (r : RpL K A H ds vs) (q : a (bodyEnds Qa Ea) (startA N.length ds) S) (kq : KQ K A H Q Qa) (kx : KX K A H E Ea) : t { nx := fun _ H' => Q .non H', rt := Q } (L2.start N vs) H :=
  l _ H A _ S _ _ m (mt_start r) q ⟨fun σ' H' ρ' A' S' u m' mt' q' => kq _ H' .non A' S' u m' .non q', kq, fun _ _ _ _ _ _ _ _ z => z.elim, fun _ _ _ _ _ _ _ _ z => z.elim, fun x c d σ' H' ρ' A' S' u m' mt' e q' => hW _ _ _ _ (kx x c d H' A' S' u m' e q')⟩
/-- THE RULE: a def of the module or a method, by its body -/
theorem fn_ok {N ps : List Str} {k : Nat} {Fs : AFn} (F : FunD K x qual params body scope [] [] f fd) (Sc : FnScope N ps scope) (len : ∀ ds S E Q, Fs ds S E Q → ds.length = ps.length)
    (hb : ∀ (cdv : Value) (A : Around) (outer : List Env) (s : Shared) (H : Hp) (E : XK), RG k (A.deeper (envOfC qual scope s.heap.objs.size f cdv)) →
      ∃ a, ASs (cxOf (L2.CX P w) P w K mg base N qual scope f cdv A outer s H E) (fun c d _ H => E c d H) body a ∧ ∀ ds S Ea Qa, Fs ds S Ea Qa → a (bodyEnds Qa Ea) (startA N.length ds) S) :
    FnG P w K mg base (L2.CX P w) (k + 1) f fd ps (spOf K Fs) := by
  obtain ⟨oc, od, dV, kV, doc, pm, an, cdv, ct, osl, efd, found, isCode, _, _⟩ := F.ex
  subst efd
  refine ⟨fun vs H Q E ⟨A, S, ds, Qa, Ea, m, r, h, _⟩ => by rw [← r.length]; exact len _ _ _ _ h, fun A outer s H args us vs Q E room e0 bnd rv want => ?_⟩
  have want' := want
  obtain ⟨A0, S0, ds, Qa, Ea, m0, r0, h0, kq, kx⟩ := want'
  have many : vs.length = ps.length := by rw [← r0.length]; exact len _ _ _ _ h0
  have inH : K.In s.heap := e0.mod.kin.keeps fun b o e => (e0.bs b o e).1
  have noLim : s.heap.NoLimit := e0.mod.nolimit.keeps fun b o e => (e0.bs b o e).1
  have kinds : ∀ y ∈ ps.zip us, scope.names.lookup y.1 = some .local ∨ (scope.names.lookup y.1 = some .cell ∧ ((cellsFrom (s.heap.objs.size + 1) scope.names []).lookup y.1).isSome = true) := by
    intro y hy
    obtain ⟨n, v⟩ := y
    cases Sc.par n (List.of_mem_zip hy).1 with
    | inl q => exact .inl q
    | inr q => exact .inr ⟨q, PySem.W.cellsFrom_some _ _ _ (.inl q)⟩
  refine codeAny_call_function room.rm.depth (inH _ _ found) rfl Sc.co Sc.gen rfl (PySem.W.codeRec_of inH isCode) (bnd _ _ _ _ ?_)
  refine wpAny_newFunctionEnv_cells Sc.kind kinds fun env he s1 inCall => ?_
  subst he
  refine ⟨noLim.keeps inCall.toInCall.keep, codeAny_func ?_⟩
  obtain ⟨a, ⟨t, walk, lift⟩, body⟩ := hb cdv A outer s H E (room.deeper _)
  have inv0 : Inv (cxOf (L2.CX P w) P w K mg base N qual scope f cdv A outer s H E) [] (L2.start N vs) H s1 := inv_start Sc room.rm.hd e0 many rv inCall
  refine wpAny_mono (walk.run [] s1 (L2.start N vs) H _ inv0 (run_body lift (fun _ _ _ _ z => z) m0 r0 (body ds S0 Ea Qa h0) kq kx)) (fun fl s2 got => ?_) fun _ _ got => got
  cases fl with
  | ret u =>
    obtain ⟨v, σ', H2, J, ru, q⟩ := got
    exact ⟨v, H2, J.os, J.bare, J.base, J.hok, ru, q⟩
  | next =>
    obtain ⟨σ', H2, J, q⟩ := got
    exact ⟨V.non, H2, J.os, J.bare, J.base, J.hok, rfl, q⟩
  | brk => exact let ⟨_, _, _, z⟩ := got; (z : False).elim
  | cont => exact let ⟨_, _, _, z⟩ := got; (z : False).elim
theorem fb_of {kws : List (Str × V)} {ps : List Str} (F : FunD K x qual params body scope [] kws f fd) (hb : Binds K fd ps []) (hp : params.args.map (fun a => a.arg) = ps) : FB K f fd ps := by
  obtain ⟨oc, od, dV, kV, doc, pm, an, cdv, ct, osl, efd, lk, _⟩ := F.ex
  exact ⟨hb, ⟨oc, od, osl, lk⟩, by rw [efd]; exact hp⟩
theorem never_ok {CX : CXT} {k : Nat} {ps : List Str} : FnG P w K mg base CX k f fd ps (spOf K fun _ _ _ _ => False) :=
  ⟨fun vs H Q E ⟨_, _, _, _, _, _, _, z, _⟩ => z.elim, fun A outer s H args us vs Q E _ _ _ _ ⟨_, _, _, _, _, _, _, z, _⟩ => z.elim⟩
theorem takesE {N : List Str} {cdv : Value} {A : Around} {outer : List Env} {s : Shared} {H : Hp} {E : XK} : Takes (cxOf (L2.CX P w) P w K mg base N qual scope f cdv A outer s H E) (fun c d _ H => E c d H) := takes_of rfl rfl rfl rfl
theorem passesE {N : List Str} {cdv : Value} {A : Around} {outer : List Env} {s : Shared} {H : Hp} {E : XK} :
    PassesOwn (model P w) (A.deeper (envOfC qual scope s.heap.objs.size f cdv)) (envOfC qual scope s.heap.objs.size f cdv) (cxOf (L2.CX P w) P w K mg base N qual scope f cdv A outer s H E).xe := passes_of (X := cxOf (L2.CX P w) P w K mg base N qual scope f cdv A outer s H E) rfl
end
theorem ru1 {k : Nat} {A : Around} (hr : RG k A) : A.units + 1 < cLine := by have := hr.rm.un; omega
theorem ru64 {k : Nat} {A : Around} (hr : RG k A) : A.units + 64 < cLine := by have := hr.rm.un; omega
theorem ru65 {k : Nat} {A : Around} (hr : RG k A) : A.units + 65 < cLine := by have := hr.rm.un; omega
theorem ru66 {k : Nat} {A : Around} (hr : RG k A) : A.units + 66 < cLine := by have := hr.rm.un; omega
/-- the script: a read-only list of the store, or a list of the written part -/
def IsScript (d : D) (S : Sto) (ns : List Int) : Prop := (d = .ref 0 ∧ S = [.rol (ns.map .int)]) ∨ (d = .kl (ns.map .int) ∧ S = [])
/-- the law's spec: a list of ints is handed in, True comes out -/
def lawF : AFn := fun ds S E Q => ∃ (d : D) (ns : List Int), ns.length ≤ 63 ∧ ds = [d] ∧ IsScript d S ns ∧ ∀ S', Q (.bl true) S'
theorem rp_ints {K : PySem.W.Frag} {H : Hp} (A : List Addr) : ∀ ns : List Int, RpL K A H (ns.map D.int) (ns.map V.int)
    | [] => .nil
    | n :: ns => .cons (.int n) (rp_ints A ns)
theorem law_sp {K : PySem.W.Frag} {H : Hp} {a : Addr} {ns : List Int} (hl : ns.length ≤ 63) (hS : SqL K H a (ns.map V.int)) : spOf K lawF [.ref a] H (fun v _ => v = .bl true) fun _ _ _ => False := by
  rcases hS with hS | hS
  · refine ⟨[a], [.rol (ns.map .int)], [.ref 0], fun d _ => d = .bl true, fun _ _ => False, ⟨rfl, by simp, fun i o b e1 e2 => ?_⟩, .cons (.ref rfl) .nil, ⟨_, ns, hl, rfl, .inl ⟨rfl, rfl⟩, fun _ => rfl⟩, fun v H' d A' S' _ _ rp q => ?_, fun _ _ _ _ _ _ _ _ _ q => q⟩
    · match i, e1, e2 with
      | 0, e1, e2 =>
        cases e1; cases e2
        exact ⟨_, hS, rp_ints _ ns⟩
    · subst q; cases rp; rfl
  · refine ⟨[], [], [.kl (ns.map .int)], fun d _ => d = .bl true, fun _ _ => False, ⟨rfl, by simp, fun i o b e1 e2 => ?_⟩, .cons (.kl hS (rp_ints _ ns)) .nil, ⟨_, ns, hl, rfl, .inr ⟨rfl, rfl⟩, fun _ => rfl⟩, fun v H' d A' S' _ _ rp q => ?_, fun _ _ _ _ _ _ _ _ _ q => q⟩
    · simp at e1
    · subst q; cases rp; rfl
/-! ### the law's end -/
/-- the law's def is called at the top; nothing but the script may be tracked there -/
theorem law_top {P : Program} {w : World} {K : PySem.W.Frag} {mg mb : Str → Option Value} {k : Nat} {fa a : Addr} {x : Str} {s₁ : Shared} {ns : List Int} {H : Hp}
    (kin : K.In s₁.heap) (hns : s₁.heap.Ns mainGlobals mg) (hb : s₁.heap.Ns builtinsNs mb) (hbb : ∀ x : Str, x ≠ "__name__" → mb x = bootBuiltins x) (lim : s₁.heap.NoLimit) (nogen : s₁.gens = #[]) (room : RG k callerA)
    (F : ∀ base : Heap, FD P w K mg base x k lawF) (hmg : mg x = some (.ref fa)) (few : ns.length ≤ 63)
    (script : SqL K H a (ns.map V.int)) (hok : HOk P w H s₁.heap) (only : Only H) (hK : ∀ b o, K.lookup b = some o → H b = none) (hD : ∀ b o es ep, s₁.heap.get? b = some o → o.data = .dict es ep → H b = none) : codeAny (model P w) callerA (.call (.ref fa) ⟨[.ref a], []⟩) (fun r s' => r = .ok (.ret (.bool true)) ∧ OldK s₁.heap s'.heap ∧ s'.os = s₁.os ∧ AllBare s'.gens) s₁ := by
  have ns' : ∀ {b : Addr} {m : Str → Option Value}, s₁.heap.Ns b m → (hidT s₁.heap H).Ns b m := by
    intro b m ⟨o, es, ep, e, d, r⟩
    exact ⟨o, es, ep, hidT_get e (hD b o es ep e d), d, r⟩
  have kin' : K.In (hidT s₁.heap H) := fun b o e => hidT_get (kin b o e) (hK b o e)
  have env : Env0 P w K mg (hidT s₁.heap H) callerA [] s₁ H := by
    obtain ⟨ml, l1, l2⟩ := lim
    exact ⟨rfl, ⟨kin', ns' hns, ⟨mb, ns' hb, hbb⟩, ⟨ml, ns' l1, l2⟩⟩, fun b o e => of_hidT e, Nat.le_of_eq (hidT_size _ _), trivial, fun b z => absurd (show b ∈ ([] : List Addr) from z) List.not_mem_nil, hok, .of_eq nogen⟩
  obtain ⟨f, fd, ps, rule, hf, _, bind, _⟩ := F (hidT s₁.heap H)
  rw [hmg] at hf
  cases hf
  have want := law_sp few script
  have many := rule.few _ _ _ _ want
  have bnd := bind s₁ [.ref a] kin (by simpa using many)
  simp only [List.append_nil] at bnd
  refine codeAny_mono (rule.go callerA [] s₁ H ⟨[.ref a], []⟩ [.ref a] [.ref a] _ _ room env bnd (.cons rfl .nil) want) fun r s2 got => ?_
  match r, got with
  | .error e, ⟨_, _, _, _, _, _, _, _, _, _, _, _, z⟩ => exact z.elim
  | .ok (.ret u), ⟨v, H2, sameOs, noGens, un, hok2, rv, ev⟩ =>
    have ev : v = .bl true := ev
    subst ev
    obtain rfl : u = Value.bool true := rv
    refine ⟨rfl, OldK.of_keep fun b o e => ?_, sameOs, noGens⟩
    rcases only b with z | ⟨ob, xs, z⟩
    · exact un.keep b o e z (fun y => absurd (show b ∈ ([] : List Addr) from y) List.not_mem_nil) (by simp)
    · obtain ⟨e1, _⟩ := hok b _ z
      obtain ⟨e2, _⟩ := hok2 b _ (un.frzs b ob _ z)
      rw [e] at e1
      cases e1
      exact e2
theorem law_end {P : Program} {w : World} {K : PySem.W.Frag} {mg mb : Str → Option Value} {k : Nat} {fa a : Addr} {x : Str} {s₁ : Shared} {vs : List Value} {ns : List Int}
    (kin : K.In s₁.heap) (hns : s₁.heap.Ns mainGlobals mg) (hb : s₁.heap.Ns builtinsNs mb) (hbb : ∀ x : Str, x ≠ "__name__" → mb x = bootBuiltins x) (lim : s₁.heap.NoLimit) (nogen : s₁.gens = #[]) (room : RG k callerA)
    (F : ∀ base : Heap, FD P w K mg base x k lawF) (hmg : mg x = some (.ref fa)) (few : ns.length ≤ 63)
    (at_a : s₁.heap.get? a = some { cls := .type "list", data := .seq vs.toArray }) (isInts : IntsAre vs ns) : codeAny (model P w) callerA (.call (.ref fa) ⟨[.ref a], []⟩) (fun r s' => r = .ok (.ret (.bool true)) ∧ OldK s₁.heap s'.heap ∧ s'.os = s₁.os ∧ AllBare s'.gens) s₁ := by
  have small : ns.length ≤ sizeLine := Nat.le_trans few (by decide)
  have rv := vals_ints isInts
  match hk : K.lookup a with
  | some o =>
    have same := (kin a o hk).symm.trans at_a
    cases same
    refine law_top (H := fun _ => none) kin hns hb hbb lim nogen room F hmg few (.inr ⟨_, vs.toArray, _, hk, rfl, rfl, rfl, by rw [List.size_toArray, isInts.length]; exact small, by simpa using rv⟩) (fun _ _ z => by cases z) (fun _ => .inl rfl) (fun _ _ _ => rfl) fun _ _ _ _ _ _ => rfl
  | none =>
    have off : ∀ b, b ≠ a → (fun b => if b = a then some (HO.frz { cls := .type "list", data := .seq vs.toArray } (.lst (ns.map V.int))) else none : Hp) b = none := fun b hb => if_neg hb
    have on : (fun b => if b = a then some (HO.frz { cls := .type "list", data := .seq vs.toArray } (.lst (ns.map V.int))) else none : Hp) a = some _ := if_pos rfl
    refine law_top (H := fun b => if b = a then some (.frz { cls := .type "list", data := .seq vs.toArray } (.lst (ns.map V.int))) else none) kin hns hb hbb lim nogen room F hmg few (.inl (.inr ⟨_, on⟩)) (fun b u z => ?_) (fun b => ?_) (fun b o e => off b fun z => ?_) fun b o es ep e d => off b fun z => ?_
    · by_cases h : b = a
      · subst h
        have z' := on.symm.trans z
        cases z'
        exact ⟨at_a, by rw [List.length_map]; exact small, vs, _, rv, at_a⟩
      · rw [off b h] at z; cases z
    · by_cases h : b = a
      · exact .inr ⟨_, _, by rw [h]; exact on⟩
      · exact .inl (off b h)
    · subst z; rw [hk] at e; cases e
    · subst z
      rw [at_a] at e
      cases e
      cases (d : Data.seq vs.toArray _ = Data.dict es ep)
/-- a law over a head: F gives the written part and the law's def -/
theorem law_walk {l : PySem.W.OpenLaw} {k : Nat} {q : Program} {loose : List Str} {XP : (Str → Option Value) → Heap → Prop} {YP : World → Heap → Prop} {d : DefRec}
    (hn : l.most = some 63) (hdf : d.params.defaults = []) (room : RG k callerA) (F : ∀ (w : World) (mg : Str → Option Value) (fa : Addr) (h : Heap), YP w h → h.Ns mainGlobals mg → mg d.name = some (.ref fa) →
      ∃ (K : PySem.W.Frag), K.In h ∧ ∀ base : Heap, FD l.prog w K mg base d.name k lawF) : PySem.W.WalkO q loose XP YP l.row.toRowW d [] (fun f vs => PySem.call f vs) := by
  refine Att.attach_call hn hdf fun w s₀ s₁ mg mb fa o pm cd doc a vs ns top Y ho hd hcd hmg hobj hints hlen hg => ?_
  obtain ⟨K, kin, rules⟩ := F w mg fa _ Y top.T.g hmg
  exact law_end kin top.T.g top.T.b top.T.builtins top.T.nolimit hg room rules hmg hlen hobj hints
end AL
/-! AL8: dict displays, makers, repr, the law's own end. -/
namespace AL
open PySem PySem.Spec
open PyProof.Rows L2
section
variable {X : Cx} {W : WX} {a b c e : Expr} {aa ab ac : ATE} {pos : Pos} {es : List Expr} {t' : ATA}
/-! ### {k: v, ..} -/
def aPairs : List (ATE × ATE) → Rho → Sto → XA → (List (D × D) → Sto → Prop) → Prop
  | [], _, S, _, Q => Q [] S
  | (k, v) :: r, ρ, S, E, Q => k ρ S E fun x S1 => v ρ S1 E fun y S2 => aPairs r ρ S2 E fun ps S3 => Q ((x, y) :: ps) S3
def keysD : List (D × D) → Option (List (Key × D))
  | [] => some []
  | (k, v) :: r => (keyD k).bind fun q => (keysD r).map fun l => (q, v) :: l
def mergeD (kvs more : List (Key × D)) : List (Key × D) := more.foldl (fun acc kv => setK kv.1 kv.2 acc) kvs
def aDisp (ps : List (ATE × ATE)) : ATE := fun ρ S E Q => aPairs ps ρ S E fun l S1 => must (keysD l) fun kvs => kvs.length ≤ 15 ∧ Q (.ref S1.length) (S1 ++ [.dK (mergeD [] kvs)])
inductive APs (X : Cx) (W : WX) (pos : Pos) : List (Option Expr) → List Expr → List (TE × TE) → List (ATE × ATE) → Prop
  | nil : APs X W pos [] [] [] []
  | cons {k v : Expr} {ks : List (Option Expr)} {vs : List Expr} {tk tv : TE} {trs : List (TE × TE)} {ak av : ATE} {ars : List (ATE × ATE)} : PE X k tk → LE X.K W tk ak → PE X v tv → LE X.K W tv av → APs X W pos ks vs trs ars → APs X W pos (some k :: ks) (v :: vs) ((tk, tv) :: trs) ((ak, av) :: ars)
theorem APs.pps {ks : List (Option Expr)} {vs : List Expr} {trs : List (TE × TE)} {ars : List (ATE × ATE)} (h : APs X W pos ks vs trs ars) : PPs X pos ks vs trs := by
  induction h with
  | nil => exact pps_nil
  | cons p1 _ p2 _ _ ih => exact pps_cons p1 p2 ih
def APx (X : Cx) (W : WX) (pos : Pos) (ks : List (Option Expr)) (vs : List Expr) (ars : List (ATE × ATE)) : Prop := ∃ trs, APs X W pos ks vs trs ars
theorem apx_nil : APx X W pos [] [] [] := ⟨[], .nil⟩
theorem apx_cons {k v : Expr} {ks : List (Option Expr)} {vs : List Expr} {ak av : ATE} {ars : List (ATE × ATE)} (hk : AE X W k ak) (hv : AE X W v av) (hr : APx X W pos ks vs ars) : APx X W pos (some k :: ks) (v :: vs) ((ak, av) :: ars) := by
  obtain ⟨t1, p1, l1⟩ := hk
  obtain ⟨t2, p2, l2⟩ := hv
  obtain ⟨trs, h⟩ := hr
  exact ⟨_, .cons p1 l1 p2 l2 h⟩
def RpP (K : PySem.W.Frag) (A : List Addr) (H : Hp) : List (D × D) → List (V × V) → Prop := Paired fun p q => Rp K A H p.1 q.1 ∧ Rp K A H p.2 q.2
theorem RpP.mono {K : PySem.W.Frag} {A A' : List Addr} {H H' : Hp} {l : List (D × D)} {vs : List (V × V)} (h : RpP K A H l vs) (u : Uw K A H A' H') : RpP K A' H' l vs := Paired.mapP h fun _ _ z => ⟨z.1.monow u, z.2.monow u⟩
theorem APs.lift {ks : List (Option Expr)} {vs : List Expr} {trs : List (TE × TE)} {ars : List (ATE × ATE)} (h : APs X W pos ks vs trs ars) : ∀ (σ : L2.St) (H : Hp) (A : List Addr) (ρ : Rho) (S : Sto) (P : List (V × V) → Hp → Prop) (Q : List (D × D) → Sto → Prop) (E : XA), MtS X.K A H S → Mt X.K A H ρ σ → aPairs ars ρ S E Q →
    (∀ ws H' l A' S', Up X.K A H A' H' → MtS X.K A' H' S' → RpP X.K A' H' l ws → Q l S' → P ws H') → KX X.K A H (WE' W σ) E → tPairs trs σ H P := by
  induction h with
  | nil => exact fun σ H A ρ S P Q E m mt h k _ => k [] H [] A S Up.refl m .nil h
  | cons p1 l1 p2 l2 _ ih =>
    intro σ H A ρ S P Q E m mt h k kx
    refine l1 σ H A ρ S _ _ E m mt h (fun x H1 dx A1 S1 u1 m1 r1 q1 => l2 σ H1 A1 ρ S1 _ _ E m1 (mt.mono u1) q1 (fun y H2 dy A2 S2 u2 m2 r2 q2 => ?_) (kx.mono u1)) kx
    refine ih σ H2 A2 ρ S2 _ _ E m2 (mt.mono (u1.trans u2)) q2 (fun ws H3 l A3 S3 u3 m3 r3 q3 => ?_) (kx.mono (u1.trans u2))
    exact k _ H3 _ A3 S3 ((u1.trans u2).trans u3) m3 (.cons ⟨(r1.mono u2).mono u3, r2.mono u3⟩ r3) q3
theorem keys_ok {K : PySem.W.Frag} {A : List Addr} {H : Hp} {l : List (D × D)} {ws : List (V × V)} (r : RpP K A H l ws) : ∀ {kvs : List (Key × D)}, keysD l = some kvs → ∃ ks : List (Key × V), ws = ks.map (fun kv => (kV kv.1, kv.2)) ∧ RpK K A H Key kvs ks ∧ kvs.length = l.length := by
  induction r with
  | nil => intro kvs h; cases h; exact ⟨[], rfl, .nil, rfl⟩
  | cons h1 h2 ih =>
    rename_i p q l1 l2
    obtain ⟨p1, p2⟩ := p
    obtain ⟨q1, q2⟩ := q
    intro kvs h
    simp only [keysD, Option.bind_eq_some_iff, Option.map_eq_some_iff] at h
    obtain ⟨k, ek, l, el, rfl⟩ := h
    obtain ⟨ks, e1, r2, e3⟩ := ih el
    have ev := key_ok ek h1.1
    dsimp only at ev
    exact ⟨(k, q2) :: ks, by rw [e1, ev]; rfl, .cons ⟨rfl, h1.2⟩ r2, by simp [e3]⟩
theorem merge_ok {K : PySem.W.Frag} {A : List Addr} {H : Hp} {more : List (Key × D)} {ms : List (Key × V)} (r : RpK K A H Key more ms) : ∀ {kvs : List (Key × D)} {ks : List (Key × V)}, RpK K A H Key kvs ks → RpK K A H Key (mergeD kvs more) (mergeK ks ms) := by
  induction r with
  | nil => exact fun h => h
  | cons h1 h2 ih =>
    rename_i p q l1 l2
    obtain ⟨p1, p2⟩ := p
    obtain ⟨q1, q2⟩ := q
    obtain ⟨e, rp⟩ := h1
    dsimp only at e rp
    subst e
    intro kvs ks h
    exact ih (setK_ok rp h)
/-- a hidden object, filled, becomes a number -/
theorem MtS.showW {K : PySem.W.Frag} {A : List Addr} {H : Hp} {S : Sto} (m : MtS K A H S) {p : Addr} {ho : HO} {o : O} (n : p ∉ A) (u : Uw K A H (A ++ [p]) (upd H p ho)) (ok : OR K (A ++ [p]) (upd H p ho) o p) : MtS K (A ++ [p]) (upd H p ho) (S ++ [o]) := by
  refine ⟨by simp [m.len], ?_, fun i ob x e1 e2 => ?_⟩
  · rw [List.nodup_append]
    refine ⟨m.nd, by simp, fun x hx y hy z => ?_⟩
    rw [List.mem_singleton.mp hy] at z
    exact n (z ▸ hx)
  · by_cases hi : i < A.length
    · rw [List.getElem?_append_left hi] at e2
      rw [List.getElem?_append_left (by rw [m.len]; exact hi)] at e1
      exact (m.ok i ob x e1 e2).keep (upd_ne fun z => n (z ▸ List.mem_of_getElem? e2)) u
    · have hi' : i = A.length := by
        have := (List.getElem?_eq_some_iff.mp e2).1
        simp at this; omega
      subst hi'
      rw [List.getElem?_append_right (Nat.le_refl _)] at e2
      rw [List.getElem?_append_right (by rw [m.len]; exact Nat.le_refl _), m.len] at e1
      simp at e1 e2
      subst e1; subst e2
      exact ok
theorem ae_disp {keys : List (Option Expr)} {values : List Expr} {ars : List (ATE × ATE)} (h : APx X W pos keys values ars) (hall : keys.all (·.isSome) = true := by rfl) (hl : keys.length = values.length := by rfl) (h0 : keys ≠ [] := by intro z; cases z) (h15 : keys.length ≤ 15 := by decide) :
    AE X W (.Dict keys values pos) (aDisp ars) := by
  obtain ⟨trs, hp⟩ := h
  refine ⟨_, pe_disp hp.pps hall hl h0 h15, fun σ H A ρ S P Q E m mt h kq kx p0 hp0 => ?_⟩
  have u0 : Up X.K A H A (upd H p0 (.dK [])) := Up.lay hp0
  refine hp.lift σ _ A ρ S _ _ E (m.lay hp0) (mt.mono u0) h (fun ws H2 l A2 S2 u2 m2 r2 q2 => ?_) (kx.mono u0)
  have nA : p0 ∉ A := m.notin hp0
  have e2 : H2 p0 = some (.dK []) := u2.fr p0 _ upd_same nA
  have n2 : p0 ∉ A2 := fun z => by
    have := u2.new p0 z nA
    rw [upd_same] at this; cases this
  obtain ⟨kvs, ek, hz, q⟩ := of_must q2
  obtain ⟨ks, ew, rk, el⟩ := keys_ok r2 ek
  refine ⟨e2, ks, ew, by rw [← RpK.length rk]; exact hz, ?_⟩
  have un : Uw X.K A2 H2 (A2 ++ [p0]) (upd H2 p0 (.dK (mergeK [] ks))) := by
    refine ⟨List.prefix_append _ _, fun x vs hh => ?_⟩
    rcases hh with (hh | ⟨ob, hh⟩) | hh
    · exact .inl (.inl (by rw [upd_ne (fun z => by subst z; rw [e2] at hh; cases hh)]; exact hh))
    · exact .inl (.inr ⟨ob, by rw [upd_ne (fun z => by subst z; rw [e2] at hh; cases hh)]; exact hh⟩)
    · exact .inr hh
  have uu := u0.trans u2
  have u3 : Up X.K A H (A2 ++ [p0]) (upd H2 p0 (.dK (mergeK [] ks))) := by
    refine ⟨⟨uu.pre.trans un.pre, fun x vs hh => un.tup x vs (uu.tup x vs hh)⟩, fun b o hb nb => ?_, fun b hb nb => ?_⟩
    · rw [upd_ne (ne_of_none hb hp0)]; exact uu.fr b o hb nb
    · obtain hb | hb := List.mem_append.mp hb
      · exact uu.new b hb nb
      · rw [List.mem_singleton.mp hb]; exact hp0
  exact kq _ _ (.ref S2.length) (A2 ++ [p0]) (S2 ++ [.dK (mergeD [] kvs)]) u3 (m2.showW (o := .dK (mergeD [] kvs)) n2 un ⟨_, upd_same, (merge_ok rk .nil).monow un⟩) (.ref (by rw [m2.len]; exact alloc_at)) q
/-! ### C(e, ..) -/
variable {x cl : Str} {p : Pos} {k : Nat} {F : AFn}
theorem run_makeS {CX : CXT} {C f : Addr} {fd : FuncData} {ps : List Str} {sp : Sp} {E : XK} {pins : List (Addr × Obj)} {σ : L2.St} {H : Hp} {s : Shared} {Q : VK} {us : List Value} {vs : List V} (M : Mk X.K C f) (Fk : FnG X.prog X.w X.K X.mg X.base CX k f fd ps sp) (hr : RG (k + 1) X.A) (hb : Binds X.K fd ps [])
    (hx : ∀ (pins : List (Addr × Obj)) (H : Hp) (s : Shared) (e : Value) (s' : Shared), Inv X pins σ H s → CX X.stack H s E e s' → X.xe e s') (I : Inv X pins σ H s) (r : Vals vs us)
    (h : ∀ x dx, H x = none → H dx = none → dx ≠ x → sp (.ref x :: vs) (upd (upd H dx (.own x)) x (.ins C dx [])) (fun v H2 => v = .non ∧ Q (.ref x) H2) E) : wpAny (model X.prog X.w) X.A (call (.ref C) us) (EP X pins σ Q) X.xe s := by
  have new1 : H (s.heap.objs.size + 1) = none := I.hok.fresh (Nat.le_succ _)
  have new0 : H s.heap.objs.size = none := I.hok.fresh (Nat.le_refl _)
  have want := h (s.heap.objs.size + 1) s.heap.objs.size new1 new0 (Nat.ne_of_lt (Nat.lt_succ_self _))
  have J := Inv.made (C := C) I
  have rs : Vals (V.ref (s.heap.objs.size + 1) :: vs) (Value.ref (s.heap.objs.size + 1) :: us) := .cons rfl r
  have hl : (Value.ref (s.heap.objs.size + 1) :: us).length = ps.length := rs.length.symm.trans (Fk.few _ _ _ _ want)
  have bnd := hb _ (Value.ref (s.heap.objs.size + 1) :: us) J.kIn (by rw [List.append_nil]; exact hl)
  rw [List.append_nil] at bnd
  refine wpAny_call (make_map (f := f) I.kIn M.makes M.init (beq_iff_eq.mp M.fn) (codeAny_mono (Fk.go _ X.stack _ _ _ _ _ _ E (hr.make C us []) (J.env0.make C us []) bnd rs want) fun res s2 got => ?_))
  cases res with
  | error e => exact hx pins _ _ e s2 J got
  | ok fl =>
    cases fl with
    | ret u =>
      obtain ⟨v, H3, I3, rv, ev, q3⟩ := J.after got
      subst ev
      exact ⟨rv, ⟨V.ref (s.heap.objs.size + 1), H3, I3, rfl, q3⟩⟩
    | next => exact got.elim
    | brk => exact got.elim
    | cont => exact got.elim
def tMakeS (C : Addr) (sp : Sp) (E : L2.St → XK) (t : TA) : TE := fun σ H Q => t σ H fun vs H1 => ∀ x dx, H1 x = none → H1 dx = none → dx ≠ x →
  sp (.ref x :: vs) (upd (upd H1 dx (.own x)) x (.ins C dx [])) (fun v H2 => v = .non ∧ Q (.ref x) H2) (E σ)
/-- a new instance of cl, then its __init__ -/
def aMake (cl : Str) (F : AFn) (t : ATA) : ATE := fun ρ S E Q => t ρ S E fun ds S1 => F (.ref S1.length :: ds) (S1 ++ [.ins cl []]) E fun v S2 => v = .non ∧ Q (.ref S1.length) S2
theorem make_sp {K : PySem.W.Frag} {A : List Addr} {H : Hp} {S : Sto} {ds : List D} {vs : List V} {P : VK} {Q : VA} {E : XA} {W' : XK} (m : MtS K A H S) (r : RpL K A H ds vs) (h : F (.ref S.length :: ds) (S ++ [.ins cl []]) E fun v S2 => v = .non ∧ Q (.ref S.length) S2) (kq : KQ K A H P Q) (kx : KX K A H W' E)
    {x dx : Addr} (hx : H x = none) (hd : H dx = none) (hne : dx ≠ x) : spOf K F (.ref x :: vs) (upd (upd H dx (.own x)) x (.ins (He.ga K cl) dx [])) (fun v H2 => v = .non ∧ P (.ref x) H2) W' := by
  have u1 : Up K A H A (upd H dx (.own x)) := Up.lay hd
  have m1 := m.lay (o := .own x) hd
  have hx1 : upd H dx (.own x) x = none := by rw [upd_ne (Ne.symm hne)]; exact hx
  have u2 := u1.trans (Up.alloc (o := .ins (He.ga K cl) dx []) m1 hx1)
  have m2 : MtS K (A ++ [x]) (upd (upd H dx (.own x)) x (.ins (He.ga K cl) dx [])) (S ++ [.ins cl []]) := m1.alloc hx1 ⟨dx, [], upd_same, .nil⟩
  have rx : A.length = S.length := m.len.symm
  refine ⟨A ++ [x], S ++ [.ins cl []], .ref S.length :: ds, _, E, m2, .cons (.ref (by rw [← rx]; exact alloc_at)) (r.mono u2), h, fun v H' d A' S' u mm rv q => ?_, kx.mono u2⟩
  obtain ⟨rfl, q⟩ := q
  cases rv
  exact ⟨rfl, kq _ _ _ A' S' (u2.trans u) mm (.ref (pre_get u.pre (by rw [← rx]; exact alloc_at))) q⟩
theorem ae_make (h : CD X.prog X.w X.K X.mg X.base cl k F) (hr : RG (k + 1) X.A) (tk : Takes X W) (ha : AA X W (e :: es) t') (hg : Gl X cl := by rfl) (hdb : (cl == ("__debug__" : Str)) = false := by decide)
    (he : starEach (e :: es) X.env = (false, eval e X.env) :: starEach es X.env := by rfl) (hpl : (backTo pos (starEach es X.env)).any (·.1) = false := by rfl) : AE X W (.Call (.Name cl p) (e :: es) [] pos) (aMake cl F t') := by
  obtain ⟨f, fd, ps, ok, hm, M, hb, _⟩ := h
  obtain ⟨t, pa, l⟩ := ha
  refine ⟨tMakeS (He.ga X.K cl) (spOf X.K F) (WE W) t, ⟨fun pins s σ H Q inv h => ?_⟩, fun σ H A ρ S P Q E mm mt h kq kx => l σ H A ρ S _ _ E mm mt h (fun vs H1 ds A1 S1 u1 m1 r1 q1 x dx hx hd hne => make_sp m1 r1 q1 (kq.mono u1) (kx.mono u1) hx hd hne) kx⟩
  refine wpAny_Call_Name_kw (ld_glob inv hg hm ?_ hdb)
  refine PySem.W.callWith_K (h₀ := X.base) inv.ok.mod.kin M.kp (thn (pa.run pos pins s σ H _ inv h) fun us s1 ⟨vs, H1, I1, r, q⟩ => ⟨I1.kIn, ?_⟩) he hpl
  exact run_makeS M ok hr hb (passAt tk σ) I1 r q
/-! ### repr -/
def cRepr : List D → Sto → VA → Prop := fun ds S Q => match ds with
  | [d] => ∃ pd, Py S d pd ∧ pd.showable = true ∧ pd.canLay0 = true ∧ pd.depth ≤ 64 ∧ pd.shown.length ≤ sizeLine ∧ Q (.str pd.shown) S
  | _ => False
theorem ac_repr (hg : X.A.guards = some []) (hu : X.A.units + 66 < cLine) : ACall X (.builtin "repr") cRepr := by
  refine ⟨fun vs H P => ∃ v pd, vs = [v] ∧ Dp X.K H v pd ∧ pd.showable = true ∧ pd.canLay0 = true ∧ pd.depth ≤ 64 ∧ pd.shown.length ≤ sizeLine ∧ P (.str pd.shown) H, fun pins s σ H xs us Q I r h => ?_, fun vs H A ds S P Q m r q k => ?_⟩
  · obtain ⟨v, pd, rfl, hd, h1, h2, h3, h4, q⟩ := h
    obtain ⟨u, eu, ru⟩ := vals1 r
    subst eu
    obtain ⟨as, rd⟩ := Dp.reads I pd v u hd ru
    cases rd with
    | none => exact PySem.P.repr_of_none ⟨.str _, H, I.tok _, ⟨_, rfl⟩, by simpa [PyData.shown] using q⟩
    | bool b => exact PySem.P.repr_of_bool ⟨.str _, H, I.tok _, ⟨_, rfl⟩, by simpa [PyData.shown] using q⟩
    | int i t => exact PySem.P.repr_of_int (by simpa [PyData.showable] using h1) ⟨.str _, H, I.tok _, ⟨_, rfl⟩, by simpa [PyData.shown] using q⟩
    | str z t => exact PySem.P.repr_of_str ⟨.str _, H, I.tok _, ⟨_, rfl⟩, by simpa [PyData.shown] using q⟩ (by simpa [PyData.shown] using h4)
    | list e1 e2 e3 e4 => exact PySem.repr_of_reads' (.list e1 e2 e3 e4) h1 (PyData.noDict_hsm (PyData.hasDict_of_canLay _ h2)) hg (by omega) (fun _ _ z => z) (fun h' t tk hk => ⟨.str _, H, I.kept hk, ⟨_, rfl⟩, q⟩) h4
    | tuple e1 e2 e3 e4 => exact PySem.repr_of_reads' (.tuple e1 e2 e3 e4) h1 (PyData.noDict_hsm (PyData.hasDict_of_canLay _ h2)) hg (by omega) (fun _ _ z => z) (fun h' t tk hk => ⟨.str _, H, I.kept hk, ⟨_, rfl⟩, q⟩) h4
    | dict _ _ _ _ _ => simp [PyData.canLay0] at h2
  · match ds, q with
    | [d], ⟨pd, h0, h1, h2, h3, h4, q⟩ =>
      obtain ⟨v, rfl, rv⟩ := rp1 r
      exact ⟨v, pd, rfl, Py.dp m pd d v h0 rv, h1, h2, h3, h4, k _ H _ A S Up.refl m (.str _) q⟩
end
end AL
/-! AL9: the head: constants by a Bool, a Hook of its own. -/
namespace AL
open PySem PySem.Spec
open PyProof.Rows L2
mutual
/-- the value u is the datum d (constants of the module: no object is changed) -/
def dB (K : PySem.W.Frag) : D → Value → Bool
  | .non, u => (match u with
    | .none => true
    | _ => false)
  | .bl b, u => (match u with
    | .bool c => decide (b = c)
    | _ => false)
  | .int i, u => (match u with
    | .int j _ => decide (i = j)
    | _ => false)
  | .str x, u => (match u with
    | .str y _ => decide (x = y)
    | _ => false)
  | .tup l, u => (match u with
    | .ref p => (match K.lookup p with
      | some ⟨.type c, _, .seq its _, _⟩ => decide (c = "tuple") && (decide (its.size ≤ sizeLine) && dsB K l its.toList)
      | _ => false)
    | _ => false)
  | .kl l, u => (match u with
    | .ref p => (match K.lookup p with
      | some ⟨.type c, none, .seq its _, _⟩ => decide (c = "list") && (decide (its.size ≤ sizeLine) && dsB K l its.toList)
      | _ => false)
    | _ => false)
  | .ref _, _ => false
  | .exn _ _ _, _ => false
def dsB (K : PySem.W.Frag) : List D → List Value → Bool
  | [], us => us.isEmpty
  | d :: l, us => (match us with
    | u :: r => dB K d u && dsB K l r
    | [] => false)
end
mutual
theorem dB_ok {K : PySem.W.Frag} : ∀ (d : D) (u : Value), dB K d u = true → ∃ v, RelV v u ∧ ∀ A H, Rp K A H d v
  | .non, u, h => by
    cases u <;> simp [dB] at h
    exact ⟨.non, rfl, fun _ _ => .non⟩
  | .bl b, u, h => by
    cases u <;> simp [dB] at h
    subst h
    exact ⟨.bl _, rfl, fun _ _ => .bl _⟩
  | .int i, u, h => by
    cases u <;> simp [dB] at h
    subst h
    exact ⟨.int _, ⟨_, rfl⟩, fun _ _ => .int _⟩
  | .str x, u, h => by
    cases u <;> simp [dB] at h
    subst h
    exact ⟨.str _, ⟨_, rfl⟩, fun _ _ => .str _⟩
  | .ref _, u, h => by simp [dB] at h
  | .exn _ _ _, u, h => by simp [dB] at h
  | .tup l, u, h => by
    cases u <;> simp [dB] at h
    rename_i a
    split at h
    · rename_i c od its n osl e
      simp only [decide_eq_true_eq, Bool.and_eq_true] at h
      obtain ⟨h1, h2, h3⟩ := h
      subst h1
      obtain ⟨vs, rv, rp⟩ := dsB_ok l its.toList h3
      exact ⟨.ref a, rfl, fun A H => .tup (.inr ⟨_, its, n, e, rfl, rfl, h2, rv⟩) (rp A H)⟩
    · cases h
  | .kl l, u, h => by
    cases u <;> simp [dB] at h
    rename_i a
    split at h
    · rename_i c its n osl e
      simp only [decide_eq_true_eq, Bool.and_eq_true] at h
      obtain ⟨h1, h2, h3⟩ := h
      subst h1
      obtain ⟨vs, rv, rp⟩ := dsB_ok l its.toList h3
      exact ⟨.ref a, rfl, fun A H => .kl ⟨_, its, n, e, rfl, rfl, rfl, h2, rv⟩ (rp A H)⟩
    · cases h
theorem dsB_ok {K : PySem.W.Frag} : ∀ (l : List D) (us : List Value), dsB K l us = true → ∃ vs, Vals vs us ∧ ∀ A H, RpL K A H l vs
  | [], us, h => by
    cases us <;> simp [dsB] at h
    exact ⟨[], .nil, fun _ _ => .nil⟩
  | d :: l, us, h => by
    cases us <;> simp [dsB] at h
    rename_i u r
    obtain ⟨v, rv, rp⟩ := dB_ok d u h.1
    obtain ⟨vs, rvs, rps⟩ := dsB_ok l r h.2
    exact ⟨v :: vs, .cons rv rvs, fun A H => .cons (rp A H) (rps A H)⟩
end
/-- the module's constants -/
def csB (K : PySem.W.Frag) : List (Str × D) → Bool
  | [] => true
  | (x, d) :: r => (match PySem.W.nsIn K mainGlobals x with
    | some (some u) => dB K d u
    | _ => false) && csB K r
theorem csB_ok {K : PySem.W.Frag} {h : Heap} {mg : Str → Option Value} (X : K.In h) (G : h.Ns mainGlobals mg) : ∀ {l : List (Str × D)} (_ : csB K l = true) (i : Nat) {x : Str} {d : D} (_ : l[i]? = some (x, d)), GlD K mg x d
  | [], _, _, _, _, e => by simp at e
  | (y, c) :: r, hb, i, x, d, e => by
    simp only [csB, Bool.and_eq_true] at hb
    cases i with
    | succ i => exact csB_ok X G hb.2 i (by simpa using e)
    | zero =>
      simp at e
      obtain ⟨rfl, rfl⟩ := e
      have h1 := hb.1
      split at h1
      · rename_i u en
        obtain ⟨v, rv, rp⟩ := dB_ok _ _ h1
        exact ⟨v, u, PySem.W.mg_of X G en, rv, rp⟩
      · cases h1
/-! ### the Hook -/
structure SaysC (fa : List He.Fa) (fn : List He.DefD) (cs : List (Str × D)) (K : PySem.W.Frag) : Prop where
  t : He.SaysD fa fn K
  c : csB K cs = true
def obsC (n : Nat) (fa : List He.Fa) (fn : List He.DefD) (cs : List (Str × D)) (g : Addr → Option Obj) : He.AlD × Bool := (He.obsD fa fn (He.frG g (He.asD g n)), csB (He.frG g (He.asD g n)) cs)
def hookC (n : Nat) (fa : List He.Fa) (fn : List He.DefD) (cs : List (Str × D)) : PySem.W.Hook where
  α := He.AlD × Bool
  obs := fun s => obsC n fa fn cs s.heap.get?
  val := fun _ => (He.valD fn, true)
  says := fun _ h => ∃ K : PySem.W.Frag, K.In h ∧ SaysC fa fn cs K
  of := fun _ _ e => ⟨_, He.frG_in, ⟨congrArg (fun z : He.AlD × Bool => z.1) e, congrArg (fun z : He.AlD × Bool => z.2) e⟩⟩
  keeps := fun _ _ _ ⟨K0, kin, c⟩ k => ⟨K0, PySem.W.Frag.In.keeps kin k, c⟩
theorem obsC_eq {n : Nat} {fa : List He.Fa} {fn : List He.DefD} {cs : List (Str × D)} {g : Addr → Option Obj} {s : Shared} (h : ∀ a, g a = s.heap.get? a) : obsC n fa fn cs g = (hookC n fa fn cs).obs s := by
  have eg : g = s.heap.get? := funext h
  subst eg
  rfl
theorem field_ok {K : PySem.W.Frag} {cl f : Str} (h1 : (He.Fa.cls cl).ok K = true) (h2 : (He.Fa.noat cl f).ok K = true) : FieldOk K cl f := ⟨He.cls_ok h1, He.noat_ok h2⟩
end AL
/-! AL10: reading abstract programs: equations for simp; plain data. -/
namespace AL
open PySem PySem.Spec
open PyProof.Rows L2
theorem ofS_inj {a b : String} : (Str.ofString a = Str.ofString b) ↔ a = b := by
  constructor
  · intro h
    rw [Str.ofString_eq_toList, Str.ofString_eq_toList] at h
    have h1 : (a.toList.map Char.toNat) = b.toList.map Char.toNat := by simpa using h
    have h2 : a.toList = b.toList := by
      have inj : Function.Injective Char.toNat := fun x y e => by
        have := congrArg Char.ofNat e
        simpa [Char.ofNat_toNat] using this
      generalize a.toList = la at h1 ⊢
      generalize b.toList = lb at h1 ⊢
      induction la generalizing lb with
      | nil => cases lb <;> simp_all
      | cons x la ih =>
        cases lb with
        | nil => simp at h1
        | cons y lb =>
          simp only [List.map_cons, List.cons.injEq] at h1
          rw [inj h1.1, ih lb h1.2]
    exact String.toList_inj.mp h2
  · intro h; rw [h]
section
variable {S : Sto} {Q : VA} {E : XA} {ρ : Rho} {D0 : AEnds} {a b : ATE} {t u : ATT} {ta : ATA} {s1 s2 : ATS} {g : ATG} {r : AR2} {F : AFn} {ds : List D} {o : O}
theorem at_end : (S ++ [o])[S.length]? = some o := by simp
/-- reading statements and expressions -/
theorem ev : (∀ D0 ρ S, aNext D0 ρ S = D0.nx ρ S) ∧ (∀ t u D0 ρ S, aSeq t u D0 ρ S = t { D0 with nx := u D0 } ρ S) ∧ (∀ a D0 ρ S, aDrop a D0 ρ S = a ρ S (fun x S1 => D0.ex x ρ S1) fun _ S1 => D0.nx ρ S1) ∧
    (∀ a D0 ρ S, aRet a D0 ρ S = a ρ S (fun x S1 => D0.ex x ρ S1) D0.rt) ∧ (∀ D0 ρ S, aRetN D0 ρ S = D0.rt .non S) ∧
    (∀ t a b D0 ρ S, aIfS t a b D0 ρ S = t ρ S (fun x S1 => D0.ex x ρ S1) fun k S1 => match k with | true => a D0 ρ S1 | false => b D0 ρ S1) ∧
    (∀ a g D0 ρ S, aAsg a g D0 ρ S = a ρ S (fun x S1 => D0.ex x ρ S1) fun d S1 => g d ρ S1 D0.nx) ∧ (∀ i d ρ S Q, agName i d ρ S Q = Q (sset ρ i d) S) ∧
    (∀ i ρ S E Q, aVar i ρ S E Q = must (gt ρ i) fun d => Q d S) ∧ (∀ d ρ S E Q, aC d ρ S E Q = Q d S) ∧ (∀ r a b ρ S E Q, aOp r a b ρ S E Q = a ρ S E fun x S1 => b ρ S1 E fun y S2 => r x y S2 Q) ∧
    (∀ a ρ S E Q, aB a ρ S E Q = a ρ S E fun d S1 => match d with | .bl k => Q k S1 | _ => False) ∧
    (∀ t u ρ S E Q, aAnd t u ρ S E Q = t ρ S E fun k S1 => match k with | true => u ρ S1 E Q | false => Q false S1) ∧
    (∀ t u ρ S E Q, aOr t u ρ S E Q = t ρ S E fun k S1 => match k with | true => Q true S1 | false => u ρ S1 E Q) ∧ (∀ t ρ S E Q, aNot t ρ S E Q = t ρ S E fun k S1 => Q (!k) S1) ∧
    (∀ a b ρ S E Q, aAndV a b ρ S E Q = a ρ S E fun x S1 => match x with | .bl true => b ρ S1 E Q | .bl false => Q (.bl false) S1 | _ => False) ∧
    (∀ a b ρ S E Q, aOrV a b ρ S E Q = a ρ S E fun x S1 => match x with | .bl true => Q (.bl true) S1 | .bl false => b ρ S1 E Q | _ => False) ∧
    (∀ a ρ S E Q, aNotV a ρ S E Q = a ρ S E fun x S1 => match x with | .bl k => Q (.bl (!k)) S1 | _ => False) ∧
    (∀ t a b ρ S E Q, aIf t a b ρ S E Q = t ρ S E fun k S1 => match k with | true => a ρ S1 E Q | false => b ρ S1 E Q) ∧
    (∀ ρ S E Q, aNil ρ S E Q = Q [] S) ∧ (∀ a t ρ S E Q, aCons a t ρ S E Q = a ρ S E fun x S1 => t ρ S1 E fun xs S2 => Q (x :: xs) S2) ∧
    (∀ t ρ S E Q, aTup t ρ S E Q = t ρ S E fun ds S1 => ds.length ≤ sizeLine ∧ Q (.tup ds) S1) ∧ (∀ t ρ S E Q, aLst t ρ S E Q = t ρ S E fun ds S1 => ds.length ≤ sizeLine ∧ Q (.ref S1.length) (S1 ++ [.lst ds])) ∧
    (∀ a b ρ S E Q, aIx a b ρ S E Q = a ρ S E fun x S1 => b ρ S1 E fun y S2 => getIx x y S2 Q) ∧ (∀ F t ρ S E Q, aCall F t ρ S E Q = t ρ S E fun ds S1 => F ds S1 E Q) ∧
    (∀ r t ρ S E Q, aCB r t ρ S E Q = t ρ S E fun ds S1 => r ds S1 Q) ∧
    (∀ ao a ρ S E Q, aAppend ao a ρ S E Q = ao ρ S E fun o S1 => isLst S1 o = true ∧ a ρ S1 E fun d S2 => mAppend o d S2 fun S3 => Q .non S3) ∧
    (∀ a ρ S E Q, aiAny a ρ S E Q = a ρ S E fun d S1 => must (srcOf S1 d) fun src => Q src S1) := by
  refine ⟨?_, ?_, ?_, ?_, ?_, ?_, ?_, ?_, ?_, ?_, ?_, ?_, ?_, ?_, ?_, ?_, ?_, ?_, ?_, ?_, ?_, ?_, ?_, ?_, ?_, ?_, ?_, ?_⟩ <;> intros <;> rfl
/-- slots, positions -/
theorem ev2 : (∀ {α : Type} (x : α) f, must (some x) f = f x) ∧ (∀ {α : Type} f, must (none : Option α) f = False) ∧ (∀ x (r : Rho), gt (x :: r) 0 = x) ∧ (∀ x (r : Rho) i, gt (x :: r) (i + 1) = gt r i) ∧
    (∀ x (r : Rho) d, sset (x :: r) 0 d = some d :: r) ∧ (∀ x (r : Rho) i d, sset (x :: r) (i + 1) d = x :: sset r i d) ∧
    (∀ l i S Q, getIx (.tup l) (.int i) S Q = must (at' l i) fun d => Q d S) ∧ (∀ l i S Q, getIx (.kl l) (.int i) S Q = must (at' l i) fun d => Q d S) ∧
    (∀ (d : D) l, at' (d :: l) 0 = some d) ∧ (∀ (d e : D) l, at' (d :: e :: l) 1 = some e) ∧ (∀ (d e f : D) l, at' (d :: e :: f :: l) 2 = some f) ∧ (∀ (d e f g : D) l, at' (d :: e :: f :: g :: l) 3 = some g) ∧
    (∀ (d e f g h : D) l, at' (d :: e :: f :: g :: h :: l) 4 = some h) ∧ (∀ (d e f g h i : D) l, at' (d :: e :: f :: g :: h :: i :: l) 5 = some i) ∧ (∀ (d e f g h i j : D) l, at' (d :: e :: f :: g :: h :: i :: j :: l) 6 = some j) := by
  refine ⟨fun _ _ => rfl, fun _ => rfl, fun _ _ => rfl, fun _ _ _ => rfl, fun _ _ _ => rfl, fun _ _ _ _ => rfl, fun _ _ _ _ => rfl, fun _ _ _ _ => rfl, ?_, ?_, ?_, ?_, ?_, ?_, ?_⟩ <;> intros <;> simp [at']
/-- comparisons of atoms -/
theorem ev3 : (∀ x y S Q, oEq (.str x) (.str y) S Q = Q (.bl (decide (x = y))) S) ∧ (∀ x y S Q, oEq (.int x) (.int y) S Q = Q (.bl (decide (x = y))) S) ∧ (∀ x y S Q, oEq (.bl x) (.bl y) S Q = Q (.bl (decide (x = y))) S) ∧
    (∀ x y S Q, oNe (.str x) (.str y) S Q = Q (.bl (!decide (x = y))) S) ∧ (∀ x y S Q, oNe (.int x) (.int y) S Q = Q (.bl (!decide (x = y))) S) ∧ (∀ x y S Q, oNe (.bl x) (.bl y) S Q = Q (.bl (!decide (x = y))) S) ∧
    (∀ x y S Q, oLt (.int x) (.int y) S Q = Q (.bl (decide (x < y))) S) ∧ (∀ x y S Q, oLe (.int x) (.int y) S Q = Q (.bl (decide (x ≤ y))) S) ∧ (∀ x y S Q, oGt (.int x) (.int y) S Q = Q (.bl (decide (y < x))) S) ∧ (∀ x y S Q, oGe (.int x) (.int y) S Q = Q (.bl (decide (y ≤ x))) S) ∧
    (∀ x y S Q, oAdd (.int x) (.int y) S Q = Q (.int (x + y)) S) ∧ (∀ x y S Q, oSub (.int x) (.int y) S Q = Q (.int (x - y)) S) ∧ (∀ x y S Q, oMul (.int x) (.int y) S Q = (CMul x y ∧ Q (.int (x * y)) S)) ∧
    (∀ x y S Q, oMod (.int x) (.int y) S Q = (0 < y ∧ Q (.int (x % y)) S)) ∧ (∀ x l S Q, oIn x (.tup l) S Q = ((flatD x && l.all flatD) = true ∧ Q (.bl (inF x l)) S)) := by
  refine ⟨?_, ?_, ?_, ?_, ?_, ?_, ?_, ?_, ?_, ?_, ?_, ?_, ?_, ?_, ?_⟩ <;> intros <;> rfl
end
end AL
/-! AL11: plain data as PyData: ==, repr. -/
namespace AL
open PySem PySem.Spec
open PyProof.Rows L2
mutual
def pyD : D → PyData
  | .non => .none
  | .bl b => .bool b
  | .int i => .int i
  | .str x => .str x
  | .tup l => .tuple (pyL l)
  | .ref _ => .none
  | .kl _ => .none
  | .exn _ _ _ => .none
def pyL : List D → List PyData
  | [] => []
  | d :: l => pyD d :: pyL l
end
mutual
/-- plain: no object, short ints -/
def okD : D → Bool
  | .non => true
  | .bl _ => true
  | .int i => decide (i.natAbs < 10 ^ 6)
  | .str x => PyData.strOk x
  | .tup l => okL l
  | .ref _ => false
  | .kl _ => false
  | .exn _ _ _ => false
def okL : List D → Bool
  | [] => true
  | d :: l => okD d && okL l
end
mutual
def dpD : D → Nat
  | .tup l => dpL l + 1
  | _ => 0
def dpL : List D → Nat
  | [] => 0
  | d :: l => max (dpD d) (dpL l)
end
mutual
def wtD : D → Nat
  | .str x => x.cps.size
  | .tup l => wtL l
  | .int _ => 20
  | _ => 0
def wtL : List D → Nat
  | [] => 0
  | d :: l => wtD d + 1 + wtL l
end
mutual
theorem py_ok {S : Sto} : ∀ d : D, okD d = true → Py S d (pyD d)
  | .non, _ => .non
  | .bl b, _ => .bl b
  | .int i, _ => .int i
  | .str x, _ => .str x
  | .tup l, h => .tup (pyL_ok l (by simpa [okD] using h))
  | .ref _, h => by simp [okD] at h
  | .kl _, h => by simp [okD] at h
  | .exn _ _ _, h => by simp [okD] at h
theorem pyL_ok {S : Sto} : ∀ l : List D, okL l = true → PyL S l (pyL l)
  | [], _ => .nil
  | d :: l, h => by
    simp only [okL, Bool.and_eq_true] at h
    exact .cons (py_ok d h.1) (pyL_ok l h.2)
end
mutual
theorem lay_ok : ∀ d : D, okD d = true → (pyD d).canLay0 = true ∧ (pyD d).showable = true ∧ (pyD d).intsShort 13 = true
  | .non, _ => by simp [pyD, PyData.canLay0, PyData.showable, PyData.intsShort]
  | .bl b, _ => by simp [pyD, PyData.canLay0, PyData.showable, PyData.intsShort]
  | .int i, h => by
    have h1 : i.natAbs < 10 ^ 6 := by simpa [okD] using h
    have h2 : (toString i).length ≤ 7 := int_text_length_le10 (by decide) h1
    refine ⟨by simp [pyD, PyData.canLay0], ?_, ?_⟩
    · simp only [pyD, PyData.showable, decide_eq_true_eq]
      have : i.natAbs.log2 ≤ i.natAbs := Nat.log2_le_self _
      by_cases z : i.natAbs = 0
      · rw [z]; decide
      · have : i.natAbs.log2 < 20 := (Nat.log2_lt z).mpr (by omega)
        omega
    · simp only [pyD, PyData.intsShort, PyData.shown, decide_eq_true_eq]
      have : (Str.ofString (toString i)).length = (toString i).length := by
        rw [Str.ofString_eq_toList]
        show ((toString i).toList.map Char.toNat).toArray.size = _
        rw [List.size_toArray, List.length_map, String.length_toList]
      exact decide_eq_true (Nat.le_trans (Nat.le_of_eq this) (Nat.le_trans h2 (show 7 ≤ 13 by decide)))
  | .str x, h => by
    refine ⟨by simpa [pyD, PyData.canLay0, okD] using h, by simp [pyD, PyData.showable], by simp [pyD, PyData.intsShort]⟩
  | .tup l, h => by
    have := layL_ok l (by simpa [okD] using h)
    simpa [pyD, PyData.canLay0, PyData.showable, PyData.intsShort] using this
  | .ref _, h => by simp [okD] at h
  | .kl _, h => by simp [okD] at h
  | .exn _ _ _, h => by simp [okD] at h
theorem layL_ok : ∀ l : List D, okL l = true → PyData.canLayAll0 (pyL l) = true ∧ PyData.showableAll (pyL l) = true ∧ PyData.intsShortAll 13 (pyL l) = true
  | [], _ => by simp [pyL, PyData.canLayAll0, PyData.showableAll, PyData.intsShortAll]
  | d :: l, h => by
    simp only [okL, Bool.and_eq_true] at h
    obtain ⟨a1, a2, a3⟩ := lay_ok d h.1
    obtain ⟨b1, b2, b3⟩ := layL_ok l h.2
    simp [pyL, PyData.canLayAll0, PyData.showableAll, PyData.intsShortAll, a1, a2, a3, b1, b2, b3]
end
mutual
theorem dp_eq : ∀ d : D, (pyD d).depth ≤ dpD d
  | .non => by simp [pyD, PyData.depth]
  | .bl b => by simp [pyD, PyData.depth]
  | .int i => by simp [pyD, PyData.depth]
  | .str x => by simp [pyD, PyData.depth]
  | .tup l => by
    have := dpL_eq l
    simp only [pyD, dpD, PyData.depth]
    omega
  | .ref _ => by simp [pyD, PyData.depth]
  | .kl _ => by simp [pyD, PyData.depth]
  | .exn _ _ _ => by simp [pyD, PyData.depth]
theorem dpL_eq : ∀ l : List D, PyData.depthAll (pyL l) ≤ dpL l
  | [] => by simp [pyL, PyData.depthAll]
  | d :: l => by
    have h1 := dp_eq d
    have h2 := dpL_eq l
    simp only [pyL, dpL, PyData.depthAll]
    omega
end
mutual
theorem wt_le : ∀ d : D, okD d = true → (pyD d).weight ≤ wtD d
  | .non, _ => by simp [pyD, PyData.weight]
  | .bl b, _ => by simp [pyD, PyData.weight]
  | .int i, h => by
    have h1 : i.natAbs < 10 ^ 6 := by simpa [okD] using h
    simp only [pyD, PyData.weight, wtD]
    split
    · omega
    · rename_i z
      have z' : i.natAbs ≠ 0 := by simpa using z
      have : i.natAbs.log2 < 20 := (Nat.log2_lt z').mpr (by omega)
      omega
  | .str x, _ => by simp [pyD, PyData.weight, wtD]
  | .tup l, h => by
    have := wtL_le l (by simpa [okD] using h)
    simpa [pyD, PyData.weight, wtD] using this
  | .ref _, h => by simp [okD] at h
  | .kl _, h => by simp [okD] at h
  | .exn _ _ _, h => by simp [okD] at h
theorem wtL_le : ∀ l : List D, okL l = true → PyData.weightAll (pyL l) ≤ wtL l
  | [], _ => by simp [pyL, PyData.weightAll]
  | d :: l, h => by
    simp only [okL, Bool.and_eq_true] at h
    have h1 := wt_le d h.1
    have h2 := wtL_le l h.2
    simp only [pyL, wtL, PyData.weightAll]
    omega
end
/-- a datum that can be shown -/
structure Fine (d : D) : Prop where
  ok : okD d = true
  dp : dpD d ≤ 60
  wt : wtD d ≤ 1000000
theorem Fine.shaped {d : D} (f : Fine d) : SeqAt.shaped (pyD d) = true := by
  have h1 := (lay_ok d f.ok).1
  have h2 := dp_eq d
  have h3 := f.dp
  unfold SeqAt.shaped
  simp only [h1, Bool.true_and, decide_eq_true_eq]
  omega
theorem shown_le {p : PyData} (h1 : p.canLay0 = true) (h2 : p.intsShort 13 = true) (h3 : p.depth ≤ 64) (h4 : p.weight ≤ 2 ^ 20) : p.shown.length ≤ sizeLine :=
  Nat.le_trans (shown_le13 (by unfold PyData.layable0; simp only [h1, Bool.true_and, Bool.and_eq_true, decide_eq_true_eq]; exact ⟨h3, h4⟩) h2) (by decide)
theorem repr_fine {d : D} (f : Fine d) {S : Sto} {Q : VA} (q : Q (.str (pyD d).shown) S) : cRepr [d] S Q := by
  obtain ⟨h1, h2, h3⟩ := lay_ok d f.ok
  have h4 := dp_eq d
  have h5 := wt_le d f.ok
  have h6 := f.dp
  have h7 := f.wt
  exact ⟨pyD d, py_ok d f.ok, h2, h1, by omega, shown_le h1 h3 (by omega) (by omega), q⟩
/-- a list of such in the store -/
theorem repr_list {l : List D} {i : Nat} {S : Sto} {Q : VA} (e : lstOf S i = some l) (ok : okL l = true) (dp : dpL l ≤ 60) (wt : wtL l ≤ 1000000) (q : Q (.str (PyData.list (pyL l)).shown) S) : cRepr [.ref i] S Q := by
  obtain ⟨h1, h2, h3⟩ := layL_ok l ok
  have h4 := dpL_eq l
  have h5 := wtL_le l ok
  have c1 : (PyData.list (pyL l)).canLay0 = true := by simpa [PyData.canLay0] using h1
  have c2 : (PyData.list (pyL l)).showable = true := by simpa [PyData.showable] using h2
  have c3 : (PyData.list (pyL l)).intsShort 13 = true := by simpa [PyData.intsShort] using h3
  have c4 : (PyData.list (pyL l)).depth ≤ 64 := by simp only [PyData.depth]; omega
  have c5 : (PyData.list (pyL l)).weight ≤ 2 ^ 20 := by simp only [PyData.weight]; omega
  exact ⟨_, .lst e (pyL_ok l ok), c2, c1, c4, shown_le c1 c3 c4 c5, q⟩
/-- == of plain data that no atom is -/
theorem eqN_fine {x y : D} (fx : Fine x) (fy : Fine y) {S : Sto} {Q : Bool → Prop} (q : Q (PyData.eqv (pyD x) (pyD y))) : eqN x y S Q := ⟨_, _, py_ok x fx.ok, py_ok y fy.ok, fx.shaped, fy.shaped, q⟩
theorem eq_tups {l l' : List D} (fx : Fine (.tup l)) (fy : Fine (.tup l')) {S : Sto} {Q : VA} (q : Q (.bl (PyData.eqvAll (pyL l) (pyL l'))) S) : oEq (.tup l) (.tup l') S Q := by
  show eqN (.tup l) (.tup l') S fun b => Q (.bl b) S
  refine eqN_fine fx fy ?_
  simpa only [pyD, PyData.eqv] using q
end AL
/-! AL12: comprehensions and loops over what only lets the store grow. -/
namespace AL
open PySem PySem.Spec
open PyProof.Rows L2
theorem pre_refl {S : Sto} : S <+: S := List.prefix_refl _
theorem pre_app {S : Sto} {o : O} : S <+: S ++ [o] := List.prefix_append _ _
theorem Src.ok_mono {src : Src} {S S' : Sto} (h : src.ok S) (p : S <+: S') : src.ok S' := by
  have key : ∀ i l, lstOf S i = some l → lstOf S' i = some l := fun i l e => by
    unfold lstOf at e ⊢
    cases q : S[i]? with
    | none => rw [q] at e; exact nomatch e
    | some o => rw [pre_get p q]; rw [q] at e; exact e
  cases src with
  | fix l => trivial
  | lst i l => exact key _ _ h
  | rvl i l => exact key _ _ h
  | rng a n => trivial
section
variable {ai : ATI} {ag : ATG} {elt : ATE} {vs : List Nat} {ρ : Rho} {S S0 : Sto} {E : XA} {Q : VA} {src : Src} {out : List D}
/-- [elt for target in iter], each item made by what lets the store grow -/
theorem lc_map (hai : ∀ Q' : Src → Sto → Prop, Q' src S0 → ai ρ S E Q') (ok : src.ok S0) (few : src.items.length < sizeLine) (len : out.length = src.items.length)
    (he : ∀ (k : Nat) (d : D), src.items[k]? = some d → ∃ y : D, out[k]? = some y ∧ ∀ S1 (Q1 : VA), S0 <+: S1 → (∀ S2, S1 <+: S2 → Q1 y S2) → ag d (wipeA ρ vs) S1 fun ρ2 S2 => elt ρ2 S2 (fun _ _ => False) Q1)
    (q : ∀ S1, S0 <+: S1 → Q (.ref S1.length) (S1 ++ [.lst out])) : aLc ai ag aYes elt vs ρ S E Q := by
  refine hai _ ⟨fun k acc S1 => S0 <+: S1 ∧ acc = out.take k, ⟨pre_refl, by simp⟩, ?_, few, ?_, ?_⟩
  · rintro k acc S1 hk ⟨p, rfl⟩
    exact ⟨Src.ok_mono ok p, by rw [List.length_take]; omega⟩
  · rintro k d acc S1 hd ⟨p, rfl⟩
    obtain ⟨y, hy, body⟩ := he k d hd
    refine body S1 _ p fun S2 p2 => ?_
    refine ⟨p.trans p2, ?_⟩
    rw [List.take_add_one, hy]; rfl
  · rintro acc S1 ⟨p, rfl⟩
    rw [← len, List.take_length]
    exact q S1 p
end
end AL
/-! AL13: what is not reached; isinstance; startswith; dicts of the written part; xs[i] = v. -/
namespace AL
open PySem PySem.Spec
open PyProof.Rows L2
section
variable {X : Cx} {W : WX} {a b c e : Expr} {aa ab ac : ATE} {pos pos' : Pos} {es : List Expr} {st : Stmt}
theorem inCons {α : Type} {a b : α} {l : List α} (h : a ∈ b :: l) : a = b ∨ a ∈ l := List.mem_cons.mp h
theorem inApp {α : Type} {a : α} {l m : List α} (h : a ∈ l ++ m) : a ∈ l ∨ a ∈ m := List.mem_append.mp h
theorem ltOf {α : Type} {a : α} {l : List α} {i : Nat} (h : l[i]? = some a) : i < l.length := let ⟨h1, _⟩ := List.getElem?_eq_some_iff.mp h; h1
/-- a statement that is not reached -/
def aNever : ATS := fun _ _ _ => False
theorem as_never : AS X W st aNever := ⟨fun _ _ _ => False, ⟨fun _ _ _ _ _ _ h => h.elim⟩, fun _ _ _ _ _ _ _ _ _ h _ => h.elim⟩
/-! ### isinstance(e, T), T a built-in type -/
theorem pe_tyName {x : Str} {p : Pos} {n : String} (hg : Gl X x) (hm : X.mg x = none) (hv : bootBuiltins x = some (.type n)) (hn : x ≠ "__name__" := by decide) (hd : (x == ("__debug__" : Str)) = false := by decide) : PE X (.Name x p) (tC (.ty n)) :=
  ⟨fun pins s σ H Q inv h => ld_blt inv hg hm hv ⟨.ty n, H, inv, rfl, h⟩ hn hd⟩
/-- the type of a datum -/
def tyD (S : Sto) : D → Option String
  | .non => some "NoneType"
  | .bl _ => some "bool"
  | .int _ => some "int"
  | .str _ => some "str"
  | .tup _ => some "tuple"
  | .kl _ => some "list"
  | .ref i => (lstOf S i).map fun _ => "list"
  | .exn _ _ _ => none
theorem ty_of {K : PySem.W.Frag} {A : List Addr} {H : Hp} {S : Sto} {d : D} {v : V} {n : String} (m : MtS K A H S) (r : Rp K A H d v) (h : tyD S d = some n) : TyX K H v (.type n) := by
  cases r <;> simp [tyD] at h
  case non => subst h; exact .base .non
  case bl => subst h; exact .base (.bl _)
  case int => subst h; exact .base (.int _)
  case str => subst h; exact .base (.str _)
  case ref i ad e =>
    obtain ⟨⟨l, hl⟩, rfl⟩ := h
    obtain ⟨vs, hs, _⟩ := lst_at m e hl
    rcases hs with (hs | ⟨ob, hs⟩) | ⟨ob, its, cap, hk, hc, _⟩
    · exact .base (.lst hs)
    · exact .base (.frz hs)
    · exact .kList hk hc
  case tup ad ws l' hs rl =>
    subst h
    rcases hs with (hs | ⟨ob, hs⟩) | ⟨ob, its, cap, hk, hc, _⟩
    · exact .base (.tup hs)
    · exact .fTuple hs
    · exact .kTuple hk hc
  case kl ad ws l' hs rl =>
    subst h
    obtain ⟨ob, its, cap, hk, hc, _⟩ := hs
    exact .kList hk hc
def aIsi (T : String) (a : ATE) : ATE := fun ρ S E Q => a ρ S E fun d S1 => must (tyD S1 d) fun n => Q (.bl (decide (n = T))) S1
theorem kit_list {K : PySem.W.Frag} {S : Sto} {d : D} {n : String} (h : tyD S d = some n) : PySem.W.kitOne K (.type n) (.type "list") = some (decide (n = "list")) := by
  cases d <;> simp only [tyD, Option.some.injEq, Option.map_eq_some_iff] at h <;> first
    | (subst h; first | rfl | kernel_rfl)
    | (obtain ⟨_, _, rfl⟩ := h; first | rfl | kernel_rfl)
    | (cases h)
theorem kit_str {K : PySem.W.Frag} {S : Sto} {d : D} {n : String} (h : tyD S d = some n) : PySem.W.kitOne K (.type n) (.type "str") = some (decide (n = "str")) := by
  cases d <;> simp only [tyD, Option.some.injEq, Option.map_eq_some_iff] at h <;> first
    | (subst h; first | rfl | kernel_rfl)
    | (obtain ⟨_, _, rfl⟩ := h; first | rfl | kernel_rfl)
    | (cases h)
theorem ae_isi {T : String} {x : Str} {p p2 : Pos} (hT : T = "list" ∨ T = "str") (hi : X.mg "isinstance" = none) (hx : X.mg x = none) (hv : bootBuiltins x = some (.type T)) (ha : AE X W a aa) (hg : Gl X "isinstance" := by rfl) (hgx : Gl X x := by rfl)
    (hs : starEach [a, .Name x p2] X.env = (false, eval a X.env) :: starEach [.Name x p2] X.env := by rfl) (hs2 : starEach [.Name x p2] X.env = (false, eval (.Name x p2) X.env) :: starEach [] X.env := by rfl)
    (hpl : (backTo pos (starEach [.Name x p2] X.env)).any (·.1) = false := by rfl) (hn : x ≠ "__name__" := by decide) (hd : (x == ("__debug__" : Str)) = false := by decide) : AE X W (.Call (.Name "isinstance" p) [a, .Name x p2] [] pos) (aIsi T aa) := by
  obtain ⟨ta, pa, la⟩ := ha
  refine ⟨_, pe_callB call_isi hg hi Boot.«isinstance» (pa_cons pa (pa_cons (pe_tyName hgx hx hv hn hd) pa_nil hs2) hs) (by decide) (by decide) hs hpl, fun σ H A ρ S P Q E m mt h kq kx => la σ H A ρ S _ _ E m mt h (fun v H1 d A1 S1 u1 m1 r1 q1 => ?_) kx⟩
  obtain ⟨n, hn, q⟩ := of_must q1
  have ty := ty_of m1 r1 hn
  refine ⟨v, .ty T, .type n, .type T, decide (n = T), rfl, .ty T, ty, ?_, kq _ H1 _ A1 S1 u1 m1 (.bl _) q⟩
  rcases hT with rfl | rfl
  · exact kit_list hn
  · exact kit_str hn
/-! ### text.startswith(sign, at) -/
def isTxt : D → Bool
  | .str _ => true
  | _ => false
def aStarts (ao a b : ATE) : ATE := fun ρ S E Q => ao ρ S E fun x S1 => isTxt x = true ∧ a ρ S1 E fun y S2 => b ρ S2 E fun z S3 => match x, y, z with
  | .str s, .str t, .int i => Q (.bl (Txt.startswith3 s t i)) S3
  | _, _, _ => False
theorem ae_starts {o : Expr} {ao : ATE} {apos cpos : Pos} (ho : AE X W o ao) (ha : AE X W a aa) (hb : AE X W b ab)
    (hbase : attributeBase o "startswith" X.env (eval o X.env) = eval o X.env := by rfl)
    (hfew : ((backTo cpos (starEach [a, b] X.env)).all (fun x => !x.1) && (backToKw cpos (keywordEach [] X.env)).all (fun x => x.1.isSome) && decide ([a, b].length + ([] : List Keyword).length + (if ([] : List Keyword).isEmpty then 0 else 1) < 30)) = true := by rfl)
    (hline : (apos.endLine == cpos.line) = true := by rfl) (hs : starEach [a, b] X.env = (false, eval a X.env) :: starEach [b] X.env := by rfl) (hs2 : starEach [b] X.env = (false, eval b X.env) :: starEach [] X.env := by rfl)
    (hplain : (backTo cpos (starEach [b] X.env)).any (·.1) = false := by rfl) : AE X W (.Call (.Attribute o "startswith" apos) [a, b] [] cpos) (aStarts ao aa ab) := by
  obtain ⟨to, po, lo⟩ := ho
  obtain ⟨ta, pa, la⟩ := ha
  obtain ⟨tb, pb, lb⟩ := hb
  refine ⟨_, pe_bm PySem.F.plainAttrs_str PySem.F.slot_str_startswith PySem.F.type_str_startswith mt_startswith3 po (pa_cons pa (pa_cons pb pa_nil hs2) hs) hbase hfew hline hs hplain, fun σ H A ρ S P Q E m mt h kq kx => lo σ H A ρ S _ _ E m mt h (fun x H1 dx A1 S1 u1 m1 r1 q1 => ?_) kx⟩
  refine ⟨?_, la σ H1 A1 ρ S1 _ _ E m1 (mt.mono u1) q1.2 (fun y H2 dy A2 S2 u2 m2 r2 q2 => lb σ H2 A2 ρ S2 _ _ E m2 ((mt.mono u1).mono u2) q2 (fun z H3 dz A3 S3 u3 m3 r3 q3 => ?_) ((kx.mono u1).mono u2)) (kx.mono u1)⟩
  · have h1 := q1.1
    cases r1 <;> simp [isTxt] at h1
    rfl
  · cases r1 <;> cases r2 <;> cases r3 <;> first | exact q3.elim | skip
    exact ⟨_, _, _, rfl, rfl, kq _ H3 _ A3 S3 ((u1.trans u2).trans u3) m3 (.bl _) q3⟩
/-! ### dicts of the written part -/
/-- the module's name x stands for such a dict: keys in order, their values -/
def GlK (K : PySem.W.Frag) (mg : Str → Option Value) (w : World) (x : Str) (kvs : List (Str × D)) : Prop :=
  ∃ (ad : Addr) (es : Array DictEntry) (n : Nat), mg x = some (.ref ad) ∧ KDict K w ad es n ∧ es.toList.map He.keyOf = He.keysIn w.params (kvs.map (·.1)) ∧ ∀ p ∈ kvs, ∃ u v, PySem.W.nsIn K ad p.1 = some (some u) ∧ RelV v u ∧ ∀ A H, Rp K A H p.2 v
theorem look_mem {f : Str} {d : D} : ∀ {fs : List (Str × D)}, lookF f fs = some d → (f, d) ∈ fs
  | [], h => by cases h
  | (g, x) :: r, h => by
    unfold lookF at h
    split at h
    · rename_i e
      cases h
      subst e
      exact List.mem_cons_self
    · exact List.mem_cons_of_mem _ (look_mem h)
/-- TABLE[e] -/
def aKd (kvs : List (Str × D)) (a : ATE) : ATE := fun ρ S E Q => a ρ S E fun y S1 => match y with
  | .str z => must (lookF z kvs) fun d => Q d S1
  | _ => False
theorem ix_kd {es : Array DictEntry} {n : Nat} {ad : Addr} (D : KDict X.K X.w ad es n) : IxR X (fun x y H Q => ∃ (z : Str) (u0 : Value) (v0 : V), x = .ref ad ∧ y = .str z ∧ PySem.W.nsIn X.K ad z = some (some u0) ∧ RelV v0 u0 ∧ Q v0 H) := by
  intro whole part pins s σ H x y v u Q inv rx ry h hs
  have hx : x = .ref ad := by obtain ⟨_, _, _, e, _⟩ := h; exact e
  subst hx
  have rx' := rx
  cases rx
  have hT := kd_type D inv
  unfold subscriptTail
  refine wpAny_bind ?_
  rw [getitemInPython_of_ne (kd_type D inv).not_modules]
  refine wpAny_bind (wpAny_specialOf hT PySem.F.slot_dict_getitem.lookup ?_)
  have got : wpAny (model X.prog X.w) X.A (subscripted part false (.ref ad) u) (fun r s₃ => wpAny (model X.prog X.w) X.A (letTemporaryGo whole (.ref ad) r >>= fun _ => pure r) (EP X pins σ Q) X.xe s₃) X.xe s := by
    rw [hs]
    exact wpAny_operating (wpAny_mono (op_item_kd D pins s σ H _ _ _ _ Q inv rx' ry h) (fun r s₃ h₃ => wpAny_bind (wpAny_letTemporaryGo (wpAny_pure h₃))) fun _ _ x => x)
  first
    | exact wpAny_pure (wpAny_bind got)
    | exact wpAny_bind (wpAny_pure (wpAny_bind got))
    | exact wpAny_bind got
theorem ae_kd {x : Str} {p : Pos} {kvs : List (Str × D)} (T : GlK X.K X.mg X.w x kvs) (hb : AE X W b ab) (hg : Gl X x := by rfl) (hd : (x == ("__debug__" : Str)) = false := by decide) (hs : PlainIx b := by intro _ _; rfl) : AE X W (.Subscript (.Name x p) b pos) (aKd kvs ab) := by
  obtain ⟨ad, es, n, hm, D, hk, vals⟩ := T
  obtain ⟨tb, pb, lb⟩ := hb
  refine ⟨_, pe_ix (ix_kd D) (pe_glob hg hm (v := .ref ad) rfl hd) pb hs, fun σ H A ρ S P Q E m mt h kq kx => lb σ H A ρ S _ _ E m mt h (fun y H2 dy A2 S2 u2 m2 r2 q2 => ?_) kx⟩
  cases dy <;> first | exact q2.elim | skip
  rename_i z
  obtain ⟨d, hl, q⟩ := of_must q2
  obtain ⟨u, v, h1, h2, h3⟩ := vals _ (look_mem hl)
  cases r2
  exact ⟨z, u, v, rfl, rfl, h1, h2, kq _ H2 _ A2 S2 u2 m2 (h3 _ _) q⟩
/-- the keys of such a dict, in their order -/
def Itw (ks : List Str) : It := ⟨fun i _ => i < ks.length, fun i H x H' => H' = H ∧ ∃ k, ks[i]? = some k ∧ x = .str k, fun i _ => ks.length ≤ i⟩
theorem keyOf_at {P : Params} {l : List DictEntry} {ks : List Str} (h : l.map He.keyOf = He.keysIn P ks) {i : Nat} {k : Str} (hk : ks[i]? = some k) : ∃ e t, l[i]? = some e ∧ e.key = .str k t := by
  have h2 := congrArg (fun z => z[i]?) h
  simp only [He.keysIn, List.getElem?_map, hk, Option.map_some] at h2
  obtain ⟨e, he, h3⟩ := Option.map_eq_some_iff.mp h2
  unfold He.keyOf at h3
  split at h3
  · rename_i x t q
    have h4 := Option.some.inj h3
    obtain ⟨h5, _⟩ := Prod.mk.inj h4
    exact ⟨e, t, he, by rw [q, h5]⟩
  · cases h3
theorem turn_kd {P : Program} {w : World} {K : PySem.W.Frag} {tg : Expr} {ad : Addr} {es : Array DictEntry} {n : Nat} {ks : List Str} (D : KDict K w ad es n) (hk : es.toList.map He.keyOf = He.keysIn w.params ks) (it : Addr) :
    Turn P w K tg (Itw ks) [it] it (fun i h => h.IsKeyIter it ad i es.size n) where
  mem := List.mem_singleton.mpr rfl
  obj := fun i h st b hb => by
    obtain rfl : b = it := List.mem_singleton.mp hb
    obtain ⟨oi, e, c, dd⟩ := st
    exact ⟨oi, e, fun v z => (by rw [dd] at z; cases z)⟩
  keep := fun i h h' st k => by
    obtain ⟨oi, e, r⟩ := st
    exact ⟨oi, k it (List.mem_singleton.mpr rfl) oi e, r⟩
  item := by
    intro X hP hw hK hc i pins s σ H E inv hf st hg
    subst hP hw hK
    obtain ⟨f0, f1, f2, f3, f4, f5⟩ := hf it (List.mem_singleton.mpr rfl)
    have hlt : i < ks.length := hg
    have hsz : es.size = ks.length := by
      have := congrArg List.length hk
      simpa [He.keysIn] using this
    obtain ⟨en, t, he, hkey⟩ := keyOf_at hk (List.getElem?_eq_getElem hlt)
    have hi : i < es.size := by omega
    have ee : es[i] = en := by
      have h2 : es.toList[i]? = some es[i] := by simp [hi]
      rw [he] at h2
      exact (Option.some.inj h2).symm
    refine wpAny_pyNext_keys_item_raw st ⟨_, inv.kIn _ _ D.at_, ⟨rfl, rfl, rfl⟩, rfl⟩ hi fun h' st' sb => ?_
    have I1 : Inv X pins σ H { s with heap := h' } := inv.turned (t' := s.toks) (fun b ob hb e => (sb.2 b hb).trans e) f0 f1 f3 f4 f5
    have ⟨oi, e, c, dd⟩ := st'
    rw [ee, hkey]
    exact ⟨_, rfl, go_of (s := { s with heap := h' }) e c dd (by decide) ⟨.str ks[i], H, I1, ⟨t, rfl⟩, ⟨rfl, _, List.getElem?_eq_getElem hlt, rfl⟩, st', fun b hb => (hf b hb).1⟩⟩
  done := by
    intro X hP hw hK hc i pins s σ H E inv hf st hg
    subst hP hw hK
    obtain ⟨f0, f1, f2, f3, f4, f5⟩ := hf it (List.mem_singleton.mpr rfl)
    have hsz : es.size = ks.length := by
      have := congrArg List.length hk
      simpa [He.keysIn] using this
    exact next_key_end (inv.ok.hd hc) st (inv.kIn _ _ D.at_) rfl rfl (by have h2 : ks.length ≤ i := hg; omega) fun h' eb => ⟨rfl, inv.turned (t' := s.toks) (fun b ob hb e => eb b ob hb e) f0 f1 f3 f4 f5⟩
  self := fun _ _ _ _ _ st h => wpAny_pyIter_keyiter st h
theorem pi_kd {tg : Expr} {x : Str} {p : Pos} {ad : Addr} {es : Array DictEntry} {n : Nat} {ks : List Str} (D : KDict X.K X.w ad es n) (hk : es.toList.map He.keyOf = He.keysIn X.w.params ks) (hg : Gl X x) (hm : X.mg x = some (.ref ad)) (hd : (x == ("__debug__" : Str)) = false) :
    PI X tg (.Name x p) (fun σ H R => R (Itw ks) H) :=
  ⟨fun pins s σ H R inv h => ld_glob inv hg hm (iter_keys D.low (inv.kIn _ _ D.at_) ⟨rfl, rfl, rfl⟩ rfl (pi_one (tk := s.toks) inv _ (turn_kd D hk _) ⟨_, Heap.get?_push_size _ rfl, rfl, rfl⟩ h)) hd⟩
theorem jok_kd {K : PySem.W.Frag} {A : List Addr} {H : Hp} {ks : List Str} : JOk K A H (.fix (ks.map D.str)) (Itw ks) := by
  refine ⟨fun k A' H' S' u m ok hk => ?_, fun k A' H' S' u m ok hk => ?_, fun k A' H' S' x H2 u m ok hk y => ?_⟩
  · show ks.length ≤ k
    simpa [Src.items] using hk
  · show k < ks.length
    simpa [Src.items] using hk
  · obtain ⟨e, z, hz, rfl⟩ := y
    exact ⟨e, .str z, by simp [Src.items, hz], .str z⟩
def aiKd (kvs : List (Str × D)) : ATI := fun _ S _ Q => Q (.fix ((kvs.map (·.1)).map D.str)) S
theorem ai_kd {tg : Expr} {x : Str} {p : Pos} {kvs : List (Str × D)} (T : GlK X.K X.mg X.w x kvs) (hg : Gl X x := by rfl) (hd : (x == ("__debug__" : Str)) = false := by decide) : AI X W tg (.Name x p) (aiKd kvs) := by
  obtain ⟨ad, es, n, hm, D, hk, vals⟩ := T
  exact ⟨_, pi_kd D hk hg hm hd, fun σ H A ρ S R Q E m mt h hR kx => hR _ H _ A S Up.refl m jok_kd trivial h⟩
/-! ### xs[i] = v, d[k] = v -/
def mPut2 (o k d : D) (S : Sto) (Q : Sto → Prop) : Prop := match o with
  | .ref i => (match S[i]? with
    | some (.dK kvs) => must (keyD k) fun key => kvs.length < sizeLine ∧ Q (S.set i (.dK (setK key d kvs)))
    | some (.lst l) => (match k with
      | .int j => must (ixN l.length j) fun p => Q (S.set i (.lst (l.set p d)))
      | _ => False)
    | _ => False)
  | _ => False
def rSet2 : TSet := fun o i v H Q => rSetL o i v H Q ∨ rSetD o i v H Q
theorem set2 (hu : X.A.units + 1 < cLine) : PSet X rSet2 := fun pins s σ H o i v ov iv u Q inv ro ri rv h => h.elim (set_list pins s σ H o i v ov iv u Q inv ro ri rv) (set_dict hu pins s σ H o i v ov iv u Q inv ro ri rv)
theorem RpL.setAt {K : PySem.W.Frag} {A : List Addr} {H : Hp} {d : D} {v : V} (r : Rp K A H d v) : ∀ {l : List D} {vs : List V} {p : Nat}, RpL K A H l vs → RpL K A H (l.set p d) (vs.set p v)
  | [], _, _, h => by cases h; exact .nil
  | _ :: l, _, 0, h => by cases h; rename_i h1 h2; exact .cons r h2
  | _ :: l, _, p + 1, h => by cases h; rename_i h1 h2; exact .cons h1 (RpL.setAt r h2)
def aPut2 (ao ak a : ATE) : ATS := fun D ρ S => a ρ S (fun x S1 => D.ex x ρ S1) fun d S1 => ao ρ S1 (fun x S2 => D.ex x ρ S2) fun o S2 => ak ρ S2 (fun x S3 => D.ex x ρ S3) fun k S3 => mPut2 o k d S3 (D.nx ρ)
theorem as_put2 {o i : Expr} {ao ai : ATE} (hu : X.A.units + 1 < cLine) (ho : AE X W o ao) (hi : AE X W i ai) (hv : AE X W e aa)
    (ha : ∀ v, assign (.Subscript o i pos') X.env v = (do let ov ← holding [v] (eval o X.env); let iv ← holding [v, ov] (eval i X.env); standAt pos'; holding [v, ov, iv] (setItem ov iv v); release [v, ov, iv] []) := by intro _; rfl)
    (hs : swapsWithSole [.Subscript o i pos'] e pos.line X.env = pure false := by rfl) (hw : swappedStores [.Subscript o i pos'] e X.env = pure none := by rfl)
    (h1 : (assignEach [.Subscript o i pos'] X.env).map (·.2) = [assign (.Subscript o i pos') X.env] := by rfl) : AS X W (.Assign [.Subscript o i pos'] e pos) (aPut2 ao ai aa) := by
  obtain ⟨to, po, lo⟩ := ho
  obtain ⟨ti, pi', li⟩ := hi
  obtain ⟨tv, pv, lv⟩ := hv
  refine ⟨_, ps_asg pv (pg_sub po pi' (set2 hu) ha) hs hw h1, fun σ H A ρ S D AD m mt h k => lv σ H A ρ S _ _ _ m mt h (fun v H1 d A1 S1 u1 m1 r1 q1 => lo σ H1 A1 ρ S1 _ _ _ m1 (mt.mono u1) q1 (fun x H2 dx A2 S2 u2 m2 r2 q2 =>
    li σ H2 A2 ρ S2 _ _ _ m2 ((mt.mono u1).mono u2) q2 (fun y H3 dy A3 S3 u3 m3 r3 q3 => ?_) ((k.ex.mono (u1.trans u2)).at ((mt.mono u1).mono u2))) ((k.ex.mono u1).at (mt.mono u1))) (k.ex.at mt)⟩
  have r2' := r2.mono u3
  have rv := (r1.mono u2).mono u3
  have mt3 := mt.mono ((u1.trans u2).trans u3)
  cases r2' <;> first | exact q3.elim | skip
  rename_i j ad ea
  simp only [mPut2] at q3
  split at q3
  · rename_i kvs es'
    obtain ⟨key, ek, hl, q⟩ := of_must q3
    have ev := key_ok ek r3
    subst ev
    obtain ⟨ks, g, rk⟩ := m3.ok j _ ad es' ea
    have uw : Up X.K A3 H3 A3 (upd H3 ad (.dK (putK ks key v))) := Up.write m3 ea
    refine .inr ⟨ad, _, rfl, DPut.k g (by rw [← RpK.length rk]; exact hl), ?_⟩
    exact k.nx _ _ ρ A3 _ (((u1.trans u2).trans u3).trans uw) (m3.write (o := .dK (setK key d kvs)) ea ⟨_, upd_same, (setK_ok rv rk).mono uw⟩) (mt3.mono uw) q
  · rename_i l es'
    cases dy <;> first | exact q3.elim | skip
    rename_i jj
    cases r3
    obtain ⟨p, ep, q⟩ := of_must q3
    obtain ⟨vs, g, rl⟩ := m3.ok j _ ad es' ea
    have uw : Up X.K A3 H3 A3 (upd H3 ad (.lst (vs.set p v))) := Up.write m3 ea
    refine .inl ⟨ad, vs, jj, p, rfl, rfl, g, by rw [← rl.length]; exact ep, ?_⟩
    exact k.nx _ _ ρ A3 _ (((u1.trans u2).trans u3).trans uw) (m3.write (o := .lst (l.set p d)) ea ⟨_, upd_same, (RpL.setAt rv rl).mono uw⟩) (mt3.mono uw) q
  · exact q3.elim
end
end AL
/-! AL14: the head with dicts. -/
namespace AL
open PySem PySem.Spec
open PyProof.Rows L2
/-- a dict's values -/
def vsB (K : PySem.W.Frag) (ad : Addr) : List (Str × D) → Bool
  | [] => true
  | (x, d) :: r => (match PySem.W.nsIn K ad x with
    | some (some u) => dB K d u
    | _ => false) && vsB K ad r
theorem vsB_ok {K : PySem.W.Frag} {ad : Addr} : ∀ {l : List (Str × D)} (_ : vsB K ad l = true), ∀ p ∈ l, ∃ u v, PySem.W.nsIn K ad p.1 = some (some u) ∧ RelV v u ∧ ∀ A H, Rp K A H p.2 v
  | [], _, p, h => by simp at h
  | (y, c) :: r, hb, p, h => by
    simp only [vsB, Bool.and_eq_true] at hb
    obtain rfl | h := List.mem_cons.mp h
    · have h1 := hb.1
      split at h1
      · rename_i u en
        obtain ⟨v, rv, rp⟩ := dB_ok _ _ h1
        exact ⟨u, v, en, rv, rp⟩
      · cases h1
    · exact vsB_ok hb.2 p h
def ksB (K : PySem.W.Frag) : List (Str × List (Str × D)) → Bool
  | [] => true
  | (x, kvs) :: r => (He.Fa.glo x).ok K && vsB K (He.ga K x) kvs && ksB K r
theorem ksB_at {K : PySem.W.Frag} : ∀ {l : List (Str × List (Str × D))} (_ : ksB K l = true) (i : Nat) {x : Str} {kvs : List (Str × D)} (_ : l[i]? = some (x, kvs)), (He.Fa.glo x).ok K = true ∧ vsB K (He.ga K x) kvs = true
  | [], _, _, _, _, e => by simp at e
  | (y, c) :: r, hb, i, x, d, e => by
    simp only [ksB, Bool.and_eq_true] at hb
    cases i with
    | succ i => exact ksB_at hb.2 i (by simpa using e)
    | zero =>
      simp at e
      obtain ⟨rfl, rfl⟩ := e
      exact hb.1
def tabsOf (ks : List (Str × List (Str × D))) : List He.Tab := ks.map fun p => (fun K => He.ga K p.1, p.2.map (·.1))
structure SaysK (fa : List He.Fa) (fn : List He.DefD) (cs : List (Str × D)) (ks : List (Str × List (Str × D))) (w : World) (K : PySem.W.Frag) : Prop where
  tt : He.SaysT fa fn (tabsOf ks) w K
  c : csB K cs = true
  k : ksB K ks = true
section
variable {fa : List He.Fa} {fn : List He.DefD} {cs : List (Str × D)} {ks : List (Str × List (Str × D))} {w : World} {K : PySem.W.Frag}
theorem SaysK.t (s : SaysK fa fn cs ks w K) : He.SaysD fa fn K := s.tt.d
theorem dic_both {ad : Addr} {l : List Str} (h : He.dicW K ad = some (He.keysIn w.params l)) : ∃ es n, KDict K w ad es n ∧ es.toList.map He.keyOf = He.keysIn w.params l := by
  obtain ⟨es, n, D⟩ := He.dicW_ok h
  refine ⟨es, n, D, ?_⟩
  unfold He.dicW at h
  rw [D.at_] at h
  dsimp only at h
  split at h
  · exact Option.some.inj h
  · cases h
theorem glk_ok {h : Heap} {mg : Str → Option Value} (X : K.In h) (G : h.Ns mainGlobals mg) (s : SaysK fa fn cs ks w K) (i : Nat) {x : Str} {kvs : List (Str × D)} (e : ks[i]? = some (x, kvs)) : GlK K mg w x kvs := by
  obtain ⟨h1, h2⟩ := ksB_at s.k i e
  have e1 : (tabsOf ks).map (fun t => He.dicW K (t.1 K)) = (tabsOf ks).map fun t => some (He.keysIn w.params t.2) := congrArg (fun z : He.AlT => z.2) s.tt
  have e2 : ((tabsOf ks).map (fun t => He.dicW K (t.1 K)))[i]? = ((tabsOf ks).map fun t => some (He.keysIn w.params t.2))[i]? := by rw [e1]
  simp only [tabsOf, List.map_map, List.getElem?_map, e, Option.map_some, Function.comp] at e2
  obtain ⟨es, n, D, hk⟩ := dic_both (Option.some.inj e2)
  exact ⟨_, es, n, He.glo_ok X G h1, D, hk, vsB_ok h2⟩
def obsK (n : Nat) (fa : List He.Fa) (fn : List He.DefD) (cs : List (Str × D)) (ks : List (Str × List (Str × D))) (g : Addr → Option Obj) : He.AlT × Bool :=
  (He.obsT fa fn (tabsOf ks) (He.frG g (He.asD g n)), csB (He.frG g (He.asD g n)) cs && ksB (He.frG g (He.asD g n)) ks)
def hookK (n : Nat) (fa : List He.Fa) (fn : List He.DefD) (cs : List (Str × D)) (ks : List (Str × List (Str × D))) : PySem.W.Hook where
  α := He.AlT × Bool
  obs := fun s => obsK n fa fn cs ks s.heap.get?
  val := fun w => (He.valT fn (tabsOf ks) w, true)
  says := fun w h => ∃ K : PySem.W.Frag, K.In h ∧ SaysK fa fn cs ks w K
  of := fun _ _ e => ⟨_, He.frG_in, ⟨congrArg (fun z : He.AlT × Bool => z.1) e, (Bool.and_eq_true_iff.mp (congrArg (fun z : He.AlT × Bool => z.2) e)).1, (Bool.and_eq_true_iff.mp (congrArg (fun z : He.AlT × Bool => z.2) e)).2⟩⟩
  keeps := fun _ _ _ ⟨K0, kin, c⟩ k => ⟨K0, PySem.W.Frag.In.keeps kin k, c⟩
theorem obsK_eq {n : Nat} {g : Addr → Option Obj} {s : Shared} (h : ∀ a, g a = s.heap.get? a) : obsK n fa fn cs ks g = (hookK n fa fn cs ks).obs s := by
  have eg : g = s.heap.get? := funext h
  subst eg
  rfl
end
end AL
/-! AL15: texts as lists of code points. -/
namespace AL
open PySem PySem.Spec
open PyProof.Rows L2
theorem szs : (0 ≤ sizeLine) ∧ (1 ≤ sizeLine) ∧ (2 ≤ sizeLine) ∧ (3 ≤ sizeLine) ∧ (4 ≤ sizeLine) ∧ (5 ≤ sizeLine) ∧ (6 ≤ sizeLine) ∧ (7 ≤ sizeLine) ∧ (8 ≤ sizeLine) := by decide
def txt (l : List Nat) : Str := ⟨l.toArray⟩
theorem txt_len (l : List Nat) : (txt l).length = l.length := by show l.toArray.size = _; simp
theorem txt_cps (l : List Nat) : (txt l).cps.toList = l := rfl
theorem txt_inj {l m : List Nat} : txt l = txt m ↔ l = m := by
  constructor
  · intro h
    have := congrArg (fun s : Str => s.cps.toList) h
    exact this
  · intro h; rw [h]
theorem txt_of (s : Str) : s = txt s.cps.toList := by cases s; rfl
theorem lt_one (m c : Nat) : sLt (txt [c]) (txt [m]) = decide (c < m) := by
  unfold sLt
  rw [txt_cps, txt_cps]
  apply decide_eq_decide.mpr
  constructor
  · intro h
    cases h with
    | rel h => exact h
    | cons h => cases h
  · intro h; exact .rel h
section
variable {S : Sto} {Q : VA}
/-- more equations -/
theorem ev4 : (∀ r r' a b c ρ S E Q, aChain r r' a b c ρ S E Q = a ρ S E fun x S1 => b ρ S1 E fun y S2 => r x y S2 fun z S3 => match z with | .bl true => c ρ S3 E fun w S4 => r' y w S4 Q | .bl false => Q (.bl false) S3 | _ => False) ∧
    (∀ m c S Q, oLe (.str (txt [m])) (.str (txt [c])) S Q = Q (.bl (decide (m ≤ c))) S) ∧
    (∀ s S Q, cLen [.str s] S Q = (s.length ≤ sizeLine ∧ Q (.int (s.length : Int)) S)) ∧ (∀ l S Q, cLen [.tup l] S Q = Q (.int (l.length : Int)) S) ∧
    (∀ a ρ S E Q, aPart a ρ S E Q = a ρ S E fun x S1 => match x with | .int i => Q (some i) S1 | _ => False) ∧ (∀ ρ S E Q, aNoPart ρ S E Q = Q none S) ∧
    (∀ a lo hi ρ S E Q, aSl a lo hi ρ S E Q = a ρ S E fun x S1 => lo ρ S1 E fun l S2 => hi ρ S2 E fun h S3 => getSl x l h S3 Q) ∧
    (∀ s lo hi S Q, getSl (.str s) lo hi S Q = (s.length ≤ sizeLine ∧ Q (.str (cutS s lo hi)) S)) ∧
    (∀ ao a b ρ S E Q, aStarts ao a b ρ S E Q = ao ρ S E fun x S1 => isTxt x = true ∧ a ρ S1 E fun y S2 => b ρ S2 E fun z S3 => match x, y, z with | .str s, .str t, .int i => Q (.bl (Txt.startswith3 s t i)) S3 | _, _, _ => False) ∧
    (∀ kvs a ρ S E Q, aKd kvs a ρ S E Q = a ρ S E fun y S1 => match y with | .str z => must (lookF z kvs) fun d => Q d S1 | _ => False) := by
  refine ⟨?_, ?_, ?_, ?_, ?_, ?_, ?_, ?_, ?_, ?_⟩
  case refine_2 =>
    intro m c S Q
    show Q (.bl (!sLt (txt [c]) (txt [m]))) S = _
    rw [lt_one]
    congr 2
    by_cases h : c < m
    · simp [h]
    · simp [h]
      omega
  all_goals intros; first | rfl | skip
theorem ix_txt {l : List Nat} {i : Int} {c : Nat} (h0 : 0 ≤ i) (hl : l.length ≤ sizeLine) (h : l[i.toNat]? = some c) (q : Q (.str (txt [c])) S) : getIx (.str (txt l)) (.int i) S Q := by
  refine ⟨by rw [txt_len]; exact hl, ?_⟩
  rw [txt_cps]
  have e : at' l i = some c := by unfold at'; rw [if_pos h0]; exact h
  rw [e]
  exact q
theorem cut_txt {l : List Nat} {i j : Nat} (h : i ≤ j) (hj : j ≤ l.length) : cutS (txt l) (some (i : Int)) (some (j : Int)) = txt ((l.drop i).take (j - i)) := by
  unfold cutS
  rw [txt_cps, txt_len, HT.sIx_nat, HT.sIx_nat, Nat.min_eq_left hj, Nat.min_eq_left (Nat.le_trans h hj)]
  rfl
/-- a text with a word in it -/
theorem cut_mid {p w r : List Nat} : cutS (txt (p ++ w ++ r)) (some (p.length : Int)) (some ((p.length + w.length : Nat) : Int)) = txt w := by
  rw [cut_txt (by omega) (by simp)]
  congr 1
  rw [List.append_assoc, List.drop_left, Nat.add_sub_cancel_left, List.take_left]
theorem get_mid {p r : List Nat} {c : Nat} : (p ++ c :: r)[p.length]? = some c := by
  rw [List.getElem?_append_right (Nat.le_refl _), Nat.sub_self]; rfl
theorem lst_set {S' : Sto} {i : Nat} {l : List D} (h : S'[i]? = some (.lst l)) {d : D} {Q : Sto → Prop} (hl : l.length < sizeLine) (q : Q (S'.set i (.lst (l ++ [d])))) : mAppend (.ref i) d S' Q := by
  unfold mAppend
  simp only [h]
  exact ⟨hl, q⟩
theorem is_lst {S' : Sto} {i : Nat} {l : List D} (h : S'[i]? = some (.lst l)) : isLst S' (.ref i) = true := by
  unfold isLst lstOf
  simp only [h]
  rfl
theorem set_pre {S S1 : Sto} {i : Nat} {o : O} (p : S <+: S1) (h : S.length ≤ i) : S <+: S1.set i o := by
  obtain ⟨t, rfl⟩ := p
  rw [List.set_append_right _ _ h]
  exact List.prefix_append _ _
end
/-- all but the object f is kept -/
structure Kp (f : Nat) (S S' : Sto) : Prop where
  len : S.length ≤ S'.length
  get : ∀ i, i < S.length → i ≠ f → S'[i]? = S[i]?
theorem Kp.refl {f : Nat} {S : Sto} : Kp f S S := ⟨Nat.le_refl _, fun _ _ _ => rfl⟩
theorem Kp.trans {f : Nat} {S S1 S2 : Sto} (h : Kp f S S1) (g : Kp f S1 S2) : Kp f S S2 :=
  ⟨Nat.le_trans h.len g.len, fun i hi hf => by rw [g.get i (Nat.lt_of_lt_of_le hi h.len) hf, h.get i hi hf]⟩
theorem Kp.of {f : Nat} {S S' : Sto} (p : S <+: S') : Kp f S S' := ⟨p.length_le, fun i hi _ => by rw [List.getElem?_eq_getElem hi]; exact pre_get p (List.getElem?_eq_getElem hi)⟩
theorem Kp.at {f : Nat} {S S' : Sto} (h : Kp f S S') {i : Nat} {o : O} (e : S[i]? = some o) (hf : i ≠ f) : S'[i]? = some o := by
  rw [h.get i (List.getElem?_eq_some_iff.mp e).1 hf]; exact e
theorem Kp.own {f : Nat} {S : Sto} {o : O} : Kp f S (S.set f o) := ⟨by simp, fun i hi hf => List.getElem?_set_ne (Ne.symm hf)⟩
theorem Kp.set {f : Nat} {S S1 : Sto} {r : Nat} {o : O} (h : Kp f S S1) (hr : S.length ≤ r) : Kp f S (S1.set r o) :=
  ⟨by simpa using h.len, fun i hi hf => by rw [List.getElem?_set_ne (by omega)]; exact h.get i hi hf⟩
section
/-- fields, methods -/
theorem ev5 : (∀ cl f a ρ S E Q, aFld cl f a ρ S E Q = a ρ S E fun x S1 => must (insOf S1 cl x) fun fs => must (lookF f fs) fun d => Q d S1) ∧
    (∀ cl m F a t ρ S E Q, aMeth cl m F a t ρ S E Q = a ρ S E fun x S1 => must (insOf S1 cl x) fun fs => lookF m fs = none ∧ t ρ S1 E fun ds S2 => F (x :: ds) S2 E Q) ∧
    (∀ f g d r, lookF f ((g, d) :: r) = if f = g then some d else lookF f r) ∧ (∀ f, lookF f [] = none) ∧
    (∀ cl f ao a D0 ρ S, aFldSet cl f ao a D0 ρ S = a ρ S (fun x S1 => D0.ex x ρ S1) fun d S1 => ao ρ S1 (fun x S2 => D0.ex x ρ S2) fun o S2 => must (insOf S2 cl o) fun fs => fs.length < 1000 ∧ (match o with | .ref i => D0.nx ρ (S2.set i (.ins cl (setF f d fs))) | _ => False)) ∧
    (∀ f d, setF f d [] = [(f, d)]) ∧ (∀ f d g x r, setF f d ((g, x) :: r) = if g = f then (g, d) :: r else (g, x) :: setF f d r) := by
  refine ⟨?_, ?_, ?_, ?_, ?_, ?_, ?_⟩ <;> intros <;> rfl
theorem ix_lst {S : Sto} {r : Nat} {l : List D} {i : Int} {d : D} {Q : VA} (e : S[r]? = some (.lst l)) (h0 : 0 ≤ i) (h : l[i.toNat]? = some d) (q : Q d S) : getIx (.ref r) (.int i) S Q := by
  unfold getIx
  have ea : at' l i = some d := by unfold at'; rw [if_pos h0]; exact h
  simp only [e, ea, ev2]
  exact q
theorem len_lst {S : Sto} {r : Nat} {l : List D} {Q : VA} (e : S[r]? = some (.lst l)) (q : Q (.int (l.length : Int)) S) : cLen [.ref r] S Q := by
  unfold cLen
  simp only [e]
  exact q
end
theorem ifM {t : ATT} {a b : ATS} {D0 : AEnds} {ρ : Rho} {S : Sto} (h : ∀ TA TB : Rho → Sto → Prop, (∀ ρ S, a D0 ρ S → TA ρ S) → (∀ ρ S, b D0 ρ S → TB ρ S) → t ρ S (fun x S1 => D0.ex x ρ S1) fun k S1 => match k with | true => TA ρ S1 | false => TB ρ S1) : aIfS t a b D0 ρ S :=
  h (a D0) (b D0) (fun _ _ z => z) fun _ _ z => z
end AL
/-! AL16: own exceptions whose __init__ says super().__init__(..): raise, try, fields. -/
namespace AL
open PySem PySem.Spec
open PyProof.Rows L2
/-! ### a method with the cell __class__ -/
abbrev envS (qual : Str) (scope : Scope) (L f : Addr) (cd : Value) (cc : Addr) : Env := PySem.W.ksEnv qual scope L f cd cc
def cxS (CX : CXT) (P : Program) (w : World) (K : PySem.W.Frag) (mg : Str → Option Value) (base : Heap) (N : List Str) (qual : Str) (scope : Scope) (f : Addr) (cd : Value) (cc : Addr) (A : Around) (outer : List Env) (s : Shared) (H : Hp) (E : XK) : Cx where
  prog := P
  w := w
  K := K
  mg := mg
  base := base
  A := A.deeper (envS qual scope s.heap.objs.size f cd cc)
  N := N
  s_0 := s
  H_0 := H
  env := envS qual scope s.heap.objs.size f cd cc
  outer := outer
  stack := envS qual scope s.heap.objs.size f cd cc :: outer
  ex := []
  calm := true
  fn := fun x => !(x == ("__class__" : Str))
  pn := []
  xe := fun e s' => wpAny (model P w) (A.deeper (envS qual scope s.heap.objs.size f cd cc)) (leaving (envS qual scope s.heap.objs.size f cd cc) e) (fun _ s'' => CX outer H s E e s'') (fun e' s'' => CX outer H s E e' s'') s'
structure SupScope (N P : List Str) (sc : Scope) : Prop where
  kind : sc.kind = .function
  co : sc.isCoroutine = false
  gen : sc.isGenerator = false
  nd : N.Nodup
  pre : N = P
  par : ∀ x ∈ P, sc.names.lookup x = some .local
  nocell : ∀ x ∈ sc.names, x.2 ≠ .cell
  free : sc.names.lookup ("__class__" : Str) = some .free
  only : ∀ y ∈ sc.names, y.2 = .free → y.1 = "__class__"
  sup : sc.names.lookup ("super" : Str) = some .globalImplicit
theorem mem_look {y : Str} {u : Value} : ∀ {l : List (Str × Value)}, (l.map (·.1)).Nodup → (y, u) ∈ l → l.lookup y = some u
  | [], _, h => nomatch h
  | (x, v) :: l, nd, h => by
    have nd := List.nodup_cons.mp (show (x :: l.map (·.1)).Nodup from nd)
    rcases inCons h with h2 | h2
    · cases h2
      simp [List.lookup]
    · have hne : (y == x) = false := by
        simp only [beq_eq_false_iff_ne]
        rintro rfl
        exact nd.1 (List.mem_map.mpr ⟨(y, u), h2, rfl⟩)
      simp only [List.lookup, hne]
      exact mem_look nd.2 h2
theorem rev_look {ps : List Str} {us : List Value} (nd : ps.Nodup) (hl : ps.length ≤ us.length) {i : Nat} {y : Str} {u : Value} (h1 : ps[i]? = some y) (h2 : us[i]? = some u) : (ps.zip us).reverse.lookup y = some u := by
  refine mem_look ?_ ?_
  · rw [List.map_reverse, List.map_fst_zip hl]
    exact (List.reverse_perm ps).nodup_iff.mpr nd
  · rw [List.mem_reverse]
    have : (ps.zip us)[i]? = some (y, u) := by
      rw [List.getElem?_zip_eq_some]
      exact ⟨h1, h2⟩
    exact List.mem_of_getElem? this
theorem start_at {N : List Str} {vs : List V} {i : Nat} {v : V} (h : (L2.start N vs)[i]? = some (some v)) : vs[i]? = some v := by
  unfold L2.start at h
  rw [List.getElem?_append] at h
  split at h
  · rw [List.getElem?_map, Option.map_eq_some_iff] at h
    obtain ⟨w, e1, e2⟩ := h
    exact e1.trans e2
  · have := List.mem_of_getElem? h
    rw [List.mem_replicate] at this
    cases this.2
theorem start_size {N : List Str} {vs : List V} (h : N.length = vs.length) : (L2.start N vs).length = N.length := by
  simp [L2.start, h]
section
variable {CX : CXT} {P : Program} {w : World} {K : PySem.W.Frag} {mg : Str → Option Value} {base : Heap} {N ps : List Str} {qual : Str} {scope : Scope} {f cc C : Addr} {cd cl : Value} {cld : Option Addr} {csl : Array (Option Value)} {A : Around} {outer : List Env} {s : Shared} {H : Hp} {E : XK} {us : List Value} {vs : List V} {h1 : Heap} {tk : Nat}
theorem cell_one {L : Addr} {x : Str} {c : Addr} (h : (envS qual scope L f cd cc).cells.lookup x = some c) : x = "__class__" ∧ c = cc := by
  have h' : ([("__class__", cc)] : List (Str × Addr)).lookup x = some c := h
  simp only [List.lookup] at h'
  split at h'
  · rename_i q
    exact ⟨by simpa using q, by cases h'; rfl⟩
  · cases h'
/-- the context of such a body is sound at its entry -/
theorem ok_startS (S : SupScope N ps scope) (hd : A.handled = none) (e0 : Env0 P w K mg base A outer s H) : (cxS CX P w K mg base N qual scope f cd cc A outer s H E).Ok where
  mod := e0.mod
  kind := S.kind
  glob := rfl
  blt := rfl
  above := Nat.le_refl _
  inj := fun y z c g1 g2 => (cell_one g1).1.trans (cell_one g2).1.symm
  has := fun y hy => ⟨cc, by
    have isFree : scope.names.lookup y = some .free := hy.resolve_left fun q => S.nocell _ (PySem.mem_of_lookup q) rfl
    obtain rfl : y = "__class__" := S.only _ (PySem.mem_of_lookup isFree) rfl
    rfl⟩
  cab := fun y c g0 g => by
    rw [(cell_one g).1] at g0
    exact absurd (show (!(("__class__" : Str) == ("__class__" : Str))) = true from g0) (by decide)
  hd := fun _ => hd
  frames := Around.frames_deeper e0.frames
  stk := .inr ⟨rfl, rfl⟩
  exf := fun _ z => nomatch z
  bs := e0.bs
  bsz := e0.bsz
  noex := fun _ _ _ z => nomatch z
  exfs := fun _ z => nomatch z
  funs := e0.funs
  frf := e0.frf
theorem inv_startS (S : SupScope N ps scope) (hd : A.handled = none) (e0 : Env0 P w K mg base A outer s H) (hl : vs.length = ps.length) (r : Vals vs us) (hcc : K.lookup cc = some ⟨cl, cld, .cell (some (.ref C)), csl⟩)
    (ns : h1.Ns s.heap.objs.size fun x => (ps.zip us).reverse.lookup x) (hk : ∀ b o, s.heap.get? b = some o → h1.get? b = some o) :
    Inv (cxS CX P w K mg base N qual scope f cd cc A outer s H E) [] (L2.start N vs) H { s with heap := h1, toks := tk } where
  ok := ok_startS S hd e0
  os := rfl
  bare := e0.bare
  base := Un.kept hk
  loc := ⟨_, ns, fun i y v q1 q2 _ => by
    obtain ⟨u, hu, rv⟩ := r.get (start_at q2)
    have isPar : ps[i]? = some y := S.pre ▸ q1
    have lus := r.length
    exact ⟨u, rv, .inl ⟨S.par y (List.mem_of_getElem? isPar), rev_look (S.pre ▸ S.nd) (by omega) isPar hu⟩⟩⟩
  cell := fun y c g => by
    rw [(cell_one g).2]
    exact ⟨_, _, hk _ _ (e0.bs _ _ (e0.mod.kin _ _ hcc)).1, rfl⟩
  free := e0.hok.fresh (Nat.le_refl _)
  freeC := fun y c g => by
    rw [(cell_one g).2]
    exact (e0.bs _ _ (e0.mod.kin _ _ hcc)).2
  pin := fun _ z => nomatch z
  hok := e0.hok.kept hk
  len := start_size (by rw [S.pre, hl])
/-- such a body's end -/
theorem endS {Q : VK} {σ' : L2.St} {H' : Hp} {v : V} {u : Value} {s2 : Shared} (J : Inv (cxS CX P w K mg base N qual scope f cd cc A outer s H E) [] σ' H' s2) (rv : RelV v u) (q : Q v H') : CE outer P w H s Q u s2 :=
  ⟨v, H', J.os, J.bare, J.base, J.hok, rv, q⟩
end
/-! ### super().__init__(..) -/
/-- what is known of such a class: C its place, f the __init__, cc the cell of __class__ -/
structure SupC (P : Program) (K : PySem.W.Frag) (C f cc : Addr) (fd : FuncData) (cdv : Value) : Prop where
  o : OexC K C
  cell : ∃ cl cld csl, K.lookup cc = some ⟨cl, cld, .cell (some (.ref C)), csl⟩
  fn : ∃ oc od osl, K.lookup f = some ⟨oc, od, .func fd, osl⟩
  code : ∃ cda ccl cdd vs ccs file tf, cdv = .ref cda ∧ K.lookup cda = some ⟨ccl, cdd, .fields vs, ccs⟩ ∧ vs[2]? = some (.str file tf) ∧ ((P.main.file : Str) == file) = true
  sub : PySem.W.mroIn K C (.ref C) = some true
  top : (P.main.scope.names.lookup ("super" : Str)).isSome = false
  third : PySem.W.nsIn K PySem.cStatics "thirdparty.any" = some none
  along : PySem.W.ks_superIn K C C "__init__" = some (some (.builtin "ValueError.__init__"))
  ve : PySem.W.subIn K (.ref C) (.type "ValueError") = some true
section
variable {prog : Program} {w : World} {A : Around} {X : Value → Shared → Prop} {h : Heap} {gn : Array GenState} {dr : Drawn} {tk : Nat} {os : OsState} {C u e t0 : Addr} {rest : List Value} {Q : Value → Shared → Prop}
theorem is_mw : (Value.type "method-wrapper" == Value.type "method" || Value.type "method-wrapper" == Value.type "builtin_function_or_method" || Value.type "method-wrapper" == Value.type "method-wrapper") = true := by decide
open PySem.W in
/-- ValueError.__init__, bound to the exception e, is called: nothing but e is changed -/
theorem call_mw (hC : ∃ cn qn N bs bm hasD sn sub ab col dd k0 k1 k2 k3 k5, h.get? C = some (excClassObj cn qn C N bs bm hasD sn sub ab col dd k0 k1 k2 k3 k5 "ValueError.__new__")) (he : h.get? e = some (PySem.HandSPX.excO C t0)) (hu : h.get? u = some (PySem.W.kxs_mw "ValueError.__init__" e)) (few : rest.length ≤ sizeLine)
    (fin : ∀ h' t1, (∀ b o, b ≠ e → h.get? b = some o → h'.get? b = some o) → h'.get? e = some (PySem.HandSPX.excO C t1) → Q .none ⟨h', gn, dr, tk, os⟩) : wpAny (model prog w) A (call (.ref u) rest) Q X ⟨h, gn, dr, tk, os⟩ := by
  obtain ⟨cn, qn, N, bs, bm, hasD, sn, sub, ab, col, dd, k0, k1, k2, k3, k5, hC⟩ := hC
  have F := F.excBase_ValueError
  refine wpAny_call (codeAny_of_tree (show wpAny _ A.in1 (callAny (.ref u) ⟨rest, []⟩) _ _ _ from ?_))
  simp only [callAny]
  refine wpAny_bind (wpAny_load (o := PySem.W.kxs_mw "ValueError.__init__" e) hu ?_)
  simp only [PySem.W.kxs_mw, is_mw, if_true]
  refine KFB.if_so (by decide) (wpAny_bind (PySem.ESX.check_bound F hC he rfl (wpAny_bind (wpAny_pure (wpAny_pure ⟨Code.quiet_builtin _ (by decide +kernel), codeAny_builtin F.initEntry ?_⟩)))))
  rw [Around.under_plainId F.init.plain _]
  wp_walk
  exact fin _ h.objs.size (fun b o hb ho => (Heap.get?_update_other _ _ (Ne.symm hb)).trans (Heap.get?_push_of_some _ ho)) ((Heap.get?_update_self _ (Heap.get?_push_of_some _ he) rfl).trans rfl)
end
section
variable {X : Cx} {body : List Stmt} {σ : L2.St} {H : Hp} {s : Shared} {a C f cc : Addr} {fd : FuncData} {cdv : Value} {qual : Str} {scope : Scope} {L : Addr} {ar : Arg} {p0 p1 apos pos : Pos} {e : Expr} {es : List Expr} {t0 : TA} {Qn : Hp → Prop}
open PySem.W in
theorem sup_run (S : SupC X.prog X.K C f cc fd cdv) (henv : X.env = envS qual scope L f cdv cc) (hm : X.mg "super" = none) (hks : scope.names.lookup ("super" : Str) = some .globalImplicit) (hkc : scope.names.lookup ("__class__" : Str) = some .free)
    (hp : (fd.params.posonlyargs ++ fd.params.args).head? = some ar) (hka : scope.names.lookup ar.arg = some .local) (hN : X.N[0]? = some ar.arg) (hσ : σ[0]? = some (some (.ref a)))
    (I : Inv X [] σ H s) (ea : H a = some (exo a C none)) (ha : PA X (e :: es) t0) (h : t0 σ H fun vs H1 => vs.length ≤ 1000 ∧ H1 a = some (exo a C none) ∧ Qn H1)
    (he : starEach (e :: es) X.env = (false, eval e X.env) :: starEach es X.env) (hpl : (backTo pos (starEach es X.env)).any (·.1) = false)
    (hev : eval (.Call (.Attribute (.Call (.Name "super" p0) [] [] p1) "__init__" apos) (e :: es) [] pos) X.env = (do
      let ov ← attributeBase (.Call (.Name "super" p0) [] [] p1) "__init__" X.env (eval (.Call (.Name "super" p0) [] [] p1) X.env)
      standAt apos.atName
      let (f, first) ← holding [ov] (getMethod ov "__init__" (pure false))
      callWith pos f first (backTo pos (starEach (e :: es) X.env)) [])) :
    _root_.PySem.wpAt (model X.prog X.w) X.A (.func body X.env) (eval (.Call (.Attribute (.Call (.Name "super" p0) [] [] p1) "__init__" apos) (e :: es) [] pos) X.env) (fun _ s' => ∃ H1, Inv X [] σ H1 s' ∧ Qn H1) X.xe s := by
  obtain ⟨nm, q, N, bs, bm, sn, sub, ab, col, dd, k0, k1, k2, k3, k5, hC, hbm⟩ := S.o.cls
  obtain ⟨cl, cld, csl, hcell⟩ := S.cell
  obtain ⟨oc, od, osl, hfn⟩ := S.fn
  obtain ⟨cda, ccl, cdd, vs, ccs, file, tf, rfl, hcode, hvs, hfile⟩ := S.code
  have kin := I.kIn
  obtain ⟨t1, ho⟩ := exo_at I.hok ea
  have hkind : X.env.scope.kind = .function := I.ok.kind
  refine ks_wpAt_MethodCall (pl := pure false) ?_ hev
  refine ks_wpAt_super_base (f := f) (cc := cda) (by rw [henv]; exact hks) (by rw [henv]; exact hkc) (by decide) (by rw [henv]) (kin _ _ hfn) rfl hp (by rw [henv]) (kin _ _ hcode) rfl hvs hfile S.top ?_
  obtain ⟨mb, hb1, hb2⟩ := I.mod.blt
  refine ks_loadName_global hkind (by rw [henv]; exact hks) (Calls.loadGlobal_builtin (by rw [I.ok.glob]; exact I.mod.glob.keeps I.bk) hm (by rw [I.ok.blt]; exact hb1.keeps I.bk) ((hb2 "super" (by decide)).trans (show bootBuiltins "super" = some (.type "super") by decide +kernel)) ⟨rfl, ?_⟩)
  refine wpAny_loadName_free (c := cc) hkind (by rw [henv]; exact hkc) (by rw [henv]; rfl) ⟨_, kin _ _ hcell, rfl⟩ ?_
  obtain ⟨m, hns, hl⟩ := I.loc
  obtain ⟨u, ru, look⟩ := hl 0 ar.arg (.ref a) hN hσ (by rw [henv]; exact .inl hka)
  obtain rfl : u = .ref a := ru
  have hself : m ar.arg = some (.ref a) := by
    rcases look with ⟨_, z⟩ | ⟨z, _⟩
    · exact z
    · rw [henv] at z
      have z' : scope.names.lookup ar.arg = some .cell ∨ scope.names.lookup ar.arg = some .free := z
      rw [hka] at z'
      rcases z' with z' | z' <;> cases z'
  refine wpAny_loadName_local hkind (by rw [henv]; exact hka) hns hself ?_
  have hD := kin _ _ hC
  refine ks_wpAny_isType_cls hD rfl ⟨rfl, ?_⟩
  obtain ⟨hh, g, d, t, os⟩ := s
  refine ks_wpAny_call_super hD rfl ho rfl (fun c z => by cases z) (looks_mroIn kin S.sub) (fun h' eso k => ?_)
  have I1 : Inv X [] σ H ⟨h', g, d, t, os⟩ := I.kept (t' := t) k
  have kin1 := I1.kIn
  have hcl : clsIn X.K C = some { name := nm, bases := bs, mro := .ref C :: bm, ns := N, qualname := q, hasDict := true, slotNames := sn, subclasses := sub, abstract := ab, collection := col, hasDel := false } := by unfold clsIn; rw [hC] <;> rfl
  have along := S.along
  unfold ks_superIn at along
  rw [hcl] at along
  have ho1 := k _ _ ho
  have J : InstAt h' a { cls := .ref C, dict := none, data := .fields #[.ref t1, .none, .none, .none, .bool false, .none] } C none := ⟨ho1, rfl, rfl, trivial⟩
  have hI : Looks (model X.prog X.w) h' (isInstance (.ref a) (.type "ValueError")) true := J.type.andThen (looks_subIn kin1 S.ve)
  refine kxs_getMethod kxs_ValueError eso (looks_opaque kin1 S.third) (l₀ := .ref C :: bm) (fun A Q E s k q => wpAny_bind ((looks_clsIn kin1 hcl) A _ E s k (wpAny_pure q))) rfl kin1 along hI (ks_ne kin1 J hcl) (by decide) ?_
  have hu : (h'.push (kxs_mw "ValueError.__init__" a)).get? h'.objs.size = some (kxs_mw "ValueError.__init__" a) := Heap.get?_push_at rfl rfl
  have I2 : Inv X [] σ H ⟨h'.push (kxs_mw "ValueError.__init__" a), g, d, t + 1, os⟩ := I1.kept (t' := t + 1) fun b o z => Heap.get?_push_of_some _ z
  have fp : FpOk X [] H h'.objs.size := I1.fpOk (Nat.le_refl _) (I1.hok.fresh (Nat.le_refl _))
  obtain ⟨f0, f1, f2, f3, f4, f5⟩ := fp
  have I3 : Inv X [(h'.objs.size, kxs_mw "ValueError.__init__" a)] σ H ⟨h'.push (kxs_mw "ValueError.__init__" a), g, d, t + 1, os⟩ := I2.pins_of fun p hp => by
    have hp := List.mem_singleton.mp hp
    subst hp
    exact ⟨hu, f0, f1, f2, fun v z => by cases z⟩
  show wpAny _ _ (callWith pos (.ref h'.objs.size) [] (backTo pos (starEach (e :: es) X.env)) []) _ _ _
  have args := ha.run pos _ _ σ H _ I3 h
  rw [he] at args ⊢
  refine kxs_callWith (i := "ValueError.__init__") (x := a) (by show (false || (backTo pos (starEach es X.env)).any (·.1)) = false; rw [hpl]; rfl) (Calls.evalArgs_plain (thn args fun us s4 hh4 => ?_))
  obtain ⟨ws, H1, I4, rv, hz, ea1, qn⟩ := hh4
  have hu4 := (I4.pin _ (List.mem_append_right _ (List.mem_singleton.mpr rfl))).1
  refine ⟨hu4, ?_⟩
  obtain ⟨t4, ho4⟩ := exo_at I4.hok ea1
  obtain ⟨h4, g4, d4, tk4, os4⟩ := s4
  have hus : ([] ++ us).length ≤ sizeLine := by
    have := rv.length
    rw [List.nil_append, ← this, sizeLine_eq]
    omega
  refine call_mw ⟨_, _, _, _, _, _, _, _, _, _, _, _, _, _, _, _, I4.kIn _ _ hC⟩ ho4 hu4 hus fun h5 t5 k5' hx => ?_
  have J5 := I4.write (t' := tk4) (x := a) (e := a) (o := exo a C none) (by rw [ea1]; exact True.intro) (.inl rfl) k5' ⟨_, hx⟩ (exo_ok hx)
  have eu : upd H1 a (exo a C none) = H1 := by
    funext b
    by_cases hb : b = a
    · rw [hb, upd_same, ea1]
    · rw [upd_ne hb]
  rw [eu] at J5
  exact ⟨H1, J5.pins_of fun p hp => absurd hp (by simp), qn⟩
end
/-! ### the __init__ as a def -/
structure FunS (K : PySem.W.Frag) (x qual : Str) (params : Arguments) (body : List Stmt) (scope : Scope) (cc f : Addr) (fd : FuncData) (cdv : Value) : Prop where
  ex : ∃ kV doc pm an ct oc od osl, fd = PySem.W.ksFn x qual params body scope .none kV doc pm an cdv ct cc ∧ K.lookup f = some ⟨oc, od, .func fd, osl⟩
  code : PySem.W.codeIn K cdv qual = true
section
variable {P : Program} {w : World} {K : PySem.W.Frag} {mg : Str → Option Value} {base : Heap} {x qual : Str} {params : Arguments} {rest : List Stmt} {scope : Scope} {C cc f : Addr} {fd : FuncData} {cdv : Value} {N ps : List Str} {k : Nat} {sp : Sp} {CX : CXT}
  {ar : Arg} {p0 p1 apos pos epos : Pos} {e : Expr} {es : List Expr}
theorem fn_sup (F : FunS K x qual params (.Expr (.Call (.Attribute (.Call (.Name "super" p0) [] [] p1) "__init__" apos) (e :: es) [] pos) epos :: rest) scope cc f fd cdv) (S : SupC P K C f cc fd cdv) (Sc : SupScope N ps scope) (hm : mg "super" = none)
    (hp : (params.posonlyargs ++ params.args).head? = some ar) (hN : N[0]? = some ar.arg) (len : ∀ vs H Q E, sp vs H Q E → vs.length = ps.length)
    (hb : ∀ (A : Around) (outer : List Env) (s : Shared) (H : Hp) (vs : List V) (Q : VK) (E : XK), sp vs H Q E → ∃ t0 tr, PA (cxS CX P w K mg base N qual scope f cdv cc A outer s H E) (e :: es) t0 ∧ PSs (cxS CX P w K mg base N qual scope f cdv cc A outer s H E) rest tr ∧
      ∃ a, vs[0]? = some (.ref a) ∧ H a = some (exo a C none) ∧ t0 (L2.start N vs) H fun us H1 => us.length ≤ 1000 ∧ H1 a = some (exo a C none) ∧ tr { nx := fun _ H' => Q .non H', rt := Q } (L2.start N vs) H1)
    (hi : ∀ L, interactive (envS qual scope L f cdv cc) = false) (hsw : ∀ L, swapsWith (.Call (.Attribute (.Call (.Name "super" p0) [] [] p1) "__init__" apos) (e :: es) [] pos) none epos.line (envS qual scope L f cdv cc) = pure false)
    (he : ∀ L, starEach (e :: es) (envS qual scope L f cdv cc) = (false, eval e (envS qual scope L f cdv cc)) :: starEach es (envS qual scope L f cdv cc)) (hpl : ∀ L, (backTo pos (starEach es (envS qual scope L f cdv cc))).any (·.1) = false)
    (hev : ∀ L, eval (.Call (.Attribute (.Call (.Name "super" p0) [] [] p1) "__init__" apos) (e :: es) [] pos) (envS qual scope L f cdv cc) = (do
      let ov ← attributeBase (.Call (.Name "super" p0) [] [] p1) "__init__" (envS qual scope L f cdv cc) (eval (.Call (.Name "super" p0) [] [] p1) (envS qual scope L f cdv cc))
      standAt apos.atName
      let (g, first) ← holding [ov] (getMethod ov "__init__" (pure false))
      callWith pos g first (backTo pos (starEach (e :: es) (envS qual scope L f cdv cc))) [])) :
    FnOk P w K mg base CX (k + 1) f fd ps sp := by
  obtain ⟨kV, doc, pm, an, ct, oc, od, osl, efd, lk⟩ := F.ex
  refine ⟨len, fun A outer s H args us vs Q E hr e0 hbd r hsp => ?_⟩
  have hl := len _ _ _ _ hsp
  have KX : K.In s.heap := e0.mod.kin.keeps fun b o z => (e0.bs b o z).1
  have lim : s.heap.NoLimit := e0.mod.nolimit.keeps fun b o z => (e0.bs b o z).1
  obtain ⟨cl, cld, csl, hcell⟩ := S.cell
  subst efd
  refine PySem.ks_codeAny_call_defAt (fd := PySem.W.ksFn x qual params _ scope .none kV doc pm an cdv ct cc) (binds := ps.zip us) hr.depth (KX _ _ lk) rfl lim (PySem.W.codeRec_of KX F.code) rfl hbd Sc.nocell (fun y hy => ?_) (fun h1 ns keep => ?_) Sc.co Sc.gen Sc.kind
  · obtain ⟨n, v⟩ := y
    exact Sc.par n (List.of_mem_zip hy).1
  have I := inv_startS (CX := CX) (qual := qual) (f := f) (cd := cdv) (E := E) (tk := s.toks + (ps.zip us).length) Sc hr.hd e0 hl r hcell ns keep
  obtain ⟨t0, tr, pa, pr, a, ev, ea, q⟩ := hb A outer s H vs Q E hsp
  have h0 : (L2.start N vs)[0]? = some (some (.ref a)) := by
    unfold L2.start
    have hlt : 0 < vs.length := by
      rcases vs with _ | ⟨v, vs⟩
      · simp at ev
      · exact Nat.succ_pos _
    rw [List.getElem?_append_left (by simpa using hlt), List.getElem?_map, ev]; rfl
  have run := sup_run (X := cxS CX P w K mg base N qual scope f cdv cc A outer s H E) (body := .Expr (.Call (.Attribute (.Call (.Name "super" p0) [] [] p1) "__init__" apos) (e :: es) [] pos) epos :: rest) (L := s.heap.objs.size) (Qn := fun H1 => tr { nx := fun _ H' => Q .non H', rt := Q } (L2.start N vs) H1) S rfl hm Sc.sup Sc.free hp
    (Sc.par _ (by rw [← Sc.pre]; exact List.mem_of_getElem? hN)) hN h0 I ea pa q (he _) (hpl _) (hev _)
  refine PySem.ks_wpAt_execs_cons (PySem.ks_wpAt_Expr_any (PySem.ks_wpAt_mono run (fun _ s' hh => ?_) fun _ _ z => z) (hi _) (hsw _))
  obtain ⟨H1, I1, q1⟩ := hh
  refine wpAt_of_wpAny (wpAny_mono (pr.run [] _ _ _ _ I1 q1) (fun fl s2 got => ?_) fun _ _ z => z)
  cases fl with
  | ret u =>
    obtain ⟨v, σ', H2, J, rv, q⟩ := got
    exact endS J rv q
  | next =>
    obtain ⟨σ', H2, J, q⟩ := got
    exact endS (v := .non) (u := .none) J rfl q
  | brk =>
    obtain ⟨_, _, _, q⟩ := got
    exact False.elim q
  | cont =>
    obtain ⟨_, _, _, q⟩ := got
    exact False.elim q
end
end AL
/-! AL17: raise of such exceptions, try, the fields of a caught one. -/
namespace AL
open PySem PySem.Spec
open PyProof.Rows L2
/-- what the making of such an exception comes to -/
def spS (K : PySem.W.Frag) (C : Addr) (fs : List Str) (a0 : ATE) : Sp := fun vs H Q _ => ∃ (a : Addr) (ws : List V) (A : List Addr) (S : Sto) (ds : List D) (R : D → Sto → Prop), vs = .ref a :: ws ∧ ds.length = fs.length ∧ H a = some (exo a C none) ∧ a ∉ A ∧ MtS K A H S ∧ RpL K A H ds ws ∧
  a0 (none :: ds.map some) S (fun _ _ => False) R ∧ ∀ A2 H2 S2 d dx H3, Up K A H A2 H2 → MtS K A2 H2 S2 → R d S2 → H2 dx = none → dx ≠ a → H3 a = some (exo a C (some dx)) → H3 dx = some (exd dx (fs.zip ws).reverse) → (∀ b, b ≠ a → b ≠ dx → H3 b = H2 b) → Q .non H3
/-- the class cl makes its exceptions so -/
def XD (P : Program) (w : World) (K : PySem.W.Frag) (mg : Str → Option Value) (base : Heap) (cl : Str) (fs : List Str) (a0 : ATE) (k : Nat) : Prop :=
  ∃ f fd ps, FnOk P w K mg base (L2.CX P w) k f fd ps (spS K (He.ga K cl) fs a0) ∧ OexC K (He.ga K cl) ∧ PySem.W.findIn K (.ref (He.ga K cl)) "__init__" = some (some (.ref f)) ∧ PySem.W.typeIn K (.ref f) = some (.type "function") ∧ mg cl = some (.ref (He.ga K cl)) ∧ Binds K fd ps []
theorem XD.mono {P : Program} {w : World} {K : PySem.W.Frag} {mg : Str → Option Value} {base : Heap} {cl : Str} {fs : List Str} {a0 : ATE} {j k : Nat} (h : XD P w K mg base cl fs a0 j) (hj : j ≤ k) : XD P w K mg base cl fs a0 k := let ⟨f, fd, ps, o, r⟩ := h; ⟨f, fd, ps, o.mono hj, r⟩
theorem mt_sup {K : PySem.W.Frag} {A : List Addr} {H : Hp} {N : List Str} {ds : List D} {ws : List V} {v : V} (hN : N.length = ws.length + 1) (r : RpL K A H ds ws) : Mt K A H (none :: ds.map some) (L2.start N (v :: ws)) := by
  have hl := r.length
  refine ⟨by unfold L2.start; simp [hl, hN], fun i d e => ?_⟩
  cases i with
  | zero => simp at e
  | succ i =>
    rw [List.getElem?_cons_succ, List.getElem?_map] at e
    obtain ⟨d', e1, e2⟩ := Option.map_eq_some_iff.mp e
    cases e2
    obtain ⟨u, e3, ru⟩ := r.get e1
    refine ⟨u, ?_, ru⟩
    unfold L2.start
    rw [List.getElem?_append_left (by have := ltOf e3; simp; omega), List.map_cons, List.getElem?_cons_succ, List.getElem?_map, e3]; rfl
section
variable {P : Program} {w : World} {K : PySem.W.Frag} {mg : Str → Option Value} {base : Heap} {x qual : Str} {params : Arguments} {rest : List Stmt} {scope : Scope} {cc f : Addr} {fd : FuncData} {cdv : Value} {k : Nat}
  {ar : Arg} {p0 p1 apos pos epos : Pos} {e : Expr} {cl f1 f2 : Str} {a0 : ATE}
theorem slot_at {N : List Str} {vs : List V} {i : Nat} {v : V} (h : vs[i]? = some v) : (L2.start N vs)[i]? = some (some v) := by
  unfold L2.start
  rw [List.getElem?_append_left (by have := ltOf h; simpa using this), List.getElem?_map, h]; rfl
/-- two fields -/
theorem xd_two (F : FunS K x qual params (.Expr (.Call (.Attribute (.Call (.Name "super" p0) [] [] p1) "__init__" apos) [e] [] pos) epos :: rest) scope cc f fd cdv) (S : SupC P K (He.ga K cl) f cc fd cdv) {N : List Str} (Sc : SupScope N N scope) (hm : mg "super" = none)
    (hp : (params.posonlyargs ++ params.args).head? = some ar) (hN : N[0]? = some ar.arg) (len : N.length = 3) (n1 : PySem.W.findIn K (.ref (He.ga K cl)) f1 = some none) (n2 : PySem.W.findIn K (.ref (He.ga K cl)) f2 = some none)
    (ha : ∀ A outer s H E, AA (cxS (L2.CX P w) P w K mg base N qual scope f cdv cc A outer s H E) W0 [e] (aCons a0 aNil))
    (hr : ∀ A outer s H E, PSs (cxS (L2.CX P w) P w K mg base N qual scope f cdv cc A outer s H E) rest (tSeq (tOst K f1 (tVar 0) (tVar 1)) (tOst K f2 (tVar 0) (tVar 2))))
    (iC : PySem.W.findIn K (.ref (He.ga K cl)) "__init__" = some (some (.ref f))) (tI : PySem.W.typeIn K (.ref f) = some (.type "function")) (gC : mg cl = some (.ref (He.ga K cl))) (hb : Binds K fd N [])
    (hi : ∀ L, interactive (envS qual scope L f cdv cc) = false) (hsw : ∀ L, swapsWith (.Call (.Attribute (.Call (.Name "super" p0) [] [] p1) "__init__" apos) [e] [] pos) none epos.line (envS qual scope L f cdv cc) = pure false)
    (he : ∀ L, starEach [e] (envS qual scope L f cdv cc) = (false, eval e (envS qual scope L f cdv cc)) :: starEach [] (envS qual scope L f cdv cc)) (hpl : ∀ L, (backTo pos (starEach [] (envS qual scope L f cdv cc))).any (·.1) = false)
    (hev : ∀ L, eval (.Call (.Attribute (.Call (.Name "super" p0) [] [] p1) "__init__" apos) [e] [] pos) (envS qual scope L f cdv cc) = (do
      let ov ← attributeBase (.Call (.Name "super" p0) [] [] p1) "__init__" (envS qual scope L f cdv cc) (eval (.Call (.Name "super" p0) [] [] p1) (envS qual scope L f cdv cc))
      standAt apos.atName
      let (g, first) ← holding [ov] (getMethod ov "__init__" (pure false))
      callWith pos g first (backTo pos (starEach [e] (envS qual scope L f cdv cc))) [])) :
    XD P w K mg base cl [f1, f2] a0 (k + 1) := by
  refine ⟨f, fd, N, fn_sup F S Sc hm hp hN (fun vs H Q E hs => ?_) (fun A outer s H vs Q E hs => ?_) hi hsw he hpl hev, S.o, iC, tI, gC, hb⟩
  · obtain ⟨a, ws, A, S, ds, R, rfl, hl, _, _, _, r, _⟩ := hs
    have := r.length
    simp only [List.length_cons, List.length_nil] at hl ⊢
    omega
  · obtain ⟨a, ws, A0, S0, ds, R, rfl, hl, ea, na, m, r, q0, fin⟩ := hs
    obtain ⟨t0, p0', l0⟩ := ha A outer s H E
    refine ⟨t0, _, p0', hr A outer s H E, a, rfl, ea, ?_⟩
    have lr := r.length
    simp only [List.length_cons, List.length_nil] at hl
    rw [hl] at lr
    obtain ⟨w1, w2, rfl⟩ : ∃ w1 w2, ws = [w1, w2] := by
      match ws, lr with
      | [w1, w2], _ => exact ⟨w1, w2, rfl⟩
      | [], h => simp at h
      | [_], h => simp at h
      | _ :: _ :: _ :: _, h => simp at h
    refine l0 _ H A0 (none :: ds.map some) S0 _ (fun l S1 => match l with | [x] => R x S1 | _ => False) _ m (mt_sup (by rw [len]; rfl) r) q0 (fun us H1 ds1 A1 S1 u1 m1 r1 q1 => ?_) kx0
    match ds1, q1 with
    | [d1], q1 =>
      have ea1 : H1 a = some (exo a (He.ga K cl) none) := u1.fr a _ ea na
      refine ⟨by rw [← r1.length]; simp, ea1, ?_⟩
      refine ⟨w1, slot_at rfl, .ref a, slot_at rfl, a, _, rfl, S.o, n1, .inl ⟨ea1, fun dx nx ne => ?_⟩⟩
      refine ⟨w2, slot_at rfl, .ref a, slot_at rfl, a, _, rfl, S.o, n2, .inr ⟨dx, [(f1, w1)], upd_same, by rw [upd_ne ne, upd_same], by simp, ?_⟩⟩
      refine fin A1 H1 S1 d1 dx _ u1 m1 q1 nx ne ?_ upd_same fun b h1 h2 => ?_
      · rw [upd_ne (Ne.symm ne), upd_same]
      · rw [upd_ne h2, upd_ne h1, upd_ne h2]
/-- one field -/
theorem xd_one (F : FunS K x qual params (.Expr (.Call (.Attribute (.Call (.Name "super" p0) [] [] p1) "__init__" apos) [e] [] pos) epos :: rest) scope cc f fd cdv) (S : SupC P K (He.ga K cl) f cc fd cdv) {N : List Str} (Sc : SupScope N N scope) (hm : mg "super" = none)
    (hp : (params.posonlyargs ++ params.args).head? = some ar) (hN : N[0]? = some ar.arg) (len : N.length = 2) (n1 : PySem.W.findIn K (.ref (He.ga K cl)) f1 = some none)
    (ha : ∀ A outer s H E, AA (cxS (L2.CX P w) P w K mg base N qual scope f cdv cc A outer s H E) W0 [e] (aCons a0 aNil))
    (hr : ∀ A outer s H E, PSs (cxS (L2.CX P w) P w K mg base N qual scope f cdv cc A outer s H E) rest (tOst K f1 (tVar 0) (tVar 1)))
    (iC : PySem.W.findIn K (.ref (He.ga K cl)) "__init__" = some (some (.ref f))) (tI : PySem.W.typeIn K (.ref f) = some (.type "function")) (gC : mg cl = some (.ref (He.ga K cl))) (hb : Binds K fd N [])
    (hi : ∀ L, interactive (envS qual scope L f cdv cc) = false) (hsw : ∀ L, swapsWith (.Call (.Attribute (.Call (.Name "super" p0) [] [] p1) "__init__" apos) [e] [] pos) none epos.line (envS qual scope L f cdv cc) = pure false)
    (he : ∀ L, starEach [e] (envS qual scope L f cdv cc) = (false, eval e (envS qual scope L f cdv cc)) :: starEach [] (envS qual scope L f cdv cc)) (hpl : ∀ L, (backTo pos (starEach [] (envS qual scope L f cdv cc))).any (·.1) = false)
    (hev : ∀ L, eval (.Call (.Attribute (.Call (.Name "super" p0) [] [] p1) "__init__" apos) [e] [] pos) (envS qual scope L f cdv cc) = (do
      let ov ← attributeBase (.Call (.Name "super" p0) [] [] p1) "__init__" (envS qual scope L f cdv cc) (eval (.Call (.Name "super" p0) [] [] p1) (envS qual scope L f cdv cc))
      standAt apos.atName
      let (g, first) ← holding [ov] (getMethod ov "__init__" (pure false))
      callWith pos g first (backTo pos (starEach [e] (envS qual scope L f cdv cc))) [])) :
    XD P w K mg base cl [f1] a0 (k + 1) := by
  refine ⟨f, fd, N, fn_sup F S Sc hm hp hN (fun vs H Q E hs => ?_) (fun A outer s H vs Q E hs => ?_) hi hsw he hpl hev, S.o, iC, tI, gC, hb⟩
  · obtain ⟨a, ws, A, S, ds, R, rfl, hl, _, _, _, r, _⟩ := hs
    have := r.length
    simp only [List.length_cons, List.length_nil] at hl ⊢
    omega
  · obtain ⟨a, ws, A0, S0, ds, R, rfl, hl, ea, na, m, r, q0, fin⟩ := hs
    obtain ⟨t0, p0', l0⟩ := ha A outer s H E
    refine ⟨t0, _, p0', hr A outer s H E, a, rfl, ea, ?_⟩
    have lr := r.length
    simp only [List.length_cons, List.length_nil] at hl
    rw [hl] at lr
    obtain ⟨w1, rfl⟩ : ∃ w1, ws = [w1] := by
      match ws, lr with
      | [w1], _ => exact ⟨w1, rfl⟩
      | [], h => simp at h
      | _ :: _ :: _, h => simp at h
    refine l0 _ H A0 (none :: ds.map some) S0 _ (fun l S1 => match l with | [x] => R x S1 | _ => False) _ m (mt_sup (by rw [len]; rfl) r) q0 (fun us H1 ds1 A1 S1 u1 m1 r1 q1 => ?_) kx0
    match ds1, q1 with
    | [d1], q1 =>
      have ea1 : H1 a = some (exo a (He.ga K cl) none) := u1.fr a _ ea na
      refine ⟨by rw [← r1.length]; simp, ea1, ?_⟩
      refine ⟨w1, slot_at rfl, .ref a, slot_at rfl, a, _, rfl, S.o, n1, .inl ⟨ea1, fun dx nx ne => ?_⟩⟩
      refine fin A1 H1 S1 d1 dx _ u1 m1 q1 nx ne upd_same ?_ fun b h1 h2 => ?_
      · rw [upd_ne ne, upd_same]; rfl
      · rw [upd_ne h1, upd_ne h2]
end
end AL
namespace AL
open PySem PySem.Spec
open PyProof.Rows L2
section
variable {K : PySem.W.Frag} {A A1 A2 : List Addr} {H H1 H2 H3 : Hp} {S S2 : Sto}
theorem rpk_zip : ∀ {fs : List Str} {ds : List D} {ws : List V}, RpL K A H ds ws → RpK K A H Str (fs.zip ds) (fs.zip ws)
  | [], _, _, _ => .nil
  | f :: fs, [], _, r => by cases r; exact .nil
  | f :: fs, d :: ds, _, r => by
    cases r
    rename_i r1 r2
    exact .cons ⟨rfl, r1⟩ (rpk_zip r2)
theorem rpk_app {κ : Type} {a b : List (κ × D)} {c e : List (κ × V)} (h : RpK K A H κ a c) (g : RpK K A H κ b e) : RpK K A H κ (a ++ b) (c ++ e) := by
  induction h with
  | nil => exact g
  | cons h1 _ ih => exact .cons h1 ih
theorem rpk_rev {κ : Type} {a : List (κ × D)} {c : List (κ × V)} (h : RpK K A H κ a c) : RpK K A H κ a.reverse c.reverse := by
  induction h with
  | nil => exact .nil
  | cons h1 _ ih =>
    simp only [List.reverse_cons]
    exact rpk_app ih (.cons h1 .nil)
theorem exc_heap {a C dx : Addr} {gs : List (Str × V)} (u : Up K A1 (upd H1 a (exo a C none)) A2 H2) (hn : H1 a = none) (na : a ∉ A1) (m : MtS K A2 H2 S2) (nx : H2 dx = none) (ne : dx ≠ a) (same : ∀ b, b ≠ a → b ≠ dx → H3 b = H2 b) :
    Up K A1 H1 A2 (upd (L2.del H3 a) dx (.xd gs)) ∧ MtS K A2 (upd (L2.del H3 a) dx (.xd gs)) S2 ∧ H1 dx = none := by
  have ea : H2 a = some (exo a C none) := u.fr a _ upd_same na
  have na2 : a ∉ A2 := fun z => by
    have q := u.new a z na
    rw [upd_same] at q
    cases q
  have nd2 : dx ∉ A2 := m.notin nx
  have fin : ∀ b, b ≠ a → b ≠ dx → (upd (L2.del H3 a) dx (.xd gs) : Hp) b = H2 b := fun b h1 h2 => by rw [upd_ne h2, L2.del_ne h1, same b h1 h2]
  have at2 : ∀ {b : Addr} {vs : List V}, SqT K H2 b vs → SqT K (upd (L2.del H3 a) dx (.xd gs)) b vs := by
    intro b vs h
    have key : ∀ {o : HO}, H2 b = some o → (∀ e : Addr, o ≠ exo e C none) → (upd (L2.del H3 a) dx (.xd gs) : Hp) b = some o := fun {o} q no => by
      rw [fin b (fun z => ?_) (fun z => ?_)]
      · exact q
      · rw [z, ea] at q; cases q; exact no a rfl
      · rw [z, nx] at q; cases q
    rcases h with (h | ⟨ob, h⟩) | h
    · exact .inl (.inl (key h fun e z => exo_tup z.symm))
    · exact .inl (.inr ⟨ob, key h fun e z => exo_frz z.symm⟩)
    · exact .inr h
  have d1 : H1 dx = none := by
    cases q : H1 dx with
    | none => rfl
    | some o =>
      have q2 : (upd H1 a (exo a C none)) dx = some o := by rw [upd_ne ne]; exact q
      by_cases hd : dx ∈ A1
      · exact absurd (List.IsPrefix.subset u.pre hd) nd2
      · rw [u.fr dx o q2 hd] at nx; cases nx
  refine ⟨⟨⟨u.pre, fun b vs h => at2 (u.tup b vs ?_)⟩, fun b o q nb => ?_, fun b hb nb => ?_⟩, ⟨m.len, m.nd, fun i o b e1 e2 => (m.ok i o b e1 e2).keep ?_ ⟨List.prefix_refl _, fun _ _ h => at2 h⟩⟩, d1⟩
  · exact (Up.lay (K := K) (A := A1) (o := exo a C none) hn).tup b vs h
  · have hba : b ≠ a := fun z => by rw [z, hn] at q; cases q
    have q2 : (upd H1 a (exo a C none)) b = some o := by rw [upd_ne hba]; exact q
    have q3 := u.fr b o q2 nb
    rw [fin b hba (fun z => by rw [z, nx] at q3; cases q3)]
    exact q3
  · have q := u.new b hb nb
    have hba : b ≠ a := fun z => by rw [z, upd_same] at q; cases q
    rw [upd_ne hba] at q
    exact q
  · have hb := List.mem_of_getElem? e2
    exact fin b (fun z => na2 (z ▸ hb)) (fun z => nd2 (z ▸ hb))
end
section
variable {X : Cx} {W : WX} {e : Expr} {es : List Expr} {t' : ATA} {cl : Str} {fs : List Str} {a0 : ATE} {k : Nat} {p pos pos' : Pos}
/-- raise cl(..) -/
def aRaise (cl : Str) (fs : List Str) (a0 : ATE) (t : ATA) : ATS := fun D ρ S => t ρ S (fun x S1 => D.ex x ρ S1) fun ds S1 => ds.length = fs.length ∧ a0 (none :: ds.map some) S1 (fun _ _ => False) fun _ S2 => D.ex ⟨cl, some S2.length⟩ ρ (S2 ++ [.xd (fs.zip ds).reverse])
theorem as_raise (hc : X.calm = true) (tk : Takes X W) (h : XD X.prog X.w X.K X.mg X.base cl fs a0 k) (hr : RG (k + 1) X.A) (ha : AA X W (e :: es) t') (few : fs.length ≤ 1000 := by decide) (hg : Gl X cl := by rfl) (hdb : (cl == ("__debug__" : Str)) = false := by decide)
    (he : starEach (e :: es) X.env = (false, eval e X.env) :: starEach es X.env := by rfl) (hpl : (backTo pos (starEach es X.env)).any (·.1) = false := by rfl) : AS X W (.Raise (some (.Call (.Name cl p) (e :: es) [] pos)) none pos') (aRaise cl fs a0 t') := by
  obtain ⟨f, fd, ps, F, T, iC, tI, gC, hb⟩ := h
  obtain ⟨ta, pa, la⟩ := ha
  refine ⟨_, ps_raise hc tk (pmk_oex (dvs := []) (ds := []) T iC tI F hr.rm hb .nil passL hg gC pa hdb he hpl), fun σ H A ρ S D AD m mt q k => ?_⟩
  refine la σ H A ρ S _ _ _ m mt q (fun vs H1 ds A1 S1 u1 m1 r1 q1 => ?_) (k.ex.at mt)
  obtain ⟨hl, q0⟩ := q1
  refine ⟨by rw [← r1.length, hl]; exact few, fun a hn => ?_⟩
  have na : a ∉ A1 := m1.notin hn
  have up : Up X.K A1 H1 A1 (upd H1 a (exo a (He.ga X.K cl) none)) := Up.lay hn
  refine ⟨a, vs, A1, S1, ds, _, by rw [List.append_nil], hl, upd_same, na, m1.lay hn, r1.mono up, q0, fun A2 H2 S2 d dx H3 u2 m2 q2 nx ne e1 e2 same => ⟨rfl, dx, _, e1, e2, ?_, ?_⟩⟩
  · exact (exc_heap (gs := []) u2 hn na m2 nx ne same).2.2
  · obtain ⟨uf, mf, nd⟩ := exc_heap (gs := (fs.zip vs).reverse) u2 hn na m2 nx ne same
    have nd2 : dx ∉ A2 := m2.notin nx
    have ua : Up X.K A1 H1 (A2 ++ [dx]) (upd (L2.del H3 a) dx (.xd (fs.zip vs).reverse)) := ⟨⟨uf.pre.trans (List.prefix_append _ _), uf.tup⟩, uf.fr, fun b hb nb => by
      rcases inApp hb with hb | hb
      · exact uf.new b hb nb
      · rw [List.mem_singleton.mp hb]; exact nd⟩
    have uw : Uw X.K A2 (upd (L2.del H3 a) dx (.xd (fs.zip vs).reverse)) (A2 ++ [dx]) (upd (L2.del H3 a) dx (.xd (fs.zip vs).reverse)) := ⟨List.prefix_append _ _, fun _ _ h => h⟩
    refine k.ex ⟨cl, some S2.length⟩ _ _ σ _ ρ (A2 ++ [dx]) (S2 ++ [.xd (fs.zip ds).reverse]) (u1.trans ua) ⟨by simp [mf.len], ?_, fun i o b e1 e2 => ?_⟩ (mt.mono (u1.trans ua)) ⟨rfl, .inr ⟨_, dx, rfl, rfl, by rw [m2.len]; exact alloc_at⟩⟩ q2
    · rw [List.nodup_append]
      refine ⟨mf.nd, by simp, fun x hx y hy z => ?_⟩
      rw [List.mem_singleton.mp hy] at z
      exact nd2 (z ▸ hx)
    · by_cases hi : i < A2.length
      · rw [List.getElem?_append_left hi] at e2
        rw [List.getElem?_append_left (by rw [mf.len]; exact hi)] at e1
        exact (mf.ok i o b e1 e2).keep rfl uw
      · have hi' : i = A2.length := by
          have := (List.getElem?_eq_some_iff.mp e2).1
          simp at this; omega
        subst hi'
        rw [List.getElem?_append_right (Nat.le_refl _)] at e2
        rw [List.getElem?_append_right (by rw [mf.len]; exact Nat.le_refl _), mf.len] at e1
        simp at e1 e2
        subst e1; subst e2
        exact ⟨_, upd_same, rpk_rev (rpk_zip (r1.mono ua))⟩
end
end AL
/-! AL18: try. -/
namespace AL
open PySem PySem.Spec
open PyProof.Rows L2
/-- the reading that the abstract one gives -/
def cS (K : PySem.W.Frag) (W : WX) (a : ATS) : TS := fun D σ H => ∃ A ρ S AD, MtS K A H S ∧ Mt K A H ρ σ ∧ a AD ρ S ∧ KS K A H W D AD
theorem ASs.can {X : Cx} {W : WX} {st : List Stmt} {a : ATS} (h : ASs X W st a) : PSs X st (cS X.K W a) := by
  obtain ⟨t, p, l⟩ := h
  exact ⟨fun pins s σ H D I ⟨A, ρ, S, AD, m, mt, q, k⟩ => p.run pins s σ H D I (l σ H A ρ S D AD m mt q k)⟩
def lkB : List (Str × Bool) → Str → Option Bool
  | [], _ => none
  | (y, b) :: r, x => if x = y then some b else lkB r x
def TabOk (K : PySem.W.Frag) (c : Value) (l : List (Str × Bool)) : Prop := ∀ x b, lkB l x = some b → PySem.W.exmOne K (.ref (He.ga K x)) c = some b
/-- what a suite's end is: the name is gone -/
def exEnds (D : AEnds) (i : Nat) : AEnds := { nx := fun ρ S => D.nx (ρ.set i none) S, rt := D.rt, ex := fun _ _ _ => False, bk := fun ρ S => D.bk (ρ.set i none) S, ct := fun ρ S => D.ct (ρ.set i none) S }
/-- try: .. except cl as n: .. -/
def aTryAs (tab : List (Str × Bool)) (cl : Str) (i : Nat) (ab : ATS) (su : Addr → Addr → ATS) : ATS := fun D ρ S => ab { D with ex := fun x ρ' S' => match lkB tab x.cls with
  | some true => x.cls = cl ∧ ∃ j, x.fs = some j ∧ ∀ a d, su a d (exEnds D i) (sset ρ' i (.exn a d j)) S'
  | some false => D.ex x ρ' S'
  | none => False } ρ S
/-- try: .. except cl: .. -/
def aTryOnly (tab : List (Str × Bool)) (ab su : ATS) : ATS := fun D ρ S => ab { D with ex := fun x ρ' S' => match lkB tab x.cls with
  | some true => su { D with ex := fun _ _ _ => False } ρ' S'
  | some false => D.ex x ρ' S'
  | none => False } ρ S
section
variable {X : Cx} {W : WX} {x n cl : Str} {c : Value} {i : Nat} {body suite : List Stmt} {b₀ : Stmt} {np pos pos' : Pos} {ab : ATS} {tab : List (Str × Bool)}
theorem as_tryAs {su : Addr → Addr → ATS} (hs : X.stack = X.env :: X.outer) (hf : X.env.frame = some X.env.locals) (hN : X.N.Nodup) (hi : X.N[i]? = some n) (hln : X.env.kindOf n = some .local) (hc : Names X x c) (tk : Takes X W) (ht : TabOk X.K c tab)
    (hb : ∀ (W : WX) (pn : List (Addr × Obj)) (xe : Value → Shared → Prop), Takes (X.tr pn xe) W → PassesOwn (model X.prog X.w) X.A X.env xe → ASs (X.tr pn xe) W body ab)
    (hsu : ∀ (a : Addr) (oe : Obj) (d : Addr) (pn : List (Addr × Obj)), Zc (.ref (He.ga X.K cl)) (some d) oe → (∃ vs, oe.data = .fields vs) → ASs (X.suite a ((a, oe) :: pn)) W0 (b₀ :: suite) (su a d)) :
    AS X W (.Try body [.ExceptHandler (some (.Name x np)) (some n) (b₀ :: suite) pos'] [] [] pos) (aTryAs tab cl i ab su) := by
  refine ⟨_, ps_try_as (tb := fun W => cS X.K W ab) (ts := fun a cls d D σ H => ∃ dd, d = some dd ∧ cls = .ref (He.ga X.K cl) ∧ cS X.K W0 (su a dd) D σ H) (Wout := W) hs hf hN hi hln hc tk (fun W' pn xe tk' pa => (hb W' pn xe tk' pa).can) (fun a oe cls d pn hz hd => ?_), fun σ H A ρ S D AD m mt q k => ?_⟩
  · refine ⟨fun pins s σ H D I ⟨dd, e1, e2, q⟩ => ?_⟩
    subst e1 e2
    exact (hsu a oe dd pn hz hd).can.run pins s σ H D I q
  · refine ⟨A, ρ, S, _, m, mt, q, k.nx, k.rt, k.bk, k.ct, fun y cc d σ' H' ρ' A' S' u m' mt' er q' => ?_⟩
    obtain ⟨rfl, ed⟩ := er
    dsimp only at q'
    split at q'
    · rename_i e
      obtain ⟨ecl, j, ej, q'⟩ := q'
      rcases ed with ⟨z, _⟩ | ⟨j', dd, e1, e2, e3⟩
      · rw [ej] at z; cases z
      · rw [ej] at e1
        cases e1
        refine ⟨true, ht _ _ e, fun _ a _ => ⟨dd, e2, by rw [ecl], A', _, S', _, m', mt'.set (.exn e3), q' a dd, ?_, k.rt.mono u, ?_, ?_, fun _ _ _ _ _ _ _ _ _ _ _ _ z => z.elim⟩, nofun⟩
        · exact fun σ2 H2 ρ2 A2 S2 u2 m2 mt2 q2 => k.nx _ H2 _ A2 S2 (u.trans u2) m2 mt2.unset q2
        · exact fun σ2 H2 ρ2 A2 S2 u2 m2 mt2 q2 => k.bk _ H2 _ A2 S2 (u.trans u2) m2 mt2.unset q2
        · exact fun σ2 H2 ρ2 A2 S2 u2 m2 mt2 q2 => k.ct _ H2 _ A2 S2 (u.trans u2) m2 mt2.unset q2
    · rename_i e
      exact ⟨false, ht _ _ e, nofun, fun _ => k.ex y _ d σ' H' ρ' A' S' u m' mt' ⟨rfl, ed⟩ q'⟩
    · exact q'.elim
theorem as_tryOnly {su : ATS} (hs : X.stack = X.env :: X.outer) (hf : X.env.frame = some X.env.locals) (hc : Names X x c) (tk : Takes X W) (ht : TabOk X.K c tab)
    (hb : ∀ (W : WX) (pn : List (Addr × Obj)) (xe : Value → Shared → Prop), Takes (X.tr pn xe) W → PassesOwn (model X.prog X.w) X.A X.env xe → ASs (X.tr pn xe) W body ab)
    (hsu : ∀ (a : Addr) (oe : Obj) (pn : List (Addr × Obj)), ASs (X.suite a ((a, oe) :: pn)) W0 (b₀ :: suite) su) :
    AS X W (.Try body [.ExceptHandler (some (.Name x np)) none (b₀ :: suite) pos'] [] [] pos) (aTryOnly tab ab su) := by
  refine ⟨_, ps_try_only (tb := fun W => cS X.K W ab) (ts := fun a cls d => cS X.K W0 su) (Wout := W) hs hf hc tk (fun W' pn xe tk' pa => (hb W' pn xe tk' pa).can) (fun a oe cls d pn hz hd => (hsu a oe pn).can), fun σ H A ρ S D AD m mt q k => ?_⟩
  refine ⟨A, ρ, S, _, m, mt, q, k.nx, k.rt, k.bk, k.ct, fun y cc d σ' H' ρ' A' S' u m' mt' er q' => ?_⟩
  have er' := er
  obtain ⟨rfl, ed⟩ := er
  dsimp only at q'
  split at q'
  · rename_i e
    refine ⟨true, ht _ _ e, fun _ a _ => ⟨A', ρ', S', _, m', mt', q', ?_⟩, nofun⟩
    exact ⟨k.nx.mono u, k.rt.mono u, k.bk.mono u, k.ct.mono u, fun _ _ _ _ _ _ _ _ _ _ _ _ z => z.elim⟩
  · rename_i e
    exact ⟨false, ht _ _ e, nofun, fun _ => k.ex y _ d σ' H' ρ' A' S' u m' mt' er' q'⟩
  · exact q'.elim
/-! ### n.f of a caught exception -/
def xdOf (S : Sto) (j : Nat) : Option (List (Str × D)) := match S[j]? with
  | some (.xd fs) => some fs
  | _ => none
def aXf (a0 d0 : Addr) (f : Str) (ae : ATE) : ATE := fun ρ S E Q => ae ρ S E fun x S1 => match x with
  | .exn a d j => a = a0 ∧ d = d0 ∧ must (xdOf S1 j) fun fs => must (lookF f fs) fun v => Q v S1
  | _ => False
theorem ae_xf {a d : Addr} {oe : Obj} {pn : List (Addr × Obj)} {e : Expr} {ae : ATE} {f : Str} (T : XfC X.K (He.ga X.K cl)) (hno : PySem.W.findIn X.K (.ref (He.ga X.K cl)) f = some none) (hz : Zc (.ref (He.ga X.K cl)) (some d) oe) (hf : ∃ vs, oe.data = .fields vs)
    (he : AE (X.suite a ((a, oe) :: pn)) W e ae) (hb : attributeBase e f X.env (eval e X.env) = eval e X.env := by rfl) : AE (X.suite a ((a, oe) :: pn)) W (.Attribute e f pos) (aXf a d f ae) := by
  obtain ⟨te, pe, le⟩ := he
  refine ⟨_, pe_xf T hno hz hf pe hb, fun σ H A ρ S P Q E m mt h kq kx => le σ H A ρ S _ _ E m mt h (fun v H1 dv A1 S1 u1 m1 r1 q1 => ?_) kx⟩
  cases dv <;> first | exact q1.elim | skip
  rename_i a1 d1 j
  obtain ⟨rfl, rfl, q⟩ := q1
  obtain ⟨fs, e1, q⟩ := of_must q
  obtain ⟨w', e2, q⟩ := of_must q
  cases r1
  rename_i ej
  unfold xdOf at e1
  split at e1
  · rename_i fs' es'
    cases e1
    obtain ⟨gs, g, rk⟩ := m1.ok j _ _ es' ej
    rcases look_ok (f := f) rk with ⟨h1, _⟩ | ⟨d', v, h1, h2, rv⟩
    · rw [e2] at h1; cases h1
    · rw [e2] at h1; cases h1
      exact ⟨rfl, rfl, d1, gs, v, rfl, g, h2, kq _ H1 _ A1 S1 u1 m1 rv q⟩
  · cases e1
end
end AL
/-! AL19: the head with exception classes. -/
namespace AL
open PySem PySem.Spec
open PyProof.Rows L2
abbrev XcV : Type := Option (Str × Str × Arguments × FuncBody × Scope × Addr × List Str × Addr × Value)
/-- an exception class with its own __init__ -/
structure XcD where
  cl : Str
  qual : Str
  params : Arguments
  body : List Stmt
  scope : Scope
  fs : List Str
def xcF (K : PySem.W.Frag) (cl : Str) : Addr := He.ma K (He.ga K cl) "__init__"
def xcObs (K : PySem.W.Frag) (cl : Str) : XcV := match K.lookup (xcF K cl) with
  | some ⟨_, _, .func fd, _⟩ => some (fd.name, fd.qualname, fd.params, fd.body, fd.scope, fd.globals, fd.closure.map (·.1), fd.builtins, fd.defaults)
  | _ => none
def XcD.val (d : XcD) : XcV := some ("__init__", d.qual, d.params, .stmts d.body, d.scope, mainGlobals, ["__class__"], builtinsNs, .none)
def xcC (K : PySem.W.Frag) (cl : Str) : Addr := match K.lookup (xcF K cl) with
  | some ⟨_, _, .func fd, _⟩ => (match fd.closure with
    | [(_, c)] => c
    | _ => 0)
  | _ => 0
def xcV (K : PySem.W.Frag) (cl : Str) : Value := match K.lookup (xcF K cl) with
  | some ⟨_, _, .func fd, _⟩ => fd.code
  | _ => .none
def oexB (K : PySem.W.Frag) (C : Addr) : Bool := (match K.lookup C with
  | some ⟨.type t, _, .cls cd, sl⟩ => (match cd.mro, sl.toList with
    | .ref C' :: bm, [_, _, _, _, some (.builtin n), _] => decide (t = "type") && (decide (C' = C) && (decide (n = "ValueError.__new__") && (!cd.hasDel && (cd.hasDict && PySem.HandSPX.refsVE bm))))
    | _, _ => false)
  | _ => false) && (decide (PySem.W.findIn K (.ref C) "__setattr__" = some (some (.builtin "object.__setattr__"))) && (decide (PySem.W.subIn K (.ref C) (.type "BaseException") = some true) && (decide (PySem.W.typeIn K (.ref C) = some (.type "type")) && PySem.W.keepIn K (.ref C))))
theorem oexB_ok {K : PySem.W.Frag} {C : Addr} (h : oexB K C = true) : OexC K C := by
  obtain ⟨h1, h⟩ := He.ba h
  obtain ⟨h2, h⟩ := He.ba h
  obtain ⟨h3, h⟩ := He.ba h
  obtain ⟨h4, h5⟩ := He.ba h
  refine ⟨?_, of_decide_eq_true h2, of_decide_eq_true h3, of_decide_eq_true h4, h5⟩
  split at h1
  · rename_i t dd cd sl ho
    split at h1
    · rename_i C2 bm k0 k1 k2 k3 n k5 hm hs
      simp only [Bool.and_eq_true, decide_eq_true_eq, Bool.not_eq_true'] at h1
      obtain ⟨rfl, rfl, rfl, q4, q5, q6⟩ := h1
      obtain ⟨cn, bs, mro, ns, qn, hd, sn, sb, ab, col, del⟩ := cd
      dsimp only at hm q4 q5
      subst hm q4 q5
      have es : sl = #[k0, k1, k2, k3, some (.builtin "ValueError.__new__"), k5] := by
        apply Array.ext'
        exact hs
      subst es
      exact ⟨cn, qn, ns, bs, bm, sn, sb, ab, col, dd, k0, k1, k2, k3, k5, ho, q6⟩
    · cases h1
  · cases h1
/-- the whole of what is looked at -/
def xcB (P : Program) (K : PySem.W.Frag) (d : XcD) : Bool :=
  oexB K (He.ga K d.cl) && ((He.Fa.glo d.cl).ok K && (xfB K (He.ga K d.cl) && (decide (PySem.W.findIn K (.ref (He.ga K d.cl)) "__init__" = some (some (.ref (xcF K d.cl)))) && (decide (PySem.W.typeIn K (.ref (xcF K d.cl)) = some (.type "function")) &&
  (PySem.W.codeIn K (xcV K d.cl) d.qual && ((match K.lookup (xcC K d.cl) with
    | some ⟨_, _, .cell (some (.ref D)), _⟩ => decide (D = He.ga K d.cl)
    | _ => false) && ((match xcV K d.cl with
    | .ref cd => (match K.lookup cd with
      | some ⟨_, _, .fields vs, _⟩ => (match (vs[2]? : Option Value) with
        | some (.str file _) => ((P.main.file : Str) == file)
        | _ => false)
      | _ => false)
    | _ => false) && (decide (PySem.W.mroIn K (He.ga K d.cl) (.ref (He.ga K d.cl)) = some true) && (decide ((P.main.scope.names.lookup ("super" : Str)).isSome = false) && (decide (PySem.W.nsIn K PySem.cStatics "thirdparty.any" = some none) &&
  (decide (PySem.W.ks_superIn K (He.ga K d.cl) (He.ga K d.cl) "__init__" = some (some (.builtin "ValueError.__init__"))) && (decide (PySem.W.subIn K (.ref (He.ga K d.cl)) (.type "ValueError") = some true) && d.fs.all fun f => decide (PySem.W.findIn K (.ref (He.ga K d.cl)) f = some none)))))))))))))
/-- what is known of it -/
structure XcOk (P : Program) (K : PySem.W.Frag) (mg : Str → Option Value) (cl qual : Str) (params : Arguments) (body : List Stmt) (scope : Scope) (fs : List Str) : Prop where
  ex : ∃ fd cdv cc, FunS K "__init__" qual params body scope cc (xcF K cl) fd cdv ∧ SupC P K (He.ga K cl) (xcF K cl) cc fd cdv
  glo : mg cl = some (.ref (He.ga K cl))
  xf : XfC K (He.ga K cl)
  init : PySem.W.findIn K (.ref (He.ga K cl)) "__init__" = some (some (.ref (xcF K cl)))
  ty : PySem.W.typeIn K (.ref (xcF K cl)) = some (.type "function")
  no : ∀ f ∈ fs, PySem.W.findIn K (.ref (He.ga K cl)) f = some none
theorem xc_ok {P : Program} {K : PySem.W.Frag} {h : Heap} {mg : Str → Option Value} (X : K.In h) (G : h.Ns mainGlobals mg) {d : XcD} (e : xcObs K d.cl = d.val) (c : xcB P K d = true) : XcOk P K mg d.cl d.qual d.params d.body d.scope d.fs := by
  obtain ⟨c1, c⟩ := He.ba c
  obtain ⟨c2, c⟩ := He.ba c
  obtain ⟨c3, c⟩ := He.ba c
  obtain ⟨c4, c⟩ := He.ba c
  obtain ⟨c5, c⟩ := He.ba c
  obtain ⟨c6, c⟩ := He.ba c
  obtain ⟨c7, c⟩ := He.ba c
  obtain ⟨c8, c⟩ := He.ba c
  obtain ⟨c9, c⟩ := He.ba c
  obtain ⟨c10, c⟩ := He.ba c
  obtain ⟨c11, c⟩ := He.ba c
  obtain ⟨c12, c⟩ := He.ba c
  obtain ⟨c13, c14⟩ := He.ba c
  refine ⟨?_, He.glo_ok X G c2, xfB_ok c3, of_decide_eq_true c4, of_decide_eq_true c5, fun f hf => of_decide_eq_true (List.all_eq_true.mp c14 f hf)⟩
  unfold xcObs at e
  unfold xcV at c6 c8
  unfold xcC at c7
  cases q : K.lookup (xcF K d.cl) with
  | none => (rw [q] at e; cases e)
  | some o =>
    obtain ⟨oc, od, dt, osl⟩ := o
    rw [q] at e c6 c7 c8
    cases dt with
    | func fd =>
      obtain ⟨n1, n2, n3, n4, n5, n6, n7, n8, n9, m1, m2, m3, n13, m4, n15⟩ := fd
      have e2 : (some (n1, n2, n3, n4, n5, n6, n7.map (·.1), n15, n8) : XcV) = (some (("__init__" : Str), d.qual, d.params, FuncBody.stmts d.body, d.scope, mainGlobals, [("__class__" : Str)], builtinsNs, .none) : XcV) := e
      simp only [Prod.mk.injEq, Option.some.injEq] at e2
      obtain ⟨rfl, rfl, rfl, rfl, rfl, rfl, h7, rfl, rfl⟩ := e2
      obtain ⟨cc, rfl⟩ : ∃ cc, n7 = [(("__class__" : Str), cc)] := by
        match n7, h7 with
        | [(y, cc)], h7 =>
          simp only [List.map_cons, List.map_nil, List.cons.injEq, and_true] at h7
          subst h7
          exact ⟨cc, rfl⟩
      dsimp only at c6 c7 c8
      refine ⟨_, n13, cc, ⟨⟨n9, m1, m2, m3, m4, oc, od, osl, rfl, q⟩, c6⟩, ⟨oexB_ok c1, ?_, ⟨oc, od, osl, q⟩, ?_, of_decide_eq_true c9, of_decide_eq_true c10, of_decide_eq_true c11, of_decide_eq_true c12, of_decide_eq_true c13⟩⟩
      · split at c7
        · rename_i cl cld D csl hz
          obtain rfl := of_decide_eq_true c7
          exact ⟨_, _, _, hz⟩
        · cases c7
      · cases n13 <;> first | cases c8 | skip
        rename_i cda
        dsimp only at c8
        split at c8
        · rename_i ccl cdd vs ccs hz
          split at c8
          · rename_i file tf hv
            exact ⟨cda, _, _, vs, _, file, tf, rfl, hz, hv, c8⟩
          · cases c8
        · cases c8
    | _ => cases e
/-! ### the Hook -/
def exB (K : PySem.W.Frag) (l : List (Str × List (Str × Bool))) : Bool := l.all fun p => p.2.all fun q => decide (PySem.W.exmOne K (.ref (He.ga K q.1)) (.ref (He.ga K p.1)) = some q.2)
theorem exB_ok {K : PySem.W.Frag} {l : List (Str × List (Str × Bool))} (h : exB K l = true) (i : Nat) {c : Str} {t : List (Str × Bool)} (e : l[i]? = some (c, t)) : TabOk K (.ref (He.ga K c)) t := by
  have h1 := List.all_eq_true.mp (List.all_eq_true.mp h _ (List.mem_of_getElem? e))
  intro x b hx
  have key : ∀ {t : List (Str × Bool)}, lkB t x = some b → (x, b) ∈ t := by
    intro t
    induction t with
    | nil => intro h; cases h
    | cons p r ih =>
      obtain ⟨y, b'⟩ := p
      intro h
      unfold lkB at h
      split at h
      · rename_i e
        cases h
        subst e
        exact List.mem_cons_self
      · exact List.mem_cons_of_mem _ (ih h)
  exact of_decide_eq_true (h1 _ (key hx))
structure SaysX (P : Program) (fa : List He.Fa) (fn : List He.DefD) (cs : List (Str × D)) (ks : List (Str × List (Str × D))) (xs : List XcD) (es : List (Str × List (Str × Bool))) (w : World) (K : PySem.W.Frag) : Prop where
  k : SaysK fa fn cs ks w K
  v : xs.map (fun d => xcObs K d.cl) = xs.map XcD.val
  x : (xs.all fun d => xcB P K d) = true
  e : exB K es = true
def asX (g : Addr → Option Obj) (n : Nat) : List Addr := PySem.cStatics :: He.asD g n
def obsX (P : Program) (n : Nat) (fa : List He.Fa) (fn : List He.DefD) (cs : List (Str × D)) (ks : List (Str × List (Str × D))) (xs : List XcD) (es : List (Str × List (Str × Bool))) (g : Addr → Option Obj) : (He.AlT × Bool) × (List XcV × Bool) :=
  ((He.obsT fa fn (tabsOf ks) (He.frG g (asX g n)), csB (He.frG g (asX g n)) cs && ksB (He.frG g (asX g n)) ks), (xs.map (fun d => xcObs (He.frG g (asX g n)) d.cl), (xs.all fun d => xcB P (He.frG g (asX g n)) d) && exB (He.frG g (asX g n)) es))
def hookX (P : Program) (n : Nat) (fa : List He.Fa) (fn : List He.DefD) (cs : List (Str × D)) (ks : List (Str × List (Str × D))) (xs : List XcD) (es : List (Str × List (Str × Bool))) : PySem.W.Hook where
  α := (He.AlT × Bool) × (List XcV × Bool)
  obs := fun s => obsX P n fa fn cs ks xs es s.heap.get?
  val := fun w => ((He.valT fn (tabsOf ks) w, true), (xs.map XcD.val, true))
  says := fun w h => ∃ K : PySem.W.Frag, K.In h ∧ SaysX P fa fn cs ks xs es w K
  of := fun _ _ e => ⟨_, He.frG_in, ⟨⟨congrArg (fun z : (He.AlT × Bool) × (List XcV × Bool) => z.1.1) e, (Bool.and_eq_true_iff.mp (congrArg (fun z : (He.AlT × Bool) × (List XcV × Bool) => z.1.2) e)).1, (Bool.and_eq_true_iff.mp (congrArg (fun z : (He.AlT × Bool) × (List XcV × Bool) => z.1.2) e)).2⟩,
    congrArg (fun z : (He.AlT × Bool) × (List XcV × Bool) => z.2.1) e, (Bool.and_eq_true_iff.mp (congrArg (fun z : (He.AlT × Bool) × (List XcV × Bool) => z.2.2) e)).1, (Bool.and_eq_true_iff.mp (congrArg (fun z : (He.AlT × Bool) × (List XcV × Bool) => z.2.2) e)).2⟩⟩
  keeps := fun _ _ _ ⟨K0, kin, c⟩ k => ⟨K0, PySem.W.Frag.In.keeps kin k, c⟩
section
variable {P : Program} {fa : List He.Fa} {fn : List He.DefD} {cs : List (Str × D)} {ks : List (Str × List (Str × D))} {xs : List XcD} {es : List (Str × List (Str × Bool))} {w : World} {K : PySem.W.Frag}
theorem obsX_eq {n : Nat} {g : Addr → Option Obj} {s : Shared} (h : ∀ a, g a = s.heap.get? a) : obsX P n fa fn cs ks xs es g = (hookX P n fa fn cs ks xs es).obs s := by
  have eg : g = s.heap.get? := funext h
  subst eg
  rfl
theorem SaysX.t (s : SaysX P fa fn cs ks xs es w K) : He.SaysD fa fn K := s.k.t
theorem SaysX.xc {h : Heap} {mg : Str → Option Value} (s : SaysX P fa fn cs ks xs es w K) (X : K.In h) (G : h.Ns mainGlobals mg) (i : Nat) {d : XcD} (e : xs[i]? = some d) : XcOk P K mg d.cl d.qual d.params d.body d.scope d.fs := by
  refine xc_ok X G ?_ (List.all_eq_true.mp s.x d (List.mem_of_getElem? e))
  have e2 : (xs.map fun d => xcObs K d.cl)[i]? = (xs.map XcD.val)[i]? := by rw [s.v]
  rw [List.getElem?_map, List.getElem?_map, e] at e2
  exact Option.some.inj e2
end
theorem FunS.binds {K : PySem.W.Frag} {x qual : Str} {params : Arguments} {body : List Stmt} {scope : Scope} {cc f : Addr} {fd : FuncData} {cdv : Value} {ps : List Str} (F : FunS K x qual params body scope cc f fd cdv)
    (h : ∀ (kV doc pm : Value) (an : Option Addr) (ct : Value) (us : List Value), us.length = ps.length → bindArgs (PySem.W.ksFn x qual params body scope .none kV doc pm an cdv ct cc) ⟨us, []⟩ = pure (ps.zip us)) : Binds K fd ps [] := by
  obtain ⟨kV, doc, pm, an, ct, oc, od, osl, rfl, lk⟩ := F.ex
  exact Binds.all fun us hl => h kV doc pm an ct us hl
end AL
namespace Ab
open PySem PySem.Spec
open PyProof.Rows L2 AL
abbrev C_MAX_TEXT : D := (D.int 20000)
abbrev C_MAX_NAME : D := (D.int 20)
abbrev C_RESERVED : D := (D.tup [(D.str "and"), (D.str "as"), (D.str "ask"), (D.str "catch"), (D.str "else"), (D.str "export"), (D.str "false"), (D.str "from"), (D.str "fun"), (D.str "if"), (D.str "import"), (D.str "let"), (D.str "none"), (D.str "not"), (D.str "or"), (D.str "repeat"), (D.str "return"), (D.str "tell"), (D.str "throw"), (D.str "true"), (D.str "try")])
abbrev C_SIGNS : D := (D.tup [(D.str "=="), (D.str "="), (D.str "<"), (D.str "+"), (D.str "-"), (D.str "*"), (D.str "."), (D.str ","), (D.str ";"), (D.str "("), (D.str ")"), (D.str "{"), (D.str "}")])
def e_Malformed : ATE := (aOp oAdd (aOp oAdd (aCB cStr (aCons (aVar 1) aNil)) (aC (.str " "))) (aCB cStr (aCons (aVar 2) aNil)))
def e_Oversized : ATE := (aCB cStr (aCons (aVar 1) aNil))
abbrev TAB_Malformed : List (Str × Bool) := [("Malformed", true), ("Oversized", false)]
def a_is_letter : ATS :=
    (aRet (aOrV (aChain oLe oLe (aC (.str "a")) (aVar 0) (aC (.str "z"))) (aChain oLe oLe (aC (.str "A")) (aVar 0) (aC (.str "Z")))))
abbrev n_is_letter : Nat := 1
def a_is_digit : ATS :=
    (aRet (aChain oLe oLe (aC (.str "0")) (aVar 0) (aC (.str "9"))))
abbrev n_is_digit : Nat := 1
def a_in_name (F_is_letter F_is_digit : AFn) : ATS :=
    (aRet (aOrV (aCall F_is_letter (aCons (aVar 0) aNil)) (aOrV (aCall F_is_digit (aCons (aVar 0) aNil)) (aOp oEq (aVar 0) (aC (.str "_"))))))
abbrev n_in_name : Nat := 1
def a_is_name (F_is_letter F_in_name : AFn) : ATS :=
    (aSeq (aIfS (aOr (aNot (aB (aIsi "str" (aVar 0)))) (aOr (aB (aOp oEq (aVar 0) (aC (.str "")))) (aOr (aB (aOp oGt (aCB cLen (aCons (aVar 0) aNil)) (aC C_MAX_NAME))) (aB (aOp oIn (aVar 0) (aC C_RESERVED)))))) (aRet (aC (.bl false))) aNext)
    (aRet (aAndV (aCall F_is_letter (aCons (aIx (aVar 0) (aC (.int 0))) aNil)) (aCB cAll (aCons (aLc (aiAny (aVar 0)) (agName 1) aYes (aCall F_in_name (aCons (aVar 1) aNil)) [1]) aNil)))))
abbrev n_is_name : Nat := 2
def a_run_end (F_in_name : AFn) : ATS :=
    (aSeq (aWhile (aAnd (aB (aOp oLt (aVar 1) (aCB cLen (aCons (aVar 0) aNil)))) (aB (aCall F_in_name (aCons (aIx (aVar 0) (aVar 1)) aNil)))) (aAsg (aOp oAdd (aVar 1) (aC (.int 1))) (agName 1)))
    (aRet (aVar 1)))
abbrev n_run_end : Nat := 2
def a_comment_end : ATS :=
    (aSeq (aWhile (aAnd (aB (aOp oLt (aVar 1) (aCB cLen (aCons (aVar 0) aNil)))) (aB (aOp oNe (aIx (aVar 0) (aVar 1)) (aC (.str "\n"))))) (aAsg (aOp oAdd (aVar 1) (aC (.int 1))) (agName 1)))
    (aRet (aVar 1)))
abbrev n_comment_end : Nat := 2
def a_read_word (F_run_end : AFn) : ATS :=
    (aSeq (aAsg (aCall F_run_end (aCons (aVar 0) (aCons (aVar 1) aNil))) (agName 3))
    (aSeq (aAsg (aSl (aVar 0) (aPart (aVar 1)) (aPart (aVar 3))) (agName 4))
    (aSeq (aIfS (aB (aOp oIn (aVar 4) (aC C_RESERVED))) (aRet (aTup (aCons (aTup (aCons (aC (.str "word")) (aCons (aVar 4) (aCons (aVar 1) aNil)))) (aCons (aVar 3) aNil)))) aNext)
    (aSeq (aIfS (aB (aOp oGt (aCB cLen (aCons (aVar 4) aNil)) (aC C_MAX_NAME))) (aRaise "Malformed" ["module", "at"] e_Malformed (aCons (aVar 2) (aCons (aVar 1) aNil))) aNext)
    (aRet (aTup (aCons (aTup (aCons (aC (.str "name")) (aCons (aVar 4) (aCons (aVar 1) aNil)))) (aCons (aVar 3) aNil))))))))
abbrev n_read_word : Nat := 5
def a_read_number (F_run_end F_is_digit : AFn) : ATS :=
    (aSeq (aAsg (aCall F_run_end (aCons (aVar 0) (aCons (aVar 1) aNil))) (agName 3))
    (aSeq (aAsg (aSl (aVar 0) (aPart (aVar 1)) (aPart (aVar 3))) (agName 4))
    (aSeq (aIfS (aOr (aB (aOp oGt (aCB cLen (aCons (aVar 4) aNil)) (aC (.int 5)))) (aNot (aB (aCB cAll (aCons (aLc (aiAny (aVar 4)) (agName 5) aYes (aCall F_is_digit (aCons (aVar 5) aNil)) [5]) aNil))))) (aRaise "Malformed" ["module", "at"] e_Malformed (aCons (aVar 2) (aCons (aVar 1) aNil))) aNext)
    (aSeq (aIfS (aOr (aB (aOp oGt (aCB cInt (aCons (aVar 4) aNil)) (aC (.int 65535)))) (aAnd (aB (aOp oEq (aIx (aVar 4) (aC (.int 0))) (aC (.str "0")))) (aB (aOp oGt (aCB cLen (aCons (aVar 4) aNil)) (aC (.int 1)))))) (aRaise "Malformed" ["module", "at"] e_Malformed (aCons (aVar 2) (aCons (aVar 1) aNil))) aNext)
    (aRet (aTup (aCons (aTup (aCons (aC (.str "number")) (aCons (aCB cInt (aCons (aVar 4) aNil)) (aCons (aVar 1) aNil)))) (aCons (aVar 3) aNil))))))))
abbrev n_read_number : Nat := 6
def a_read_string (F_run_end : AFn) : ATS :=
    (aSeq (aAsg (aCall F_run_end (aCons (aVar 0) (aCons (aOp oAdd (aVar 1) (aC (.int 1))) aNil))) (agName 3))
    (aSeq (aIfS (aOr (aB (aOp oEq (aVar 3) (aOp oAdd (aVar 1) (aC (.int 1))))) (aOr (aB (aOp oGt (aOp oSub (aOp oSub (aVar 3) (aVar 1)) (aC (.int 1))) (aC C_MAX_NAME))) (aOr (aB (aOp oGe (aVar 3) (aCB cLen (aCons (aVar 0) aNil)))) (aB (aOp oNe (aIx (aVar 0) (aVar 3)) (aC (.str "\""))))))) (aRaise "Malformed" ["module", "at"] e_Malformed (aCons (aVar 2) (aCons (aVar 1) aNil))) aNext)
    (aRet (aTup (aCons (aTup (aCons (aC (.str "string")) (aCons (aSl (aVar 0) (aPart (aOp oAdd (aVar 1) (aC (.int 1)))) (aPart (aVar 3))) (aCons (aVar 1) aNil)))) (aCons (aOp oAdd (aVar 3) (aC (.int 1))) aNil))))))
abbrev n_read_string : Nat := 4
def a_read_sign : ATS :=
    (aSeq (aFor (aiAny (aC C_SIGNS)) (agName 3) (aIfS (aB (aStarts (aVar 0) (aVar 3) (aVar 1))) (aRet (aTup (aCons (aTup (aCons (aC (.str "sign")) (aCons (aVar 3) (aCons (aVar 1) aNil)))) (aCons (aOp oAdd (aVar 1) (aCB cLen (aCons (aVar 3) aNil))) aNil)))) aNext))
    (aRaise "Malformed" ["module", "at"] e_Malformed (aCons (aVar 2) (aCons (aVar 1) aNil))))
abbrev n_read_sign : Nat := 4
def a_read_token (F_is_letter F_read_word F_is_digit F_read_number F_read_string F_read_sign : AFn) : ATS :=
    (aSeq (aIfS (aB (aCall F_is_letter (aCons (aIx (aVar 0) (aVar 1)) aNil))) (aRet (aCall F_read_word (aCons (aVar 0) (aCons (aVar 1) (aCons (aVar 2) aNil))))) aNext)
    (aSeq (aIfS (aB (aCall F_is_digit (aCons (aIx (aVar 0) (aVar 1)) aNil))) (aRet (aCall F_read_number (aCons (aVar 0) (aCons (aVar 1) (aCons (aVar 2) aNil))))) aNext)
    (aSeq (aIfS (aB (aOp oEq (aIx (aVar 0) (aVar 1)) (aC (.str "\"")))) (aRet (aCall F_read_string (aCons (aVar 0) (aCons (aVar 1) (aCons (aVar 2) aNil))))) aNext)
    (aRet (aCall F_read_sign (aCons (aVar 0) (aCons (aVar 1) (aCons (aVar 2) aNil))))))))
abbrev n_read_token : Nat := 3
def a_tokens (F_comment_end F_read_token : AFn) : ATS :=
    (aSeq (aIfS (aB (aOp oGt (aCB cLen (aCons (aVar 0) aNil)) (aC C_MAX_TEXT))) (aRaise "Oversized" ["limit"] e_Oversized (aCons (aC (.str "text")) aNil)) aNext)
    (aSeq (aAsg (aLst aNil) (agName 2))
    (aSeq (aAsg (aC (.int 0)) (agName 3))
    (aSeq (aWhile (aB (aOp oLt (aVar 3) (aCB cLen (aCons (aVar 0) aNil)))) (aIfS (aB (aOp oIn (aIx (aVar 0) (aVar 3)) (aTup (aCons (aC (.str " ")) (aCons (aC (.str "\t")) (aCons (aC (.str "\n")) aNil)))))) (aAsg (aOp oAdd (aVar 3) (aC (.int 1))) (agName 3)) (aIfS (aB (aOp oEq (aIx (aVar 0) (aVar 3)) (aC (.str "#")))) (aAsg (aCall F_comment_end (aCons (aVar 0) (aCons (aVar 3) aNil))) (agName 3)) (aSeq (aAsg (aCall F_read_token (aCons (aVar 0) (aCons (aVar 3) (aCons (aVar 1) aNil)))) (agTup 2 (agCons (agName 4) (agCons (agName 3) agNil))))
    (aDrop (aAppend (aVar 2) (aVar 4)))))))
    (aRet (aVar 2))))))
abbrev n_tokens : Nat := 5
def a__law_cell : ATS :=
    (aSeq (aIfS (aB (aOp oLt (aVar 1) (aCB cLen (aCons (aVar 0) aNil)))) (aRet (aCB cInt (aCons (aIx (aVar 0) (aVar 1)) aNil))) aNext)
    (aRet (aC (.int 0))))
abbrev n__law_cell : Nat := 2
def a__law_word : ATS :=
    (aSeq (aAsg (aC (.str "abcdefghijklmnopqrstuvwxyzABCDEFGHIJKLMNOPQRSTUVWXYZ")) (agName 1))
    (aSeq (aAsg (aOp oAdd (aVar 1) (aC (.str "0123456789_"))) (agName 2))
    (aSeq (aAsg (aIx (aVar 1) (aOp oMod (aCB cInt (aCons (aVar 0) aNil)) (aC (.int 52)))) (agName 3))
    (aSeq (aAsg (aOp oDiv (aVar 0) (aC (.int 52))) (agName 4))
    (aSeq (aFor (aiRng1 (aCons (aOp oMod (aCB cInt (aCons (aVar 4) aNil)) (aC (.int 20))) aNil)) (agName 5) (aAsg (aOp oAdd (aVar 3) (aIx (aVar 2) (aOp oMod (aCB cInt (aCons (aOp oDiv (aVar 4) (aOp oAdd (aC (.int 3)) (aVar 5))) aNil)) (aC (.int 63))))) (agName 3)))
    (aRet (aVar 3)))))))
abbrev n__law_word : Nat := 6
def a__law_token (F__law_word : AFn) : ATS :=
    (aSeq (aAsg (aOp oMod (aCB cInt (aCons (aVar 0) aNil)) (aC (.int 6))) (agName 1))
    (aSeq (aAsg (aOp oDiv (aVar 0) (aC (.int 6))) (agName 2))
    (aSeq (aIfS (aB (aOp oEq (aVar 1) (aC (.int 0)))) (aSeq (aAsg (aIx (aC C_RESERVED) (aOp oMod (aCB cInt (aCons (aVar 2) aNil)) (aCB cLen (aCons (aC C_RESERVED) aNil)))) (agName 3))
    (aRet (aLst (aCons (aC (.str "word")) (aCons (aVar 3) (aCons (aVar 3) aNil)))))) aNext)
    (aSeq (aIfS (aB (aOp oEq (aVar 1) (aC (.int 1)))) (aSeq (aAsg (aCall F__law_word (aCons (aVar 2) aNil)) (agName 3))
    (aSeq (aIfS (aB (aOp oIn (aVar 3) (aC C_RESERVED))) (aRet (aLst (aCons (aC (.str "word")) (aCons (aVar 3) (aCons (aVar 3) aNil))))) aNext)
    (aRet (aLst (aCons (aC (.str "name")) (aCons (aVar 3) (aCons (aVar 3) aNil))))))) aNext)
    (aSeq (aIfS (aB (aOp oEq (aVar 1) (aC (.int 2)))) (aRet (aLst (aCons (aC (.str "number")) (aCons (aOp oMod (aCB cInt (aCons (aVar 2) aNil)) (aC (.int 65536))) (aCons (aCB cStr (aCons (aOp oMod (aCB cInt (aCons (aVar 2) aNil)) (aC (.int 65536))) aNil)) aNil))))) aNext)
    (aSeq (aIfS (aB (aOp oEq (aVar 1) (aC (.int 3)))) (aSeq (aAsg (aCall F__law_word (aCons (aVar 2) aNil)) (agName 3))
    (aRet (aLst (aCons (aC (.str "string")) (aCons (aVar 3) (aCons (aOp oAdd (aOp oAdd (aC (.str "\"")) (aVar 3)) (aC (.str "\""))) aNil)))))) aNext)
    (aSeq (aAsg (aLst (aCons (aC (.str "==")) (aCons (aC (.str "=")) (aCons (aC (.str "<")) (aCons (aC (.str "+")) (aCons (aC (.str "-")) (aCons (aC (.str "*")) (aCons (aC (.str ".")) (aCons (aC (.str ",")) (aCons (aC (.str ";")) (aCons (aC (.str "(")) (aCons (aC (.str ")")) (aCons (aC (.str "{")) (aCons (aC (.str "}")) aNil)))))))))))))) (agName 4))
    (aSeq (aAsg (aIx (aVar 4) (aOp oMod (aCB cInt (aCons (aVar 2) aNil)) (aC (.int 13)))) (agName 5))
    (aRet (aLst (aCons (aC (.str "sign")) (aCons (aVar 5) (aCons (aVar 5) aNil)))))))))))))
abbrev n__law_token : Nat := 6
def a__law_space : ATS :=
    (aRet (aIx (aLst (aCons (aC (.str " ")) (aCons (aC (.str "\n")) (aCons (aC (.str "\t")) (aCons (aC (.str "  ")) (aCons (aC (.str " # == fun\n")) (aCons (aC (.str "\n\n")) aNil))))))) (aOp oMod (aCB cInt (aCons (aVar 0) aNil)) (aC (.int 6)))))
abbrev n__law_space : Nat := 1
def a__law_bad : ATS :=
    (aRet (aIx (aLst (aCons (aC (.str "@")) (aCons (aC (.str "65536")) (aCons (aC (.str "01")) (aCons (aC (.str "7a")) (aCons (aC (.str "\"")) (aCons (aC (.str "\"a")) (aCons (aC (.str "\"\"")) (aCons (aOp oMul (aC (.str "a")) (aC (.int 21))) (aCons (aC (.str "!")) (aCons (aOp oAdd (aOp oAdd (aC (.str "\"")) (aOp oMul (aC (.str "b")) (aC (.int 21)))) (aC (.str "\""))) (aCons (aC (.str "\"a b\"")) (aCons (aC (.str "$")) aNil))))))))))))) (aOp oMod (aCB cInt (aCons (aVar 0) aNil)) (aC (.int 12)))))
abbrev n__law_bad : Nat := 1
def a_law (F__law_cell F__law_token F__law_space F_tokens F_is_name F__law_bad : AFn) : ATS :=
    (aSeq (aAsg (aC (.str "")) (agName 1))
    (aSeq (aAsg (aLst aNil) (agName 2))
    (aSeq (aFor (aiRng2 (aCons (aC (.int 1)) (aCons (aCB cMin (aCons (aCB cLen (aCons (aVar 0) aNil)) (aCons (aC (.int 61)) aNil))) aNil))) (agName 3) (aSeq (aAsg (aCall F__law_token (aCons (aCB cAbs (aCons (aCall F__law_cell (aCons (aVar 0) (aCons (aVar 3) aNil))) aNil)) aNil)) (agTup 3 (agCons (agName 4) (agCons (agName 5) (agCons (agName 6) agNil)))))
    (aSeq (aDrop (aAppend (aVar 2) (aTup (aCons (aVar 4) (aCons (aVar 5) (aCons (aCB cLen (aCons (aVar 1) aNil)) aNil))))))
    (aAsg (aOp oAdd (aOp oAdd (aVar 1) (aVar 6)) (aCall F__law_space (aCons (aOp oDiv (aCB cAbs (aCons (aCall F__law_cell (aCons (aVar 0) (aCons (aVar 3) aNil))) aNil)) (aC (.int 7))) aNil))) (agName 1)))))
    (aSeq (aAsg (aCall F_tokens (aCons (aVar 1) (aCons (aC (.str "m")) aNil))) (agName 7))
    (aSeq (aIfS (aOr (aNot (aB (aIsi "list" (aVar 7)))) (aB (aOp oNe (aCB cRepr (aCons (aVar 7) aNil)) (aCB cRepr (aCons (aVar 2) aNil))))) (aRet (aC (.bl false))) aNext)
    (aSeq (aFor (aiAny (aVar 2)) (agTup 3 (agCons (agName 4) (agCons (agName 5) (agCons (agName 8) agNil)))) (aIfS (aAnd (aB (aOp oIn (aVar 4) (aLst (aCons (aC (.str "name")) (aCons (aC (.str "word")) aNil))))) (aB (aOp oNe (aCall F_is_name (aCons (aVar 5) aNil)) (aOp oEq (aVar 4) (aC (.str "name")))))) (aRet (aC (.bl false))) aNext))
    (aSeq (aIfS (aOr (aB (aOp oIsNot (aCall F_is_name (aCons (aC (.str "")) aNil)) (aC (.bl false)))) (aOr (aB (aOp oIsNot (aCall F_is_name (aCons (aOp oMul (aC (.str "a")) (aC (.int 21))) aNil)) (aC (.bl false)))) (aOr (aB (aOp oIsNot (aCall F_is_name (aCons (aC (.int 7)) aNil)) (aC (.bl false)))) (aB (aOp oIsNot (aCall F_is_name (aCons (aC (.str "_a")) aNil)) (aC (.bl false))))))) (aRet (aC (.bl false))) aNext)
    (aSeq (aAsg (aCall F__law_bad (aCons (aCB cAbs (aCons (aCall F__law_cell (aCons (aVar 0) (aCons (aC (.int 0)) aNil))) aNil)) aNil)) (agName 9))
    (aSeq (aTryAs TAB_Malformed "Malformed" 10 (aDrop (aCall F_tokens (aCons (aOp oAdd (aOp oAdd (aVar 1) (aVar 9)) (aC (.str " x"))) (aCons (aC (.str "m7")) aNil)))) (fun a d => (aRet (aAndV (aOp oEq (aXf a d "module" (aVar 10)) (aC (.str "m7"))) (aOp oEq (aXf a d "at" (aVar 10)) (aCB cLen (aCons (aVar 1) aNil)))))))
    (aRet (aC (.bl false))))))))))))
abbrev n_law : Nat := 11
end Ab
namespace Lx
open PySem PySem.Spec
open PyProof.Rows L2 AL Ab
def letter (c : Nat) : Bool := (decide (97 ≤ c) && decide (c ≤ 122)) || (decide (65 ≤ c) && decide (c ≤ 90))
def digit (c : Nat) : Bool := decide (48 ≤ c) && decide (c ≤ 57)
def inName (c : Nat) : Bool := letter c || (digit c || decide (c = 95))
theorem cst : Str.ofString "a" = txt [97] ∧ Str.ofString "z" = txt [122] ∧ Str.ofString "A" = txt [65] ∧ Str.ofString "Z" = txt [90] ∧ Str.ofString "0" = txt [48] ∧ Str.ofString "9" = txt [57] ∧ Str.ofString "_" = txt [95] ∧
    Str.ofString "\n" = txt [10] ∧ Str.ofString " " = txt [32] ∧ Str.ofString "\t" = txt [9] ∧ Str.ofString "#" = txt [35] ∧ Str.ofString "\"" = txt [34] := by decide +kernel
def G1 (f : Nat → Bool) : AFn := fun ds S E Q => ∃ c, ds = [.str (txt [c])] ∧ Q (.bl (f c)) S
theorem sp_letter : ∀ ds S E Q, G1 letter ds S E Q → ds.length = 1 ∧ a_is_letter (bodyEnds Q E) (startA 1 ds) S := by
  rintro ds S E Q ⟨c, rfl, q⟩
  refine ⟨rfl, ?_⟩
  have st : startA 1 [.str (txt [c])] = [some (.str (txt [c]))] := rfl
  rw [st]
  unfold a_is_letter
  unfold letter at q
  simp only [eq_self, ev, ev2, ev3, ev4, ofS_inj, bodyEnds, String.reduceEq, decide_false, decide_true, reduceCtorEq, List.length_cons, List.length_nil, Nat.reduceAdd, szs, true_and, flatD, List.all_cons, List.all_nil, Bool.and_self, inF, List.any_cons, List.any_nil, eqF, Bool.or_false, Bool.false_or, Bool.or_true, Bool.true_or, Bool.and_true, Bool.true_and, Bool.and_false, Bool.false_and, Bool.not_true, Bool.not_false, cst]
  cases h1 : decide (97 ≤ c) <;> simp only [h1, eq_self, ev, ev2, ev3, ev4, ofS_inj, bodyEnds, String.reduceEq, decide_false, decide_true, reduceCtorEq, List.length_cons, List.length_nil, Nat.reduceAdd, szs, true_and, flatD, List.all_cons, List.all_nil, Bool.and_self, inF, List.any_cons, List.any_nil, eqF, Bool.or_false, Bool.false_or, Bool.or_true, Bool.true_or, Bool.and_true, Bool.true_and, Bool.and_false, Bool.false_and, Bool.not_true, Bool.not_false] at q ⊢
  · cases h3 : decide (65 ≤ c) <;> simp only [h3, eq_self, ev, ev2, ev3, ev4, ofS_inj, bodyEnds, String.reduceEq, decide_false, decide_true, reduceCtorEq, List.length_cons, List.length_nil, Nat.reduceAdd, szs, true_and, flatD, List.all_cons, List.all_nil, Bool.and_self, inF, List.any_cons, List.any_nil, eqF, Bool.or_false, Bool.false_or, Bool.or_true, Bool.true_or, Bool.and_true, Bool.true_and, Bool.and_false, Bool.false_and, Bool.not_true, Bool.not_false] at q ⊢ <;> exact q
  · cases h2 : decide (c ≤ 122) <;> simp only [h2, eq_self, ev, ev2, ev3, ev4, ofS_inj, bodyEnds, String.reduceEq, decide_false, decide_true, reduceCtorEq, List.length_cons, List.length_nil, Nat.reduceAdd, szs, true_and, flatD, List.all_cons, List.all_nil, Bool.and_self, inF, List.any_cons, List.any_nil, eqF, Bool.or_false, Bool.false_or, Bool.or_true, Bool.true_or, Bool.and_true, Bool.true_and, Bool.and_false, Bool.false_and, Bool.not_true, Bool.not_false] at q ⊢
    · cases h3 : decide (65 ≤ c) <;> simp only [h3, eq_self, ev, ev2, ev3, ev4, ofS_inj, bodyEnds, String.reduceEq, decide_false, decide_true, reduceCtorEq, List.length_cons, List.length_nil, Nat.reduceAdd, szs, true_and, flatD, List.all_cons, List.all_nil, Bool.and_self, inF, List.any_cons, List.any_nil, eqF, Bool.or_false, Bool.false_or, Bool.or_true, Bool.true_or, Bool.and_true, Bool.true_and, Bool.and_false, Bool.false_and, Bool.not_true, Bool.not_false] at q ⊢ <;> exact q
    · exact q
theorem sp_digit : ∀ ds S E Q, G1 digit ds S E Q → ds.length = 1 ∧ a_is_digit (bodyEnds Q E) (startA 1 ds) S := by
  rintro ds S E Q ⟨c, rfl, q⟩
  refine ⟨rfl, ?_⟩
  have st : startA 1 [.str (txt [c])] = [some (.str (txt [c]))] := rfl
  rw [st]
  unfold a_is_digit
  unfold digit at q
  simp only [eq_self, ev, ev2, ev3, ev4, ofS_inj, bodyEnds, String.reduceEq, decide_false, decide_true, reduceCtorEq, List.length_cons, List.length_nil, Nat.reduceAdd, szs, true_and, flatD, List.all_cons, List.all_nil, Bool.and_self, inF, List.any_cons, List.any_nil, eqF, Bool.or_false, Bool.false_or, Bool.or_true, Bool.true_or, Bool.and_true, Bool.true_and, Bool.and_false, Bool.false_and, Bool.not_true, Bool.not_false, cst]
  cases h1 : decide (48 ≤ c) <;> simp only [h1, eq_self, ev, ev2, ev3, ev4, ofS_inj, bodyEnds, String.reduceEq, decide_false, decide_true, reduceCtorEq, List.length_cons, List.length_nil, Nat.reduceAdd, szs, true_and, flatD, List.all_cons, List.all_nil, Bool.and_self, inF, List.any_cons, List.any_nil, eqF, Bool.or_false, Bool.false_or, Bool.or_true, Bool.true_or, Bool.and_true, Bool.true_and, Bool.and_false, Bool.false_and, Bool.not_true, Bool.not_false] at q ⊢ <;> exact q
theorem g1_mk {f : Nat → Bool} {c : Nat} {S : Sto} {E : XA} {Q : VA} (q : Q (.bl (f c)) S) : G1 f [.str (txt [c])] S E Q := ⟨c, rfl, q⟩
theorem sp_inname : ∀ ds S E Q, G1 inName ds S E Q → ds.length = 1 ∧ a_in_name (G1 letter) (G1 digit) (bodyEnds Q E) (startA 1 ds) S := by
  rintro ds S E Q ⟨c, rfl, q⟩
  refine ⟨rfl, ?_⟩
  have st : startA 1 [.str (txt [c])] = [some (.str (txt [c]))] := rfl
  rw [st]
  unfold a_in_name
  unfold inName at q
  simp only [eq_self, ev, ev2, ev3, ev4, ofS_inj, bodyEnds, String.reduceEq, decide_false, decide_true, reduceCtorEq, List.length_cons, List.length_nil, Nat.reduceAdd, szs, true_and, flatD, List.all_cons, List.all_nil, Bool.and_self, inF, List.any_cons, List.any_nil, eqF, Bool.or_false, Bool.false_or, Bool.or_true, Bool.true_or, Bool.and_true, Bool.true_and, Bool.and_false, Bool.false_and, Bool.not_true, Bool.not_false, cst]
  refine g1_mk ?_
  cases h1 : letter c <;> simp only [h1, eq_self, ev, ev2, ev3, ev4, ofS_inj, bodyEnds, String.reduceEq, decide_false, decide_true, reduceCtorEq, List.length_cons, List.length_nil, Nat.reduceAdd, szs, true_and, flatD, List.all_cons, List.all_nil, Bool.and_self, inF, List.any_cons, List.any_nil, eqF, Bool.or_false, Bool.false_or, Bool.or_true, Bool.true_or, Bool.and_true, Bool.true_and, Bool.and_false, Bool.false_and, Bool.not_true, Bool.not_false] at q ⊢
  · refine g1_mk ?_
    cases h2 : digit c <;> simp only [h2, eq_self, ev, ev2, ev3, ev4, ofS_inj, bodyEnds, String.reduceEq, decide_false, decide_true, reduceCtorEq, List.length_cons, List.length_nil, Nat.reduceAdd, szs, true_and, flatD, List.all_cons, List.all_nil, Bool.and_self, inF, List.any_cons, List.any_nil, eqF, Bool.or_false, Bool.false_or, Bool.or_true, Bool.true_or, Bool.and_true, Bool.true_and, Bool.and_false, Bool.false_and, Bool.not_true, Bool.not_false, txt_inj, List.cons.injEq, and_true] at q ⊢ <;> exact q
  · exact q
/-- no sign of a name stands ahead -/
def stop : List Nat → Bool
  | [] => true
  | c :: _ => !inName c
def GRun : AFn := fun ds S E Q => ∃ p w r, ds = [.str (txt (p ++ w ++ r)), .int (p.length : Nat)] ∧ (p ++ w ++ r).length ≤ sizeLine ∧ w.all inName = true ∧ stop r = true ∧ Q (.int (p.length + w.length : Nat)) S
theorem while_mk {t : ATT} {body : ATS} {D : AEnds} {ρ : Rho} {S : Sto} (h : ∃ Wv : Nat → Rho → Sto → Prop, (∃ m, Wv m ρ S) ∧ ∀ m ρ S, Wv m ρ S → t ρ S (fun x S1 => D.ex x ρ S1) fun k S1 => match k with
  | true => body { D with nx := fun ρ' S' => ∃ m', m' < m ∧ Wv m' ρ' S', ct := fun ρ' S' => ∃ m', m' < m ∧ Wv m' ρ' S', bk := D.nx } ρ S1
  | false => D.nx ρ S1) : aWhile t body D ρ S := h
theorem seqM {t u : ATS} {D0 : AEnds} {ρ : Rho} {S : Sto} (h : ∀ N : Rho → Sto → Prop, (∀ ρ S, u D0 ρ S → N ρ S) → t { D0 with nx := N } ρ S) : aSeq t u D0 ρ S := h (u D0) fun _ _ z => z
theorem lt_nat (i j : Nat) : (decide ((i : Int) < (j : Int))) = decide (i < j) := decide_eq_decide.mpr (by omega)
theorem sp_run : ∀ ds S E Q, GRun ds S E Q → ds.length = 2 ∧ a_run_end (G1 inName) (bodyEnds Q E) (startA 2 ds) S := by
  rintro ds S E Q ⟨p, w, r, rfl, hz, hw, hr, q⟩
  refine ⟨rfl, ?_⟩
  have st : startA 2 [.str (txt (p ++ w ++ r)), .int (p.length : Nat)] = [some (.str (txt (p ++ w ++ r))), some (.int (p.length : Nat))] := rfl
  rw [st]
  unfold a_run_end
  refine seqM fun N nx => while_mk ⟨fun m ρ S' => S' = S ∧ ∃ u v, w = u ++ v ∧ m = v.length ∧ ρ = [some (.str (txt (p ++ w ++ r))), some (.int ((p.length + u.length : Nat) : Int))], ⟨_, rfl, [], w, rfl, rfl, rfl⟩, ?_⟩
  rintro m ρ S' ⟨rfl, u, v, rfl, rfl, rfl⟩
  simp only [eq_self, ev, ev2, ev3, ev4, ofS_inj, bodyEnds, String.reduceEq, decide_false, decide_true, reduceCtorEq, List.length_cons, List.length_nil, Nat.reduceAdd, szs, true_and, flatD, List.all_cons, List.all_nil, Bool.and_self, inF, List.any_cons, List.any_nil, eqF, Bool.or_false, Bool.false_or, Bool.or_true, Bool.true_or, Bool.and_true, Bool.true_and, Bool.and_false, Bool.false_and, Bool.not_true, Bool.not_false, txt_len, lt_nat]
  refine ⟨hz, ?_⟩
  have same : p ++ (u ++ v) ++ r = (p ++ u) ++ (v ++ r) := by simp
  have len : (p ++ (u ++ v) ++ r).length = p.length + u.length + (v.length + r.length) := by simp; omega
  cases v with
  | cons c v =>
    have lt : p.length + u.length < (p ++ (u ++ c :: v) ++ r).length := by rw [len]; simp; omega
    simp only [lt, eq_self, ev, ev2, ev3, ev4, ofS_inj, bodyEnds, String.reduceEq, decide_false, decide_true, reduceCtorEq, List.length_cons, List.length_nil, Nat.reduceAdd, szs, true_and, flatD, List.all_cons, List.all_nil, Bool.and_self, inF, List.any_cons, List.any_nil, eqF, Bool.or_false, Bool.false_or, Bool.or_true, Bool.true_or, Bool.and_true, Bool.true_and, Bool.and_false, Bool.false_and, Bool.not_true, Bool.not_false]
    have hc : inName c = true := by
      rw [List.all_eq_true] at hw
      exact hw c (by simp)
    refine ix_txt (by omega) hz (c := c) (by rw [Int.toNat_natCast, same, ← List.length_append]; exact get_mid) (g1_mk ?_)
    simp only [hc, eq_self, ev, ev2, ev3, ev4, ofS_inj, bodyEnds, String.reduceEq, decide_false, decide_true, reduceCtorEq, List.length_cons, List.length_nil, Nat.reduceAdd, szs, true_and, flatD, List.all_cons, List.all_nil, Bool.and_self, inF, List.any_cons, List.any_nil, eqF, Bool.or_false, Bool.false_or, Bool.or_true, Bool.true_or, Bool.and_true, Bool.true_and, Bool.and_false, Bool.false_and, Bool.not_true, Bool.not_false]
    refine ⟨v.length, by simp, u ++ [c], v, by simp, rfl, ?_⟩
    rw [List.length_append]; rw [List.length_singleton]
    congr 3
  | nil =>
    have done : N [some (.str (txt (p ++ (u ++ []) ++ r))), some (.int ((p.length + u.length : Nat) : Int))] S' := by
      refine nx _ _ ?_
      simp only [eq_self, ev, ev2, ev3, ev4, ofS_inj, bodyEnds, String.reduceEq, decide_false, decide_true, reduceCtorEq, List.length_cons, List.length_nil, Nat.reduceAdd, szs, true_and, flatD, List.all_cons, List.all_nil, Bool.and_self, inF, List.any_cons, List.any_nil, eqF, Bool.or_false, Bool.false_or, Bool.or_true, Bool.true_or, Bool.and_true, Bool.true_and, Bool.and_false, Bool.false_and, Bool.not_true, Bool.not_false]
      simpa using q
    cases r with
    | nil =>
      have lt : ¬ p.length + u.length < (p ++ (u ++ []) ++ []).length := by simp
      simp only [lt, eq_self, ev, ev2, ev3, ev4, ofS_inj, bodyEnds, String.reduceEq, decide_false, decide_true, reduceCtorEq, List.length_cons, List.length_nil, Nat.reduceAdd, szs, true_and, flatD, List.all_cons, List.all_nil, Bool.and_self, inF, List.any_cons, List.any_nil, eqF, Bool.or_false, Bool.false_or, Bool.or_true, Bool.true_or, Bool.and_true, Bool.true_and, Bool.and_false, Bool.false_and, Bool.not_true, Bool.not_false]
      exact done
    | cons c r =>
      have lt : p.length + u.length < (p ++ (u ++ []) ++ c :: r).length := by simp
      simp only [lt, eq_self, ev, ev2, ev3, ev4, ofS_inj, bodyEnds, String.reduceEq, decide_false, decide_true, reduceCtorEq, List.length_cons, List.length_nil, Nat.reduceAdd, szs, true_and, flatD, List.all_cons, List.all_nil, Bool.and_self, inF, List.any_cons, List.any_nil, eqF, Bool.or_false, Bool.false_or, Bool.or_true, Bool.true_or, Bool.and_true, Bool.true_and, Bool.and_false, Bool.false_and, Bool.not_true, Bool.not_false]
      have hc : inName c = false := by simpa [stop] using hr
      refine ix_txt (by omega) hz (c := c) (by rw [Int.toNat_natCast, same, ← List.length_append]; exact get_mid) (g1_mk ?_)
      simp only [hc, eq_self, ev, ev2, ev3, ev4, ofS_inj, bodyEnds, String.reduceEq, decide_false, decide_true, reduceCtorEq, List.length_cons, List.length_nil, Nat.reduceAdd, szs, true_and, flatD, List.all_cons, List.all_nil, Bool.and_self, inF, List.any_cons, List.any_nil, eqF, Bool.or_false, Bool.false_or, Bool.or_true, Bool.true_or, Bool.and_true, Bool.true_and, Bool.and_false, Bool.false_and, Bool.not_true, Bool.not_false]
      exact done
/-! ### tokens -/
def tok (k : Str) (v : D) (p : Nat) : D := .tup [.str k, v, .int (p : Int)]
def reserved : List Str := ["and", "as", "ask", "catch", "else", "export", "false", "from", "fun", "if", "import", "let", "none", "not", "or", "repeat", "return", "tell", "throw", "true", "try"]
def isRes (s : Str) : Bool := reserved.any fun r => decide (r = s)
theorem res_in (s : Str) : inF (.str s) [(D.str "and"), (D.str "as"), (D.str "ask"), (D.str "catch"), (D.str "else"), (D.str "export"), (D.str "false"), (D.str "from"), (D.str "fun"), (D.str "if"), (D.str "import"), (D.str "let"), (D.str "none"), (D.str "not"), (D.str "or"), (D.str "repeat"), (D.str "return"), (D.str "tell"), (D.str "throw"), (D.str "true"), (D.str "try")] = isRes s := rfl
/-- a text with a word that ends -/
structure Word (p w r : List Nat) : Prop where
  few : (p ++ w ++ r).length ≤ sizeLine
  all : w.all inName = true
  stop : stop r = true
theorem run_mk {p w r : List Nat} (h : Word p w r) {S : Sto} {E : XA} {Q : VA} (q : Q (.int (p.length + w.length : Nat)) S) : GRun [.str (txt (p ++ w ++ r)), .int (p.length : Nat)] S E Q := ⟨p, w, r, rfl, h.few, h.all, h.stop, q⟩
/-- what a token's reader gives -/
def GWord : AFn := fun ds S E Q => ∃ p w r m, ds = [.str (txt (p ++ w ++ r)), .int (p.length : Nat), .str m] ∧ Word p w r ∧ (isRes (txt w) = true ∨ w.length ≤ 20) ∧
  Q (.tup [tok (if isRes (txt w) then "word" else "name") (.str (txt w)) p.length, .int (p.length + w.length : Nat)]) S
theorem sp_word : ∀ ds S E Q, GWord ds S E Q → ds.length = 3 ∧ a_read_word GRun (bodyEnds Q E) (startA 5 ds) S := by
  rintro ds S E Q ⟨p, w, r, m, rfl, h, hl, q⟩
  refine ⟨rfl, ?_⟩
  have st : startA 5 [.str (txt (p ++ w ++ r)), .int (p.length : Nat), .str m] = [some (.str (txt (p ++ w ++ r))), some (.int (p.length : Nat)), some (.str m), none, none] := rfl
  rw [st]
  unfold a_read_word
  simp only [eq_self, ev, ev2, ev3, ev4, ofS_inj, bodyEnds, String.reduceEq, decide_false, decide_true, reduceCtorEq, List.length_cons, List.length_nil, Nat.reduceAdd, szs, true_and, flatD, List.all_cons, List.all_nil, Bool.and_self, Bool.or_false, Bool.false_or, Bool.or_true, Bool.true_or, Bool.and_true, Bool.true_and, Bool.and_false, Bool.false_and, Bool.not_true, Bool.not_false, res_in]
  refine run_mk h ?_
  simp only [eq_self, ev, ev2, ev3, ev4, ofS_inj, bodyEnds, String.reduceEq, decide_false, decide_true, reduceCtorEq, List.length_cons, List.length_nil, Nat.reduceAdd, szs, true_and, flatD, List.all_cons, List.all_nil, Bool.and_self, Bool.or_false, Bool.false_or, Bool.or_true, Bool.true_or, Bool.and_true, Bool.true_and, Bool.and_false, Bool.false_and, Bool.not_true, Bool.not_false, cut_mid, res_in, txt_len]
  refine ⟨h.few, ?_⟩
  cases hr : isRes (txt w) with
  | true =>
    simp only [hr, eq_self, ev, ev2, ev3, ev4, ofS_inj, bodyEnds, String.reduceEq, decide_false, decide_true, reduceCtorEq, List.length_cons, List.length_nil, Nat.reduceAdd, szs, true_and, flatD, List.all_cons, List.all_nil, Bool.and_self, Bool.or_false, Bool.false_or, Bool.or_true, Bool.true_or, Bool.and_true, Bool.true_and, Bool.and_false, Bool.false_and, Bool.not_true, Bool.not_false, if_true] at q ⊢
    exact q
  | false =>
    simp only [hr, eq_self, ev, ev2, ev3, ev4, ofS_inj, bodyEnds, String.reduceEq, decide_false, decide_true, reduceCtorEq, List.length_cons, List.length_nil, Nat.reduceAdd, szs, true_and, flatD, List.all_cons, List.all_nil, Bool.and_self, Bool.or_false, Bool.false_or, Bool.or_true, Bool.true_or, Bool.and_true, Bool.true_and, Bool.and_false, Bool.false_and, Bool.not_true, Bool.not_false, Bool.false_eq_true, if_false, false_or] at q hl ⊢
    have lt : ¬ ((20 : Int) < (w.length : Int)) := by omega
    have wl : w.length ≤ sizeLine := Nat.le_trans hl (by decide)
    simp only [lt, eq_self, ev, ev2, ev3, ev4, ofS_inj, bodyEnds, String.reduceEq, decide_false, decide_true, reduceCtorEq, List.length_cons, List.length_nil, Nat.reduceAdd, szs, true_and, flatD, List.all_cons, List.all_nil, Bool.and_self, Bool.or_false, Bool.false_or, Bool.or_true, Bool.true_or, Bool.and_true, Bool.true_and, Bool.and_false, Bool.false_and, Bool.not_true, Bool.not_false]
    exact ⟨wl, q⟩
/-- the digits of a number -/
structure Num (w : List Nat) (n : Int) : Prop where
  ne : w ≠ []
  dig : w.all digit = true
  few : w.length ≤ 5
  val : PySem.intText? (txt w) = some n
  small : n ≤ 65535
  lead : 1 < w.length → w[0]? ≠ some 48
theorem dig_name {w : List Nat} (h : w.all digit = true) : w.all inName = true := by
  rw [List.all_eq_true] at h ⊢
  intro c hc
  simp only [inName, h c hc, Bool.true_or, Bool.or_true]
def GNum : AFn := fun ds S E Q => ∃ p w r m n, ds = [.str (txt (p ++ w ++ r)), .int (p.length : Nat), .str m] ∧ Word p w r ∧ Num w n ∧ ∀ S', S <+: S' → Q (.tup [tok "number" (.int n) p.length, .int (p.length + w.length : Nat)]) S'
theorem sp_number : ∀ ds S E Q, GNum ds S E Q → ds.length = 3 ∧ a_read_number GRun (G1 digit) (bodyEnds Q E) (startA 6 ds) S := by
  rintro ds S E Q ⟨p, w, r, m, n, rfl, h, hn, q⟩
  refine ⟨rfl, ?_⟩
  have st : startA 6 [.str (txt (p ++ w ++ r)), .int (p.length : Nat), .str m] = [some (.str (txt (p ++ w ++ r))), some (.int (p.length : Nat)), some (.str m), none, none, none] := rfl
  rw [st]
  unfold a_read_number
  refine seqM fun N nx => ?_
  simp only [eq_self, ev, ev2, ev3, ev4, ofS_inj, bodyEnds, String.reduceEq, decide_false, decide_true, reduceCtorEq, List.length_cons, List.length_nil, Nat.reduceAdd, szs, true_and, flatD, List.all_cons, List.all_nil, Bool.and_self, Bool.or_false, Bool.false_or, Bool.or_true, Bool.true_or, Bool.and_true, Bool.true_and, Bool.and_false, Bool.false_and, Bool.not_true, Bool.not_false]
  refine run_mk h (nx _ _ ?_)
  clear nx N
  refine seqM fun N nx => ?_
  simp only [eq_self, ev, ev2, ev3, ev4, ofS_inj, bodyEnds, String.reduceEq, decide_false, decide_true, reduceCtorEq, List.length_cons, List.length_nil, Nat.reduceAdd, szs, true_and, flatD, List.all_cons, List.all_nil, Bool.and_self, Bool.or_false, Bool.false_or, Bool.or_true, Bool.true_or, Bool.and_true, Bool.true_and, Bool.and_false, Bool.false_and, Bool.not_true, Bool.not_false, cut_mid]
  refine ⟨by rw [txt_len]; exact h.few, nx _ _ ?_⟩
  clear nx N
  have wl : w.length ≤ sizeLine := Nat.le_trans hn.few (by decide)
  have l5 : decide ((5 : Int) < (w.length : Int)) = false := decide_eq_false (by have := hn.few; omega)
  refine seqM fun N nx => ?_
  simp only [eq_self, ev, ev2, ev3, ev4, ofS_inj, bodyEnds, String.reduceEq, decide_false, decide_true, reduceCtorEq, List.length_cons, List.length_nil, Nat.reduceAdd, szs, true_and, flatD, List.all_cons, List.all_nil, Bool.and_self, Bool.or_false, Bool.false_or, Bool.or_true, Bool.true_or, Bool.and_true, Bool.true_and, Bool.and_false, Bool.false_and, Bool.not_true, Bool.not_false, txt_len, l5]
  refine ⟨wl, ?_⟩
  refine lc_map (src := .fix (w.map fun c => D.str (txt [c]))) (out := w.map fun _ => D.bl true) (S0 := S) (fun Q' h => ?_) trivial (Nat.lt_of_le_of_lt (show _ ≤ 5 by simp only [Src.items, List.length_map]; exact hn.few) (by decide)) (by simp [Src.items]) (fun j d hd => ?_) fun S1 p1 => ?_
  · simp only [eq_self, ev, ev2, ev3, ev4, ofS_inj, bodyEnds, String.reduceEq, decide_false, decide_true, reduceCtorEq, List.length_cons, List.length_nil, Nat.reduceAdd, szs, true_and, flatD, List.all_cons, List.all_nil, Bool.and_self, Bool.or_false, Bool.false_or, Bool.or_true, Bool.true_or, Bool.and_true, Bool.true_and, Bool.and_false, Bool.false_and, Bool.not_true, Bool.not_false]
    exact h
  · have hd' : (w.map fun c => D.str (txt [c]))[j]? = some d := hd
    rw [List.getElem?_map] at hd'
    obtain ⟨c, hc, rfl⟩ := Option.map_eq_some_iff.mp hd'
    refine ⟨.bl true, by rw [List.getElem?_map, hc]; rfl, fun S1 Q1 p1 q1 => ?_⟩
    have dg : digit c = true := List.all_eq_true.mp hn.dig c (List.mem_of_getElem? hc)
    simp only [eq_self, ev, ev2, ev3, ev4, ofS_inj, bodyEnds, String.reduceEq, decide_false, decide_true, reduceCtorEq, List.length_cons, List.length_nil, Nat.reduceAdd, szs, true_and, flatD, List.all_cons, List.all_nil, Bool.and_self, Bool.or_false, Bool.false_or, Bool.or_true, Bool.true_or, Bool.and_true, Bool.true_and, Bool.and_false, Bool.false_and, Bool.not_true, Bool.not_false, wipeA, List.set_cons_succ, List.set_cons_zero]
    exact g1_mk (by rw [dg]; exact q1 _ pre_refl)
  · have allT : cAll [.ref S1.length] (S1 ++ [.lst (w.map fun _ => D.bl true)]) = fun Q => must (some (w.map fun _ => D.bl true)) fun l => ∃ bs : List Bool, l = bs.map .bl ∧ Q (.bl (bs.all _root_.id)) (S1 ++ [.lst (w.map fun _ => D.bl true)]) := by
      funext Q
      show must (lstOf _ _) _ = _
      rw [show lstOf (S1 ++ [.lst (w.map fun _ => D.bl true)]) S1.length = some (w.map fun _ => D.bl true) by simp [lstOf]]
    rw [allT]
    refine ⟨w.map fun _ => true, by rw [List.map_map]; rfl, ?_⟩
    have ta : (w.map fun _ => true).all _root_.id = true := by simp
    rw [ta]
    simp only [eq_self, ev, ev2, ev3, ev4, ofS_inj, bodyEnds, String.reduceEq, decide_false, decide_true, reduceCtorEq, List.length_cons, List.length_nil, Nat.reduceAdd, szs, true_and, flatD, List.all_cons, List.all_nil, Bool.and_self, Bool.or_false, Bool.false_or, Bool.or_true, Bool.true_or, Bool.and_true, Bool.true_and, Bool.and_false, Bool.false_and, Bool.not_true, Bool.not_false]
    refine nx _ _ ?_
    clear nx N
    have q1 := q _ (p1.trans (pre_app (o := .lst (w.map fun _ => D.bl true))))
    generalize S1 ++ [O.lst (w.map fun _ => D.bl true)] = S2 at q1 ⊢
    have ci : ∀ G : VA, G (.int n) S2 → cInt [.str (txt w)] S2 G := fun G g => by
      refine ⟨by rw [txt_len]; exact Nat.le_trans hn.few (by decide), ?_⟩
      rw [hn.val]; exact g
    have big : decide ((65535 : Int) < n) = false := decide_eq_false (by have := hn.small; omega)
    refine seqM fun N nx => ?_
    simp only [eq_self, ev, ev2, ev3, ev4, ofS_inj, bodyEnds, String.reduceEq, decide_false, decide_true, reduceCtorEq, List.length_cons, List.length_nil, Nat.reduceAdd, szs, true_and, flatD, List.all_cons, List.all_nil, Bool.and_self, Bool.or_false, Bool.false_or, Bool.or_true, Bool.true_or, Bool.and_true, Bool.true_and, Bool.and_false, Bool.false_and, Bool.not_true, Bool.not_false, txt_len, cst]
    refine ci _ ?_
    simp only [eq_self, ev, ev2, ev3, ev4, ofS_inj, bodyEnds, String.reduceEq, decide_false, decide_true, reduceCtorEq, List.length_cons, List.length_nil, Nat.reduceAdd, szs, true_and, flatD, List.all_cons, List.all_nil, Bool.and_self, Bool.or_false, Bool.false_or, Bool.or_true, Bool.true_or, Bool.and_true, Bool.true_and, Bool.and_false, Bool.false_and, Bool.not_true, Bool.not_false, big]
    have fin : N [some (.str (txt (p ++ w ++ r))), some (.int (p.length : Nat)), some (.str m), some (.int ((p.length + w.length : Nat) : Int)), some (.str (txt w)), none] S2 := by
      refine nx _ _ ?_
      simp only [eq_self, ev, ev2, ev3, ev4, ofS_inj, bodyEnds, String.reduceEq, decide_false, decide_true, reduceCtorEq, List.length_cons, List.length_nil, Nat.reduceAdd, szs, true_and, flatD, List.all_cons, List.all_nil, Bool.and_self, Bool.or_false, Bool.false_or, Bool.or_true, Bool.true_or, Bool.and_true, Bool.true_and, Bool.and_false, Bool.false_and, Bool.not_true, Bool.not_false]
      exact ci _ q1
    obtain ⟨c, w', rfl⟩ := List.exists_cons_of_ne_nil hn.ne
    refine ix_txt (c := c) (by decide) wl rfl ?_
    simp only [eq_self, ev, ev2, ev3, ev4, ofS_inj, bodyEnds, String.reduceEq, decide_false, decide_true, reduceCtorEq, List.length_cons, List.length_nil, Nat.reduceAdd, szs, true_and, flatD, List.all_cons, List.all_nil, Bool.and_self, Bool.or_false, Bool.false_or, Bool.or_true, Bool.true_or, Bool.and_true, Bool.true_and, Bool.and_false, Bool.false_and, Bool.not_true, Bool.not_false, txt_inj, List.cons.injEq, and_true]
    by_cases c0 : c = 48
    · have l1 : ¬ ((1 : Int) < ((w'.length + 1 : Nat) : Int)) := by
        intro hh
        exact hn.lead (by simp only [List.length_cons]; omega) (by rw [c0]; rfl)
      have wl' : w'.length + 1 ≤ sizeLine := wl
      subst c0
      simp only [eq_self, ev, ev2, ev3, ev4, ofS_inj, bodyEnds, String.reduceEq, decide_false, decide_true, reduceCtorEq, List.length_cons, List.length_nil, Nat.reduceAdd, szs, true_and, flatD, List.all_cons, List.all_nil, Bool.and_self, Bool.or_false, Bool.false_or, Bool.or_true, Bool.true_or, Bool.and_true, Bool.true_and, Bool.and_false, Bool.false_and, Bool.not_true, Bool.not_false, txt_len, l1]
      exact ⟨wl', fin⟩
    · simp only [c0, eq_self, ev, ev2, ev3, ev4, ofS_inj, bodyEnds, String.reduceEq, decide_false, decide_true, reduceCtorEq, List.length_cons, List.length_nil, Nat.reduceAdd, szs, true_and, flatD, List.all_cons, List.all_nil, Bool.and_self, Bool.or_false, Bool.false_or, Bool.or_true, Bool.true_or, Bool.and_true, Bool.true_and, Bool.and_false, Bool.false_and, Bool.not_true, Bool.not_false]
      exact fin
/-! ### a name of a module, a sign -/
def GStr : AFn := fun ds S E Q => ∃ p w r m, ds = [.str (txt (p ++ 34 :: w ++ 34 :: r)), .int (p.length : Nat), .str m] ∧ (p ++ 34 :: w ++ 34 :: r).length ≤ sizeLine ∧ w.all inName = true ∧ w ≠ [] ∧ w.length ≤ 20 ∧
  Q (.tup [tok "string" (.str (txt w)) p.length, .int (p.length + w.length + 2 : Nat)]) S
theorem sp_string : ∀ ds S E Q, GStr ds S E Q → ds.length = 3 ∧ a_read_string GRun (bodyEnds Q E) (startA 4 ds) S := by
  rintro ds S E Q ⟨p, w, r, m, rfl, hz, hw, hne, hl, q⟩
  refine ⟨rfl, ?_⟩
  have st : startA 4 [.str (txt (p ++ 34 :: w ++ 34 :: r)), .int (p.length : Nat), .str m] = [some (.str (txt (p ++ 34 :: w ++ 34 :: r))), some (.int (p.length : Nat)), some (.str m), none] := rfl
  rw [st]
  have same : p ++ 34 :: w ++ 34 :: r = (p ++ [34]) ++ w ++ (34 :: r) := by simp
  have hd : Word (p ++ [34]) w (34 :: r) := ⟨by rw [← same]; exact hz, hw, rfl⟩
  have i1 : ((p.length : Nat) : Int) + 1 = (((p ++ [34]).length : Nat) : Int) := by simp
  unfold a_read_string
  refine seqM fun N nx => ?_
  simp only [eq_self, ev, ev2, ev3, ev4, ofS_inj, bodyEnds, String.reduceEq, decide_false, decide_true, reduceCtorEq, List.length_cons, List.length_nil, Nat.reduceAdd, szs, true_and, flatD, List.all_cons, List.all_nil, Bool.and_self, Bool.or_false, Bool.false_or, Bool.or_true, Bool.true_or, Bool.and_true, Bool.true_and, Bool.and_false, Bool.false_and, Bool.not_true, Bool.not_false, i1, same]
  refine run_mk hd (nx _ _ ?_)
  clear nx N
  have wpos : 0 < w.length := List.length_pos_iff.mpr hne
  have pl : (p ++ [34]).length = p.length + 1 := by simp
  refine seqM fun N nx => ?_
  have e1 : decide ((((p ++ [34]).length + w.length : Nat) : Int) = (((p ++ [34]).length : Nat) : Int)) = false := decide_eq_false (by omega)
  have e2 : decide ((20 : Int) < (((p ++ [34]).length + w.length : Nat) : Int) - ((p.length : Nat) : Int) - 1) = false := decide_eq_false (by omega)
  have tl : ((p ++ [34]) ++ w ++ (34 :: r)).length = p.length + 1 + w.length + (r.length + 1) := by simp; omega
  have e3 : decide (((((p ++ [34]) ++ w ++ (34 :: r)).length : Nat) : Int) ≤ (((p ++ [34]).length + w.length : Nat) : Int)) = false := decide_eq_false (by omega)
  simp only [eq_self, ev, ev2, ev3, ev4, ofS_inj, bodyEnds, String.reduceEq, decide_false, decide_true, reduceCtorEq, List.length_cons, List.length_nil, Nat.reduceAdd, szs, true_and, flatD, List.all_cons, List.all_nil, Bool.and_self, Bool.or_false, Bool.false_or, Bool.or_true, Bool.true_or, Bool.and_true, Bool.true_and, Bool.and_false, Bool.false_and, Bool.not_true, Bool.not_false, cst, i1, e1, e2, txt_len, e3]
  have e4 : (((p ++ [34]).length + w.length : Nat) : Int) + 1 = ((p.length + w.length + 2 : Nat) : Int) := by omega
  refine ⟨hd.few, ix_txt (c := 34) (by omega) hd.few (by rw [Int.toNat_natCast, ← List.length_append]; exact get_mid) ?_⟩
  simp only [eq_self, ev, ev2, ev3, ev4, ofS_inj, bodyEnds, String.reduceEq, decide_false, decide_true, reduceCtorEq, List.length_cons, List.length_nil, Nat.reduceAdd, szs, true_and, flatD, List.all_cons, List.all_nil, Bool.and_self, Bool.or_false, Bool.false_or, Bool.or_true, Bool.true_or, Bool.and_true, Bool.true_and, Bool.and_false, Bool.false_and, Bool.not_true, Bool.not_false]
  refine nx _ _ ?_
  simp only [eq_self, ev, ev2, ev3, ev4, ofS_inj, bodyEnds, String.reduceEq, decide_false, decide_true, reduceCtorEq, List.length_cons, List.length_nil, Nat.reduceAdd, szs, true_and, flatD, List.all_cons, List.all_nil, Bool.and_self, Bool.or_false, Bool.false_or, Bool.or_true, Bool.true_or, Bool.and_true, Bool.true_and, Bool.and_false, Bool.false_and, Bool.not_true, Bool.not_false, i1, cut_mid, e4, txt_len]
  exact ⟨hd.few, q⟩
def signs : List (List Nat) := [[61, 61], [61], [60], [43], [45], [42], [46], [44], [59], [40], [41], [123], [125]]
theorem sgn : Str.ofString "==" = txt [61, 61] ∧ Str.ofString "=" = txt [61] ∧ Str.ofString "<" = txt [60] ∧ Str.ofString "+" = txt [43] ∧ Str.ofString "-" = txt [45] ∧ Str.ofString "*" = txt [42] ∧ Str.ofString "." = txt [46] ∧ Str.ofString "," = txt [44] ∧
    Str.ofString ";" = txt [59] ∧ Str.ofString "(" = txt [40] ∧ Str.ofString ")" = txt [41] ∧ Str.ofString "{" = txt [123] ∧ Str.ofString "}" = txt [125] := by decide +kernel
theorem starts_txt {p r g : List Nat} : Txt.startswith3 (txt (p ++ r)) (txt g) (p.length : Nat) = (g.isPrefixOf r) := by
  have fi : PySem.fromIndex (txt (p ++ r)).length ((p.length : Nat) : Int) = p.length := by
    show (max 0 (if ((p.length : Nat) : Int) < 0 then _ else ((p.length : Nat) : Int))).toNat = _
    rw [if_neg (by omega)]
    omega
  unfold Txt.startswith3
  rw [fi, StrLaws.subAt_eq, txt_cps, txt_cps, txt_len, txt_len, List.drop_left, Bool.eq_iff_iff]
  simp only [Bool.and_eq_true, decide_eq_true_eq, beq_iff_eq, List.isPrefixOf_iff_prefix, List.prefix_iff_eq_take, List.length_append]
  constructor
  · intro h; exact h.2.symm
  · intro h
    refine ⟨?_, h.symm⟩
    have := congrArg (fun z => List.length z) h
    rw [List.length_take] at this
    omega
/-- the first sign that a text begins with -/
def signOf (r : List Nat) : Option (List Nat) := signs.find? fun g => g.isPrefixOf r
def GSign : AFn := fun ds S E Q => ∃ p g r m, ds = [.str (txt (p ++ (g ++ r))), .int (p.length : Nat), .str m] ∧ (p ++ (g ++ r)).length ≤ sizeLine ∧ signOf (g ++ r) = some g ∧
  Q (.tup [tok "sign" (.str (txt g)) p.length, .int (p.length + g.length : Nat)]) S
theorem sp_sign : ∀ ds S E Q, GSign ds S E Q → ds.length = 3 ∧ a_read_sign (bodyEnds Q E) (startA 4 ds) S := by
  rintro ds S E Q ⟨p, g, r, m, rfl, hz, hg, q⟩
  refine ⟨rfl, ?_⟩
  have st : startA 4 [.str (txt (p ++ (g ++ r))), .int (p.length : Nat), .str m] = [some (.str (txt (p ++ (g ++ r)))), some (.int (p.length : Nat)), some (.str m), none] := rfl
  rw [st]
  unfold a_read_sign
  refine seqM fun N nx => ?_
  unfold aFor
  simp only [eq_self, ev, ev2, ev3, ev4, ofS_inj, bodyEnds, String.reduceEq, decide_false, decide_true, reduceCtorEq, List.length_cons, List.length_nil, Nat.reduceAdd, szs, true_and, flatD, List.all_cons, List.all_nil, Bool.and_self, Bool.or_false, Bool.false_or, Bool.or_true, Bool.true_or, Bool.and_true, Bool.true_and, Bool.and_false, Bool.false_and, Bool.not_true, Bool.not_false, srcOf, sgn]
  obtain ⟨i, hi, gi, before⟩ := List.find?_eq_some_iff_getElem.mp hg |>.2
  refine ⟨fun k ρ S' => S' = S ∧ k ≤ i ∧ ∃ x, ρ = [some (.str (txt (p ++ (g ++ r)))), some (.int (p.length : Nat)), some (.str m), x], ⟨rfl, Nat.zero_le _, _, rfl⟩, fun _ _ _ _ _ => trivial, ?_, ?_⟩
  · rintro k d ρ S' hd ⟨rfl, hk, x, rfl⟩
    have hd' : (signs.map fun g => D.str (txt g))[k]? = some d := hd
    rw [List.getElem?_map] at hd'
    obtain ⟨g', hg', rfl⟩ := Option.map_eq_some_iff.mp hd'
    simp only [eq_self, ev, ev2, ev3, ev4, ofS_inj, bodyEnds, String.reduceEq, decide_false, decide_true, reduceCtorEq, List.length_cons, List.length_nil, Nat.reduceAdd, szs, true_and, flatD, List.all_cons, List.all_nil, Bool.and_self, Bool.or_false, Bool.false_or, Bool.or_true, Bool.true_or, Bool.and_true, Bool.true_and, Bool.and_false, Bool.false_and, Bool.not_true, Bool.not_false, isTxt, starts_txt, txt_len]
    cases hp : g'.isPrefixOf (g ++ r) with
    | true =>
      have eg : g' = g := by
        obtain ⟨hlt, e⟩ := List.getElem?_eq_some_iff.mp hg'
        by_cases h : k = i
        · subst h
          rw [← e]; exact gi
        · have := before k (by omega)
          rw [e] at this
          simp [hp] at this
      subst eg
      have gl : g'.length ≤ sizeLine := Nat.le_trans (by simp; omega) hz
      simp only [eq_self, ev, ev2, ev3, ev4, ofS_inj, bodyEnds, String.reduceEq, decide_false, decide_true, reduceCtorEq, List.length_cons, List.length_nil, Nat.reduceAdd, szs, true_and, flatD, List.all_cons, List.all_nil, Bool.and_self, Bool.or_false, Bool.false_or, Bool.or_true, Bool.true_or, Bool.and_true, Bool.true_and, Bool.and_false, Bool.false_and, Bool.not_true, Bool.not_false]
      exact ⟨gl, q⟩
    | false =>
      simp only [eq_self, ev, ev2, ev3, ev4, ofS_inj, bodyEnds, String.reduceEq, decide_false, decide_true, reduceCtorEq, List.length_cons, List.length_nil, Nat.reduceAdd, szs, true_and, flatD, List.all_cons, List.all_nil, Bool.and_self, Bool.or_false, Bool.false_or, Bool.or_true, Bool.true_or, Bool.and_true, Bool.true_and, Bool.and_false, Bool.false_and, Bool.not_true, Bool.not_false]
      refine ⟨?_, _, rfl⟩
      obtain ⟨hlt, e⟩ := List.getElem?_eq_some_iff.mp hg'
      by_cases h : k = i
      · subst h
        have hh : (signs[k]).isPrefixOf (g ++ r) = true := by rw [gi]; simp
        rw [e, hp] at hh
        cases hh
      · omega
  · rintro ρ S' ⟨rfl, hk, _⟩
    have : i < signs.length := hi
    have h13 : (13 : Nat) ≤ i := hk
    have : signs.length = 13 := rfl
    omega
/-! ### a token -/
/-- u ahead of r, at pos, is the token t -/
inductive Tk : List Nat → List Nat → Nat → D → Prop
  | word {c : Nat} {w r : List Nat} {pos : Nat} (h1 : letter c = true) (h2 : w.all inName = true) (h3 : stop r = true) (h4 : isRes (txt (c :: w)) = true ∨ w.length + 1 ≤ 20) :
      Tk (c :: w) r pos (tok (if isRes (txt (c :: w)) then "word" else "name") (.str (txt (c :: w))) pos)
  | num {w r : List Nat} {pos : Nat} {n : Int} (h1 : Num w n) (h2 : stop r = true) : Tk w r pos (tok "number" (.int n) pos)
  | strg {w r : List Nat} {pos : Nat} (h1 : w.all inName = true) (h2 : w ≠ []) (h3 : w.length ≤ 20) : Tk (34 :: w ++ [34]) r pos (tok "string" (.str (txt w)) pos)
  | sign {c : Nat} {g r : List Nat} {pos : Nat} (h1 : signOf (c :: g ++ r) = some (c :: g)) (h2 : letter c = false) (h3 : digit c = false) (h4 : c ≠ 34) : Tk (c :: g) r pos (tok "sign" (.str (txt (c :: g))) pos)
def GTok : AFn := fun ds S E Q => ∃ p u r m t, ds = [.str (txt (p ++ (u ++ r))), .int (p.length : Nat), .str m] ∧ (p ++ (u ++ r)).length ≤ sizeLine ∧ Tk u r p.length t ∧ ∀ S', S <+: S' → Q (.tup [t, .int (p.length + u.length : Nat)]) S'
theorem letter_name {c : Nat} (h : letter c = true) : inName c = true := by simp only [inName, h, Bool.true_or]
theorem digit_letter {c : Nat} (h : digit c = true) : letter c = false := by
  unfold digit at h
  unfold letter
  simp only [decide_eq_true_eq, Bool.and_eq_true] at h
  simp only [Bool.or_eq_false_iff, Bool.and_eq_false_iff, decide_eq_false_iff_not]
  omega
theorem get_at {p r : List Nat} {c : Nat} : (p ++ (c :: r))[((p.length : Nat) : Int).toNat]? = some c := by rw [Int.toNat_natCast]; exact get_mid
theorem sp_token : ∀ ds S E Q, GTok ds S E Q → ds.length = 3 ∧ a_read_token (G1 letter) GWord (G1 digit) GNum GStr GSign (bodyEnds Q E) (startA 3 ds) S := by
  rintro ds S E Q ⟨p, u, r, m, t, rfl, hz, ht, q⟩
  refine ⟨rfl, ?_⟩
  have st : startA 3 [.str (txt (p ++ (u ++ r))), .int (p.length : Nat), .str m] = [some (.str (txt (p ++ (u ++ r)))), some (.int (p.length : Nat)), some (.str m)] := rfl
  rw [st]
  unfold a_read_token
  simp only [eq_self, ev, ev2, ev3, ev4, ofS_inj, bodyEnds, String.reduceEq, decide_false, decide_true, reduceCtorEq, List.length_cons, List.length_nil, Nat.reduceAdd, szs, true_and, flatD, List.all_cons, List.all_nil, Bool.and_self, Bool.or_false, Bool.false_or, Bool.or_true, Bool.true_or, Bool.and_true, Bool.true_and, Bool.and_false, Bool.false_and, Bool.not_true, Bool.not_false, cst]
  cases ht with
  | @word c w r pos h1 h2 h3 h4 =>
    refine ix_txt (c := c) (by omega) hz get_at (g1_mk ?_)
    simp only [h1, eq_self, ev, ev2, ev3, ev4, ofS_inj, bodyEnds, String.reduceEq, decide_false, decide_true, reduceCtorEq, List.length_cons, List.length_nil, Nat.reduceAdd, szs, true_and, flatD, List.all_cons, List.all_nil, Bool.and_self, Bool.or_false, Bool.false_or, Bool.or_true, Bool.true_or, Bool.and_true, Bool.true_and, Bool.and_false, Bool.false_and, Bool.not_true, Bool.not_false]
    refine ⟨p, c :: w, r, m, by simp, ⟨by rw [List.append_assoc]; exact hz, by simp only [List.all_cons, letter_name h1, h2, Bool.and_self], h3⟩, h4, ?_⟩
    exact q S pre_refl
  | @num w r pos n h1 h2 =>
    obtain ⟨c, w, rfl⟩ := List.exists_cons_of_ne_nil h1.ne
    have dc : digit c = true := by
      have := h1.dig
      simp only [List.all_cons, Bool.and_eq_true] at this
      exact this.1
    refine ix_txt (c := c) (by omega) hz get_at (g1_mk ?_)
    simp only [digit_letter dc, eq_self, ev, ev2, ev3, ev4, ofS_inj, bodyEnds, String.reduceEq, decide_false, decide_true, reduceCtorEq, List.length_cons, List.length_nil, Nat.reduceAdd, szs, true_and, flatD, List.all_cons, List.all_nil, Bool.and_self, Bool.or_false, Bool.false_or, Bool.or_true, Bool.true_or, Bool.and_true, Bool.true_and, Bool.and_false, Bool.false_and, Bool.not_true, Bool.not_false]
    refine ix_txt (c := c) (by omega) hz get_at (g1_mk ?_)
    simp only [dc, eq_self, ev, ev2, ev3, ev4, ofS_inj, bodyEnds, String.reduceEq, decide_false, decide_true, reduceCtorEq, List.length_cons, List.length_nil, Nat.reduceAdd, szs, true_and, flatD, List.all_cons, List.all_nil, Bool.and_self, Bool.or_false, Bool.false_or, Bool.or_true, Bool.true_or, Bool.and_true, Bool.true_and, Bool.and_false, Bool.false_and, Bool.not_true, Bool.not_false]
    exact ⟨p, c :: w, r, m, n, by simp, ⟨by rw [List.append_assoc]; exact hz, dig_name h1.dig, h2⟩, h1, q⟩
  | @strg w r pos h1 h2 h3 =>
    refine ix_txt (c := 34) (by omega) hz get_at (g1_mk ?_)
    have l34 : letter 34 = false := by decide
    have d34 : digit 34 = false := by decide
    simp only [l34, eq_self, ev, ev2, ev3, ev4, ofS_inj, bodyEnds, String.reduceEq, decide_false, decide_true, reduceCtorEq, List.length_cons, List.length_nil, Nat.reduceAdd, szs, true_and, flatD, List.all_cons, List.all_nil, Bool.and_self, Bool.or_false, Bool.false_or, Bool.or_true, Bool.true_or, Bool.and_true, Bool.true_and, Bool.and_false, Bool.false_and, Bool.not_true, Bool.not_false]
    refine ix_txt (c := 34) (by omega) hz get_at (g1_mk ?_)
    simp only [d34, eq_self, ev, ev2, ev3, ev4, ofS_inj, bodyEnds, String.reduceEq, decide_false, decide_true, reduceCtorEq, List.length_cons, List.length_nil, Nat.reduceAdd, szs, true_and, flatD, List.all_cons, List.all_nil, Bool.and_self, Bool.or_false, Bool.false_or, Bool.or_true, Bool.true_or, Bool.and_true, Bool.true_and, Bool.and_false, Bool.false_and, Bool.not_true, Bool.not_false]
    refine ix_txt (c := 34) (by omega) hz get_at ?_
    simp only [eq_self, ev, ev2, ev3, ev4, ofS_inj, bodyEnds, String.reduceEq, decide_false, decide_true, reduceCtorEq, List.length_cons, List.length_nil, Nat.reduceAdd, szs, true_and, flatD, List.all_cons, List.all_nil, Bool.and_self, Bool.or_false, Bool.false_or, Bool.or_true, Bool.true_or, Bool.and_true, Bool.true_and, Bool.and_false, Bool.false_and, Bool.not_true, Bool.not_false]
    refine ⟨p, w, r, m, by simp, by simpa using hz, h1, h2, h3, ?_⟩
    have := q S pre_refl
    have e : (34 :: w ++ [34]).length = w.length + 2 := by simp
    rw [e] at this
    exact this
  | @sign c g r pos h1 h2 h3 h4 =>
    refine ix_txt (c := c) (by omega) hz get_at (g1_mk ?_)
    simp only [h2, eq_self, ev, ev2, ev3, ev4, ofS_inj, bodyEnds, String.reduceEq, decide_false, decide_true, reduceCtorEq, List.length_cons, List.length_nil, Nat.reduceAdd, szs, true_and, flatD, List.all_cons, List.all_nil, Bool.and_self, Bool.or_false, Bool.false_or, Bool.or_true, Bool.true_or, Bool.and_true, Bool.true_and, Bool.and_false, Bool.false_and, Bool.not_true, Bool.not_false]
    refine ix_txt (c := c) (by omega) hz get_at (g1_mk ?_)
    simp only [h3, eq_self, ev, ev2, ev3, ev4, ofS_inj, bodyEnds, String.reduceEq, decide_false, decide_true, reduceCtorEq, List.length_cons, List.length_nil, Nat.reduceAdd, szs, true_and, flatD, List.all_cons, List.all_nil, Bool.and_self, Bool.or_false, Bool.false_or, Bool.or_true, Bool.true_or, Bool.and_true, Bool.true_and, Bool.and_false, Bool.false_and, Bool.not_true, Bool.not_false]
    refine ix_txt (c := c) (by omega) hz get_at ?_
    simp only [eq_self, ev, ev2, ev3, ev4, ofS_inj, bodyEnds, String.reduceEq, decide_false, decide_true, reduceCtorEq, List.length_cons, List.length_nil, Nat.reduceAdd, szs, true_and, flatD, List.all_cons, List.all_nil, Bool.and_self, Bool.or_false, Bool.false_or, Bool.or_true, Bool.true_or, Bool.and_true, Bool.true_and, Bool.and_false, Bool.false_and, Bool.not_true, Bool.not_false, txt_inj, List.cons.injEq, and_true, h4]
    exact ⟨p, c :: g, r, m, rfl, hz, h1, q S pre_refl⟩
/-! ### comments, all tokens -/
def nlStop : List Nat → Bool
  | [] => true
  | c :: _ => decide (c = 10)
def noNl (c : Nat) : Bool := !decide (c = 10)
def GCom : AFn := fun ds S E Q => ∃ p w r, ds = [.str (txt (p ++ w ++ r)), .int (p.length : Nat)] ∧ (p ++ w ++ r).length ≤ sizeLine ∧ w.all noNl = true ∧ nlStop r = true ∧ Q (.int (p.length + w.length : Nat)) S
theorem sp_com : ∀ ds S E Q, GCom ds S E Q → ds.length = 2 ∧ a_comment_end (bodyEnds Q E) (startA 2 ds) S := by
  rintro ds S E Q ⟨p, w, r, rfl, hz, hw, hr, q⟩
  refine ⟨rfl, ?_⟩
  have st : startA 2 [.str (txt (p ++ w ++ r)), .int (p.length : Nat)] = [some (.str (txt (p ++ w ++ r))), some (.int (p.length : Nat))] := rfl
  rw [st]
  unfold a_comment_end
  refine seqM fun N nx => while_mk ⟨fun m ρ S' => S' = S ∧ ∃ u v, w = u ++ v ∧ m = v.length ∧ ρ = [some (.str (txt (p ++ w ++ r))), some (.int ((p.length + u.length : Nat) : Int))], ⟨_, rfl, [], w, rfl, rfl, rfl⟩, ?_⟩
  rintro m ρ S' ⟨rfl, u, v, rfl, rfl, rfl⟩
  simp only [eq_self, ev, ev2, ev3, ev4, ofS_inj, bodyEnds, String.reduceEq, decide_false, decide_true, reduceCtorEq, List.length_cons, List.length_nil, Nat.reduceAdd, szs, true_and, flatD, List.all_cons, List.all_nil, Bool.and_self, Bool.or_false, Bool.false_or, Bool.or_true, Bool.true_or, Bool.and_true, Bool.true_and, Bool.and_false, Bool.false_and, Bool.not_true, Bool.not_false, txt_len, lt_nat, cst]
  refine ⟨hz, ?_⟩
  have same : p ++ (u ++ v) ++ r = (p ++ u) ++ (v ++ r) := by simp
  have len : (p ++ (u ++ v) ++ r).length = p.length + u.length + (v.length + r.length) := by simp; omega
  cases v with
  | cons c v =>
    have lt : p.length + u.length < (p ++ (u ++ c :: v) ++ r).length := by rw [len]; simp; omega
    simp only [lt, eq_self, ev, ev2, ev3, ev4, ofS_inj, bodyEnds, String.reduceEq, decide_false, decide_true, reduceCtorEq, List.length_cons, List.length_nil, Nat.reduceAdd, szs, true_and, flatD, List.all_cons, List.all_nil, Bool.and_self, Bool.or_false, Bool.false_or, Bool.or_true, Bool.true_or, Bool.and_true, Bool.true_and, Bool.and_false, Bool.false_and, Bool.not_true, Bool.not_false]
    have hc : noNl c = true := by
      rw [List.all_eq_true] at hw
      exact hw c (by simp)
    have c10 : decide (c = 10) = false := by simpa [noNl] using hc
    refine ix_txt (by omega) hz (c := c) (by rw [Int.toNat_natCast, same, ← List.length_append]; exact get_mid) ?_
    simp only [eq_self, ev, ev2, ev3, ev4, ofS_inj, bodyEnds, String.reduceEq, decide_false, decide_true, reduceCtorEq, List.length_cons, List.length_nil, Nat.reduceAdd, szs, true_and, flatD, List.all_cons, List.all_nil, Bool.and_self, Bool.or_false, Bool.false_or, Bool.or_true, Bool.true_or, Bool.and_true, Bool.true_and, Bool.and_false, Bool.false_and, Bool.not_true, Bool.not_false, txt_inj, List.cons.injEq, and_true, c10]
    refine ⟨v.length, by simp, u ++ [c], v, by simp, rfl, ?_⟩
    rw [List.length_append]; rw [List.length_singleton]
    congr 3
  | nil =>
    have done : N [some (.str (txt (p ++ (u ++ []) ++ r))), some (.int ((p.length + u.length : Nat) : Int))] S' := by
      refine nx _ _ ?_
      simp only [eq_self, ev, ev2, ev3, ev4, ofS_inj, bodyEnds, String.reduceEq, decide_false, decide_true, reduceCtorEq, List.length_cons, List.length_nil, Nat.reduceAdd, szs, true_and, flatD, List.all_cons, List.all_nil, Bool.and_self, Bool.or_false, Bool.false_or, Bool.or_true, Bool.true_or, Bool.and_true, Bool.true_and, Bool.and_false, Bool.false_and, Bool.not_true, Bool.not_false]
      simpa using q
    cases r with
    | nil =>
      have lt : ¬ p.length + u.length < (p ++ (u ++ []) ++ []).length := by simp
      simp only [lt, eq_self, ev, ev2, ev3, ev4, ofS_inj, bodyEnds, String.reduceEq, decide_false, decide_true, reduceCtorEq, List.length_cons, List.length_nil, Nat.reduceAdd, szs, true_and, flatD, List.all_cons, List.all_nil, Bool.and_self, Bool.or_false, Bool.false_or, Bool.or_true, Bool.true_or, Bool.and_true, Bool.true_and, Bool.and_false, Bool.false_and, Bool.not_true, Bool.not_false]
      exact done
    | cons c r =>
      have lt : p.length + u.length < (p ++ (u ++ []) ++ c :: r).length := by simp
      simp only [lt, eq_self, ev, ev2, ev3, ev4, ofS_inj, bodyEnds, String.reduceEq, decide_false, decide_true, reduceCtorEq, List.length_cons, List.length_nil, Nat.reduceAdd, szs, true_and, flatD, List.all_cons, List.all_nil, Bool.and_self, Bool.or_false, Bool.false_or, Bool.or_true, Bool.true_or, Bool.and_true, Bool.true_and, Bool.and_false, Bool.false_and, Bool.not_true, Bool.not_false]
      have hc : decide (c = 10) = true := by simpa [nlStop] using hr
      refine ix_txt (by omega) hz (c := c) (by rw [Int.toNat_natCast, same, ← List.length_append]; exact get_mid) ?_
      simp only [eq_self, ev, ev2, ev3, ev4, ofS_inj, bodyEnds, String.reduceEq, decide_false, decide_true, reduceCtorEq, List.length_cons, List.length_nil, Nat.reduceAdd, szs, true_and, flatD, List.all_cons, List.all_nil, Bool.and_self, Bool.or_false, Bool.false_or, Bool.or_true, Bool.true_or, Bool.and_true, Bool.true_and, Bool.and_false, Bool.false_and, Bool.not_true, Bool.not_false, txt_inj, List.cons.injEq, and_true, hc]
      exact done
/-- the text r, from the place pos on, has the tokens ts -/
inductive Lex : List Nat → Nat → List D → Prop
  | nil {pos : Nat} : Lex [] pos []
  | sp {c : Nat} {r : List Nat} {pos : Nat} {ts : List D} (h : c = 32 ∨ c = 9 ∨ c = 10) (l : Lex r (pos + 1) ts) : Lex (c :: r) pos ts
  | com {w r : List Nat} {pos : Nat} {ts : List D} (h1 : w.all noNl = true) (h2 : nlStop r = true) (l : Lex r (pos + (w.length + 1)) ts) : Lex (35 :: w ++ r) pos ts
  | tok {u r : List Nat} {pos : Nat} {t : D} {ts : List D} (h : Tk u r pos t) (l : Lex r (pos + u.length) ts) : Lex (u ++ r) pos (t :: ts)
/-- what a token begins with -/
theorem Tk.head {u r : List Nat} {pos : Nat} {t : D} (h : Tk u r pos t) : ∃ c w, u = c :: w ∧ c ≠ 32 ∧ c ≠ 9 ∧ c ≠ 10 ∧ c ≠ 35 := by
  cases h with
  | @word c w r pos h1 =>
    refine ⟨c, w, rfl, ?_⟩
    unfold letter at h1
    simp only [Bool.or_eq_true, Bool.and_eq_true, decide_eq_true_eq] at h1
    omega
  | num h1 =>
    obtain ⟨c, w, rfl⟩ := List.exists_cons_of_ne_nil h1.ne
    have dc := h1.dig
    simp only [List.all_cons, Bool.and_eq_true, digit, decide_eq_true_eq] at dc
    exact ⟨c, w, rfl, by omega⟩
  | strg => exact ⟨34, _, rfl, by decide⟩
  | @sign c g r pos h1 h2 h3 h4 =>
    refine ⟨c, g, rfl, ?_⟩
    have hm := List.mem_of_find?_eq_some h1
    simp only [signs, List.mem_cons, List.cons.injEq, List.not_mem_nil, or_false] at hm
    omega
def GTokens : AFn := fun ds S E Q => ∃ l m ts, ds = [.str (txt l), .str m] ∧ l.length ≤ 20000 ∧ Lex l 0 ts ∧ ∀ S' i, S <+: S' → S'[i]? = some (.lst ts) → Q (.ref i) S'
structure TW (S : Sto) (l : List Nat) (m : Str) (all : List D) (k : Nat) (ρ : Rho) (S' : Sto) : Prop where
  ex : ∃ p r ts acc x, l = p ++ r ∧ k = r.length ∧ S <+: S' ∧ S'[S.length]? = some (.lst acc) ∧ acc ++ ts = all ∧ acc.length ≤ p.length ∧ Lex r p.length ts ∧ ρ = [some (.str (txt l)), some (.str m), some (.ref S.length), some (.int (p.length : Nat)), x]
theorem seq_tup {S : Sto} {l : List D} : seqOf S (.tup l) = some l := rfl
theorem sp_tokens : ∀ ds S E Q, GTokens ds S E Q → ds.length = 2 ∧ a_tokens GCom GTok (bodyEnds Q E) (startA 5 ds) S := by
  rintro ds S E Q ⟨l, m, ts, rfl, hl, hx, q⟩
  refine ⟨rfl, ?_⟩
  have st : startA 5 [.str (txt l), .str m] = [some (.str (txt l)), some (.str m), none, none, none] := rfl
  rw [st]
  have hz : l.length ≤ sizeLine := Nat.le_trans hl (by decide)
  unfold a_tokens
  refine seqM fun N nx => ?_
  have e1 : decide ((20000 : Int) < ((l.length : Nat) : Int)) = false := decide_eq_false (by omega)
  simp only [eq_self, ev, ev2, ev3, ev4, ofS_inj, bodyEnds, String.reduceEq, decide_false, decide_true, reduceCtorEq, List.length_cons, List.length_nil, Nat.reduceAdd, szs, true_and, flatD, List.all_cons, List.all_nil, Bool.and_self, Bool.or_false, Bool.false_or, Bool.or_true, Bool.true_or, Bool.and_true, Bool.true_and, Bool.and_false, Bool.false_and, Bool.not_true, Bool.not_false, txt_len, e1]
  refine ⟨hz, nx _ _ ?_⟩
  clear nx N
  refine seqM fun N nx => ?_
  simp only [eq_self, ev, ev2, ev3, ev4, ofS_inj, bodyEnds, String.reduceEq, decide_false, decide_true, reduceCtorEq, List.length_cons, List.length_nil, Nat.reduceAdd, szs, true_and, flatD, List.all_cons, List.all_nil, Bool.and_self, Bool.or_false, Bool.false_or, Bool.or_true, Bool.true_or, Bool.and_true, Bool.true_and, Bool.and_false, Bool.false_and, Bool.not_true, Bool.not_false]
  refine nx _ _ ?_
  clear nx N
  refine seqM fun N nx => ?_
  simp only [eq_self, ev, ev2, ev3, ev4, ofS_inj, bodyEnds, String.reduceEq, decide_false, decide_true, reduceCtorEq, List.length_cons, List.length_nil, Nat.reduceAdd, szs, true_and, flatD, List.all_cons, List.all_nil, Bool.and_self, Bool.or_false, Bool.false_or, Bool.or_true, Bool.true_or, Bool.and_true, Bool.true_and, Bool.and_false, Bool.false_and, Bool.not_true, Bool.not_false]
  refine nx _ _ ?_
  clear nx N
  refine seqM fun N nx => while_mk ⟨TW S l m ts, ⟨_, [], l, ts, [], none, rfl, rfl, pre_app, at_end, rfl, Nat.le_refl _, hx, rfl⟩, ?_⟩
  rintro k ρ S' ⟨p, r, ts', acc, x, rfl, rfl, pre, hat, hall, hacc, hlex, rfl⟩
  simp only [eq_self, ev, ev2, ev3, ev4, ofS_inj, bodyEnds, String.reduceEq, decide_false, decide_true, reduceCtorEq, List.length_cons, List.length_nil, Nat.reduceAdd, szs, true_and, flatD, List.all_cons, List.all_nil, Bool.and_self, Bool.or_false, Bool.false_or, Bool.or_true, Bool.true_or, Bool.and_true, Bool.true_and, Bool.and_false, Bool.false_and, Bool.not_true, Bool.not_false, txt_len, lt_nat, cst]
  refine ⟨hz, ?_⟩
  cases hlex with
  | nil =>
    have lt : ¬ p.length < (p ++ ([] : List Nat)).length := by simp
    simp only [lt, eq_self, ev, ev2, ev3, ev4, ofS_inj, bodyEnds, String.reduceEq, decide_false, decide_true, reduceCtorEq, List.length_cons, List.length_nil, Nat.reduceAdd, szs, true_and, flatD, List.all_cons, List.all_nil, Bool.and_self, Bool.or_false, Bool.false_or, Bool.or_true, Bool.true_or, Bool.and_true, Bool.true_and, Bool.and_false, Bool.false_and, Bool.not_true, Bool.not_false]
    refine nx _ _ ?_
    simp only [eq_self, ev, ev2, ev3, ev4, ofS_inj, bodyEnds, String.reduceEq, decide_false, decide_true, reduceCtorEq, List.length_cons, List.length_nil, Nat.reduceAdd, szs, true_and, flatD, List.all_cons, List.all_nil, Bool.and_self, Bool.or_false, Bool.false_or, Bool.or_true, Bool.true_or, Bool.and_true, Bool.true_and, Bool.and_false, Bool.false_and, Bool.not_true, Bool.not_false]
    rw [List.append_nil] at hall
    exact q _ _ pre (by rw [hat, hall])
  | @sp c r _ _ h lx =>
    have lt : p.length < (p ++ c :: r).length := by simp
    simp only [lt, eq_self, ev, ev2, ev3, ev4, ofS_inj, bodyEnds, String.reduceEq, decide_false, decide_true, reduceCtorEq, List.length_cons, List.length_nil, Nat.reduceAdd, szs, true_and, flatD, List.all_cons, List.all_nil, Bool.and_self, Bool.or_false, Bool.false_or, Bool.or_true, Bool.true_or, Bool.and_true, Bool.true_and, Bool.and_false, Bool.false_and, Bool.not_true, Bool.not_false]
    refine ix_txt (c := c) (by omega) hz get_at ?_
    have inn : inF (.str (txt [c])) [D.str (txt [32]), D.str (txt [9]), D.str (txt [10])] = true := by
      rcases h with rfl | rfl | rfl <;> rfl
    simp only [eq_self, ev, ev2, ev3, ev4, ofS_inj, bodyEnds, String.reduceEq, decide_false, decide_true, reduceCtorEq, List.length_cons, List.length_nil, Nat.reduceAdd, szs, true_and, flatD, List.all_cons, List.all_nil, Bool.and_self, Bool.or_false, Bool.false_or, Bool.or_true, Bool.true_or, Bool.and_true, Bool.true_and, Bool.and_false, Bool.false_and, Bool.not_true, Bool.not_false, inn]
    exact ⟨r.length, by simp, p ++ [c], r, ts', acc, x, by simp, rfl, pre, hat, hall, by simp; omega, by simpa using lx, by simp⟩
  | @com w r _ _ h1 h2 lx =>
    have lt : p.length < (p ++ (35 :: w ++ r)).length := by simp
    simp only [lt, eq_self, ev, ev2, ev3, ev4, ofS_inj, bodyEnds, String.reduceEq, decide_false, decide_true, reduceCtorEq, List.length_cons, List.length_nil, Nat.reduceAdd, szs, true_and, flatD, List.all_cons, List.all_nil, Bool.and_self, Bool.or_false, Bool.false_or, Bool.or_true, Bool.true_or, Bool.and_true, Bool.true_and, Bool.and_false, Bool.false_and, Bool.not_true, Bool.not_false]
    refine ix_txt (c := 35) (by omega) hz (get_at (p := p) (r := w ++ r)) ?_
    have inn : inF (.str (txt [35])) [D.str (txt [32]), D.str (txt [9]), D.str (txt [10])] = false := by decide
    simp only [eq_self, ev, ev2, ev3, ev4, ofS_inj, bodyEnds, String.reduceEq, decide_false, decide_true, reduceCtorEq, List.length_cons, List.length_nil, Nat.reduceAdd, szs, true_and, flatD, List.all_cons, List.all_nil, Bool.and_self, Bool.or_false, Bool.false_or, Bool.or_true, Bool.true_or, Bool.and_true, Bool.true_and, Bool.and_false, Bool.false_and, Bool.not_true, Bool.not_false, inn]
    refine ix_txt (c := 35) (by omega) hz (get_at (p := p) (r := w ++ r)) ?_
    simp only [eq_self, ev, ev2, ev3, ev4, ofS_inj, bodyEnds, String.reduceEq, decide_false, decide_true, reduceCtorEq, List.length_cons, List.length_nil, Nat.reduceAdd, szs, true_and, flatD, List.all_cons, List.all_nil, Bool.and_self, Bool.or_false, Bool.false_or, Bool.or_true, Bool.true_or, Bool.and_true, Bool.true_and, Bool.and_false, Bool.false_and, Bool.not_true, Bool.not_false]
    refine ⟨p, 35 :: w, r, by simp, by simpa using hz, by simp only [List.all_cons, h1]; decide, h2, ?_⟩
    exact ⟨r.length, by simp; omega, p ++ 35 :: w, r, ts', acc, x, by simp, rfl, pre, hat, hall, by simp; omega, by simpa using lx, by simp⟩
  | @tok u r _ t ts2 h lx =>
    obtain ⟨c, w, rfl, c1, c2, c3, c4⟩ := h.head
    have lt : p.length < (p ++ (c :: w ++ r)).length := by simp
    simp only [lt, eq_self, ev, ev2, ev3, ev4, ofS_inj, bodyEnds, String.reduceEq, decide_false, decide_true, reduceCtorEq, List.length_cons, List.length_nil, Nat.reduceAdd, szs, true_and, flatD, List.all_cons, List.all_nil, Bool.and_self, Bool.or_false, Bool.false_or, Bool.or_true, Bool.true_or, Bool.and_true, Bool.true_and, Bool.and_false, Bool.false_and, Bool.not_true, Bool.not_false]
    refine ix_txt (c := c) (by omega) hz (get_at (p := p) (r := w ++ r)) ?_
    have inn : inF (.str (txt [c])) [D.str (txt [32]), D.str (txt [9]), D.str (txt [10])] = false := by
      simp only [inF, List.any_cons, List.any_nil, eqF, txt_inj, List.cons.injEq, and_true, Bool.or_false]
      simp only [Ne.symm c1, Ne.symm c2, Ne.symm c3, decide_false, Bool.or_self]
    simp only [eq_self, ev, ev2, ev3, ev4, ofS_inj, bodyEnds, String.reduceEq, decide_false, decide_true, reduceCtorEq, List.length_cons, List.length_nil, Nat.reduceAdd, szs, true_and, flatD, List.all_cons, List.all_nil, Bool.and_self, Bool.or_false, Bool.false_or, Bool.or_true, Bool.true_or, Bool.and_true, Bool.true_and, Bool.and_false, Bool.false_and, Bool.not_true, Bool.not_false, inn]
    refine ix_txt (c := c) (by omega) hz (get_at (p := p) (r := w ++ r)) ?_
    simp only [eq_self, ev, ev2, ev3, ev4, ofS_inj, bodyEnds, String.reduceEq, decide_false, decide_true, reduceCtorEq, List.length_cons, List.length_nil, Nat.reduceAdd, szs, true_and, flatD, List.all_cons, List.all_nil, Bool.and_self, Bool.or_false, Bool.false_or, Bool.or_true, Bool.true_or, Bool.and_true, Bool.true_and, Bool.and_false, Bool.false_and, Bool.not_true, Bool.not_false, txt_inj, List.cons.injEq, and_true, c4]
    refine ⟨p, c :: w, r, m, t, rfl, hz, h, fun S2 p2 => ?_⟩
    simp only [agTup, seq_tup, agCons, agNil, eq_self, ev, ev2, ev3, ev4, ofS_inj, bodyEnds, String.reduceEq, decide_false, decide_true, reduceCtorEq, List.length_cons, List.length_nil, Nat.reduceAdd, szs, true_and, flatD, List.all_cons, List.all_nil, Bool.and_self, Bool.or_false, Bool.false_or, Bool.or_true, Bool.true_or, Bool.and_true, Bool.true_and, Bool.and_false, Bool.false_and, Bool.not_true, Bool.not_false]
    have at2 := pre_get p2 hat
    have tail : acc.length < sizeLine := Nat.lt_of_le_of_lt (show acc.length ≤ 20000 by simp at hl; omega) (by decide)
    refine ⟨is_lst at2, lst_set at2 tail ?_⟩
    refine ⟨r.length, by simp; omega, p ++ c :: w, r, ts2, acc ++ [t], some t, by simp, rfl, set_pre (pre.trans p2) (Nat.le_refl _), List.getElem?_set_self (List.getElem?_eq_some_iff.mp at2).1, by simpa using hall, by simp; omega, by simpa using lx, by simp⟩
end Lx
namespace Lx
open PySem PySem.Spec
open PyProof.Rows L2 AL Ab
/-! ### texts that are refused -/
/-- Malformed(m, pos) comes out -/
def Mal (m : Str) (pos : Nat) (S : Sto) (E : XA) : Prop := m.length ≤ 1000 ∧ pos ≤ 900000 ∧ ∀ S', S <+: S' → E ⟨"Malformed", some S'.length⟩ (S' ++ [.xd [("at", .int (pos : Int)), ("module", .str m)]])
theorem Mal.pre {m : Str} {pos : Nat} {S S' : Sto} {E : XA} (h : Mal m pos S E) (p : S <+: S') : Mal m pos S' E := ⟨h.1, h.2.1, fun S2 p2 => h.2.2 S2 (p.trans p2)⟩
theorem num_short {p : Nat} (h : p ≤ 900000) : (Str.ofString (toString ((p : Nat) : Int))).length ≤ 7 := by
  have h2 : (toString ((p : Nat) : Int)).length ≤ 7 := int_text_length_le10 (by decide) (by omega)
  rw [Str.ofString_eq_toList]
  show ((toString ((p : Nat) : Int)).toList.map Char.toNat).toArray.size ≤ 7
  rw [List.size_toArray, List.length_map, String.length_toList]
  exact h2
theorem num_log {p : Nat} (h : p ≤ 900000) : ((p : Nat) : Int).natAbs.log2 < 1920 := by
  rw [Int.natAbs_natCast]
  rcases Nat.eq_zero_or_pos p with rfl | h0
  · decide
  · exact Nat.lt_of_lt_of_le ((Nat.log2_lt (k := 20) (by omega)).mpr (by omega)) (by decide)
theorem raise_mal {D0 : AEnds} {ρ : Rho} {S : Sto} {m : Str} {p : Nat} {t : ATA} (ht : ∀ Q : List D → Sto → Prop, Q [.str m, .int (p : Int)] S → t ρ S (fun x S1 => D0.ex x ρ S1) Q) (h1 : m.length ≤ 1000) (h2 : p ≤ 900000)
    (q : D0.ex ⟨"Malformed", some S.length⟩ ρ (S ++ [.xd [("at", .int (p : Int)), ("module", .str m)]])) : aRaise "Malformed" ["module", "at"] e_Malformed t D0 ρ S := by
  refine ht _ ⟨rfl, ?_⟩
  have l1 : (" " : Str).length = 1 := by decide
  have ns := num_short h2
  have hz : 2000 ≤ sizeLine := by decide
  show e_Malformed [none, some (.str m), some (.int (p : Int))] S _ _
  unfold e_Malformed
  simp only [eq_self, ev, ev2, ev3, ev4, ofS_inj, bodyEnds, String.reduceEq, decide_false, decide_true, reduceCtorEq, List.length_cons, List.length_nil, Nat.reduceAdd, szs, true_and, flatD, List.all_cons, List.all_nil, Bool.and_self, Bool.or_false, Bool.false_or, Bool.or_true, Bool.true_or, Bool.and_true, Bool.true_and, Bool.and_false, Bool.false_and, Bool.not_true, Bool.not_false]
  have cstr : ∀ G : VA, G (.str m) S → cStr [.str m] S G := fun G g => g
  refine cstr _ ?_
  refine ⟨by rw [l1]; omega, ?_⟩
  refine ⟨num_log h2, ?_⟩
  refine ⟨?_, q⟩
  have : (m ++ (" " : Str)).length = m.length + 1 := by
    show (m.cps ++ (" " : Str).cps).size = _
    rw [Array.size_append]
    rfl
  rw [this]; omega
def GWordX : AFn := fun ds S E Q => ∃ p w r m, ds = [.str (txt (p ++ w ++ r)), .int (p.length : Nat), .str m] ∧ Word p w r ∧ isRes (txt w) = false ∧ 20 < w.length ∧ Mal m p.length S E
theorem sp_wordX : ∀ ds S E Q, GWordX ds S E Q → ds.length = 3 ∧ a_read_word GRun (bodyEnds Q E) (startA 5 ds) S := by
  rintro ds S E Q ⟨p, w, r, m, rfl, h, hr, hl, q⟩
  refine ⟨rfl, ?_⟩
  have st : startA 5 [.str (txt (p ++ w ++ r)), .int (p.length : Nat), .str m] = [some (.str (txt (p ++ w ++ r))), some (.int (p.length : Nat)), some (.str m), none, none] := rfl
  rw [st]
  unfold a_read_word
  refine seqM fun N nx => ?_
  simp only [eq_self, ev, ev2, ev3, ev4, ofS_inj, bodyEnds, String.reduceEq, decide_false, decide_true, reduceCtorEq, List.length_cons, List.length_nil, Nat.reduceAdd, szs, true_and, flatD, List.all_cons, List.all_nil, Bool.and_self, Bool.or_false, Bool.false_or, Bool.or_true, Bool.true_or, Bool.and_true, Bool.true_and, Bool.and_false, Bool.false_and, Bool.not_true, Bool.not_false]
  refine run_mk h (nx _ _ ?_)
  clear nx N
  refine seqM fun N nx => ?_
  simp only [eq_self, ev, ev2, ev3, ev4, ofS_inj, bodyEnds, String.reduceEq, decide_false, decide_true, reduceCtorEq, List.length_cons, List.length_nil, Nat.reduceAdd, szs, true_and, flatD, List.all_cons, List.all_nil, Bool.and_self, Bool.or_false, Bool.false_or, Bool.or_true, Bool.true_or, Bool.and_true, Bool.true_and, Bool.and_false, Bool.false_and, Bool.not_true, Bool.not_false, cut_mid, txt_len]
  refine ⟨h.few, nx _ _ ?_⟩
  clear nx N
  refine seqM fun N nx => ?_
  simp only [eq_self, ev, ev2, ev3, ev4, ofS_inj, bodyEnds, String.reduceEq, decide_false, decide_true, reduceCtorEq, List.length_cons, List.length_nil, Nat.reduceAdd, szs, true_and, flatD, List.all_cons, List.all_nil, Bool.and_self, Bool.or_false, Bool.false_or, Bool.or_true, Bool.true_or, Bool.and_true, Bool.true_and, Bool.and_false, Bool.false_and, Bool.not_true, Bool.not_false, res_in, hr]
  refine nx _ _ ?_
  clear nx N
  have few : w.length ≤ sizeLine := by have := h.few; simp at this; omega
  have lt : decide ((20 : Int) < (w.length : Int)) = true := decide_eq_true (by omega)
  refine seqM fun N nx => ?_
  show aIfS _ _ _ _ _ _
  unfold aIfS
  simp only [eq_self, ev, ev2, ev3, ev4, ofS_inj, bodyEnds, String.reduceEq, decide_false, decide_true, reduceCtorEq, List.length_cons, List.length_nil, Nat.reduceAdd, szs, true_and, flatD, List.all_cons, List.all_nil, Bool.and_self, Bool.or_false, Bool.false_or, Bool.or_true, Bool.true_or, Bool.and_true, Bool.true_and, Bool.and_false, Bool.false_and, Bool.not_true, Bool.not_false, txt_len, lt]
  exact ⟨few, raise_mal (fun Q h => h) q.1 q.2.1 (q.2.2 S pre_refl)⟩
/-- what no number is -/
inductive NumBad (w : List Nat) : Prop
  | long (h : 5 < w.length)
  | sign (h : w.length ≤ 5) (h2 : w.all digit = false)
  | big {n : Int} (h : w.length ≤ 5) (h2 : w.all digit = true) (h3 : PySem.intText? (txt w) = some n) (h4 : 65535 < n)
  | lead {n : Int} (h : w.length ≤ 5) (h2 : w.all digit = true) (h3 : PySem.intText? (txt w) = some n) (h5 : 1 < w.length) (h6 : w[0]? = some 48)
def GNumX : AFn := fun ds S E Q => ∃ p w r m, ds = [.str (txt (p ++ w ++ r)), .int (p.length : Nat), .str m] ∧ Word p w r ∧ NumBad w ∧ Mal m p.length S E
theorem digs {w : List Nat} {S : Sto} {a0 a1 a2 a3 a5 : Option D} {E : XA} {Q : VA} (hw : w.length ≤ 5)
    (q : ∀ S', S <+: S' → Q (.bl (w.all digit)) S') : aLc (aiAny (aVar 4)) (agName 5) aYes (aCall (G1 digit) (aCons (aVar 5) aNil)) [5] [a0, a1, a2, a3, some (.str (txt w)), a5] S E fun x S1 => cAll [x] S1 Q := by
  refine lc_map (src := .fix (w.map fun c => D.str (txt [c]))) (out := w.map fun c => D.bl (digit c)) (S0 := S) (fun Q' h => ?_) trivial (Nat.lt_of_le_of_lt (show _ ≤ 5 by simp only [Src.items, List.length_map]; exact hw) (by decide)) (by simp [Src.items]) (fun j d hd => ?_) fun S1 p1 => ?_
  · simp only [eq_self, ev, ev2, ev3, ev4, ofS_inj, bodyEnds, String.reduceEq, decide_false, decide_true, reduceCtorEq, List.length_cons, List.length_nil, Nat.reduceAdd, szs, true_and, flatD, List.all_cons, List.all_nil, Bool.and_self, Bool.or_false, Bool.false_or, Bool.or_true, Bool.true_or, Bool.and_true, Bool.true_and, Bool.and_false, Bool.false_and, Bool.not_true, Bool.not_false]
    exact h
  · have hd' : (w.map fun c => D.str (txt [c]))[j]? = some d := hd
    rw [List.getElem?_map] at hd'
    obtain ⟨c, hc, rfl⟩ := Option.map_eq_some_iff.mp hd'
    refine ⟨.bl (digit c), by rw [List.getElem?_map, hc]; rfl, fun S1 Q1 p1 q1 => ?_⟩
    simp only [eq_self, ev, ev2, ev3, ev4, ofS_inj, bodyEnds, String.reduceEq, decide_false, decide_true, reduceCtorEq, List.length_cons, List.length_nil, Nat.reduceAdd, szs, true_and, flatD, List.all_cons, List.all_nil, Bool.and_self, Bool.or_false, Bool.false_or, Bool.or_true, Bool.true_or, Bool.and_true, Bool.true_and, Bool.and_false, Bool.false_and, Bool.not_true, Bool.not_false, wipeA, List.set_cons_succ, List.set_cons_zero]
    exact g1_mk (q1 _ pre_refl)
  · unfold cAll
    show must (lstOf _ _) _
    rw [show lstOf (S1 ++ [.lst (w.map fun c => D.bl (digit c))]) S1.length = some (w.map fun c => D.bl (digit c)) by simp [lstOf]]
    refine ⟨w.map digit, by rw [List.map_map]; rfl, ?_⟩
    rw [show (w.map digit).all _root_.id = w.all digit by simp [List.all_map]]
    exact q _ (p1.trans pre_app)
theorem sp_numX : ∀ ds S E Q, GNumX ds S E Q → ds.length = 3 ∧ a_read_number GRun (G1 digit) (bodyEnds Q E) (startA 6 ds) S := by
  rintro ds S E Q ⟨p, w, r, m, rfl, h, hn, q⟩
  refine ⟨rfl, ?_⟩
  have st : startA 6 [.str (txt (p ++ w ++ r)), .int (p.length : Nat), .str m] = [some (.str (txt (p ++ w ++ r))), some (.int (p.length : Nat)), some (.str m), none, none, none] := rfl
  rw [st]
  unfold a_read_number
  refine seqM fun N nx => ?_
  simp only [eq_self, ev, ev2, ev3, ev4, ofS_inj, bodyEnds, String.reduceEq, decide_false, decide_true, reduceCtorEq, List.length_cons, List.length_nil, Nat.reduceAdd, szs, true_and, flatD, List.all_cons, List.all_nil, Bool.and_self, Bool.or_false, Bool.false_or, Bool.or_true, Bool.true_or, Bool.and_true, Bool.true_and, Bool.and_false, Bool.false_and, Bool.not_true, Bool.not_false]
  refine run_mk h (nx _ _ ?_)
  clear nx N
  refine seqM fun N nx => ?_
  simp only [eq_self, ev, ev2, ev3, ev4, ofS_inj, bodyEnds, String.reduceEq, decide_false, decide_true, reduceCtorEq, List.length_cons, List.length_nil, Nat.reduceAdd, szs, true_and, flatD, List.all_cons, List.all_nil, Bool.and_self, Bool.or_false, Bool.false_or, Bool.or_true, Bool.true_or, Bool.and_true, Bool.true_and, Bool.and_false, Bool.false_and, Bool.not_true, Bool.not_false, cut_mid]
  refine ⟨by rw [txt_len]; exact h.few, nx _ _ ?_⟩
  clear nx N
  have wl : w.length ≤ sizeLine := by have := h.few; simp at this; omega
  -- the first test
  have first : w.length ≤ 5 → ∀ (N : Rho → Sto → Prop), (∀ S', S <+: S' → w.all digit = true → N [some (.str (txt (p ++ w ++ r))), some (.int (p.length : Nat)), some (.str m), some (.int ((p.length + w.length : Nat) : Int)), some (.str (txt w)), none] S') →
      aIfS (aOr (aB (aOp oGt (aCB cLen (aCons (aVar 4) aNil)) (aC (.int 5)))) (aNot (aB (aCB cAll (aCons (aLc (aiAny (aVar 4)) (agName 5) aYes (aCall (G1 digit) (aCons (aVar 5) aNil)) [5]) aNil))))) (aRaise "Malformed" ["module", "at"] e_Malformed (aCons (aVar 2) (aCons (aVar 1) aNil))) aNext { bodyEnds Q E with nx := N } [some (.str (txt (p ++ w ++ r))), some (.int (p.length : Nat)), some (.str m), some (.int ((p.length + w.length : Nat) : Int)), some (.str (txt w)), none] S := by
    intro l5 N nx
    refine ifM fun TA TB ta tb => ?_
    have l5' : decide ((5 : Int) < (w.length : Int)) = false := decide_eq_false (by omega)
    simp only [ev, ev2, ev3, ev4, txt_len, l5']
    refine ⟨wl, digs l5 fun S' p' => ?_⟩
    cases ad : w.all digit with
    | true =>
      simp only [Bool.not_true]
      refine tb _ _ (nx _ p' ad)
    | false =>
      simp only [Bool.not_false]
      refine ta _ _ (raise_mal (fun Q h => h) q.1 q.2.1 (q.2.2 S' p'))
  have raise : ∀ {N : Rho → Sto → Prop} {x5 : Option D} {S' : Sto}, S <+: S' → aRaise "Malformed" ["module", "at"] e_Malformed (aCons (aVar 2) (aCons (aVar 1) aNil)) { bodyEnds Q E with nx := N } [some (.str (txt (p ++ w ++ r))), some (.int (p.length : Nat)), some (.str m), some (.int ((p.length + w.length : Nat) : Int)), some (.str (txt w)), x5] S' :=
    fun {N x5 S'} p' => raise_mal (fun Q h => h) q.1 q.2.1 (q.2.2 S' p')
  refine seqM fun N nx => ?_
  cases hn with
  | long h5 =>
    refine ifM fun TA TB ta tb => ?_
    have l5' : decide ((5 : Int) < (w.length : Int)) = true := decide_eq_true (by omega)
    simp only [ev, ev2, ev3, ev4, txt_len, l5']
    exact ⟨wl, ta _ _ (raise pre_refl)⟩
  | sign h5 h2 =>
    refine first h5 N fun S' p' hd => ?_
    rw [h2] at hd
    cases hd
  | @big n h5 h2 h3 h4 =>
    refine first h5 N fun S' p' hd => nx _ _ ?_
    clear nx N
    have ci : ∀ G : VA, G (.int n) S' → cInt [.str (txt w)] S' G := fun G g => by
      refine ⟨by rw [txt_len]; exact Nat.le_trans h5 (by decide), ?_⟩
      rw [h3]; exact g
    refine seqM fun N nx => ifM fun TA TB ta tb => ?_
    have big : decide ((65535 : Int) < n) = true := decide_eq_true h4
    simp only [eq_self, ev, ev2, ev3, ev4, ofS_inj, bodyEnds, String.reduceEq, decide_false, decide_true, reduceCtorEq, List.length_cons, List.length_nil, Nat.reduceAdd, szs, true_and, flatD, List.all_cons, List.all_nil, Bool.and_self, Bool.or_false, Bool.false_or, Bool.or_true, Bool.true_or, Bool.and_true, Bool.true_and, Bool.and_false, Bool.false_and, Bool.not_true, Bool.not_false]
    refine ci _ ?_
    simp only [eq_self, ev, ev2, ev3, ev4, ofS_inj, bodyEnds, String.reduceEq, decide_false, decide_true, reduceCtorEq, List.length_cons, List.length_nil, Nat.reduceAdd, szs, true_and, flatD, List.all_cons, List.all_nil, Bool.and_self, Bool.or_false, Bool.false_or, Bool.or_true, Bool.true_or, Bool.and_true, Bool.true_and, Bool.and_false, Bool.false_and, Bool.not_true, Bool.not_false, big]
    exact ta _ _ (raise p')
  | @lead n h5 h2 h3 h6 h7 =>
    refine first h5 N fun S' p' hd => nx _ _ ?_
    clear nx N
    have ci : ∀ G : VA, G (.int n) S' → cInt [.str (txt w)] S' G := fun G g => by
      refine ⟨by rw [txt_len]; exact Nat.le_trans h5 (by decide), ?_⟩
      rw [h3]; exact g
    refine seqM fun N nx => ifM fun TA TB ta tb => ?_
    simp only [eq_self, ev, ev2, ev3, ev4, ofS_inj, bodyEnds, String.reduceEq, decide_false, decide_true, reduceCtorEq, List.length_cons, List.length_nil, Nat.reduceAdd, szs, true_and, flatD, List.all_cons, List.all_nil, Bool.and_self, Bool.or_false, Bool.false_or, Bool.or_true, Bool.true_or, Bool.and_true, Bool.true_and, Bool.and_false, Bool.false_and, Bool.not_true, Bool.not_false]
    refine ci _ ?_
    by_cases big : (65535 : Int) < n
    · simp only [big, eq_self, ev, ev2, ev3, ev4, ofS_inj, bodyEnds, String.reduceEq, decide_false, decide_true, reduceCtorEq, List.length_cons, List.length_nil, Nat.reduceAdd, szs, true_and, flatD, List.all_cons, List.all_nil, Bool.and_self, Bool.or_false, Bool.false_or, Bool.or_true, Bool.true_or, Bool.and_true, Bool.true_and, Bool.and_false, Bool.false_and, Bool.not_true, Bool.not_false]
      exact ta _ _ (raise p')
    · simp only [big, eq_self, ev, ev2, ev3, ev4, ofS_inj, bodyEnds, String.reduceEq, decide_false, decide_true, reduceCtorEq, List.length_cons, List.length_nil, Nat.reduceAdd, szs, true_and, flatD, List.all_cons, List.all_nil, Bool.and_self, Bool.or_false, Bool.false_or, Bool.or_true, Bool.true_or, Bool.and_true, Bool.true_and, Bool.and_false, Bool.false_and, Bool.not_true, Bool.not_false]
      refine ix_txt (i := 0) (c := 48) (by decide) wl h7 ?_
      have l1 : decide ((1 : Int) < (w.length : Int)) = true := decide_eq_true (by omega)
      simp only [eq_self, ev, ev2, ev3, ev4, ofS_inj, bodyEnds, String.reduceEq, decide_false, decide_true, reduceCtorEq, List.length_cons, List.length_nil, Nat.reduceAdd, szs, true_and, flatD, List.all_cons, List.all_nil, Bool.and_self, Bool.or_false, Bool.false_or, Bool.or_true, Bool.true_or, Bool.and_true, Bool.true_and, Bool.and_false, Bool.false_and, Bool.not_true, Bool.not_false, cst, txt_len, l1]
      exact ⟨wl, ta _ _ (raise p')⟩
/-- a text that does not end as one -/
inductive StrBad (w r : List Nat) : Prop
  | none (h : w = [])
  | long (h : 20 < w.length)
  | stop (h : w ≠ []) (h2 : w.length ≤ 20) (h3 : r = [])
  | other {c : Nat} {r' : List Nat} (h : w ≠ []) (h2 : w.length ≤ 20) (h3 : r = c :: r') (h4 : c ≠ 34)
def GStrX : AFn := fun ds S E Q => ∃ p w r m, ds = [.str (txt (p ++ 34 :: (w ++ r))), .int (p.length : Nat), .str m] ∧ (p ++ 34 :: (w ++ r)).length ≤ sizeLine ∧ w.all inName = true ∧ stop r = true ∧ StrBad w r ∧ Mal m p.length S E
theorem sp_stringX : ∀ ds S E Q, GStrX ds S E Q → ds.length = 3 ∧ a_read_string GRun (bodyEnds Q E) (startA 4 ds) S := by
  rintro ds S E Q ⟨p, w, r, m, rfl, hz, hw, hs, hb, q⟩
  refine ⟨rfl, ?_⟩
  have st : startA 4 [.str (txt (p ++ 34 :: (w ++ r))), .int (p.length : Nat), .str m] = [some (.str (txt (p ++ 34 :: (w ++ r)))), some (.int (p.length : Nat)), some (.str m), none] := rfl
  rw [st]
  have same : p ++ 34 :: (w ++ r) = (p ++ [34]) ++ w ++ r := by simp
  have hd : Word (p ++ [34]) w r := ⟨by rw [← same]; exact hz, hw, hs⟩
  have i1 : ((p.length : Nat) : Int) + 1 = (((p ++ [34]).length : Nat) : Int) := by simp
  unfold a_read_string
  refine seqM fun N nx => ?_
  simp only [eq_self, ev, ev2, ev3, ev4, ofS_inj, bodyEnds, String.reduceEq, decide_false, decide_true, reduceCtorEq, List.length_cons, List.length_nil, Nat.reduceAdd, szs, true_and, flatD, List.all_cons, List.all_nil, Bool.and_self, Bool.or_false, Bool.false_or, Bool.or_true, Bool.true_or, Bool.and_true, Bool.true_and, Bool.and_false, Bool.false_and, Bool.not_true, Bool.not_false, i1, same]
  refine run_mk hd (nx _ _ ?_)
  clear nx N
  have pl : (p ++ [34]).length = p.length + 1 := by simp
  have tl : ((p ++ [34]) ++ w ++ r).length = p.length + 1 + w.length + r.length := by simp; omega
  refine seqM fun N nx => ifM fun TA TB ta tb => ?_
  have raise : TA [some (.str (txt ((p ++ [34]) ++ w ++ r))), some (.int (p.length : Nat)), some (.str m), some (.int (((p ++ [34]).length + w.length : Nat) : Int))] S := ta _ _ (raise_mal (fun Q h => h) q.1 q.2.1 (q.2.2 S pre_refl))
  cases hb with
  | none h =>
    subst h
    have e1 : decide ((((p ++ [34]).length + 0 : Nat) : Int) = (((p ++ [34]).length : Nat) : Int)) = true := decide_eq_true (by simp)
    simp only [eq_self, ev, ev2, ev3, ev4, ofS_inj, bodyEnds, String.reduceEq, decide_false, decide_true, reduceCtorEq, List.length_cons, List.length_nil, Nat.reduceAdd, szs, true_and, flatD, List.all_cons, List.all_nil, Bool.and_self, Bool.or_false, Bool.false_or, Bool.or_true, Bool.true_or, Bool.and_true, Bool.true_and, Bool.and_false, Bool.false_and, Bool.not_true, Bool.not_false, i1, e1]
    exact raise
  | long h =>
    have e1 : decide ((((p ++ [34]).length + w.length : Nat) : Int) = (((p ++ [34]).length : Nat) : Int)) = false := decide_eq_false (by omega)
    have e2 : decide ((20 : Int) < (((p ++ [34]).length + w.length : Nat) : Int) - ((p.length : Nat) : Int) - 1) = true := decide_eq_true (by omega)
    simp only [eq_self, ev, ev2, ev3, ev4, ofS_inj, bodyEnds, String.reduceEq, decide_false, decide_true, reduceCtorEq, List.length_cons, List.length_nil, Nat.reduceAdd, szs, true_and, flatD, List.all_cons, List.all_nil, Bool.and_self, Bool.or_false, Bool.false_or, Bool.or_true, Bool.true_or, Bool.and_true, Bool.true_and, Bool.and_false, Bool.false_and, Bool.not_true, Bool.not_false, i1, e1, e2]
    exact raise
  | stop h h2 h3 =>
    subst h3
    have wpos : 0 < w.length := List.length_pos_iff.mpr h
    have e1 : decide ((((p ++ [34]).length + w.length : Nat) : Int) = (((p ++ [34]).length : Nat) : Int)) = false := decide_eq_false (by omega)
    have e2 : decide ((20 : Int) < (((p ++ [34]).length + w.length : Nat) : Int) - ((p.length : Nat) : Int) - 1) = false := decide_eq_false (by omega)
    have e3 : decide (((((p ++ [34]) ++ w ++ ([] : List Nat)).length : Nat) : Int) ≤ (((p ++ [34]).length + w.length : Nat) : Int)) = true := decide_eq_true (by rw [tl]; simp only [List.length_nil]; omega)
    simp only [eq_self, ev, ev2, ev3, ev4, ofS_inj, bodyEnds, String.reduceEq, decide_false, decide_true, reduceCtorEq, List.length_cons, List.length_nil, Nat.reduceAdd, szs, true_and, flatD, List.all_cons, List.all_nil, Bool.and_self, Bool.or_false, Bool.false_or, Bool.or_true, Bool.true_or, Bool.and_true, Bool.true_and, Bool.and_false, Bool.false_and, Bool.not_true, Bool.not_false, i1, e1, e2, txt_len, e3]
    exact ⟨hd.few, raise⟩
  | @other c r' h h2 h3 h4 =>
    subst h3
    have wpos : 0 < w.length := List.length_pos_iff.mpr h
    have e1 : decide ((((p ++ [34]).length + w.length : Nat) : Int) = (((p ++ [34]).length : Nat) : Int)) = false := decide_eq_false (by omega)
    have e2 : decide ((20 : Int) < (((p ++ [34]).length + w.length : Nat) : Int) - ((p.length : Nat) : Int) - 1) = false := decide_eq_false (by omega)
    have e3 : decide (((((p ++ [34]) ++ w ++ (c :: r')).length : Nat) : Int) ≤ (((p ++ [34]).length + w.length : Nat) : Int)) = false := decide_eq_false (by rw [tl]; simp only [List.length_cons]; omega)
    simp only [eq_self, ev, ev2, ev3, ev4, ofS_inj, bodyEnds, String.reduceEq, decide_false, decide_true, reduceCtorEq, List.length_cons, List.length_nil, Nat.reduceAdd, szs, true_and, flatD, List.all_cons, List.all_nil, Bool.and_self, Bool.or_false, Bool.false_or, Bool.or_true, Bool.true_or, Bool.and_true, Bool.true_and, Bool.and_false, Bool.false_and, Bool.not_true, Bool.not_false, i1, e1, e2, txt_len, e3]
    refine ⟨hd.few, ix_txt (c := c) (by omega) hd.few (by rw [Int.toNat_natCast, ← List.length_append]; exact get_mid) ?_⟩
    simp only [eq_self, ev, ev2, ev3, ev4, ofS_inj, bodyEnds, String.reduceEq, decide_false, decide_true, reduceCtorEq, List.length_cons, List.length_nil, Nat.reduceAdd, szs, true_and, flatD, List.all_cons, List.all_nil, Bool.and_self, Bool.or_false, Bool.false_or, Bool.or_true, Bool.true_or, Bool.and_true, Bool.true_and, Bool.and_false, Bool.false_and, Bool.not_true, Bool.not_false, cst, txt_inj, List.cons.injEq, and_true, h4]
    exact raise
def GSignX : AFn := fun ds S E Q => ∃ p r m, ds = [.str (txt (p ++ r)), .int (p.length : Nat), .str m] ∧ (p ++ r).length ≤ sizeLine ∧ signOf r = none ∧ Mal m p.length S E
theorem sp_signX : ∀ ds S E Q, GSignX ds S E Q → ds.length = 3 ∧ a_read_sign (bodyEnds Q E) (startA 4 ds) S := by
  rintro ds S E Q ⟨p, r, m, rfl, hz, hg, q⟩
  refine ⟨rfl, ?_⟩
  have st : startA 4 [.str (txt (p ++ r)), .int (p.length : Nat), .str m] = [some (.str (txt (p ++ r))), some (.int (p.length : Nat)), some (.str m), none] := rfl
  rw [st]
  unfold a_read_sign
  refine seqM fun N nx => ?_
  unfold aFor
  simp only [eq_self, ev, ev2, ev3, ev4, ofS_inj, bodyEnds, String.reduceEq, decide_false, decide_true, reduceCtorEq, List.length_cons, List.length_nil, Nat.reduceAdd, szs, true_and, flatD, List.all_cons, List.all_nil, Bool.and_self, Bool.or_false, Bool.false_or, Bool.or_true, Bool.true_or, Bool.and_true, Bool.true_and, Bool.and_false, Bool.false_and, Bool.not_true, Bool.not_false, srcOf, sgn]
  have no := List.find?_eq_none.mp hg
  refine ⟨fun k ρ S' => S' = S ∧ ∃ x, ρ = [some (.str (txt (p ++ r))), some (.int (p.length : Nat)), some (.str m), x], ⟨rfl, _, rfl⟩, fun _ _ _ _ _ => trivial, ?_, ?_⟩
  · rintro k d ρ S' hd ⟨rfl, x, rfl⟩
    have hd' : (signs.map fun g => D.str (txt g))[k]? = some d := hd
    rw [List.getElem?_map] at hd'
    obtain ⟨g', hg', rfl⟩ := Option.map_eq_some_iff.mp hd'
    have hp : g'.isPrefixOf r = false := by
      have := no g' (List.mem_of_getElem? hg')
      exact Bool.eq_false_iff.mpr this
    simp only [eq_self, ev, ev2, ev3, ev4, ofS_inj, bodyEnds, String.reduceEq, decide_false, decide_true, reduceCtorEq, List.length_cons, List.length_nil, Nat.reduceAdd, szs, true_and, flatD, List.all_cons, List.all_nil, Bool.and_self, Bool.or_false, Bool.false_or, Bool.or_true, Bool.true_or, Bool.and_true, Bool.true_and, Bool.and_false, Bool.false_and, Bool.not_true, Bool.not_false, isTxt, starts_txt, txt_len, hp]
    exact ⟨_, rfl⟩
  · rintro ρ S' ⟨rfl, x, rfl⟩
    exact nx _ _ (raise_mal (fun Q h => h) q.1 q.2.1 (q.2.2 _ pre_refl))
/-- a text that begins with no token -/
inductive BadTk : List Nat → Prop
  | name {c : Nat} {w r : List Nat} (h1 : letter c = true) (h2 : w.all inName = true) (h3 : stop r = true) (h4 : isRes (txt (c :: w)) = false) (h5 : 20 < w.length + 1) : BadTk (c :: w ++ r)
  | num {c : Nat} {w r : List Nat} (h1 : digit c = true) (h2 : w.all inName = true) (h3 : stop r = true) (h4 : NumBad (c :: w)) : BadTk (c :: w ++ r)
  | strg {w r : List Nat} (h1 : w.all inName = true) (h2 : stop r = true) (h3 : StrBad w r) : BadTk (34 :: (w ++ r))
  | sign {c : Nat} {r : List Nat} (h1 : letter c = false) (h2 : digit c = false) (h3 : c ≠ 34) (h4 : signOf (c :: r) = none) (h5 : c ≠ 32 ∧ c ≠ 9 ∧ c ≠ 10 ∧ c ≠ 35) : BadTk (c :: r)
theorem BadTk.head {r : List Nat} (h : BadTk r) : ∃ c w, r = c :: w ∧ c ≠ 32 ∧ c ≠ 9 ∧ c ≠ 10 ∧ c ≠ 35 := by
  cases h with
  | @name c w r h1 =>
    refine ⟨c, w ++ r, rfl, ?_⟩
    unfold letter at h1
    simp only [Bool.or_eq_true, Bool.and_eq_true, decide_eq_true_eq] at h1
    omega
  | @num c w r h1 =>
    refine ⟨c, w ++ r, rfl, ?_⟩
    unfold digit at h1
    simp only [decide_eq_true_eq, Bool.and_eq_true] at h1
    omega
  | strg => exact ⟨34, _, rfl, by decide⟩
  | sign _ _ _ _ h5 => exact ⟨_, _, rfl, h5⟩
def GTokX : AFn := fun ds S E Q => ∃ p r m, ds = [.str (txt (p ++ r)), .int (p.length : Nat), .str m] ∧ (p ++ r).length ≤ sizeLine ∧ BadTk r ∧ Mal m p.length S E
theorem name_digit {c : Nat} (h : digit c = true) : inName c = true := by simp only [inName, h, Bool.or_true, Bool.true_or]
theorem sp_tokenX : ∀ ds S E Q, GTokX ds S E Q → ds.length = 3 ∧ a_read_token (G1 letter) GWordX (G1 digit) GNumX GStrX GSignX (bodyEnds Q E) (startA 3 ds) S := by
  rintro ds S E Q ⟨p, r, m, rfl, hz, ht, q⟩
  refine ⟨rfl, ?_⟩
  have st : startA 3 [.str (txt (p ++ r)), .int (p.length : Nat), .str m] = [some (.str (txt (p ++ r))), some (.int (p.length : Nat)), some (.str m)] := rfl
  rw [st]
  unfold a_read_token
  simp only [eq_self, ev, ev2, ev3, ev4, ofS_inj, bodyEnds, String.reduceEq, decide_false, decide_true, reduceCtorEq, List.length_cons, List.length_nil, Nat.reduceAdd, szs, true_and, flatD, List.all_cons, List.all_nil, Bool.and_self, Bool.or_false, Bool.false_or, Bool.or_true, Bool.true_or, Bool.and_true, Bool.true_and, Bool.and_false, Bool.false_and, Bool.not_true, Bool.not_false, cst]
  cases ht with
  | @name c w r h1 h2 h3 h4 h5 =>
    refine ix_txt (c := c) (by omega) hz (get_at (p := p) (r := w ++ r)) (g1_mk ?_)
    simp only [h1, eq_self, ev, ev2, ev3, ev4, ofS_inj, bodyEnds, String.reduceEq, decide_false, decide_true, reduceCtorEq, List.length_cons, List.length_nil, Nat.reduceAdd, szs, true_and, flatD, List.all_cons, List.all_nil, Bool.and_self, Bool.or_false, Bool.false_or, Bool.or_true, Bool.true_or, Bool.and_true, Bool.true_and, Bool.and_false, Bool.false_and, Bool.not_true, Bool.not_false]
    exact ⟨p, c :: w, r, m, by simp, ⟨by simpa using hz, by simp only [List.all_cons, letter_name h1, h2, Bool.and_self], h3⟩, h4, by simpa using h5, q⟩
  | @num c w r h1 h2 h3 h4 =>
    refine ix_txt (c := c) (by omega) hz (get_at (p := p) (r := w ++ r)) (g1_mk ?_)
    simp only [digit_letter h1, eq_self, ev, ev2, ev3, ev4, ofS_inj, bodyEnds, String.reduceEq, decide_false, decide_true, reduceCtorEq, List.length_cons, List.length_nil, Nat.reduceAdd, szs, true_and, flatD, List.all_cons, List.all_nil, Bool.and_self, Bool.or_false, Bool.false_or, Bool.or_true, Bool.true_or, Bool.and_true, Bool.true_and, Bool.and_false, Bool.false_and, Bool.not_true, Bool.not_false]
    refine ix_txt (c := c) (by omega) hz (get_at (p := p) (r := w ++ r)) (g1_mk ?_)
    simp only [h1, eq_self, ev, ev2, ev3, ev4, ofS_inj, bodyEnds, String.reduceEq, decide_false, decide_true, reduceCtorEq, List.length_cons, List.length_nil, Nat.reduceAdd, szs, true_and, flatD, List.all_cons, List.all_nil, Bool.and_self, Bool.or_false, Bool.false_or, Bool.or_true, Bool.true_or, Bool.and_true, Bool.true_and, Bool.and_false, Bool.false_and, Bool.not_true, Bool.not_false]
    exact ⟨p, c :: w, r, m, by simp, ⟨by simpa using hz, by simp only [List.all_cons, name_digit h1, h2, Bool.and_self], h3⟩, h4, q⟩
  | @strg w r h1 h2 h3 =>
    refine ix_txt (c := 34) (by omega) hz (get_at (p := p) (r := w ++ r)) (g1_mk ?_)
    simp only [show letter 34 = false by decide, eq_self, ev, ev2, ev3, ev4, ofS_inj, bodyEnds, String.reduceEq, decide_false, decide_true, reduceCtorEq, List.length_cons, List.length_nil, Nat.reduceAdd, szs, true_and, flatD, List.all_cons, List.all_nil, Bool.and_self, Bool.or_false, Bool.false_or, Bool.or_true, Bool.true_or, Bool.and_true, Bool.true_and, Bool.and_false, Bool.false_and, Bool.not_true, Bool.not_false]
    refine ix_txt (c := 34) (by omega) hz (get_at (p := p) (r := w ++ r)) (g1_mk ?_)
    simp only [show digit 34 = false by decide, eq_self, ev, ev2, ev3, ev4, ofS_inj, bodyEnds, String.reduceEq, decide_false, decide_true, reduceCtorEq, List.length_cons, List.length_nil, Nat.reduceAdd, szs, true_and, flatD, List.all_cons, List.all_nil, Bool.and_self, Bool.or_false, Bool.false_or, Bool.or_true, Bool.true_or, Bool.and_true, Bool.true_and, Bool.and_false, Bool.false_and, Bool.not_true, Bool.not_false]
    refine ix_txt (c := 34) (by omega) hz (get_at (p := p) (r := w ++ r)) ?_
    simp only [eq_self, ev, ev2, ev3, ev4, ofS_inj, bodyEnds, String.reduceEq, decide_false, decide_true, reduceCtorEq, List.length_cons, List.length_nil, Nat.reduceAdd, szs, true_and, flatD, List.all_cons, List.all_nil, Bool.and_self, Bool.or_false, Bool.false_or, Bool.or_true, Bool.true_or, Bool.and_true, Bool.true_and, Bool.and_false, Bool.false_and, Bool.not_true, Bool.not_false]
    exact ⟨p, w, r, m, rfl, hz, h1, h2, h3, q⟩
  | @sign c r h1 h2 h3 h4 h5 =>
    refine ix_txt (c := c) (by omega) hz (get_at (p := p) (r := r)) (g1_mk ?_)
    simp only [h1, eq_self, ev, ev2, ev3, ev4, ofS_inj, bodyEnds, String.reduceEq, decide_false, decide_true, reduceCtorEq, List.length_cons, List.length_nil, Nat.reduceAdd, szs, true_and, flatD, List.all_cons, List.all_nil, Bool.and_self, Bool.or_false, Bool.false_or, Bool.or_true, Bool.true_or, Bool.and_true, Bool.true_and, Bool.and_false, Bool.false_and, Bool.not_true, Bool.not_false]
    refine ix_txt (c := c) (by omega) hz (get_at (p := p) (r := r)) (g1_mk ?_)
    simp only [h2, eq_self, ev, ev2, ev3, ev4, ofS_inj, bodyEnds, String.reduceEq, decide_false, decide_true, reduceCtorEq, List.length_cons, List.length_nil, Nat.reduceAdd, szs, true_and, flatD, List.all_cons, List.all_nil, Bool.and_self, Bool.or_false, Bool.false_or, Bool.or_true, Bool.true_or, Bool.and_true, Bool.true_and, Bool.and_false, Bool.false_and, Bool.not_true, Bool.not_false]
    refine ix_txt (c := c) (by omega) hz (get_at (p := p) (r := r)) ?_
    simp only [eq_self, ev, ev2, ev3, ev4, ofS_inj, bodyEnds, String.reduceEq, decide_false, decide_true, reduceCtorEq, List.length_cons, List.length_nil, Nat.reduceAdd, szs, true_and, flatD, List.all_cons, List.all_nil, Bool.and_self, Bool.or_false, Bool.false_or, Bool.or_true, Bool.true_or, Bool.and_true, Bool.true_and, Bool.and_false, Bool.false_and, Bool.not_true, Bool.not_false, txt_inj, List.cons.injEq, and_true, h3]
    exact ⟨p, c :: r, m, rfl, hz, h4, q⟩
/-- the text, from pos on, has tokens up to end, where it begins with none -/
inductive LexX : List Nat → Nat → Nat → Prop
  | bad {r : List Nat} {pos : Nat} (h : BadTk r) : LexX r pos pos
  | sp {c : Nat} {r : List Nat} {pos e : Nat} (h : c = 32 ∨ c = 9 ∨ c = 10) (l : LexX r (pos + 1) e) : LexX (c :: r) pos e
  | com {w r : List Nat} {pos e : Nat} (h1 : w.all noNl = true) (h2 : nlStop r = true) (l : LexX r (pos + (w.length + 1)) e) : LexX (35 :: w ++ r) pos e
  | tok {u r : List Nat} {pos e : Nat} {t : D} (h : Tk u r pos t) (l : LexX r (pos + u.length) e) : LexX (u ++ r) pos e
def GTokensX : AFn := fun ds S E Q => ∃ l m e, ds = [.str (txt l), .str m] ∧ l.length ≤ 20000 ∧ LexX l 0 e ∧ Mal m e S E
structure TX (S : Sto) (l : List Nat) (m : Str) (e k : Nat) (ρ : Rho) (S' : Sto) : Prop where
  ex : ∃ p r acc x, l = p ++ r ∧ k = r.length ∧ S <+: S' ∧ S'[S.length]? = some (.lst acc) ∧ acc.length ≤ p.length ∧ LexX r p.length e ∧ ρ = [some (.str (txt l)), some (.str m), some (.ref S.length), some (.int (p.length : Nat)), x]
theorem sp_tokensX : ∀ ds S E Q, GTokensX ds S E Q → ds.length = 2 ∧ a_tokens GCom (oF GTok GTokX) (bodyEnds Q E) (startA 5 ds) S := by
  rintro ds S E Q ⟨l, m, e, rfl, hl, hx, q⟩
  refine ⟨rfl, ?_⟩
  have st : startA 5 [.str (txt l), .str m] = [some (.str (txt l)), some (.str m), none, none, none] := rfl
  rw [st]
  have hz : l.length ≤ sizeLine := Nat.le_trans hl (by decide)
  unfold a_tokens
  refine seqM fun N nx => ?_
  have e1 : decide ((20000 : Int) < ((l.length : Nat) : Int)) = false := decide_eq_false (by omega)
  simp only [eq_self, ev, ev2, ev3, ev4, ofS_inj, bodyEnds, String.reduceEq, decide_false, decide_true, reduceCtorEq, List.length_cons, List.length_nil, Nat.reduceAdd, szs, true_and, flatD, List.all_cons, List.all_nil, Bool.and_self, Bool.or_false, Bool.false_or, Bool.or_true, Bool.true_or, Bool.and_true, Bool.true_and, Bool.and_false, Bool.false_and, Bool.not_true, Bool.not_false, txt_len, e1]
  refine ⟨hz, nx _ _ ?_⟩
  clear nx N
  refine seqM fun N nx => ?_
  simp only [eq_self, ev, ev2, ev3, ev4, ofS_inj, bodyEnds, String.reduceEq, decide_false, decide_true, reduceCtorEq, List.length_cons, List.length_nil, Nat.reduceAdd, szs, true_and, flatD, List.all_cons, List.all_nil, Bool.and_self, Bool.or_false, Bool.false_or, Bool.or_true, Bool.true_or, Bool.and_true, Bool.true_and, Bool.and_false, Bool.false_and, Bool.not_true, Bool.not_false]
  refine nx _ _ ?_
  clear nx N
  refine seqM fun N nx => ?_
  simp only [eq_self, ev, ev2, ev3, ev4, ofS_inj, bodyEnds, String.reduceEq, decide_false, decide_true, reduceCtorEq, List.length_cons, List.length_nil, Nat.reduceAdd, szs, true_and, flatD, List.all_cons, List.all_nil, Bool.and_self, Bool.or_false, Bool.false_or, Bool.or_true, Bool.true_or, Bool.and_true, Bool.true_and, Bool.and_false, Bool.false_and, Bool.not_true, Bool.not_false]
  refine nx _ _ ?_
  clear nx N
  refine seqM fun N nx => while_mk ⟨TX S l m e, ⟨_, [], l, [], none, rfl, rfl, pre_app, at_end, Nat.le_refl _, hx, rfl⟩, ?_⟩
  rintro k ρ S' ⟨p, r, acc, x, rfl, rfl, pre, hat, hacc, hlex, rfl⟩
  simp only [eq_self, ev, ev2, ev3, ev4, ofS_inj, bodyEnds, String.reduceEq, decide_false, decide_true, reduceCtorEq, List.length_cons, List.length_nil, Nat.reduceAdd, szs, true_and, flatD, List.all_cons, List.all_nil, Bool.and_self, Bool.or_false, Bool.false_or, Bool.or_true, Bool.true_or, Bool.and_true, Bool.true_and, Bool.and_false, Bool.false_and, Bool.not_true, Bool.not_false, txt_len, lt_nat, cst]
  refine ⟨hz, ?_⟩
  cases hlex with
  | bad h =>
    have hb := h
    obtain ⟨c, w, rfl, c1, c2, c3, c4⟩ := h.head
    have lt : p.length < (p ++ c :: w).length := by simp
    simp only [lt, eq_self, ev, ev2, ev3, ev4, ofS_inj, bodyEnds, String.reduceEq, decide_false, decide_true, reduceCtorEq, List.length_cons, List.length_nil, Nat.reduceAdd, szs, true_and, flatD, List.all_cons, List.all_nil, Bool.and_self, Bool.or_false, Bool.false_or, Bool.or_true, Bool.true_or, Bool.and_true, Bool.true_and, Bool.and_false, Bool.false_and, Bool.not_true, Bool.not_false]
    refine ix_txt (c := c) (by omega) hz (get_at (p := p) (r := w)) ?_
    have inn : inF (.str (txt [c])) [D.str (txt [32]), D.str (txt [9]), D.str (txt [10])] = false := by
      simp only [inF, List.any_cons, List.any_nil, eqF, txt_inj, List.cons.injEq, and_true, Bool.or_false]
      simp only [Ne.symm c1, Ne.symm c2, Ne.symm c3, decide_false, Bool.or_self]
    simp only [eq_self, ev, ev2, ev3, ev4, ofS_inj, bodyEnds, String.reduceEq, decide_false, decide_true, reduceCtorEq, List.length_cons, List.length_nil, Nat.reduceAdd, szs, true_and, flatD, List.all_cons, List.all_nil, Bool.and_self, Bool.or_false, Bool.false_or, Bool.or_true, Bool.true_or, Bool.and_true, Bool.true_and, Bool.and_false, Bool.false_and, Bool.not_true, Bool.not_false, inn]
    refine ix_txt (c := c) (by omega) hz (get_at (p := p) (r := w)) ?_
    simp only [eq_self, ev, ev2, ev3, ev4, ofS_inj, bodyEnds, String.reduceEq, decide_false, decide_true, reduceCtorEq, List.length_cons, List.length_nil, Nat.reduceAdd, szs, true_and, flatD, List.all_cons, List.all_nil, Bool.and_self, Bool.or_false, Bool.false_or, Bool.or_true, Bool.true_or, Bool.and_true, Bool.true_and, Bool.and_false, Bool.false_and, Bool.not_true, Bool.not_false, txt_inj, List.cons.injEq, and_true, c4]
    exact .inr ⟨p, c :: w, m, rfl, hz, hb, q.pre pre⟩
  | @sp c r _ _ h lx =>
    have lt : p.length < (p ++ c :: r).length := by simp
    simp only [lt, eq_self, ev, ev2, ev3, ev4, ofS_inj, bodyEnds, String.reduceEq, decide_false, decide_true, reduceCtorEq, List.length_cons, List.length_nil, Nat.reduceAdd, szs, true_and, flatD, List.all_cons, List.all_nil, Bool.and_self, Bool.or_false, Bool.false_or, Bool.or_true, Bool.true_or, Bool.and_true, Bool.true_and, Bool.and_false, Bool.false_and, Bool.not_true, Bool.not_false]
    refine ix_txt (c := c) (by omega) hz get_at ?_
    have inn : inF (.str (txt [c])) [D.str (txt [32]), D.str (txt [9]), D.str (txt [10])] = true := by
      rcases h with rfl | rfl | rfl <;> rfl
    simp only [eq_self, ev, ev2, ev3, ev4, ofS_inj, bodyEnds, String.reduceEq, decide_false, decide_true, reduceCtorEq, List.length_cons, List.length_nil, Nat.reduceAdd, szs, true_and, flatD, List.all_cons, List.all_nil, Bool.and_self, Bool.or_false, Bool.false_or, Bool.or_true, Bool.true_or, Bool.and_true, Bool.true_and, Bool.and_false, Bool.false_and, Bool.not_true, Bool.not_false, inn]
    exact ⟨r.length, by simp, p ++ [c], r, acc, x, by simp, rfl, pre, hat, by simp; omega, by simpa using lx, by simp⟩
  | @com w r _ _ h1 h2 lx =>
    have lt : p.length < (p ++ (35 :: w ++ r)).length := by simp
    simp only [lt, eq_self, ev, ev2, ev3, ev4, ofS_inj, bodyEnds, String.reduceEq, decide_false, decide_true, reduceCtorEq, List.length_cons, List.length_nil, Nat.reduceAdd, szs, true_and, flatD, List.all_cons, List.all_nil, Bool.and_self, Bool.or_false, Bool.false_or, Bool.or_true, Bool.true_or, Bool.and_true, Bool.true_and, Bool.and_false, Bool.false_and, Bool.not_true, Bool.not_false]
    refine ix_txt (c := 35) (by omega) hz (get_at (p := p) (r := w ++ r)) ?_
    have inn : inF (.str (txt [35])) [D.str (txt [32]), D.str (txt [9]), D.str (txt [10])] = false := by decide
    simp only [eq_self, ev, ev2, ev3, ev4, ofS_inj, bodyEnds, String.reduceEq, decide_false, decide_true, reduceCtorEq, List.length_cons, List.length_nil, Nat.reduceAdd, szs, true_and, flatD, List.all_cons, List.all_nil, Bool.and_self, Bool.or_false, Bool.false_or, Bool.or_true, Bool.true_or, Bool.and_true, Bool.true_and, Bool.and_false, Bool.false_and, Bool.not_true, Bool.not_false, inn]
    refine ix_txt (c := 35) (by omega) hz (get_at (p := p) (r := w ++ r)) ?_
    simp only [eq_self, ev, ev2, ev3, ev4, ofS_inj, bodyEnds, String.reduceEq, decide_false, decide_true, reduceCtorEq, List.length_cons, List.length_nil, Nat.reduceAdd, szs, true_and, flatD, List.all_cons, List.all_nil, Bool.and_self, Bool.or_false, Bool.false_or, Bool.or_true, Bool.true_or, Bool.and_true, Bool.true_and, Bool.and_false, Bool.false_and, Bool.not_true, Bool.not_false]
    refine ⟨p, 35 :: w, r, by simp, by simpa using hz, by simp only [List.all_cons, h1]; decide, h2, ?_⟩
    exact ⟨r.length, by simp; omega, p ++ 35 :: w, r, acc, x, by simp, rfl, pre, hat, by simp; omega, by simpa using lx, by simp⟩
  | @tok u r _ _ t h lx =>
    obtain ⟨c, w, rfl, c1, c2, c3, c4⟩ := h.head
    have lt : p.length < (p ++ (c :: w ++ r)).length := by simp
    simp only [lt, eq_self, ev, ev2, ev3, ev4, ofS_inj, bodyEnds, String.reduceEq, decide_false, decide_true, reduceCtorEq, List.length_cons, List.length_nil, Nat.reduceAdd, szs, true_and, flatD, List.all_cons, List.all_nil, Bool.and_self, Bool.or_false, Bool.false_or, Bool.or_true, Bool.true_or, Bool.and_true, Bool.true_and, Bool.and_false, Bool.false_and, Bool.not_true, Bool.not_false]
    refine ix_txt (c := c) (by omega) hz (get_at (p := p) (r := w ++ r)) ?_
    have inn : inF (.str (txt [c])) [D.str (txt [32]), D.str (txt [9]), D.str (txt [10])] = false := by
      simp only [inF, List.any_cons, List.any_nil, eqF, txt_inj, List.cons.injEq, and_true, Bool.or_false]
      simp only [Ne.symm c1, Ne.symm c2, Ne.symm c3, decide_false, Bool.or_self]
    simp only [eq_self, ev, ev2, ev3, ev4, ofS_inj, bodyEnds, String.reduceEq, decide_false, decide_true, reduceCtorEq, List.length_cons, List.length_nil, Nat.reduceAdd, szs, true_and, flatD, List.all_cons, List.all_nil, Bool.and_self, Bool.or_false, Bool.false_or, Bool.or_true, Bool.true_or, Bool.and_true, Bool.true_and, Bool.and_false, Bool.false_and, Bool.not_true, Bool.not_false, inn]
    refine ix_txt (c := c) (by omega) hz (get_at (p := p) (r := w ++ r)) ?_
    simp only [eq_self, ev, ev2, ev3, ev4, ofS_inj, bodyEnds, String.reduceEq, decide_false, decide_true, reduceCtorEq, List.length_cons, List.length_nil, Nat.reduceAdd, szs, true_and, flatD, List.all_cons, List.all_nil, Bool.and_self, Bool.or_false, Bool.false_or, Bool.or_true, Bool.true_or, Bool.and_true, Bool.true_and, Bool.and_false, Bool.false_and, Bool.not_true, Bool.not_false, txt_inj, List.cons.injEq, and_true, c4]
    refine .inl ⟨p, c :: w, r, m, t, rfl, hz, h, fun S2 p2 => ?_⟩
    simp only [agTup, seq_tup, agCons, agNil, eq_self, ev, ev2, ev3, ev4, ofS_inj, bodyEnds, String.reduceEq, decide_false, decide_true, reduceCtorEq, List.length_cons, List.length_nil, Nat.reduceAdd, szs, true_and, flatD, List.all_cons, List.all_nil, Bool.and_self, Bool.or_false, Bool.false_or, Bool.or_true, Bool.true_or, Bool.and_true, Bool.true_and, Bool.and_false, Bool.false_and, Bool.not_true, Bool.not_false]
    have at2 := pre_get p2 hat
    have tail : acc.length < sizeLine := Nat.lt_of_le_of_lt (show acc.length ≤ 20000 by simp at hl; omega) (by decide)
    refine ⟨is_lst at2, lst_set at2 tail ?_⟩
    refine ⟨r.length, by simp; omega, p ++ c :: w, r, acc ++ [t], some t, by simp, rfl, set_pre (pre.trans p2) (Nat.le_refl _), List.getElem?_set_self (List.getElem?_eq_some_iff.mp at2).1, by simp; omega, by simpa using lx, by simp⟩
end Lx
namespace Lx
open PySem PySem.Spec
open PyProof.Rows L2 AL Ab
/-! ### the digits of a number -/
def dg (m : Nat) : List Nat := (Nat.toDigits 10 m).map Char.toNat
theorem txt_dg (m : Nat) : Str.ofString (toString ((m : Nat) : Int)) = txt (dg m) := by
  rw [txt_of (Str.ofString _), W.KIN.signs_num]
  rfl
theorem dc_nat : ∀ d : Nat, d < 10 → (Nat.digitChar d).toNat = 48 + d := by decide
theorem dg_head (m : Nat) : 0 < m → ∃ c w, dg m = c :: w ∧ c ≠ 48 := by
  induction (m : Nat) using Nat.strongRecOn with
  | _ m ih =>
    intro h0
    unfold dg
    by_cases h : m < 10
    · rw [Nat.toDigits_of_lt_base (show m < 10 from h)]
      exact ⟨_, [], rfl, by rw [dc_nat m h]; omega⟩
    · rw [Nat.toDigits_of_base_le (by decide) (by omega)]
      obtain ⟨c, w, e, hc⟩ := ih (m / 10) (by omega) (by omega)
      unfold dg at e
      rw [List.map_append, e]
      exact ⟨c, _, rfl, hc⟩
theorem num_dg {m : Nat} (h : m ≤ 65535) : Num (dg m) (m : Int) := by
  have hlen : (dg m).length ≤ 5 := by
    unfold dg
    rw [List.length_map, Nat.length_toDigits_le_iff (by decide) (by decide)]
    omega
  have hne : dg m ≠ [] := by
    rcases Nat.eq_zero_or_pos m with rfl | h0
    · decide
    · obtain ⟨c, w, e, _⟩ := dg_head m h0
      rw [e]; exact nofun
  refine ⟨hne, ?_, hlen, ?_, by omega, ?_⟩
  · rw [List.all_eq_true]
    intro c hc
    obtain ⟨ch, hch, rfl⟩ := List.mem_map.mp hc
    have := Nat.isDigit_of_mem_toDigits (by decide) (by decide) hch
    simp only [Char.isDigit, Bool.and_eq_true, decide_eq_true_eq] at this
    simp only [digit, Bool.and_eq_true, decide_eq_true_eq]
    have a1 := UInt32.le_iff_toNat_le.mp this.1
    have a2 := UInt32.le_iff_toNat_le.mp this.2
    exact ⟨a1, a2⟩
  · rw [← txt_dg]
    exact W.KIN.num_reads (by omega) (by omega)
  · intro hl
    rcases Nat.eq_zero_or_pos m with rfl | h0
    · exact absurd hl (by decide)
    · obtain ⟨c, w, e, hc⟩ := dg_head m h0
      rw [e]
      intro z
      exact hc (Option.some.inj z)
theorem tapp (a b : List Nat) : txt a ++ txt b = txt (a ++ b) := by
  show Str.mk (a.toArray ++ b.toArray) = _
  simp [txt]
theorem cint_eq {i : Int} {S : Sto} {Q : VA} : cInt [.int i] S Q = Q (.int i) S := rfl
theorem div_eq {i j : Int} {S : Sto} {Q : VA} : oDiv (.int i) (.int j) S Q = (CDiv i j ∧ Q (.int (i / j)) S) := rfl
theorem add_str {s t : Str} {S : Sto} {Q : VA} : oAdd (.str s) (.str t) S Q = (s.length + t.length ≤ sizeLine ∧ Q (.str (s ++ t)) S) := rfl
theorem cabs_eq {i : Int} {S : Sto} {Q : VA} : cAbs [.int i] S Q = Q (.int (if i < 0 then -i else i)) S := rfl
theorem cmin_eq {i j : Int} {S : Sto} {Q : VA} : cMin [.int i, .int j] S Q = Q (.int (if j < i then j else i)) S := rfl
theorem str_eq {m : Nat} {S : Sto} {Q : VA} (h : m ≤ 65535) : cStr [.int (m : Int)] S Q = Q (.str (txt (dg m))) S := by
  show (_ ∧ Q (.str (Str.ofString (toString (m : Int)))) S) = _
  rw [txt_dg]
  have : ((m : Nat) : Int).natAbs.log2 < 1920 := by
    rw [Int.natAbs_natCast]
    rcases Nat.eq_zero_or_pos m with rfl | h0
    · decide
    · exact Nat.lt_of_lt_of_le ((Nat.log2_lt (k := 16) (by omega)).mpr (by omega)) (by decide)
  simp only [this, true_and]
theorem at_nat {α : Type} {l : List α} {i : Int} {d : α} (h0 : 0 ≤ i) (h : l[i.toNat]? = some d) : at' l i = some d := by
  unfold at'
  rw [if_pos h0]; exact h
theorem rng1 {i : Int} {S : Sto} {Q : Src → Sto → Prop} {t : ATA} {ρ : Rho} {E : XA} {S1 : Sto} (ht : ∀ Q' : List D → Sto → Prop, Q' [.int i] S1 → t ρ S E Q') (h : 0 ≤ i ∧ i < 1000000) (q : Q (.rng 0 i.toNat) S1) : aiRng1 t ρ S E Q := by
  refine ht _ ⟨⟨by omega, by omega⟩, q⟩
theorem rng_at {a : Int} {n j : Nat} {d : D} (h : (Src.rng a n).items[j]? = some d) : d = .int (a + (j : Int)) ∧ j < n := by
  simp only [Src.items, List.getElem?_map] at h
  obtain ⟨x, hx, rfl⟩ := Option.map_eq_some_iff.mp h
  by_cases lt : j < n
  · rw [List.getElem?_range lt] at hx
    cases hx
    exact ⟨rfl, lt⟩
  · rw [List.getElem?_eq_none (by simpa using lt)] at hx
    cases hx
theorem rng_len {a : Int} {n : Nat} : (Src.rng a n).items.length = n := by simp [Src.items]
theorem for_k {ai : ATI} {ag : ATG} {body : ATS} {D0 : AEnds} {ρ : Rho} {S : Sto} (h : ai ρ S (fun x S1 => D0.ex x ρ S1) fun src S1 => ∃ Wv : Nat → Rho → Sto → Prop, Wv 0 ρ S1 ∧ (∀ k ρ S, k ≤ src.items.length → Wv k ρ S → src.ok S) ∧
  (∀ k d ρ S, src.items[k]? = some d → Wv k ρ S → ag d ρ S fun ρ2 S2 => body { D0 with nx := Wv (k + 1), ct := Wv (k + 1), bk := D0.nx } ρ2 S2) ∧ ∀ ρ S, Wv src.items.length ρ S → D0.nx ρ S) : aFor ai ag body D0 ρ S := h
theorem tup_lst {S : Sto} {i : Nat} {l : List D} {n : Nat} {u : ATGs} {ρ : Rho} {Q : Rho → Sto → Prop} (e : S[i]? = some (.lst l)) (hl : l.length = n) (q : u l ρ S Q) : agTup n u (.ref i) ρ S Q := by
  have : seqOf S (.ref i) = some l := by unfold seqOf lstOf; simp only [e]
  unfold agTup
  rw [this]
  exact ⟨hl, q⟩
theorem in_lst {S : Sto} {Q : VA} {x : D} {l : List D} {i : Nat} (e : S[i]? = some (.lst l)) (hf : (flatD x && l.all flatD) = true) (q : Q (.bl (inF x l)) S) : oIn x (.ref i) S Q := by
  show isIn x (.ref i) S _
  unfold isIn
  simp only [e]
  have : lstOf S i = some l := by unfold lstOf; rw [e]
  rw [this]
  show (if _ then _ else _)
  rw [if_pos hf]; exact q
theorem one_eq {x : Str} {S : Sto} {Q : VA} (q : Q (.bl true) S) : oEq (.str x) (.str x) S Q := by
  simp only [ev3, decide_true]; exact q
theorem one_ne {x : Str} {S : Sto} {Q : VA} (q : Q (.bl false) S) : oNe (.str x) (.str x) S Q := by
  simp only [ev3, decide_true, Bool.not_true]; exact q
theorem at_set {S : Sto} {r : Nat} {o o' : O} (h : S[r]? = some o) : (S.set r o')[r]? = some o' := List.getElem?_set_self (ltOf h)
/-! ### the script -/
def ScrOk (S : Sto) (d : D) (l : List D) : Prop := d = .kl l ∨ ∃ i, d = .ref i ∧ S[i]? = some (.rol l)
theorem ScrOk.pre {S S' : Sto} {d : D} {l : List D} (h : ScrOk S d l) (p : S <+: S') : ScrOk S' d l := by
  rcases h with rfl | ⟨i, rfl, e⟩
  · exact .inl rfl
  · exact .inr ⟨i, rfl, pre_get p e⟩
theorem scr_set {S : Sto} {d : D} {l : List D} {i : Nat} {o : O} (h : ScrOk S d l) (hi : ∀ j, d = .ref j → j ≠ i) : ScrOk (S.set i o) d l := by
  rcases h with rfl | ⟨j, rfl, e⟩
  · exact .inl rfl
  · refine .inr ⟨j, rfl, ?_⟩
    rw [List.getElem?_set_ne (Ne.symm (hi j rfl))]; exact e
theorem scr_lt {S : Sto} {d : D} {l : List D} (h : ScrOk S d l) : ∀ j, d = .ref j → j < S.length := by
  rintro j rfl
  rcases h with h | ⟨i, h, e⟩
  · cases h
  · cases h
    exact ltOf e
theorem scr_is {d : D} {S : Sto} {ns : List Int} (h : IsScript d S ns) : ScrOk S d (ns.map .int) := by
  rcases h with ⟨rfl, rfl⟩ | ⟨rfl, rfl⟩
  · exact .inr ⟨0, rfl, rfl⟩
  · exact .inl rfl
theorem scr_len {S : Sto} {d : D} {ns : List Int} (h : ScrOk S d (ns.map .int)) (G : VA) (g : G (.int (ns.length : Int)) S) : cLen [d] S G := by
  rcases h with rfl | ⟨i, rfl, e⟩
  · show G (.int ((ns.map D.int).length : Int)) S
    rw [List.length_map]; exact g
  · unfold cLen
    simp only [e, List.length_map]
    exact g
def GCell : AFn := fun ds S E Q => ∃ (d : D) (k : Int) (ns : List Int), ds = [d, .int k] ∧ 0 ≤ k ∧ ScrOk S d (ns.map .int) ∧ ∀ n : Int, Q (.int n) S
theorem sp_cell : ∀ ds S E Q, GCell ds S E Q → ds.length = 2 ∧ a__law_cell (bodyEnds Q E) (startA 2 ds) S := by
  rintro ds S E Q ⟨d, k, ns, rfl, hk0, h, q⟩
  refine ⟨rfl, ?_⟩
  have st : startA 2 [d, .int k] = [some d, some (.int k)] := rfl
  rw [st]
  unfold a__law_cell
  simp only [eq_self, ev, ev2, ev3, ev4, ev5, ofS_inj, bodyEnds, String.reduceEq, decide_false, decide_true, reduceCtorEq, List.length_cons, List.length_nil, Nat.reduceAdd, szs, true_and, flatD, List.all_cons, List.all_nil, Bool.and_self, Bool.or_false, Bool.false_or, Bool.or_true, Bool.true_or, Bool.and_true, Bool.true_and, Bool.and_false, Bool.false_and, Bool.not_true, Bool.not_false]
  refine scr_len h _ ?_
  simp only [eq_self, ev, ev2, ev3, ev4, ev5, ofS_inj, bodyEnds, String.reduceEq, decide_false, decide_true, reduceCtorEq, List.length_cons, List.length_nil, Nat.reduceAdd, szs, true_and, flatD, List.all_cons, List.all_nil, Bool.and_self, Bool.or_false, Bool.false_or, Bool.or_true, Bool.true_or, Bool.and_true, Bool.true_and, Bool.and_false, Bool.false_and, Bool.not_true, Bool.not_false]
  by_cases hk : k < (ns.length : Int)
  · simp only [hk, eq_self, ev, ev2, ev3, ev4, ev5, ofS_inj, bodyEnds, String.reduceEq, decide_false, decide_true, reduceCtorEq, List.length_cons, List.length_nil, Nat.reduceAdd, szs, true_and, flatD, List.all_cons, List.all_nil, Bool.and_self, Bool.or_false, Bool.false_or, Bool.or_true, Bool.true_or, Bool.and_true, Bool.true_and, Bool.and_false, Bool.false_and, Bool.not_true, Bool.not_false]
    have hk' : k.toNat < ns.length := by omega
    have e1 : (ns.map D.int)[k.toNat]? = some (.int ns[k.toNat]) := by
      rw [List.getElem?_map, List.getElem?_eq_getElem hk']; rfl
    have e2 := at_nat hk0 e1
    rcases h with rfl | ⟨i, rfl, e⟩
    · simp only [ev2, e2]
      exact q _
    · have : getIx (.ref i) (.int k) S (fun x S1 => cInt [x] S1 Q) = must (at' (ns.map D.int) k) fun d => cInt [d] S Q := by
        unfold getIx
        simp only [e]
      rw [this, e2]
      exact q _
  · simp only [hk, eq_self, ev, ev2, ev3, ev4, ev5, ofS_inj, bodyEnds, String.reduceEq, decide_false, decide_true, reduceCtorEq, List.length_cons, List.length_nil, Nat.reduceAdd, szs, true_and, flatD, List.all_cons, List.all_nil, Bool.and_self, Bool.or_false, Bool.false_or, Bool.or_true, Bool.true_or, Bool.and_true, Bool.true_and, Bool.and_false, Bool.false_and, Bool.not_true, Bool.not_false]
    exact q _
end Lx
namespace Lk
open PySem PySem.Spec
open PyProof.Rows L2 AL Ab Lx
/-! ### is_name -/
def nm : List Nat → Bool
  | [] => false
  | c :: w => decide (w.length + 1 ≤ 20) && (!isRes (txt (c :: w)) && (letter c && (c :: w).all inName))
def GIsN : AFn := fun ds S E Q => ∃ l, ds = [.str (txt l)] ∧ l.length ≤ 1000 ∧ ∀ S', S <+: S' → Q (.bl (nm l)) S'
theorem sp_isn : ∀ ds S E Q, GIsN ds S E Q → ds.length = 1 ∧ a_is_name (G1 letter) (G1 inName) (bodyEnds Q E) (startA 2 ds) S := by
  rintro ds S E Q ⟨l, rfl, hl, q⟩
  refine ⟨rfl, ?_⟩
  have st : startA 2 [.str (txt l)] = [some (.str (txt l)), none] := rfl
  rw [st]
  have hz : 1000 ≤ sizeLine := by decide
  have e0 : ("" : Str) = txt [] := by decide
  unfold a_is_name
  refine seqM fun N nx => ifM fun TA TB ta tb => ?_
  have no : nm l = false → TA [some (.str (txt l)), none] S := fun h => ta _ _ (by simp only [eq_self, ev, ev2, ev3, ev4, ev5, ofS_inj, bodyEnds, String.reduceEq, decide_false, decide_true, reduceCtorEq, List.length_cons, List.length_nil, Nat.reduceAdd, szs, true_and, flatD, List.all_cons, List.all_nil, Bool.and_self, Bool.or_false, Bool.false_or, Bool.or_true, Bool.true_or, Bool.and_true, Bool.true_and, Bool.and_false, Bool.false_and, Bool.not_true, Bool.not_false]; rw [← h]; exact q _ pre_refl)
  cases l with
  | nil =>
    simp only [eq_self, ev, ev2, ev3, ev4, ev5, ofS_inj, bodyEnds, String.reduceEq, decide_false, decide_true, reduceCtorEq, List.length_cons, List.length_nil, Nat.reduceAdd, szs, true_and, flatD, List.all_cons, List.all_nil, Bool.and_self, Bool.or_false, Bool.false_or, Bool.or_true, Bool.true_or, Bool.and_true, Bool.true_and, Bool.and_false, Bool.false_and, Bool.not_true, Bool.not_false, aIsi, tyD, e0, txt_inj]
    exact no rfl
  | cons c w =>
    simp only [eq_self, ev, ev2, ev3, ev4, ev5, ofS_inj, bodyEnds, String.reduceEq, decide_false, decide_true, reduceCtorEq, List.length_cons, List.length_nil, Nat.reduceAdd, szs, true_and, flatD, List.all_cons, List.all_nil, Bool.and_self, Bool.or_false, Bool.false_or, Bool.or_true, Bool.true_or, Bool.and_true, Bool.true_and, Bool.and_false, Bool.false_and, Bool.not_true, Bool.not_false, aIsi, tyD, e0, txt_inj, txt_len, res_in]
    refine ⟨by simp only [List.length_cons] at hl ⊢; omega, ?_⟩
    by_cases h20 : (20 : Int) < ((w.length + 1 : Nat) : Int)
    · simp only [h20, eq_self, ev, ev2, ev3, ev4, ev5, ofS_inj, bodyEnds, String.reduceEq, decide_false, decide_true, reduceCtorEq, List.length_cons, List.length_nil, Nat.reduceAdd, szs, true_and, flatD, List.all_cons, List.all_nil, Bool.and_self, Bool.or_false, Bool.false_or, Bool.or_true, Bool.true_or, Bool.and_true, Bool.true_and, Bool.and_false, Bool.false_and, Bool.not_true, Bool.not_false]
      refine no ?_
      have : ¬ w.length + 1 ≤ 20 := by omega
      simp only [nm, this, decide_false, Bool.false_and]
    · simp only [h20, eq_self, ev, ev2, ev3, ev4, ev5, ofS_inj, bodyEnds, String.reduceEq, decide_false, decide_true, reduceCtorEq, List.length_cons, List.length_nil, Nat.reduceAdd, szs, true_and, flatD, List.all_cons, List.all_nil, Bool.and_self, Bool.or_false, Bool.false_or, Bool.or_true, Bool.true_or, Bool.and_true, Bool.true_and, Bool.and_false, Bool.false_and, Bool.not_true, Bool.not_false]
      cases hr : isRes (txt (c :: w)) with
      | true =>
        simp only [eq_self, ev, ev2, ev3, ev4, ev5, ofS_inj, bodyEnds, String.reduceEq, decide_false, decide_true, reduceCtorEq, List.length_cons, List.length_nil, Nat.reduceAdd, szs, true_and, flatD, List.all_cons, List.all_nil, Bool.and_self, Bool.or_false, Bool.false_or, Bool.or_true, Bool.true_or, Bool.and_true, Bool.true_and, Bool.and_false, Bool.false_and, Bool.not_true, Bool.not_false]
        refine no ?_
        simp only [nm, hr, Bool.not_true, Bool.false_and, Bool.and_false]
      | false =>
        simp only [eq_self, ev, ev2, ev3, ev4, ev5, ofS_inj, bodyEnds, String.reduceEq, decide_false, decide_true, reduceCtorEq, List.length_cons, List.length_nil, Nat.reduceAdd, szs, true_and, flatD, List.all_cons, List.all_nil, Bool.and_self, Bool.or_false, Bool.false_or, Bool.or_true, Bool.true_or, Bool.and_true, Bool.true_and, Bool.and_false, Bool.false_and, Bool.not_true, Bool.not_false]
        refine tb _ _ (nx _ _ ?_)
        clear nx N no ta tb TA TB
        have w20 : w.length + 1 ≤ 20 := by omega
        have en : nm (c :: w) = (letter c && (c :: w).all inName) := by simp only [nm, hr, w20, decide_true, Bool.not_false, Bool.true_and]
        simp only [eq_self, ev, ev2, ev3, ev4, ev5, ofS_inj, bodyEnds, String.reduceEq, decide_false, decide_true, reduceCtorEq, List.length_cons, List.length_nil, Nat.reduceAdd, szs, true_and, flatD, List.all_cons, List.all_nil, Bool.and_self, Bool.or_false, Bool.false_or, Bool.or_true, Bool.true_or, Bool.and_true, Bool.true_and, Bool.and_false, Bool.false_and, Bool.not_true, Bool.not_false]
        refine ix_txt (i := 0) (c := c) (by decide) (by simp only [List.length_cons] at hl ⊢; omega) rfl (g1_mk ?_)
        cases hc : letter c with
        | false =>
          rw [en, hc, Bool.false_and] at q
          simp only [eq_self, ev, ev2, ev3, ev4, ev5, ofS_inj, bodyEnds, String.reduceEq, decide_false, decide_true, reduceCtorEq, List.length_cons, List.length_nil, Nat.reduceAdd, szs, true_and, flatD, List.all_cons, List.all_nil, Bool.and_self, Bool.or_false, Bool.false_or, Bool.or_true, Bool.true_or, Bool.and_true, Bool.true_and, Bool.and_false, Bool.false_and, Bool.not_true, Bool.not_false]
          exact q _ pre_refl
        | true =>
          rw [en, hc, Bool.true_and] at q
          simp only [eq_self, ev, ev2, ev3, ev4, ev5, ofS_inj, bodyEnds, String.reduceEq, decide_false, decide_true, reduceCtorEq, List.length_cons, List.length_nil, Nat.reduceAdd, szs, true_and, flatD, List.all_cons, List.all_nil, Bool.and_self, Bool.or_false, Bool.false_or, Bool.or_true, Bool.true_or, Bool.and_true, Bool.true_and, Bool.and_false, Bool.false_and, Bool.not_true, Bool.not_false]
          refine lc_map (src := .fix ((c :: w).map fun c => D.str (txt [c]))) (out := (c :: w).map fun c => D.bl (inName c)) (S0 := S) (fun Q' h => ?_) trivial (Nat.lt_of_le_of_lt (show _ ≤ 1000 by simp only [Src.items, List.length_map]; exact hl) (by decide)) (by simp [Src.items]) (fun j d hd => ?_) fun S1 p1 => ?_
          · simp only [eq_self, ev, ev2, ev3, ev4, ev5, ofS_inj, bodyEnds, String.reduceEq, decide_false, decide_true, reduceCtorEq, List.length_cons, List.length_nil, Nat.reduceAdd, szs, true_and, flatD, List.all_cons, List.all_nil, Bool.and_self, Bool.or_false, Bool.false_or, Bool.or_true, Bool.true_or, Bool.and_true, Bool.true_and, Bool.and_false, Bool.false_and, Bool.not_true, Bool.not_false]
            exact h
          · have hd' : ((c :: w).map fun c => D.str (txt [c]))[j]? = some d := hd
            rw [List.getElem?_map] at hd'
            obtain ⟨c', hc', rfl⟩ := Option.map_eq_some_iff.mp hd'
            refine ⟨.bl (inName c'), by rw [List.getElem?_map, hc']; rfl, fun S1 Q1 p1 q1 => ?_⟩
            simp only [eq_self, ev, ev2, ev3, ev4, ev5, ofS_inj, bodyEnds, String.reduceEq, decide_false, decide_true, reduceCtorEq, List.length_cons, List.length_nil, Nat.reduceAdd, szs, true_and, flatD, List.all_cons, List.all_nil, Bool.and_self, Bool.or_false, Bool.false_or, Bool.or_true, Bool.true_or, Bool.and_true, Bool.true_and, Bool.and_false, Bool.false_and, Bool.not_true, Bool.not_false, wipeA, List.set_cons_succ, List.set_cons_zero]
            exact g1_mk (q1 _ pre_refl)
          · unfold cAll
            show must (lstOf _ _) _
            rw [show lstOf (S1 ++ [.lst ((c :: w).map fun c => D.bl (inName c))]) S1.length = some ((c :: w).map fun c => D.bl (inName c)) by simp [lstOf]]
            refine ⟨(c :: w).map inName, by rw [List.map_map]; rfl, ?_⟩
            rw [show ((c :: w).map inName).all _root_.id = (c :: w).all inName by simp [List.all_map]]
            exact q _ (p1.trans pre_app)
def GIsI : AFn := fun ds S E Q => ∃ i, ds = [.int i] ∧ Q (.bl false) S
theorem sp_isi : ∀ ds S E Q, GIsI ds S E Q → ds.length = 1 ∧ a_is_name (G1 letter) (G1 inName) (bodyEnds Q E) (startA 2 ds) S := by
  rintro ds S E Q ⟨i, rfl, q⟩
  refine ⟨rfl, ?_⟩
  have st : startA 2 [.int i] = [some (.int i), none] := rfl
  rw [st]
  unfold a_is_name
  simp only [eq_self, ev, ev2, ev3, ev4, ev5, ofS_inj, bodyEnds, String.reduceEq, decide_false, decide_true, reduceCtorEq, List.length_cons, List.length_nil, Nat.reduceAdd, szs, true_and, flatD, List.all_cons, List.all_nil, Bool.and_self, Bool.or_false, Bool.false_or, Bool.or_true, Bool.true_or, Bool.and_true, Bool.true_and, Bool.and_false, Bool.false_and, Bool.not_true, Bool.not_false, aIsi, tyD, show decide (("int" : String) = "str") = false by decide]
  exact q
/-! ### words -/
def L52 : List Nat := [97, 98, 99, 100, 101, 102, 103, 104, 105, 106, 107, 108, 109, 110, 111, 112, 113, 114, 115, 116, 117, 118, 119, 120, 121, 122, 65, 66, 67, 68, 69, 70, 71, 72, 73, 74, 75, 76, 77, 78, 79, 80, 81, 82, 83, 84, 85, 86, 87, 88, 89, 90]
def L63 : List Nat := L52 ++ [48, 49, 50, 51, 52, 53, 54, 55, 56, 57, 95]
theorem L_eq : ("abcdefghijklmnopqrstuvwxyzABCDEFGHIJKLMNOPQRSTUVWXYZ" : Str) = txt L52 ∧ ("0123456789_" : Str) = txt [48, 49, 50, 51, 52, 53, 54, 55, 56, 57, 95] := by decide +kernel
theorem L52_ok : ∀ c ∈ L52, letter c = true := by decide
theorem L63_ok : ∀ c ∈ L63, inName c = true := by decide
def GWd : AFn := fun ds S E Q => ∃ c : Int, ds = [.int c] ∧ 0 ≤ c ∧ ∀ a w, letter a = true → w.all inName = true → w.length ≤ 19 → Q (.str (txt (a :: w))) S
theorem pick {l : List Nat} {n : Nat} {x : Int} {S : Sto} {Q : VA} (hn : l.length = n) (h0 : 0 ≤ x) (h1 : x < n) (hz : n ≤ 1000) (q : ∀ c ∈ l, Q (.str (txt [c])) S) : getIx (.str (txt l)) (.int x) S Q := by
  have lt : x.toNat < l.length := by omega
  exact ix_txt (c := l[x.toNat]) h0 (Nat.le_trans (by omega) (show 1000 ≤ sizeLine by decide)) (List.getElem?_eq_getElem lt) (q _ (List.getElem_mem lt))
theorem sp_word : ∀ ds S E Q, GWd ds S E Q → ds.length = 1 ∧ a__law_word (bodyEnds Q E) (startA 6 ds) S := by
  rintro ds S E Q ⟨c, rfl, h0, q⟩
  refine ⟨rfl, ?_⟩
  have st : startA 6 [.int c] = [some (.int c), none, none, none, none, none] := rfl
  rw [st]
  have hz : 1000 ≤ sizeLine := by decide
  unfold a__law_word
  refine seqM fun N nx => ?_
  simp only [eq_self, ev, ev2, ev3, ev4, ev5, ofS_inj, bodyEnds, String.reduceEq, decide_false, decide_true, reduceCtorEq, List.length_cons, List.length_nil, Nat.reduceAdd, szs, true_and, flatD, List.all_cons, List.all_nil, Bool.and_self, Bool.or_false, Bool.false_or, Bool.or_true, Bool.true_or, Bool.and_true, Bool.true_and, Bool.and_false, Bool.false_and, Bool.not_true, Bool.not_false, L_eq]
  refine nx _ _ ?_
  clear nx N
  refine seqM fun N nx => ?_
  simp only [eq_self, ev, ev2, ev3, ev4, ev5, ofS_inj, bodyEnds, String.reduceEq, decide_false, decide_true, reduceCtorEq, List.length_cons, List.length_nil, Nat.reduceAdd, szs, true_and, flatD, List.all_cons, List.all_nil, Bool.and_self, Bool.or_false, Bool.false_or, Bool.or_true, Bool.true_or, Bool.and_true, Bool.true_and, Bool.and_false, Bool.false_and, Bool.not_true, Bool.not_false, L_eq, add_str, tapp, txt_len]
  refine ⟨Nat.le_trans (by decide) hz, nx _ _ ?_⟩
  clear nx N
  refine seqM fun N nx => ?_
  simp only [eq_self, ev, ev2, ev3, ev4, ev5, ofS_inj, bodyEnds, String.reduceEq, decide_false, decide_true, reduceCtorEq, List.length_cons, List.length_nil, Nat.reduceAdd, szs, true_and, flatD, List.all_cons, List.all_nil, Bool.and_self, Bool.or_false, Bool.false_or, Bool.or_true, Bool.true_or, Bool.and_true, Bool.true_and, Bool.and_false, Bool.false_and, Bool.not_true, Bool.not_false, cint_eq]
  refine ⟨by decide, pick (n := 52) rfl (Int.emod_nonneg _ (by decide)) (Int.emod_lt_of_pos _ (by decide)) (by decide) fun a ha => ?_⟩
  refine nx _ _ ?_
  clear nx N
  refine seqM fun N nx => ?_
  simp only [eq_self, ev, ev2, ev3, ev4, ev5, ofS_inj, bodyEnds, String.reduceEq, decide_false, decide_true, reduceCtorEq, List.length_cons, List.length_nil, Nat.reduceAdd, szs, true_and, flatD, List.all_cons, List.all_nil, Bool.and_self, Bool.or_false, Bool.false_or, Bool.or_true, Bool.true_or, Bool.and_true, Bool.true_and, Bool.and_false, Bool.false_and, Bool.not_true, Bool.not_false, div_eq]
  refine ⟨⟨by decide, by decide⟩, nx _ _ ?_⟩
  clear nx N
  have r0 : 0 ≤ c / 52 := Int.ediv_nonneg h0 (by decide)
  obtain ⟨v, hv⟩ : ∃ v : Nat, c / 52 % 20 = (v : Int) := Int.eq_ofNat_of_zero_le (Int.emod_nonneg _ (by decide))
  have hv2 : v < 20 := by
    have := Int.emod_lt_of_pos (c / 52) (show (0 : Int) < 20 by decide)
    omega
  refine seqM fun N nx => for_k ?_
  refine rng1 (S1 := S) (i := (v : Int)) (fun Q' h => ?_) ⟨by omega, by omega⟩ ⟨fun k ρ S' => S' = S ∧ ∃ w x5, w.length = k ∧ w.all inName = true ∧ ρ = [some (.int c), some (.str (txt L52)), some (.str (txt (L52 ++ [48, 49, 50, 51, 52, 53, 54, 55, 56, 57, 95]))), some (.str (txt (a :: w))), some (.int (c / 52)), x5], ⟨rfl, [], none, rfl, rfl, rfl⟩, fun _ _ _ _ _ => trivial, ?_, ?_⟩
  · simp only [eq_self, ev, ev2, ev3, ev4, ev5, ofS_inj, bodyEnds, String.reduceEq, decide_false, decide_true, reduceCtorEq, List.length_cons, List.length_nil, Nat.reduceAdd, szs, true_and, flatD, List.all_cons, List.all_nil, Bool.and_self, Bool.or_false, Bool.false_or, Bool.or_true, Bool.true_or, Bool.and_true, Bool.true_and, Bool.and_false, Bool.false_and, Bool.not_true, Bool.not_false, cint_eq, hv]
    exact ⟨by decide, h⟩
  · rintro k d ρ S' hd ⟨rfl, w, x5, rfl, hw, rfl⟩
    obtain ⟨rfl, hk⟩ := rng_at hd
    rw [Int.toNat_natCast] at hk
    simp only [eq_self, ev, ev2, ev3, ev4, ev5, ofS_inj, bodyEnds, String.reduceEq, decide_false, decide_true, reduceCtorEq, List.length_cons, List.length_nil, Nat.reduceAdd, szs, true_and, flatD, List.all_cons, List.all_nil, Bool.and_self, Bool.or_false, Bool.false_or, Bool.or_true, Bool.true_or, Bool.and_true, Bool.true_and, Bool.and_false, Bool.false_and, Bool.not_true, Bool.not_false, cint_eq, div_eq]
    refine ⟨⟨by omega, ?_⟩, by decide, pick (l := L63) (n := 63) rfl (Int.emod_nonneg _ (by decide)) (Int.emod_lt_of_pos _ (by decide)) (by decide) fun b hb => ?_⟩
    · omega
    · simp only [add_str, tapp, txt_len]
      exact ⟨by simp; omega, trivial, w ++ [b], _, by simp, by simp only [List.all_append, hw, List.all_cons, L63_ok b hb, List.all_nil, Bool.and_self], rfl⟩
  · rintro ρ S' ⟨rfl, w, x5, hw1, hw, rfl⟩
    rw [rng_len, Int.toNat_natCast] at hw1
    refine nx _ _ ?_
    simp only [eq_self, ev, ev2, ev3, ev4, ev5, ofS_inj, bodyEnds, String.reduceEq, decide_false, decide_true, reduceCtorEq, List.length_cons, List.length_nil, Nat.reduceAdd, szs, true_and, flatD, List.all_cons, List.all_nil, Bool.and_self, Bool.or_false, Bool.false_or, Bool.or_true, Bool.true_or, Bool.and_true, Bool.true_and, Bool.and_false, Bool.false_and, Bool.not_true, Bool.not_false]
    exact q a w (L52_ok a ha) hw (by omega)
end Lk
namespace Lk
open PySem PySem.Spec
open PyProof.Rows L2 AL Ab Lx
/-! ### drawn tokens -/
def sep : List Nat → Prop
  | c :: _ => c = 32 ∨ c = 10 ∨ c = 9
  | [] => False
theorem sep_stop {r : List Nat} (h : sep r) : stop r = true := by
  match r, h with
  | c :: r, h => rcases h with rfl | rfl | rfl <;> rfl
/-- u is shown of the token k, v -/
structure TokK (k : Str) (v : D) (u : List Nat) : Prop where
  tk : ∀ r pos, sep r → Tk u r pos (tok k v pos)
  few : u.length ≤ 30
  ok : okD v = true ∧ wtD v ≤ 30 ∧ dpD v = 0 ∧ flatD v = true
  kd : k ∈ (["word", "name", "number", "string", "sign"] : List Str)
  nm : k = "name" ∨ k = "word" → ∃ l, v = .str (txt l) ∧ l.length ≤ 20 ∧ Lk.nm l = decide (k = "name")
theorem str_fine {l : List Nat} (h : ∀ c ∈ l, c < 1000) (hl : l.length ≤ 30) : okD (.str (txt l)) = true ∧ wtD (.str (txt l)) ≤ 30 ∧ dpD (.str (txt l)) = 0 ∧ flatD (.str (txt l)) = true := by
  refine ⟨?_, ?_, rfl, rfl⟩
  · show PyData.strOk (txt l) = true
    unfold PyData.strOk
    show l.toArray.all (fun x => decide (x < 0x110000)) = true
    rw [List.all_toArray, List.all_eq_true]
    intro c hc
    have := h c hc
    exact decide_eq_true (show c < 0x110000 by omega)
  · show l.toArray.size ≤ 30
    simpa using hl
theorem name_small {c : Nat} (h : inName c = true) : c < 1000 := by
  unfold inName letter digit at h
  simp only [Bool.or_eq_true, Bool.and_eq_true, decide_eq_true_eq] at h
  omega
theorem word_k {a : Nat} {w : List Nat} (h1 : letter a = true) (h2 : w.all inName = true) (h3 : w.length ≤ 19) : TokK (if isRes (txt (a :: w)) then "word" else "name") (.str (txt (a :: w))) (a :: w) := by
  have all : (a :: w).all inName = true := by simp only [List.all_cons, letter_name h1, h2, Bool.and_self]
  refine ⟨fun r pos hr => .word h1 h2 (sep_stop hr) (.inr (by omega)), by simp only [List.length_cons]; omega, str_fine (fun c hc => name_small (List.all_eq_true.mp all c hc)) (by simp only [List.length_cons]; omega), ?_, fun _ => ⟨_, rfl, by simp only [List.length_cons]; omega, ?_⟩⟩
  · split <;> simp
  · have w20 : w.length + 1 ≤ 20 := by omega
    show (decide (w.length + 1 ≤ 20) && (!isRes (txt (a :: w)) && (letter a && (a :: w).all inName))) = _
    rw [all, h1]
    cases hr : isRes (txt (a :: w)) with
    | true => simp only [w20, decide_true, Bool.not_true, Bool.false_and, Bool.and_false, if_true]; decide
    | false => simp only [w20, decide_true, Bool.not_false, Bool.and_self, Bool.false_eq_true, if_false]
def resOk (r : Str) : Bool := match r.cps.toList with
  | a :: w => letter a && (w.all inName && (decide (w.length ≤ 19) && isRes (txt (a :: w))))
  | [] => false
theorem res_ok : ∀ r ∈ reserved, resOk r = true := by decide +kernel
theorem res_k {r : Str} (h : r ∈ reserved) : ∃ u, r = txt u ∧ TokK "word" (.str (txt u)) u := by
  have h1 := res_ok r h
  unfold resOk at h1
  split at h1
  · rename_i a w e
    simp only [decide_eq_true_eq, Bool.and_eq_true] at h1
    have k := word_k h1.1 h1.2.1 h1.2.2.1
    rw [h1.2.2.2, if_pos rfl] at k
    exact ⟨a :: w, by rw [txt_of r, e], k⟩
  · cases h1
theorem num_k {m : Nat} (h : m ≤ 65535) : TokK "number" (.int (m : Int)) (dg m) := by
  have n := num_dg h
  refine ⟨fun r pos hr => .num n (sep_stop hr), by have := n.few; omega, ⟨?_, by show 20 ≤ 30; decide, rfl, rfl⟩, by simp, fun z => ?_⟩
  · show decide (((m : Nat) : Int).natAbs < 10 ^ 6) = true
    exact decide_eq_true (by simp; omega)
  · rcases z with z | z <;> exact absurd z (by decide)
theorem str_k {a : Nat} {w : List Nat} (h1 : letter a = true) (h2 : w.all inName = true) (h3 : w.length ≤ 19) : TokK "string" (.str (txt (a :: w))) (34 :: (a :: w) ++ [34]) := by
  have all : (a :: w).all inName = true := by simp only [List.all_cons, letter_name h1, h2, Bool.and_self]
  refine ⟨fun r pos hr => .strg all (by simp) (by simp only [List.length_cons]; omega), by simp; omega, str_fine (fun c hc => name_small (List.all_eq_true.mp all c hc)) (by simp only [List.length_cons]; omega), by simp, fun z => ?_⟩
  rcases z with z | z <;> exact absurd z (by decide)
theorem sign_k {g : List Nat} (h : g ∈ Lx.signs) : TokK "sign" (.str (txt g)) g := by
  have key : ∀ r, sep r → signOf (g ++ r) = some g ∧ ∃ c w, g = c :: w ∧ letter c = false ∧ digit c = false ∧ c ≠ 34 ∧ g.length ≤ 2 ∧ ∀ c ∈ g, c < 1000 := by
    intro r hr
    match r, hr with
    | c :: r, hr =>
      simp only [Lx.signs, List.mem_cons, List.not_mem_nil, or_false] at h
      rcases h with rfl | rfl | rfl | rfl | rfl | rfl | rfl | rfl | rfl | rfl | rfl | rfl | rfl <;> (refine ⟨?_, _, _, rfl, by decide, by decide, by decide, by decide, by decide⟩; rcases hr with rfl | rfl | rfl <;> rfl)
  obtain ⟨_, c, w, rfl, hl, hd, h34, h2, hs⟩ := key [32] (.inl rfl)
  refine ⟨fun r pos hr => .sign (key r hr).1 hl hd h34, by omega, str_fine hs (by omega), by simp, fun z => ?_⟩
  rcases z with z | z <;> exact absurd z (by decide)
def GTk : AFn := fun ds S E Q => ∃ c : Int, ds = [.int c] ∧ 0 ≤ c ∧ ∀ k v u S' i, TokK k v u → S <+: S' → S'[i]? = some (.lst [.str k, v, .str (txt u)]) → Q (.ref i) S'
theorem tup_ix {l : List D} {n : Nat} {x : Int} {S : Sto} {Q : VA} (hn : l.length = n) (h0 : 0 ≤ x) (h1 : x < n) (q : ∀ d ∈ l, Q d S) : getIx (.tup l) (.int x) S Q := by
  have lt : x.toNat < l.length := by omega
  show must (at' l x) _
  rw [at_nat h0 (List.getElem?_eq_getElem lt)]
  exact q _ (List.getElem_mem lt)
theorem lst_ix {l : List D} {n i : Nat} {x : Int} {S : Sto} {Q : VA} (e : S[i]? = some (.lst l)) (hn : l.length = n) (h0 : 0 ≤ x) (h1 : x < n) (q : ∀ d ∈ l, Q d S) : getIx (.ref i) (.int x) S Q := by
  have lt : x.toNat < l.length := by omega
  exact ix_lst e h0 (List.getElem?_eq_getElem lt) (q _ (List.getElem_mem lt))
theorem tk_mk {k : Str} {v : D} {u : List Nat} {S S0 : Sto} {Q : VA} {a b c : D} (h : TokK k v u) (p : S0 <+: S) (q : ∀ k v u S' i, TokK k v u → S0 <+: S' → S'[i]? = some (.lst [.str k, v, .str (txt u)]) → Q (.ref i) S') (e1 : a = .str k) (e2 : b = v) (e3 : c = .str (txt u)) : Q (.ref S.length) (S ++ [.lst [a, b, c]]) := by
  subst e1 e2 e3
  exact q k b u _ _ h (p.trans pre_app) at_end
theorem sp_token : ∀ ds S E Q, GTk ds S E Q → ds.length = 1 ∧ a__law_token GWd (bodyEnds Q E) (startA 6 ds) S := by
  rintro ds S E Q ⟨c, rfl, h0, q⟩
  refine ⟨rfl, ?_⟩
  have st : startA 6 [.int c] = [some (.int c), none, none, none, none, none] := rfl
  rw [st]
  have hz : 1000 ≤ sizeLine := by decide
  have t34 : ("\"" : Str) = txt [34] := by decide
  unfold a__law_token
  refine seqM fun N nx => ?_
  simp only [eq_self, ev, ev2, ev3, ev4, ev5, ofS_inj, bodyEnds, String.reduceEq, decide_false, decide_true, reduceCtorEq, List.length_cons, List.length_nil, Nat.reduceAdd, szs, true_and, flatD, List.all_cons, List.all_nil, Bool.and_self, Bool.or_false, Bool.false_or, Bool.or_true, Bool.true_or, Bool.and_true, Bool.true_and, Bool.and_false, Bool.false_and, Bool.not_true, Bool.not_false, cint_eq]
  refine ⟨by decide, nx _ _ ?_⟩
  clear nx N
  refine seqM fun N nx => ?_
  simp only [eq_self, ev, ev2, ev3, ev4, ev5, ofS_inj, bodyEnds, String.reduceEq, decide_false, decide_true, reduceCtorEq, List.length_cons, List.length_nil, Nat.reduceAdd, szs, true_and, flatD, List.all_cons, List.all_nil, Bool.and_self, Bool.or_false, Bool.false_or, Bool.or_true, Bool.true_or, Bool.and_true, Bool.true_and, Bool.and_false, Bool.false_and, Bool.not_true, Bool.not_false, div_eq]
  refine ⟨⟨by decide, by decide⟩, nx _ _ ?_⟩
  clear nx N
  obtain ⟨x, hx⟩ : ∃ x, c / 6 = x := ⟨_, rfl⟩
  have x0 : 0 ≤ x := by rw [← hx]; exact Int.ediv_nonneg h0 (by decide)
  rw [hx]
  refine seqM fun N nx => ifM fun TA TB ta tb => ?_
  by_cases k0 : c % 6 = 0
  · simp only [k0, eq_self, ev, ev2, ev3, ev4, ev5, ofS_inj, bodyEnds, String.reduceEq, decide_false, decide_true, reduceCtorEq, List.length_cons, List.length_nil, Nat.reduceAdd, szs, true_and, flatD, List.all_cons, List.all_nil, Bool.and_self, Bool.or_false, Bool.false_or, Bool.or_true, Bool.true_or, Bool.and_true, Bool.true_and, Bool.and_false, Bool.false_and, Bool.not_true, Bool.not_false]
    refine ta _ _ ?_
    clear ta tb nx TA TB
    refine seqM fun N nx => ?_
    simp only [eq_self, ev, ev2, ev3, ev4, ev5, ofS_inj, bodyEnds, String.reduceEq, decide_false, decide_true, reduceCtorEq, List.length_cons, List.length_nil, Nat.reduceAdd, szs, true_and, flatD, List.all_cons, List.all_nil, Bool.and_self, Bool.or_false, Bool.false_or, Bool.or_true, Bool.true_or, Bool.and_true, Bool.true_and, Bool.and_false, Bool.false_and, Bool.not_true, Bool.not_false, cint_eq]
    refine ⟨by decide, tup_ix (n := 21) rfl (Int.emod_nonneg _ (by decide)) (Int.emod_lt_of_pos _ (by decide)) fun d hd => ?_⟩
    obtain ⟨r, hr, rfl⟩ : ∃ r ∈ reserved, D.str r = d := List.mem_map.mp (show d ∈ reserved.map D.str from hd)
    refine nx _ _ ?_
    clear nx N
    obtain ⟨u, rfl, k⟩ := res_k hr
    simp only [eq_self, ev, ev2, ev3, ev4, ev5, ofS_inj, bodyEnds, String.reduceEq, decide_false, decide_true, reduceCtorEq, List.length_cons, List.length_nil, Nat.reduceAdd, szs, true_and, flatD, List.all_cons, List.all_nil, Bool.and_self, Bool.or_false, Bool.false_or, Bool.or_true, Bool.true_or, Bool.and_true, Bool.true_and, Bool.and_false, Bool.false_and, Bool.not_true, Bool.not_false]
    exact tk_mk k pre_refl q rfl rfl rfl
  simp only [k0, eq_self, ev, ev2, ev3, ev4, ev5, ofS_inj, bodyEnds, String.reduceEq, decide_false, decide_true, reduceCtorEq, List.length_cons, List.length_nil, Nat.reduceAdd, szs, true_and, flatD, List.all_cons, List.all_nil, Bool.and_self, Bool.or_false, Bool.false_or, Bool.or_true, Bool.true_or, Bool.and_true, Bool.true_and, Bool.and_false, Bool.false_and, Bool.not_true, Bool.not_false]
  refine tb _ _ (nx _ _ ?_)
  clear ta tb nx N TA TB
  refine seqM fun N nx => ifM fun TA TB ta tb => ?_
  by_cases k1 : c % 6 = 1
  · simp only [k1, eq_self, ev, ev2, ev3, ev4, ev5, ofS_inj, bodyEnds, String.reduceEq, decide_false, decide_true, reduceCtorEq, List.length_cons, List.length_nil, Nat.reduceAdd, szs, true_and, flatD, List.all_cons, List.all_nil, Bool.and_self, Bool.or_false, Bool.false_or, Bool.or_true, Bool.true_or, Bool.and_true, Bool.true_and, Bool.and_false, Bool.false_and, Bool.not_true, Bool.not_false]
    refine ta _ _ ?_
    clear ta tb nx TA TB
    refine seqM fun N nx => ?_
    simp only [eq_self, ev, ev2, ev3, ev4, ev5, ofS_inj, bodyEnds, String.reduceEq, decide_false, decide_true, reduceCtorEq, List.length_cons, List.length_nil, Nat.reduceAdd, szs, true_and, flatD, List.all_cons, List.all_nil, Bool.and_self, Bool.or_false, Bool.false_or, Bool.or_true, Bool.true_or, Bool.and_true, Bool.true_and, Bool.and_false, Bool.false_and, Bool.not_true, Bool.not_false]
    refine ⟨x, rfl, x0, fun a w ha hw hl => nx _ _ ?_⟩
    clear nx N
    have k := word_k ha hw hl
    refine seqM fun N nx => ifM fun TA TB ta tb => ?_
    simp only [eq_self, ev, ev2, ev3, ev4, ev5, ofS_inj, bodyEnds, String.reduceEq, decide_false, decide_true, reduceCtorEq, List.length_cons, List.length_nil, Nat.reduceAdd, szs, true_and, flatD, List.all_cons, List.all_nil, Bool.and_self, Bool.or_false, Bool.false_or, Bool.or_true, Bool.true_or, Bool.and_true, Bool.true_and, Bool.and_false, Bool.false_and, Bool.not_true, Bool.not_false, res_in]
    cases hr : isRes (txt (a :: w)) with
    | true =>
      rw [hr, if_pos rfl] at k
      refine ta _ _ ?_
      simp only [eq_self, ev, ev2, ev3, ev4, ev5, ofS_inj, bodyEnds, String.reduceEq, decide_false, decide_true, reduceCtorEq, List.length_cons, List.length_nil, Nat.reduceAdd, szs, true_and, flatD, List.all_cons, List.all_nil, Bool.and_self, Bool.or_false, Bool.false_or, Bool.or_true, Bool.true_or, Bool.and_true, Bool.true_and, Bool.and_false, Bool.false_and, Bool.not_true, Bool.not_false]
      exact tk_mk k pre_refl q rfl rfl rfl
    | false =>
      rw [hr, if_neg (by decide)] at k
      refine tb _ _ (nx _ _ ?_)
      simp only [eq_self, ev, ev2, ev3, ev4, ev5, ofS_inj, bodyEnds, String.reduceEq, decide_false, decide_true, reduceCtorEq, List.length_cons, List.length_nil, Nat.reduceAdd, szs, true_and, flatD, List.all_cons, List.all_nil, Bool.and_self, Bool.or_false, Bool.false_or, Bool.or_true, Bool.true_or, Bool.and_true, Bool.true_and, Bool.and_false, Bool.false_and, Bool.not_true, Bool.not_false]
      exact tk_mk k pre_refl q rfl rfl rfl
  simp only [k1, eq_self, ev, ev2, ev3, ev4, ev5, ofS_inj, bodyEnds, String.reduceEq, decide_false, decide_true, reduceCtorEq, List.length_cons, List.length_nil, Nat.reduceAdd, szs, true_and, flatD, List.all_cons, List.all_nil, Bool.and_self, Bool.or_false, Bool.false_or, Bool.or_true, Bool.true_or, Bool.and_true, Bool.true_and, Bool.and_false, Bool.false_and, Bool.not_true, Bool.not_false]
  refine tb _ _ (nx _ _ ?_)
  clear ta tb nx N TA TB
  refine seqM fun N nx => ifM fun TA TB ta tb => ?_
  by_cases k2 : c % 6 = 2
  · simp only [k2, eq_self, ev, ev2, ev3, ev4, ev5, ofS_inj, bodyEnds, String.reduceEq, decide_false, decide_true, reduceCtorEq, List.length_cons, List.length_nil, Nat.reduceAdd, szs, true_and, flatD, List.all_cons, List.all_nil, Bool.and_self, Bool.or_false, Bool.false_or, Bool.or_true, Bool.true_or, Bool.and_true, Bool.true_and, Bool.and_false, Bool.false_and, Bool.not_true, Bool.not_false]
    refine ta _ _ ?_
    clear ta tb nx TA TB
    obtain ⟨v, hv⟩ : ∃ v : Nat, x % 65536 = (v : Int) := Int.eq_ofNat_of_zero_le (Int.emod_nonneg _ (by decide))
    have hv2 : v ≤ 65535 := by
      have := Int.emod_lt_of_pos x (show (0 : Int) < 65536 by decide)
      omega
    simp only [eq_self, ev, ev2, ev3, ev4, ev5, ofS_inj, bodyEnds, String.reduceEq, decide_false, decide_true, reduceCtorEq, List.length_cons, List.length_nil, Nat.reduceAdd, szs, true_and, flatD, List.all_cons, List.all_nil, Bool.and_self, Bool.or_false, Bool.false_or, Bool.or_true, Bool.true_or, Bool.and_true, Bool.true_and, Bool.and_false, Bool.false_and, Bool.not_true, Bool.not_false, cint_eq, hv, str_eq hv2]
    exact ⟨by decide, by decide, tk_mk (num_k hv2) pre_refl q rfl rfl rfl⟩
  simp only [k2, eq_self, ev, ev2, ev3, ev4, ev5, ofS_inj, bodyEnds, String.reduceEq, decide_false, decide_true, reduceCtorEq, List.length_cons, List.length_nil, Nat.reduceAdd, szs, true_and, flatD, List.all_cons, List.all_nil, Bool.and_self, Bool.or_false, Bool.false_or, Bool.or_true, Bool.true_or, Bool.and_true, Bool.true_and, Bool.and_false, Bool.false_and, Bool.not_true, Bool.not_false]
  refine tb _ _ (nx _ _ ?_)
  clear ta tb nx N TA TB
  refine seqM fun N nx => ifM fun TA TB ta tb => ?_
  by_cases k3 : c % 6 = 3
  · simp only [k3, eq_self, ev, ev2, ev3, ev4, ev5, ofS_inj, bodyEnds, String.reduceEq, decide_false, decide_true, reduceCtorEq, List.length_cons, List.length_nil, Nat.reduceAdd, szs, true_and, flatD, List.all_cons, List.all_nil, Bool.and_self, Bool.or_false, Bool.false_or, Bool.or_true, Bool.true_or, Bool.and_true, Bool.true_and, Bool.and_false, Bool.false_and, Bool.not_true, Bool.not_false]
    refine ta _ _ ?_
    clear ta tb nx TA TB
    refine seqM fun N nx => ?_
    simp only [eq_self, ev, ev2, ev3, ev4, ev5, ofS_inj, bodyEnds, String.reduceEq, decide_false, decide_true, reduceCtorEq, List.length_cons, List.length_nil, Nat.reduceAdd, szs, true_and, flatD, List.all_cons, List.all_nil, Bool.and_self, Bool.or_false, Bool.false_or, Bool.or_true, Bool.true_or, Bool.and_true, Bool.true_and, Bool.and_false, Bool.false_and, Bool.not_true, Bool.not_false]
    refine ⟨x, rfl, x0, fun a w ha hw hl => nx _ _ ?_⟩
    clear nx N
    simp only [eq_self, ev, ev2, ev3, ev4, ev5, ofS_inj, bodyEnds, String.reduceEq, decide_false, decide_true, reduceCtorEq, List.length_cons, List.length_nil, Nat.reduceAdd, szs, true_and, flatD, List.all_cons, List.all_nil, Bool.and_self, Bool.or_false, Bool.false_or, Bool.or_true, Bool.true_or, Bool.and_true, Bool.true_and, Bool.and_false, Bool.false_and, Bool.not_true, Bool.not_false, t34, add_str, tapp, txt_len]
    refine ⟨by first | omega | (simp; omega), by first | omega | (simp; omega), tk_mk (str_k ha hw hl) pre_refl q rfl rfl rfl⟩
  simp only [k3, eq_self, ev, ev2, ev3, ev4, ev5, ofS_inj, bodyEnds, String.reduceEq, decide_false, decide_true, reduceCtorEq, List.length_cons, List.length_nil, Nat.reduceAdd, szs, true_and, flatD, List.all_cons, List.all_nil, Bool.and_self, Bool.or_false, Bool.false_or, Bool.or_true, Bool.true_or, Bool.and_true, Bool.true_and, Bool.and_false, Bool.false_and, Bool.not_true, Bool.not_false]
  refine tb _ _ (nx _ _ ?_)
  clear ta tb nx N TA TB
  refine seqM fun N nx => ?_
  simp only [eq_self, ev, ev2, ev3, ev4, ev5, ofS_inj, bodyEnds, String.reduceEq, decide_false, decide_true, reduceCtorEq, List.length_cons, List.length_nil, Nat.reduceAdd, szs, true_and, flatD, List.all_cons, List.all_nil, Bool.and_self, Bool.or_false, Bool.false_or, Bool.or_true, Bool.true_or, Bool.and_true, Bool.true_and, Bool.and_false, Bool.false_and, Bool.not_true, Bool.not_false, sgn]
  refine ⟨by decide, nx _ _ ?_⟩
  clear nx N
  refine seqM fun N nx => ?_
  simp only [eq_self, ev, ev2, ev3, ev4, ev5, ofS_inj, bodyEnds, String.reduceEq, decide_false, decide_true, reduceCtorEq, List.length_cons, List.length_nil, Nat.reduceAdd, szs, true_and, flatD, List.all_cons, List.all_nil, Bool.and_self, Bool.or_false, Bool.false_or, Bool.or_true, Bool.true_or, Bool.and_true, Bool.true_and, Bool.and_false, Bool.false_and, Bool.not_true, Bool.not_false, cint_eq]
  refine ⟨by decide, lst_ix (n := 13) at_end rfl (Int.emod_nonneg _ (by decide)) (Int.emod_lt_of_pos _ (by decide)) fun d hd => ?_⟩
  obtain ⟨g, hg, rfl⟩ : ∃ g ∈ Lx.signs, D.str (txt g) = d := List.mem_map.mp (show d ∈ Lx.signs.map (fun g => D.str (txt g)) from hd)
  refine nx _ _ ?_
  clear nx N
  simp only [eq_self, ev, ev2, ev3, ev4, ev5, ofS_inj, bodyEnds, String.reduceEq, decide_false, decide_true, reduceCtorEq, List.length_cons, List.length_nil, Nat.reduceAdd, szs, true_and, flatD, List.all_cons, List.all_nil, Bool.and_self, Bool.or_false, Bool.false_or, Bool.or_true, Bool.true_or, Bool.and_true, Bool.true_and, Bool.and_false, Bool.false_and, Bool.not_true, Bool.not_false]
  exact tk_mk (sign_k hg) pre_app q rfl rfl rfl
/-! ### spaces -/
structure SpK (u : List Nat) : Prop where
  lex : ∀ r pos ts, Lex r (pos + u.length) ts → Lex (u ++ r) pos ts
  lexx : ∀ r pos e, LexX r (pos + u.length) e → LexX (u ++ r) pos e
  sep : ∀ r, sep (u ++ r)
  few : u.length ≤ 10
theorem sp_one {c : Nat} (h : c = 32 ∨ c = 10 ∨ c = 9) : SpK [c] := ⟨fun r pos ts l => .sp (by omega) l, fun r pos e l => .sp (by omega) l, fun r => h, by simp⟩
theorem SpK.cons {c : Nat} {u : List Nat} (h : c = 32 ∨ c = 10 ∨ c = 9) (k : SpK u) (hl : u.length ≤ 9) : SpK (c :: u) :=
  ⟨fun r pos ts l => .sp (by omega) (k.lex r (pos + 1) ts (by rw [Nat.add_assoc, Nat.add_comm 1]; exact l)), fun r pos e l => .sp (by omega) (k.lexx r (pos + 1) e (by rw [Nat.add_assoc, Nat.add_comm 1]; exact l)), fun r => h, by simp; omega⟩
theorem sp_com : SpK [32, 35, 32, 61, 61, 32, 102, 117, 110, 10] := by
  refine ⟨fun r pos ts l => ?_, fun r pos e l => ?_, fun r => .inl rfl, by simp⟩
  · exact .sp (.inl rfl) (.com (w := [32, 61, 61, 32, 102, 117, 110]) (r := 10 :: r) (by decide) rfl (.sp (.inr (.inr rfl)) l))
  · exact .sp (.inl rfl) (.com (w := [32, 61, 61, 32, 102, 117, 110]) (r := 10 :: r) (by decide) rfl (.sp (.inr (.inr rfl)) l))
def GSp : AFn := fun ds S E Q => ∃ c : Int, ds = [.int c] ∧ ∀ u S', SpK u → S <+: S' → Q (.str (txt u)) S'
theorem sp_space : ∀ ds S E Q, GSp ds S E Q → ds.length = 1 ∧ a__law_space (bodyEnds Q E) (startA 1 ds) S := by
  rintro ds S E Q ⟨c, rfl, q⟩
  refine ⟨rfl, ?_⟩
  have st : startA 1 [.int c] = [some (.int c)] := rfl
  rw [st]
  have t : (" " : Str) = txt [32] ∧ ("\n" : Str) = txt [10] ∧ ("\t" : Str) = txt [9] ∧ ("  " : Str) = txt [32, 32] ∧ (" # == fun\n" : Str) = txt [32, 35, 32, 61, 61, 32, 102, 117, 110, 10] ∧ ("\n\n" : Str) = txt [10, 10] := by decide
  unfold a__law_space
  simp only [eq_self, ev, ev2, ev3, ev4, ev5, ofS_inj, bodyEnds, String.reduceEq, decide_false, decide_true, reduceCtorEq, List.length_cons, List.length_nil, Nat.reduceAdd, szs, true_and, flatD, List.all_cons, List.all_nil, Bool.and_self, Bool.or_false, Bool.false_or, Bool.or_true, Bool.true_or, Bool.and_true, Bool.true_and, Bool.and_false, Bool.false_and, Bool.not_true, Bool.not_false, cint_eq, t]
  refine ⟨by decide, lst_ix (n := 6) at_end rfl (Int.emod_nonneg _ (by decide)) (Int.emod_lt_of_pos _ (by decide)) fun d hd => ?_⟩
  simp only [List.mem_cons, List.not_mem_nil, or_false] at hd
  rcases hd with rfl | rfl | rfl | rfl | rfl | rfl
  · exact q _ _ (sp_one (.inl rfl)) pre_app
  · exact q _ _ (sp_one (.inr (.inl rfl))) pre_app
  · exact q _ _ (sp_one (.inr (.inr rfl))) pre_app
  · exact q _ _ ((sp_one (.inl rfl)).cons (.inl rfl) (by simp)) pre_app
  · exact q _ _ sp_com pre_app
  · exact q _ _ ((sp_one (.inr (.inl rfl))).cons (.inr (.inl rfl)) (by simp)) pre_app
/-! ### what is refused -/
def Bad (u : List Nat) : Prop := BadTk (u ++ [32, 120]) ∧ u.length ≤ 30
def GBad : AFn := fun ds S E Q => ∃ c : Int, ds = [.int c] ∧ ∀ u S', Bad u → S <+: S' → Q (.str (txt u)) S'
theorem bad_all : ∀ u ∈ ([[64], [54, 53, 53, 51, 54], [48, 49], [55, 97], [34], [34, 97], [34, 34], List.replicate 21 97, [33], [34] ++ List.replicate 21 98 ++ [34], [34, 97, 32, 98, 34], [36]] : List (List Nat)), Bad u := by
  intro u hu
  simp only [List.mem_cons, List.not_mem_nil, or_false] at hu
  rcases hu with rfl | rfl | rfl | rfl | rfl | rfl | rfl | rfl | rfl | rfl | rfl | rfl
  · exact ⟨.sign (by decide) (by decide) (by decide) (by decide) (by decide), by decide⟩
  · exact ⟨.num (w := [53, 53, 51, 54]) (r := [32, 120]) (by decide) (by decide) rfl (.big (n := 65536) (by decide) (by decide) (by decide +kernel) (by decide)), by decide⟩
  · exact ⟨.num (w := [49]) (r := [32, 120]) (by decide) (by decide) rfl (.lead (n := 1) (by decide) (by decide) (by decide +kernel) (by decide) rfl), by decide⟩
  · exact ⟨.num (w := [97]) (r := [32, 120]) (by decide) (by decide) rfl (.sign (by decide) (by decide)), by decide⟩
  · exact ⟨.strg (w := []) (r := [32, 120]) rfl rfl (.none rfl), by decide⟩
  · exact ⟨.strg (w := [97]) (r := [32, 120]) (by decide) rfl (.other (by simp) (by decide) rfl (by decide)), by decide⟩
  · exact ⟨.strg (w := []) (r := [34, 32, 120]) rfl rfl (.none rfl), by decide⟩
  · exact ⟨.name (c := 97) (w := List.replicate 20 97) (r := [32, 120]) (by decide) (by decide) rfl (by decide +kernel) (by decide), by decide⟩
  · exact ⟨.sign (by decide) (by decide) (by decide) (by decide) (by decide), by decide⟩
  · exact ⟨.strg (w := List.replicate 21 98) (r := [34, 32, 120]) (by decide) rfl (.long (by decide)), by decide⟩
  · exact ⟨.strg (w := [97]) (r := [32, 98, 34, 32, 120]) (by decide) rfl (.other (by simp) (by decide) rfl (by decide)), by decide⟩
  · exact ⟨.sign (by decide) (by decide) (by decide) (by decide) (by decide), by decide⟩
theorem sp_bad : ∀ ds S E Q, GBad ds S E Q → ds.length = 1 ∧ a__law_bad (bodyEnds Q E) (startA 1 ds) S := by
  rintro ds S E Q ⟨c, rfl, q⟩
  refine ⟨rfl, ?_⟩
  have st : startA 1 [.int c] = [some (.int c)] := rfl
  rw [st]
  have t : ("@" : Str) = txt [64] ∧ ("65536" : Str) = txt [54, 53, 53, 51, 54] ∧ ("01" : Str) = txt [48, 49] ∧ ("7a" : Str) = txt [55, 97] ∧ ("\"" : Str) = txt [34] ∧ ("\"a" : Str) = txt [34, 97] ∧ ("\"\"" : Str) = txt [34, 34] ∧
    repS "a" 21 = txt (List.replicate 21 97) ∧ ("!" : Str) = txt [33] ∧ repS "b" 21 = txt (List.replicate 21 98) ∧ ("\"a b\"" : Str) = txt [34, 97, 32, 98, 34] ∧ ("$" : Str) = txt [36] := by decide +kernel
  have mul : ∀ (x : Str) (G : VA) (S : Sto), x.length = 1 → G (.str (repS x 21)) S → oMul (.str x) (.int 21) S G := fun x G S h g => ⟨⟨by rw [h]; decide, by rw [h]; decide, by decide, by decide⟩, g⟩
  unfold a__law_bad
  simp only [eq_self, ev, ev2, ev3, ev4, ev5, ofS_inj, bodyEnds, String.reduceEq, decide_false, decide_true, reduceCtorEq, List.length_cons, List.length_nil, Nat.reduceAdd, szs, true_and, flatD, List.all_cons, List.all_nil, Bool.and_self, Bool.or_false, Bool.false_or, Bool.or_true, Bool.true_or, Bool.and_true, Bool.true_and, Bool.and_false, Bool.false_and, Bool.not_true, Bool.not_false]
  refine mul "a" _ _ (by decide) ?_
  refine mul "b" _ _ (by decide) ?_
  simp only [t, add_str, tapp, txt_len, cint_eq, eq_self, ev, ev2, ev3, ev4, ev5, ofS_inj, bodyEnds, String.reduceEq, decide_false, decide_true, reduceCtorEq, List.length_cons, List.length_nil, Nat.reduceAdd, szs, true_and, flatD, List.all_cons, List.all_nil, Bool.and_self, Bool.or_false, Bool.false_or, Bool.or_true, Bool.true_or, Bool.and_true, Bool.true_and, Bool.and_false, Bool.false_and, Bool.not_true, Bool.not_false]
  refine ⟨by decide, by decide, by decide, by decide, lst_ix (n := 12) at_end rfl (Int.emod_nonneg _ (by decide)) (Int.emod_lt_of_pos _ (by decide)) fun d hd => ?_⟩
  obtain ⟨u, hu, rfl⟩ : ∃ u ∈ ([[64], [54, 53, 53, 51, 54], [48, 49], [55, 97], [34], [34, 97], [34, 34], List.replicate 21 97, [33], [34] ++ List.replicate 21 98 ++ [34], [34, 97, 32, 98, 34], [36]] : List (List Nat)), D.str (txt u) = d := List.mem_map.mp (show d ∈ List.map (fun u => D.str (txt u)) _ from hd)
  exact q u _ (bad_all u hu) pre_app
end Lk
namespace Lk
open PySem PySem.Spec
open PyProof.Rows L2 AL Ab Lx
/-- a token that was drawn -/
structure TokP (t : D) : Prop where
  ex : ∃ (k : Str) (v : D) (p : Nat), t = tok k v p ∧ p ≤ 20000 ∧ (okD v = true ∧ wtD v ≤ 30 ∧ dpD v = 0 ∧ flatD v = true) ∧ k ∈ (["word", "name", "number", "string", "sign"] : List Str) ∧ (k = "name" ∨ k = "word" → ∃ l, v = .str (txt l) ∧ l.length ≤ 20 ∧ Lk.nm l = decide (k = "name"))
structure MadeT (n : Nat) (l : List Nat) (ts : List D) : Prop where
  lex : ∀ r ts', Lex r l.length ts' → Lex (l ++ r) 0 (ts ++ ts')
  lexx : ∀ r e, LexX r l.length e → LexX (l ++ r) 0 e
  few : l.length ≤ 41 * n
  cnt : ts.length = n
  all : ∀ t ∈ ts, TokP t
theorem made0 : MadeT 0 [] [] := ⟨fun r ts h => h, fun r e h => h, by simp, rfl, nofun⟩
theorem MadeT.next {n : Nat} {l : List Nat} {ts : List D} {k : Str} {v : D} {u s : List Nat} (m : MadeT n l ts) (hn : n ≤ 100) (h : TokK k v u) (g : SpK s) : MadeT (n + 1) (l ++ u ++ s) (ts ++ [tok k v l.length]) := by
  refine ⟨fun r ts' hr => ?_, fun r e hr => ?_, ?_, by simp [m.cnt], fun t ht => ?_⟩
  · rw [List.append_assoc, List.append_assoc, List.append_assoc]
    refine m.lex _ _ (.tok (h.tk _ _ (g.sep r)) (g.lex r _ _ ?_))
    simpa [Nat.add_assoc] using hr
  · rw [List.append_assoc, List.append_assoc]
    refine m.lexx _ _ (.tok (h.tk _ _ (g.sep r)) (g.lexx r _ _ ?_))
    simpa [Nat.add_assoc] using hr
  · have h1 := m.few
    have h2 := h.few
    have h3 := g.few
    simp only [List.length_append]
    omega
  · rcases inApp ht with ht | ht
    · exact m.all t ht
    · rw [List.mem_singleton.mp ht]
      have h1 := m.few
      exact ⟨k, v, l.length, rfl, by omega, h.ok, h.kd, h.nm⟩
theorem kd_fine {k : Str} (h : k ∈ (["word", "name", "number", "string", "sign"] : List Str)) : PyData.strOk k = true ∧ k.cps.size ≤ 10 := by
  simp only [List.mem_cons, List.not_mem_nil, or_false] at h
  rcases h with rfl | rfl | rfl | rfl | rfl <;> decide +kernel
theorem toks_fine : ∀ {ts : List D}, (∀ t ∈ ts, TokP t) → okL ts = true ∧ dpL ts ≤ 1 ∧ wtL ts ≤ 100 * ts.length
  | [], _ => ⟨rfl, by decide, Nat.le_refl _⟩
  | t :: ts, h => by
    obtain ⟨i1, i2, i3⟩ := toks_fine fun x hx => h x (List.mem_cons_of_mem _ hx)
    obtain ⟨k, v, p, rfl, hp, ⟨o1, o2, o3, _⟩, hk, _⟩ := (h t (List.mem_cons_self ..)).ex
    obtain ⟨k1, k2⟩ := kd_fine hk
    have hi : decide (((p : Nat) : Int).natAbs < 10 ^ 6) = true := decide_eq_true (by simp; omega)
    refine ⟨?_, ?_, ?_⟩
    · simp only [tok, okL, okD, k1, o1, hi, i1, Bool.and_self]
    · simp only [tok, dpL, dpD, o3]
      omega
    · simp only [tok, wtL, wtD, List.length_cons]
      omega
theorem ag3 {i j k : Nat} {a b c : D} {ρ : Rho} {S : Sto} {Q : Rho → Sto → Prop} : agCons (agName i) (agCons (agName j) (agCons (agName k) agNil)) [a, b, c] ρ S Q = Q (sset (sset (sset ρ i a) j b) k c) S := rfl
structure LWk (d : D) (ns : List Int) (P n : Nat) (ρ : Rho) (S : Sto) : Prop where
  ex : ∃ l ts x3 x4 x5 x6, ρ = [some d, some (.str (txt l)), some (.ref P), x3, x4, x5, x6, none, none, none, none] ∧ ScrOk S d (ns.map .int) ∧ (∀ j, d = .ref j → j ≠ P) ∧ S[P]? = some (.lst ts) ∧ MadeT n l ts
theorem sp_law : ∀ ds S E Q, lawF ds S E Q → ds.length = 1 ∧ a_law GCell GTk GSp (oF GTokens GTokensX) (oF GIsN GIsI) GBad (bodyEnds Q E) (startA 11 ds) S := by
  rintro ds S E Q ⟨d, ns, few, rfl, hS, q⟩
  refine ⟨rfl, ?_⟩
  have st : startA 11 [d] = [some d, none, none, none, none, none, none, none, none, none, none] := rfl
  rw [st]
  have scr := scr_is hS
  clear hS
  have hz : 4000 ≤ sizeLine := by decide
  have t0 : ("" : Str) = txt [] := by decide
  unfold a_law
  refine seqM fun N nx => ?_
  simp only [eq_self, ev, ev2, ev3, ev4, ev5, ofS_inj, bodyEnds, String.reduceEq, decide_false, decide_true, reduceCtorEq, List.length_cons, List.length_nil, Nat.reduceAdd, szs, true_and, flatD, List.all_cons, List.all_nil, Bool.and_self, Bool.or_false, Bool.false_or, Bool.or_true, Bool.true_or, Bool.and_true, Bool.true_and, Bool.and_false, Bool.false_and, Bool.not_true, Bool.not_false, t0]
  refine nx _ _ ?_
  clear nx N
  refine seqM fun N nx => ?_
  simp only [eq_self, ev, ev2, ev3, ev4, ev5, ofS_inj, bodyEnds, String.reduceEq, decide_false, decide_true, reduceCtorEq, List.length_cons, List.length_nil, Nat.reduceAdd, szs, true_and, flatD, List.all_cons, List.all_nil, Bool.and_self, Bool.or_false, Bool.false_or, Bool.or_true, Bool.true_or, Bool.and_true, Bool.true_and, Bool.and_false, Bool.false_and, Bool.not_true, Bool.not_false]
  refine nx _ _ ?_
  clear nx N
  have s1 : ScrOk (S ++ [O.lst []]) d (ns.map .int) := scr.pre pre_app
  have start : LWk d ns S.length 0 [some d, some (.str (txt [])), some (.ref S.length), none, none, none, none, none, none, none, none] (S ++ [O.lst []]) :=
    ⟨[], [], none, none, none, none, rfl, s1, fun j hj => Nat.ne_of_lt (scr_lt scr j hj), at_end, made0⟩
  generalize S.length = P at start ⊢
  generalize S ++ [O.lst []] = S1 at start s1 ⊢
  clear scr st t0 S
  obtain ⟨m, hm, hm8⟩ : ∃ m : Nat, ((if (61 : Int) < (ns.length : Int) then 61 else (ns.length : Int)) - 1).toNat = m ∧ m ≤ 60 := by
    refine ⟨_, rfl, ?_⟩
    split <;> omega
  refine seqM fun N nx => for_k ?_
  simp only [eq_self, ev, ev2, ev3, ev4, ev5, ofS_inj, bodyEnds, String.reduceEq, decide_false, decide_true, reduceCtorEq, List.length_cons, List.length_nil, Nat.reduceAdd, szs, true_and, flatD, List.all_cons, List.all_nil, Bool.and_self, Bool.or_false, Bool.false_or, Bool.or_true, Bool.true_or, Bool.and_true, Bool.true_and, Bool.and_false, Bool.false_and, Bool.not_true, Bool.not_false, aiRng2]
  refine scr_len s1 _ ?_
  simp only [eq_self, ev, ev2, ev3, ev4, ev5, ofS_inj, bodyEnds, String.reduceEq, decide_false, decide_true, reduceCtorEq, List.length_cons, List.length_nil, Nat.reduceAdd, szs, true_and, flatD, List.all_cons, List.all_nil, Bool.and_self, Bool.or_false, Bool.false_or, Bool.or_true, Bool.true_or, Bool.and_true, Bool.true_and, Bool.and_false, Bool.false_and, Bool.not_true, Bool.not_false, cmin_eq]
  refine ⟨⟨by decide, by decide, ?_, ?_⟩, LWk d ns P, start, fun _ _ _ _ _ => trivial, ?_, ?_⟩
  · split <;> omega
  · split <;> omega
  · rw [hm]
    rintro k dd ρ S3 hd ⟨l, ts, x3, x4, x5, x6, rfl, sc, hne, hP, made⟩
    obtain ⟨rfl, hk⟩ := rng_at hd
    have hlen := made.few
    simp only [eq_self, ev, ev2, ev3, ev4, ev5, ofS_inj, bodyEnds, String.reduceEq, decide_false, decide_true, reduceCtorEq, List.length_cons, List.length_nil, Nat.reduceAdd, szs, true_and, flatD, List.all_cons, List.all_nil, Bool.and_self, Bool.or_false, Bool.false_or, Bool.or_true, Bool.true_or, Bool.and_true, Bool.true_and, Bool.and_false, Bool.false_and, Bool.not_true, Bool.not_false]
    refine ⟨d, 1 + (k : Int), ns, rfl, by omega, sc, fun n => ?_⟩
    simp only [cabs_eq]
    refine ⟨_, rfl, by split <;> omega, fun kd v u S4 i4 htk p4 e4 => tup_lst e4 rfl ?_⟩
    rw [ag3]
    have hP4 := pre_get p4 hP
    have sc4 := sc.pre p4
    refine seqM fun N1 nx1 => ?_
    simp only [eq_self, ev, ev2, ev3, ev4, ev5, ofS_inj, bodyEnds, String.reduceEq, decide_false, decide_true, reduceCtorEq, List.length_cons, List.length_nil, Nat.reduceAdd, szs, true_and, flatD, List.all_cons, List.all_nil, Bool.and_self, Bool.or_false, Bool.false_or, Bool.or_true, Bool.true_or, Bool.and_true, Bool.true_and, Bool.and_false, Bool.false_and, Bool.not_true, Bool.not_false, txt_len]
    refine ⟨is_lst hP4, by omega, lst_set hP4 (by have := made.cnt; omega) (nx1 _ _ ?_)⟩
    clear nx1 N1
    have hP5 : (S4.set P (O.lst (ts ++ [tok kd v l.length])))[P]? = some (.lst (ts ++ [tok kd v l.length])) := at_set hP4
    have sc5 := scr_set (o := O.lst (ts ++ [tok kd v l.length])) sc4 (i := P) hne
    show aAsg _ _ _ _ (S4.set P (O.lst (ts ++ [tok kd v l.length])))
    generalize S4.set P (O.lst (ts ++ [tok kd v l.length])) = S5 at hP5 sc5 ⊢
    simp only [eq_self, ev, ev2, ev3, ev4, ev5, ofS_inj, bodyEnds, String.reduceEq, decide_false, decide_true, reduceCtorEq, List.length_cons, List.length_nil, Nat.reduceAdd, szs, true_and, flatD, List.all_cons, List.all_nil, Bool.and_self, Bool.or_false, Bool.false_or, Bool.or_true, Bool.true_or, Bool.and_true, Bool.true_and, Bool.and_false, Bool.false_and, Bool.not_true, Bool.not_false, add_str, tapp, txt_len]
    have h3 := htk.few
    refine ⟨by omega, d, 1 + (k : Int), ns, rfl, by omega, sc5, fun n2 => ?_⟩
    simp only [cabs_eq, div_eq]
    refine ⟨⟨by decide, by decide⟩, _, rfl, fun s S6 hs p6 => ?_⟩
    have h4 := hs.few
    simp only [eq_self, ev, ev2, ev3, ev4, ev5, ofS_inj, bodyEnds, String.reduceEq, decide_false, decide_true, reduceCtorEq, List.length_cons, List.length_nil, Nat.reduceAdd, szs, true_and, flatD, List.all_cons, List.all_nil, Bool.and_self, Bool.or_false, Bool.false_or, Bool.or_true, Bool.true_or, Bool.and_true, Bool.true_and, Bool.and_false, Bool.false_and, Bool.not_true, Bool.not_false, add_str, tapp, txt_len]
    refine ⟨by simp only [List.length_append]; omega, ?_⟩
    exact ⟨_, _, _, _, _, _, rfl, sc5.pre p6, hne, pre_get p6 hP5, made.next (by omega) htk hs⟩
  · rw [hm]
    clear start s1 S1
    rintro ρ S3 ⟨l, ts, x3, x4, x5, x6, rfl, sc, hne, hP, made⟩
    rw [rng_len] at made
    refine nx _ _ ?_
    clear nx N
    have hlen := made.few
    have hcnt := made.cnt
    obtain ⟨f1, f2, f3⟩ := toks_fine made.all
    have tm : ("m" : Str).length ≤ 1000 := by decide
    refine seqM fun N nx => ?_
    simp only [eq_self, ev, ev2, ev3, ev4, ev5, ofS_inj, bodyEnds, String.reduceEq, decide_false, decide_true, reduceCtorEq, List.length_cons, List.length_nil, Nat.reduceAdd, szs, true_and, flatD, List.all_cons, List.all_nil, Bool.and_self, Bool.or_false, Bool.false_or, Bool.or_true, Bool.true_or, Bool.and_true, Bool.true_and, Bool.and_false, Bool.false_and, Bool.not_true, Bool.not_false]
    have lex : Lex l 0 ts := by
      have := made.lex [] [] .nil
      simpa using this
    refine .inl ⟨l, "m", ts, rfl, by omega, lex, fun S4 i4 p4 e4 => ?_⟩
    refine nx _ _ ?_
    clear nx N
    have hP4 := pre_get p4 hP
    have lof : ∀ {S : Sto} {i : Nat} {l : List D}, S[i]? = some (.lst l) → lstOf S i = some l := fun e => by unfold lstOf; rw [e]
    refine seqM fun N nx => ifM fun TA TB ta tb => ?_
    have ty : tyD S4 (.ref i4) = some "list" := by show (lstOf S4 i4).map _ = _; rw [lof e4]; rfl
    simp only [eq_self, ev, ev2, ev3, ev4, ev5, ofS_inj, bodyEnds, String.reduceEq, decide_false, decide_true, reduceCtorEq, List.length_cons, List.length_nil, Nat.reduceAdd, szs, true_and, flatD, List.all_cons, List.all_nil, Bool.and_self, Bool.or_false, Bool.false_or, Bool.or_true, Bool.true_or, Bool.and_true, Bool.true_and, Bool.and_false, Bool.false_and, Bool.not_true, Bool.not_false, aIsi, ty]
    refine repr_list (lof e4) f1 (by omega) (by omega) (repr_list (lof hP4) f1 (by omega) (by omega) (one_ne ?_))
    refine tb _ _ (nx _ _ ?_)
    clear nx N ta tb TA TB
    refine seqM fun N nx => for_k ?_
    have src : srcOf S4 (.ref P) = some (.lst P ts) := by show (lstOf S4 P).map _ = _; rw [lof hP4]; rfl
    simp only [eq_self, ev, ev2, ev3, ev4, ev5, ofS_inj, bodyEnds, String.reduceEq, decide_false, decide_true, reduceCtorEq, List.length_cons, List.length_nil, Nat.reduceAdd, szs, true_and, flatD, List.all_cons, List.all_nil, Bool.and_self, Bool.or_false, Bool.false_or, Bool.or_true, Bool.true_or, Bool.and_true, Bool.true_and, Bool.and_false, Bool.false_and, Bool.not_true, Bool.not_false, src]
    refine ⟨fun n ρ S' => ∃ x4 x5 x8, ρ = [some d, some (.str (txt l)), some (.ref P), x3, x4, x5, x6, some (.ref i4), x8, none, none] ∧ S4 <+: S', ⟨x4, x5, none, rfl, pre_refl⟩, fun k ρ S' hk hw => ?_, ?_, ?_⟩
    · obtain ⟨_, _, _, _, p⟩ := hw
      exact lof (pre_get p hP4)
    · rintro k t ρ S5 hd ⟨x4', x5', x8, rfl, p5⟩
      have hd' : ts[k]? = some t := hd
      obtain ⟨kd, v, p, rfl, hp, ⟨o1, o2, o3, o4⟩, hk, hnm⟩ := (made.all t (List.mem_of_getElem? hd')).ex
      unfold tok
      simp only [agTup, seq_tup, agCons, agNil, eq_self, ev, ev2, ev3, ev4, ev5, ofS_inj, bodyEnds, String.reduceEq, decide_false, decide_true, reduceCtorEq, List.length_cons, List.length_nil, Nat.reduceAdd, szs, true_and, flatD, List.all_cons, List.all_nil, Bool.and_self, Bool.or_false, Bool.false_or, Bool.or_true, Bool.true_or, Bool.and_true, Bool.true_and, Bool.and_false, Bool.false_and, Bool.not_true, Bool.not_false]
      refine in_lst at_end (by rfl) ?_
      have ein : inF (.str kd) [D.str "name", D.str "word"] = (decide (kd = "name") || decide (kd = "word")) := by
        simp only [inF, List.any_cons, List.any_nil, eqF, Bool.or_false]
        rw [show decide (("name" : Str) = kd) = decide (kd = "name") from decide_eq_decide.mpr eq_comm, show decide (("word" : Str) = kd) = decide (kd = "word") from decide_eq_decide.mpr eq_comm]
      rw [ein]
      have out : ∀ S6, S5 <+: S6 → ∃ y4 y5 y8, [some d, some (.str (txt l)), some (.ref P), x3, some (.str kd), some v, x6, some (.ref i4), some (.int (p : Int)), none, none] = [some d, some (.str (txt l)), some (.ref P), x3, y4, y5, x6, some (.ref i4), y8, none, none] ∧ S4 <+: S6 := fun S6 p6 => ⟨_, _, _, rfl, p5.trans p6⟩
      by_cases hh : kd = "name" ∨ kd = "word"
      · have : (decide (kd = "name") || decide (kd = "word")) = true := by
          rcases hh with h | h <;> simp [h]
        rw [this]
        obtain ⟨l', rfl, hl', en⟩ := hnm hh
        simp only [eq_self, ev, ev2, ev3, ev4, ev5, ofS_inj, bodyEnds, String.reduceEq, decide_false, decide_true, reduceCtorEq, List.length_cons, List.length_nil, Nat.reduceAdd, szs, true_and, flatD, List.all_cons, List.all_nil, Bool.and_self, Bool.or_false, Bool.false_or, Bool.or_true, Bool.true_or, Bool.and_true, Bool.true_and, Bool.and_false, Bool.false_and, Bool.not_true, Bool.not_false]
        refine .inl ⟨l', rfl, by omega, fun S6 p6 => ?_⟩
        simp only [eq_self, ev, ev2, ev3, ev4, ev5, ofS_inj, bodyEnds, String.reduceEq, decide_false, decide_true, reduceCtorEq, List.length_cons, List.length_nil, Nat.reduceAdd, szs, true_and, flatD, List.all_cons, List.all_nil, Bool.and_self, Bool.or_false, Bool.false_or, Bool.or_true, Bool.true_or, Bool.and_true, Bool.true_and, Bool.and_false, Bool.false_and, Bool.not_true, Bool.not_false, en, decide_true, Bool.not_true]
        exact out _ (pre_app.trans p6)
      · have : (decide (kd = "name") || decide (kd = "word")) = false := by
          rw [not_or] at hh
          simp only [hh.1, hh.2, decide_false, Bool.or_self]
        rw [this]
        simp only [eq_self, ev, ev2, ev3, ev4, ev5, ofS_inj, bodyEnds, String.reduceEq, decide_false, decide_true, reduceCtorEq, List.length_cons, List.length_nil, Nat.reduceAdd, szs, true_and, flatD, List.all_cons, List.all_nil, Bool.and_self, Bool.or_false, Bool.false_or, Bool.or_true, Bool.true_or, Bool.and_true, Bool.true_and, Bool.and_false, Bool.false_and, Bool.not_true, Bool.not_false]
        exact out _ pre_app
    · rintro ρ S5 ⟨x4', x5', x8, rfl, p5⟩
      refine nx _ _ ?_
      clear nx N
      have sc5 := (sc.pre p4).pre p5
      refine seqM fun N nx => ifM fun TA TB ta tb => ?_
      have mul : ∀ (x : Str) (G : VA) (S : Sto), x.length = 1 → G (.str (repS x 21)) S → oMul (.str x) (.int 21) S G := fun x G S h g => ⟨⟨by rw [h]; decide, by rw [h]; decide, by decide, by decide⟩, g⟩
      have t0 : ("" : Str) = txt [] ∧ repS "a" 21 = txt (List.replicate 21 97) ∧ ("_a" : Str) = txt [95, 97] := by decide +kernel
      simp only [eq_self, ev, ev2, ev3, ev4, ev5, ofS_inj, bodyEnds, String.reduceEq, decide_false, decide_true, reduceCtorEq, List.length_cons, List.length_nil, Nat.reduceAdd, szs, true_and, flatD, List.all_cons, List.all_nil, Bool.and_self, Bool.or_false, Bool.false_or, Bool.or_true, Bool.true_or, Bool.and_true, Bool.true_and, Bool.and_false, Bool.false_and, Bool.not_true, Bool.not_false, t0.1, t0.2.2]
      refine .inl ⟨[], rfl, by decide, fun S6 p6 => ?_⟩
      simp only [eq_self, ev, ev2, ev3, ev4, ev5, ofS_inj, bodyEnds, String.reduceEq, decide_false, decide_true, reduceCtorEq, List.length_cons, List.length_nil, Nat.reduceAdd, szs, true_and, flatD, List.all_cons, List.all_nil, Bool.and_self, Bool.or_false, Bool.false_or, Bool.or_true, Bool.true_or, Bool.and_true, Bool.true_and, Bool.and_false, Bool.false_and, Bool.not_true, Bool.not_false, oIsNot, nm]
      refine mul "a" _ _ (by decide) ?_
      rw [t0.2.1]
      refine .inl ⟨_, rfl, by decide, fun S7 p7 => ?_⟩
      simp only [eq_self, ev, ev2, ev3, ev4, ev5, ofS_inj, bodyEnds, String.reduceEq, decide_false, decide_true, reduceCtorEq, List.length_cons, List.length_nil, Nat.reduceAdd, szs, true_and, flatD, List.all_cons, List.all_nil, Bool.and_self, Bool.or_false, Bool.false_or, Bool.or_true, Bool.true_or, Bool.and_true, Bool.true_and, Bool.and_false, Bool.false_and, Bool.not_true, Bool.not_false, oIsNot, show nm (List.replicate 21 97) = false by decide +kernel]
      refine .inr ⟨7, rfl, ?_⟩
      simp only [eq_self, ev, ev2, ev3, ev4, ev5, ofS_inj, bodyEnds, String.reduceEq, decide_false, decide_true, reduceCtorEq, List.length_cons, List.length_nil, Nat.reduceAdd, szs, true_and, flatD, List.all_cons, List.all_nil, Bool.and_self, Bool.or_false, Bool.false_or, Bool.or_true, Bool.true_or, Bool.and_true, Bool.true_and, Bool.and_false, Bool.false_and, Bool.not_true, Bool.not_false, oIsNot]
      refine .inl ⟨[95, 97], rfl, by decide, fun S8 p8 => ?_⟩
      simp only [eq_self, ev, ev2, ev3, ev4, ev5, ofS_inj, bodyEnds, String.reduceEq, decide_false, decide_true, reduceCtorEq, List.length_cons, List.length_nil, Nat.reduceAdd, szs, true_and, flatD, List.all_cons, List.all_nil, Bool.and_self, Bool.or_false, Bool.false_or, Bool.or_true, Bool.true_or, Bool.and_true, Bool.true_and, Bool.and_false, Bool.false_and, Bool.not_true, Bool.not_false, oIsNot, show nm [95, 97] = false by decide +kernel]
      refine tb _ _ (nx _ _ ?_)
      clear nx N ta tb TA TB
      have sc8 := ((sc5.pre p6).pre p7).pre p8
      refine seqM fun N nx => ?_
      simp only [eq_self, ev, ev2, ev3, ev4, ev5, ofS_inj, bodyEnds, String.reduceEq, decide_false, decide_true, reduceCtorEq, List.length_cons, List.length_nil, Nat.reduceAdd, szs, true_and, flatD, List.all_cons, List.all_nil, Bool.and_self, Bool.or_false, Bool.false_or, Bool.or_true, Bool.true_or, Bool.and_true, Bool.true_and, Bool.and_false, Bool.false_and, Bool.not_true, Bool.not_false]
      refine ⟨d, 0, ns, rfl, by decide, sc8, fun n => ?_⟩
      simp only [cabs_eq]
      refine ⟨_, rfl, fun u S9 hu p9 => ?_⟩
      refine nx _ _ ?_
      clear nx N
      refine seqM fun N nx => ?_
      have tx : (" x" : Str) = txt [32, 120] := by decide
      have hu2 := hu.2
      unfold aTryAs
      simp only [eq_self, ev, ev2, ev3, ev4, ev5, ofS_inj, bodyEnds, String.reduceEq, decide_false, decide_true, reduceCtorEq, List.length_cons, List.length_nil, Nat.reduceAdd, szs, true_and, flatD, List.all_cons, List.all_nil, Bool.and_self, Bool.or_false, Bool.false_or, Bool.or_true, Bool.true_or, Bool.and_true, Bool.true_and, Bool.and_false, Bool.false_and, Bool.not_true, Bool.not_false, tx, add_str, tapp, txt_len]
      refine ⟨by omega, by simp only [List.length_append]; omega, .inr ⟨l ++ u ++ [32, 120], "m7", l.length, rfl, ?_, ?_, by decide, by omega, fun S10 p10 => ?_⟩⟩
      · simp only [List.length_append, List.length_cons, List.length_nil]; omega
      · rw [List.append_assoc]
        exact made.lexx _ _ (.bad hu.1)
      · have tab : lkB TAB_Malformed "Malformed" = some true := by rfl
        simp only [tab]
        refine ⟨trivial, S10.length, rfl, fun a dx => ?_⟩
        have xd : xdOf (S10 ++ [O.xd [("at", .int (l.length : Int)), ("module", .str "m7")]]) S10.length = some [(("at" : Str), D.int (l.length : Int)), (("module" : Str), D.str "m7")] := by unfold xdOf; rw [at_end]
        have e1 : lookF "module" [(("at" : Str), D.int (l.length : Int)), (("module" : Str), D.str "m7")] = some (.str "m7") := by rfl
        have e2 : lookF "at" [(("at" : Str), D.int (l.length : Int)), (("module" : Str), D.str "m7")] = some (.int (l.length : Int)) := by rfl
        simp only [eq_self, ev, ev2, ev3, ev4, ev5, ofS_inj, bodyEnds, String.reduceEq, decide_false, decide_true, reduceCtorEq, List.length_cons, List.length_nil, Nat.reduceAdd, szs, true_and, flatD, List.all_cons, List.all_nil, Bool.and_self, Bool.or_false, Bool.false_or, Bool.or_true, Bool.true_or, Bool.and_true, Bool.true_and, Bool.and_false, Bool.false_and, Bool.not_true, Bool.not_false, aXf, exEnds, xd, e1, e2, txt_len]
        exact ⟨by omega, q _⟩
end Lk
namespace Rw
open PySem PySem.Spec
open PyProof.Rows L2 AL Ab
def top (i : Nat) : Stmt := PySem.Challenge.pw_fascicle_k00_tokens.main.body.getD i (.Pass ⟨0, 0, 0, 0⟩)
abbrev s_is_letter : Stmt := top 9
abbrev s_is_digit : Stmt := top 10
abbrev s_in_name : Stmt := top 11
abbrev s_is_name : Stmt := top 12
abbrev s_run_end : Stmt := top 13
abbrev s_comment_end : Stmt := top 14
abbrev s_read_word : Stmt := top 15
abbrev s_read_number : Stmt := top 16
abbrev s_read_string : Stmt := top 17
abbrev s_read_sign : Stmt := top 18
abbrev s_read_token : Stmt := top 19
abbrev s_tokens : Stmt := top 20
abbrev s__law_cell : Stmt := top 22
abbrev s__law_word : Stmt := top 23
abbrev s__law_token : Stmt := top 24
abbrev s__law_space : Stmt := top 25
abbrev s__law_bad : Stmt := top 26
abbrev s_law : Stmt := top 27
abbrev s_Malformed_init : Stmt := inClass (top 2) 0
abbrev s_Oversized_init : Stmt := inClass (top 3) 0
structure Facts (P : Program) (K : PySem.W.Frag) (mg : Str → Option Value) (w : World) : Prop where
  xc_Malformed : XcOk P K mg "Malformed" "Malformed.__init__" (defArgs s_Malformed_init) (defBody s_Malformed_init) (defScope s_Malformed_init) ["module", "at"]
  xc_Oversized : XcOk P K mg "Oversized" "Oversized.__init__" (defArgs s_Oversized_init) (defBody s_Oversized_init) (defScope s_Oversized_init) ["limit"]
  tb_Malformed : TabOk K (.ref (He.ga K "Malformed")) TAB_Malformed
  no_abs : mg "abs" = none
  no_all : mg "all" = none
  no_int : mg "int" = none
  no_isinstance : mg "isinstance" = none
  no_len : mg "len" = none
  no_list : mg "list" = none
  no_min : mg "min" = none
  no_range : mg "range" = none
  no_repr : mg "repr" = none
  no_str : mg "str" = none
  no_super : mg "super" = none
  c_MAX_TEXT : GlD K mg "MAX_TEXT" C_MAX_TEXT
  c_MAX_NAME : GlD K mg "MAX_NAME" C_MAX_NAME
  c_RESERVED : GlD K mg "RESERVED" C_RESERVED
  c_SIGNS : GlD K mg "SIGNS" C_SIGNS
  d_is_letter : ∃ fd, FunD K "is_letter" "is_letter" (defArgs s_is_letter) (defBody s_is_letter) (defScope s_is_letter) [] [] (He.fAd K ("is_letter", none)) fd
  g_is_letter : mg "is_letter" = some (.ref (He.fAd K ("is_letter", none)))
  d_is_digit : ∃ fd, FunD K "is_digit" "is_digit" (defArgs s_is_digit) (defBody s_is_digit) (defScope s_is_digit) [] [] (He.fAd K ("is_digit", none)) fd
  g_is_digit : mg "is_digit" = some (.ref (He.fAd K ("is_digit", none)))
  d_in_name : ∃ fd, FunD K "in_name" "in_name" (defArgs s_in_name) (defBody s_in_name) (defScope s_in_name) [] [] (He.fAd K ("in_name", none)) fd
  g_in_name : mg "in_name" = some (.ref (He.fAd K ("in_name", none)))
  d_is_name : ∃ fd, FunD K "is_name" "is_name" (defArgs s_is_name) (defBody s_is_name) (defScope s_is_name) [] [] (He.fAd K ("is_name", none)) fd
  g_is_name : mg "is_name" = some (.ref (He.fAd K ("is_name", none)))
  d_run_end : ∃ fd, FunD K "run_end" "run_end" (defArgs s_run_end) (defBody s_run_end) (defScope s_run_end) [] [] (He.fAd K ("run_end", none)) fd
  g_run_end : mg "run_end" = some (.ref (He.fAd K ("run_end", none)))
  d_comment_end : ∃ fd, FunD K "comment_end" "comment_end" (defArgs s_comment_end) (defBody s_comment_end) (defScope s_comment_end) [] [] (He.fAd K ("comment_end", none)) fd
  g_comment_end : mg "comment_end" = some (.ref (He.fAd K ("comment_end", none)))
  d_read_word : ∃ fd, FunD K "read_word" "read_word" (defArgs s_read_word) (defBody s_read_word) (defScope s_read_word) [] [] (He.fAd K ("read_word", none)) fd
  g_read_word : mg "read_word" = some (.ref (He.fAd K ("read_word", none)))
  d_read_number : ∃ fd, FunD K "read_number" "read_number" (defArgs s_read_number) (defBody s_read_number) (defScope s_read_number) [] [] (He.fAd K ("read_number", none)) fd
  g_read_number : mg "read_number" = some (.ref (He.fAd K ("read_number", none)))
  d_read_string : ∃ fd, FunD K "read_string" "read_string" (defArgs s_read_string) (defBody s_read_string) (defScope s_read_string) [] [] (He.fAd K ("read_string", none)) fd
  g_read_string : mg "read_string" = some (.ref (He.fAd K ("read_string", none)))
  d_read_sign : ∃ fd, FunD K "read_sign" "read_sign" (defArgs s_read_sign) (defBody s_read_sign) (defScope s_read_sign) [] [] (He.fAd K ("read_sign", none)) fd
  g_read_sign : mg "read_sign" = some (.ref (He.fAd K ("read_sign", none)))
  d_read_token : ∃ fd, FunD K "read_token" "read_token" (defArgs s_read_token) (defBody s_read_token) (defScope s_read_token) [] [] (He.fAd K ("read_token", none)) fd
  g_read_token : mg "read_token" = some (.ref (He.fAd K ("read_token", none)))
  d_tokens : ∃ fd, FunD K "tokens" "tokens" (defArgs s_tokens) (defBody s_tokens) (defScope s_tokens) [] [] (He.fAd K ("tokens", none)) fd
  g_tokens : mg "tokens" = some (.ref (He.fAd K ("tokens", none)))
  d__law_cell : ∃ fd, FunD K "_law_cell" "_law_cell" (defArgs s__law_cell) (defBody s__law_cell) (defScope s__law_cell) [] [] (He.fAd K ("_law_cell", none)) fd
  g__law_cell : mg "_law_cell" = some (.ref (He.fAd K ("_law_cell", none)))
  d__law_word : ∃ fd, FunD K "_law_word" "_law_word" (defArgs s__law_word) (defBody s__law_word) (defScope s__law_word) [] [] (He.fAd K ("_law_word", none)) fd
  g__law_word : mg "_law_word" = some (.ref (He.fAd K ("_law_word", none)))
  d__law_token : ∃ fd, FunD K "_law_token" "_law_token" (defArgs s__law_token) (defBody s__law_token) (defScope s__law_token) [] [] (He.fAd K ("_law_token", none)) fd
  g__law_token : mg "_law_token" = some (.ref (He.fAd K ("_law_token", none)))
  d__law_space : ∃ fd, FunD K "_law_space" "_law_space" (defArgs s__law_space) (defBody s__law_space) (defScope s__law_space) [] [] (He.fAd K ("_law_space", none)) fd
  g__law_space : mg "_law_space" = some (.ref (He.fAd K ("_law_space", none)))
  d__law_bad : ∃ fd, FunD K "_law_bad" "_law_bad" (defArgs s__law_bad) (defBody s__law_bad) (defScope s__law_bad) [] [] (He.fAd K ("_law_bad", none)) fd
  g__law_bad : mg "_law_bad" = some (.ref (He.fAd K ("_law_bad", none)))
  d_law : ∃ fd, FunD K "law" "law" (defArgs s_law) (defBody s_law) (defScope s_law) [] [] (He.fAd K ("law", none)) fd
  g_law : mg "law" = some (.ref (He.fAd K ("law", none)))
theorem sc_Malformed_init : SupScope ["self", "module", "at"] ["self", "module", "at"] (defScope s_Malformed_init) := ⟨rfl, rfl, rfl, by decide +kernel, rfl, by decide +kernel, by decide +kernel, by rfl, by decide +kernel, by rfl⟩
theorem x_Malformed {P : Program} {w : World} {K : PySem.W.Frag} {mg : Str → Option Value} {base : Heap} (T : Facts P K mg w) : XD P w K mg base "Malformed" ["module", "at"] e_Malformed 1 := by
  obtain ⟨fd, cdv, cc, F, S⟩ := T.xc_Malformed.ex
  exact xd_two F S sc_Malformed_init T.no_super (by rfl) (by rfl) rfl (T.xc_Malformed.no _ (by simp)) (T.xc_Malformed.no _ (by simp)) (fun A outer s H E => aa_cons (ae_op ao_add (ae_op ao_add (ae_callTy ac_str T.no_str (aa_cons (av 1) aa_nil)) ae_str) (ae_callTy ac_str T.no_str (aa_cons (av 2) aa_nil))) aa_nil) (fun A outer s H E => pss_cons (ps_ost (pe_var (i := 0) rfl (.inl rfl)) (pe_var (i := 1) rfl (.inl rfl))) (pss_one (ps_ost (pe_var (i := 0) rfl (.inl rfl)) (pe_var (i := 2) rfl (.inl rfl))))) T.xc_Malformed.init T.xc_Malformed.ty T.xc_Malformed.glo (F.binds fun _ _ _ _ _ us hl => match us, hl with | [_, _, _], _ => rfl) (fun _ => rfl) (fun _ => rfl) (fun _ => rfl) (fun _ => rfl) (fun _ => rfl)
theorem sc_Oversized_init : SupScope ["self", "limit"] ["self", "limit"] (defScope s_Oversized_init) := ⟨rfl, rfl, rfl, by decide +kernel, rfl, by decide +kernel, by decide +kernel, by rfl, by decide +kernel, by rfl⟩
theorem x_Oversized {P : Program} {w : World} {K : PySem.W.Frag} {mg : Str → Option Value} {base : Heap} (T : Facts P K mg w) : XD P w K mg base "Oversized" ["limit"] e_Oversized 1 := by
  obtain ⟨fd, cdv, cc, F, S⟩ := T.xc_Oversized.ex
  exact xd_one F S sc_Oversized_init T.no_super (by rfl) (by rfl) rfl (T.xc_Oversized.no _ (by simp)) (fun A outer s H E => aa_cons (ae_callTy ac_str T.no_str (aa_cons (av 1) aa_nil)) aa_nil) (fun A outer s H E => pss_one (ps_ost (pe_var (i := 0) rfl (.inl rfl)) (pe_var (i := 1) rfl (.inl rfl)))) T.xc_Oversized.init T.xc_Oversized.ty T.xc_Oversized.glo (F.binds fun _ _ _ _ _ us hl => match us, hl with | [_, _], _ => rfl) (fun _ => rfl) (fun _ => rfl) (fun _ => rfl) (fun _ => rfl) (fun _ => rfl)
theorem sc_is_letter : FnScope ["char"] ["char"] (defScope s_is_letter) := ⟨rfl, rfl, rfl, by decide +kernel, rfl, by decide +kernel, by decide +kernel⟩
theorem ok_is_letter {P : Program} {w : World} {K : PySem.W.Frag} {mg : Str → Option Value} {base : Heap} (T : Facts P K mg w) {k : Nat} {G : AFn} 
    (sp : ∀ ds S E Q, G ds S E Q → ds.length = 1 ∧ (a_is_letter) (bodyEnds Q E) (startA 1 ds) S) : FD P w K mg base "is_letter" (k + 1) G := by
  obtain ⟨fd, F⟩ := T.d_is_letter
  exact ⟨_, fd, ["char"], fn_ok F sc_is_letter (fun ds S E Q h => (sp ds S E Q h).1) (fun cdv A outer s H E hr => ⟨a_is_letter, (ass_one (as_ret (ae_or (ae_chain ao_le ao_le ae_str (av 0) ae_str) (ae_one (ae_chain ao_le ao_le ae_str (av 0) ae_str))))), fun ds S Ea Qa h => (sp ds S Ea Qa h).2⟩), T.g_is_letter, F.kp, fb_of F (F.bindsN (fun _ _ _ _ _ _ us hl => match us, hl with | [_], _ => rfl)) (by rfl)⟩
theorem z_is_letter {P : Program} {w : World} {K : PySem.W.Frag} {mg : Str → Option Value} {base : Heap} (T : Facts P K mg w) {k : Nat} : FD P w K mg base "is_letter" k fun _ _ _ _ => False := by
  obtain ⟨fd, F⟩ := T.d_is_letter
  exact ⟨_, fd, ["char"], never_ok, T.g_is_letter, F.kp, fb_of F (F.bindsN (fun _ _ _ _ _ _ us hl => match us, hl with | [_], _ => rfl)) (by rfl)⟩
theorem sc_is_digit : FnScope ["char"] ["char"] (defScope s_is_digit) := ⟨rfl, rfl, rfl, by decide +kernel, rfl, by decide +kernel, by decide +kernel⟩
theorem ok_is_digit {P : Program} {w : World} {K : PySem.W.Frag} {mg : Str → Option Value} {base : Heap} (T : Facts P K mg w) {k : Nat} {G : AFn} 
    (sp : ∀ ds S E Q, G ds S E Q → ds.length = 1 ∧ (a_is_digit) (bodyEnds Q E) (startA 1 ds) S) : FD P w K mg base "is_digit" (k + 1) G := by
  obtain ⟨fd, F⟩ := T.d_is_digit
  exact ⟨_, fd, ["char"], fn_ok F sc_is_digit (fun ds S E Q h => (sp ds S E Q h).1) (fun cdv A outer s H E hr => ⟨a_is_digit, (ass_one (as_ret (ae_chain ao_le ao_le ae_str (av 0) ae_str))), fun ds S Ea Qa h => (sp ds S Ea Qa h).2⟩), T.g_is_digit, F.kp, fb_of F (F.bindsN (fun _ _ _ _ _ _ us hl => match us, hl with | [_], _ => rfl)) (by rfl)⟩
theorem z_is_digit {P : Program} {w : World} {K : PySem.W.Frag} {mg : Str → Option Value} {base : Heap} (T : Facts P K mg w) {k : Nat} : FD P w K mg base "is_digit" k fun _ _ _ _ => False := by
  obtain ⟨fd, F⟩ := T.d_is_digit
  exact ⟨_, fd, ["char"], never_ok, T.g_is_digit, F.kp, fb_of F (F.bindsN (fun _ _ _ _ _ _ us hl => match us, hl with | [_], _ => rfl)) (by rfl)⟩
theorem sc_in_name : FnScope ["char"] ["char"] (defScope s_in_name) := ⟨rfl, rfl, rfl, by decide +kernel, rfl, by decide +kernel, by decide +kernel⟩
theorem ok_in_name {P : Program} {w : World} {K : PySem.W.Frag} {mg : Str → Option Value} {base : Heap} (T : Facts P K mg w) {k : Nat} {G : AFn} {F_is_letter F_is_digit : AFn} (h_is_letter : FD P w K mg base "is_letter" k F_is_letter) (h_is_digit : FD P w K mg base "is_digit" k F_is_digit)
    (sp : ∀ ds S E Q, G ds S E Q → ds.length = 1 ∧ (a_in_name F_is_letter F_is_digit) (bodyEnds Q E) (startA 1 ds) S) : FD P w K mg base "in_name" (k + 1) G := by
  obtain ⟨fd, F⟩ := T.d_in_name
  exact ⟨_, fd, ["char"], fn_ok F sc_in_name (fun ds S E Q h => (sp ds S E Q h).1) (fun cdv A outer s H E hr => ⟨a_in_name F_is_letter F_is_digit, (ass_one (as_ret (ae_or (ae_call h_is_letter hr takesE (aa_cons (av 0) aa_nil)) (ae_or (ae_call h_is_digit hr takesE (aa_cons (av 0) aa_nil)) (ae_one (ae_cmp (ao_eq (ru64 hr)) (av 0) ae_str)))))), fun ds S Ea Qa h => (sp ds S Ea Qa h).2⟩), T.g_in_name, F.kp, fb_of F (F.bindsN (fun _ _ _ _ _ _ us hl => match us, hl with | [_], _ => rfl)) (by rfl)⟩
theorem z_in_name {P : Program} {w : World} {K : PySem.W.Frag} {mg : Str → Option Value} {base : Heap} (T : Facts P K mg w) {k : Nat} : FD P w K mg base "in_name" k fun _ _ _ _ => False := by
  obtain ⟨fd, F⟩ := T.d_in_name
  exact ⟨_, fd, ["char"], never_ok, T.g_in_name, F.kp, fb_of F (F.bindsN (fun _ _ _ _ _ _ us hl => match us, hl with | [_], _ => rfl)) (by rfl)⟩
theorem sc_is_name : FnScope ["value", "char"] ["value"] (defScope s_is_name) := ⟨rfl, rfl, rfl, by decide +kernel, rfl, by decide +kernel, by decide +kernel⟩
theorem ok_is_name {P : Program} {w : World} {K : PySem.W.Frag} {mg : Str → Option Value} {base : Heap} (T : Facts P K mg w) {k : Nat} {G : AFn} {F_is_letter F_in_name : AFn} (h_is_letter : FD P w K mg base "is_letter" k F_is_letter) (h_in_name : FD P w K mg base "in_name" k F_in_name)
    (sp : ∀ ds S E Q, G ds S E Q → ds.length = 1 ∧ (a_is_name F_is_letter F_in_name) (bodyEnds Q E) (startA 2 ds) S) : FD P w K mg base "is_name" (k + 1) G := by
  obtain ⟨fd, F⟩ := T.d_is_name
  exact ⟨_, fd, ["value"], fn_ok F sc_is_name (fun ds S E Q h => (sp ds S E Q h).1) (fun cdv A outer s H E hr => ⟨a_is_name F_is_letter F_in_name, (ass_cons (as_if (AW.at (aw_or (at_not (at_val (ae_isi (.inr rfl) T.no_isinstance T.no_str Boot.«str» (av 0)))) (aw_or (at_cmp (ao_eq (ru64 hr)) (av 0) ae_str) (aw_or (at_cmp ao_gt (ae_callB ac_len T.no_len (aa_cons (av 0) aa_nil)) (ae_glob T.c_MAX_NAME)) (aw_or1 (at_cmp (ao_in (ru65 hr)) (av 0) (ae_glob T.c_RESERVED))))))) (ass_one (as_ret ae_bl)) ass_nil)
      (ass_one (as_ret (ae_and (ae_call h_is_letter hr takesE (aa_cons (ae_ix (ru1 hr) (av 0) ae_int) aa_nil)) (ae_one (ae_callB (ac_all rfl) T.no_all (aa_cons (ae_lc rfl sc_is_name.nd [("char", 1)] (ai_any (av 0)) (agc_name (by decide) sc_is_name.nd) (fun _ _ _ _ _ => aifs_nil) (fun _ _ _ _ _ => (ae_call h_in_name hr takesB (aa_cons (av 1) aa_nil)))) aa_nil))))))), fun ds S Ea Qa h => (sp ds S Ea Qa h).2⟩), T.g_is_name, F.kp, fb_of F (F.bindsN (fun _ _ _ _ _ _ us hl => match us, hl with | [_], _ => rfl)) (by rfl)⟩
theorem z_is_name {P : Program} {w : World} {K : PySem.W.Frag} {mg : Str → Option Value} {base : Heap} (T : Facts P K mg w) {k : Nat} : FD P w K mg base "is_name" k fun _ _ _ _ => False := by
  obtain ⟨fd, F⟩ := T.d_is_name
  exact ⟨_, fd, ["value"], never_ok, T.g_is_name, F.kp, fb_of F (F.bindsN (fun _ _ _ _ _ _ us hl => match us, hl with | [_], _ => rfl)) (by rfl)⟩
theorem sc_run_end : FnScope ["text", "at"] ["text", "at"] (defScope s_run_end) := ⟨rfl, rfl, rfl, by decide +kernel, rfl, by decide +kernel, by decide +kernel⟩
theorem ok_run_end {P : Program} {w : World} {K : PySem.W.Frag} {mg : Str → Option Value} {base : Heap} (T : Facts P K mg w) {k : Nat} {G : AFn} {F_in_name : AFn} (h_in_name : FD P w K mg base "in_name" k F_in_name)
    (sp : ∀ ds S E Q, G ds S E Q → ds.length = 2 ∧ (a_run_end F_in_name) (bodyEnds Q E) (startA 2 ds) S) : FD P w K mg base "run_end" (k + 1) G := by
  obtain ⟨fd, F⟩ := T.d_run_end
  exact ⟨_, fd, ["text", "at"], fn_ok F sc_run_end (fun ds S E Q h => (sp ds S E Q h).1) (fun cdv A outer s H E hr => ⟨a_run_end F_in_name, (ass_cons (as_while passesE (AW.at (aw_and (at_cmp ao_lt (av 1) (ae_callB ac_len T.no_len (aa_cons (av 0) aa_nil))) (aw_and1 (at_val (ae_call h_in_name hr takesE (aa_cons (ae_ix (ru1 hr) (av 0) (av 1)) aa_nil)))))) (ass_one (as_set sc_run_end.nd (ae_op ao_add (av 1) ae_int))))
      (ass_one (as_ret (av 1)))), fun ds S Ea Qa h => (sp ds S Ea Qa h).2⟩), T.g_run_end, F.kp, fb_of F (F.bindsN (fun _ _ _ _ _ _ us hl => match us, hl with | [_, _], _ => rfl)) (by rfl)⟩
theorem z_run_end {P : Program} {w : World} {K : PySem.W.Frag} {mg : Str → Option Value} {base : Heap} (T : Facts P K mg w) {k : Nat} : FD P w K mg base "run_end" k fun _ _ _ _ => False := by
  obtain ⟨fd, F⟩ := T.d_run_end
  exact ⟨_, fd, ["text", "at"], never_ok, T.g_run_end, F.kp, fb_of F (F.bindsN (fun _ _ _ _ _ _ us hl => match us, hl with | [_, _], _ => rfl)) (by rfl)⟩
theorem sc_comment_end : FnScope ["text", "at"] ["text", "at"] (defScope s_comment_end) := ⟨rfl, rfl, rfl, by decide +kernel, rfl, by decide +kernel, by decide +kernel⟩
theorem ok_comment_end {P : Program} {w : World} {K : PySem.W.Frag} {mg : Str → Option Value} {base : Heap} (T : Facts P K mg w) {k : Nat} {G : AFn} 
    (sp : ∀ ds S E Q, G ds S E Q → ds.length = 2 ∧ (a_comment_end) (bodyEnds Q E) (startA 2 ds) S) : FD P w K mg base "comment_end" (k + 1) G := by
  obtain ⟨fd, F⟩ := T.d_comment_end
  exact ⟨_, fd, ["text", "at"], fn_ok F sc_comment_end (fun ds S E Q h => (sp ds S E Q h).1) (fun cdv A outer s H E hr => ⟨a_comment_end, (ass_cons (as_while passesE (AW.at (aw_and (at_cmp ao_lt (av 1) (ae_callB ac_len T.no_len (aa_cons (av 0) aa_nil))) (aw_and1 (at_cmp (ao_ne (ru64 hr)) (ae_ix (ru1 hr) (av 0) (av 1)) ae_str)))) (ass_one (as_set sc_comment_end.nd (ae_op ao_add (av 1) ae_int))))
      (ass_one (as_ret (av 1)))), fun ds S Ea Qa h => (sp ds S Ea Qa h).2⟩), T.g_comment_end, F.kp, fb_of F (F.bindsN (fun _ _ _ _ _ _ us hl => match us, hl with | [_, _], _ => rfl)) (by rfl)⟩
theorem z_comment_end {P : Program} {w : World} {K : PySem.W.Frag} {mg : Str → Option Value} {base : Heap} (T : Facts P K mg w) {k : Nat} : FD P w K mg base "comment_end" k fun _ _ _ _ => False := by
  obtain ⟨fd, F⟩ := T.d_comment_end
  exact ⟨_, fd, ["text", "at"], never_ok, T.g_comment_end, F.kp, fb_of F (F.bindsN (fun _ _ _ _ _ _ us hl => match us, hl with | [_, _], _ => rfl)) (by rfl)⟩
theorem sc_read_word : FnScope ["text", "at", "module", "end", "word"] ["text", "at", "module"] (defScope s_read_word) := ⟨rfl, rfl, rfl, by decide +kernel, rfl, by decide +kernel, by decide +kernel⟩
theorem ok_read_word {P : Program} {w : World} {K : PySem.W.Frag} {mg : Str → Option Value} {base : Heap} (T : Facts P K mg w) {k : Nat} (hk2 : 2 ≤ k) {G : AFn} {F_run_end : AFn} (h_run_end : FD P w K mg base "run_end" k F_run_end)
    (sp : ∀ ds S E Q, G ds S E Q → ds.length = 3 ∧ (a_read_word F_run_end) (bodyEnds Q E) (startA 5 ds) S) : FD P w K mg base "read_word" (k + 1) G := by
  obtain ⟨fd, F⟩ := T.d_read_word
  exact ⟨_, fd, ["text", "at", "module"], fn_ok F sc_read_word (fun ds S E Q h => (sp ds S E Q h).1) (fun cdv A outer s H E hr => ⟨a_read_word F_run_end, (ass_cons (as_set sc_read_word.nd (ae_call h_run_end hr takesE (aa_cons (av 0) (aa_cons (av 1) aa_nil))))
      (ass_cons (as_set sc_read_word.nd (ae_slice (av 0) (ao_some (av 1)) (ao_some (av 3))))
      (ass_cons (as_if (at_cmp (ao_in (ru65 hr)) (av 4) (ae_glob T.c_RESERVED)) (ass_one (as_ret (ae_tup (aa_cons (ae_tup (aa_cons ae_str (aa_cons (av 4) (aa_cons (av 1) aa_nil)))) (aa_cons (av 3) aa_nil))))) ass_nil)
      (ass_cons (as_if (at_cmp ao_gt (ae_callB ac_len T.no_len (aa_cons (av 4) aa_nil)) (ae_glob T.c_MAX_NAME)) (ass_one (as_raise rfl takesE (x_Malformed T) (hr.mono (show 1 + 1 ≤ k by omega)) (aa_cons (av 2) (aa_cons (av 1) aa_nil)))) ass_nil)
      (ass_one (as_ret (ae_tup (aa_cons (ae_tup (aa_cons ae_str (aa_cons (av 4) (aa_cons (av 1) aa_nil)))) (aa_cons (av 3) aa_nil))))))))), fun ds S Ea Qa h => (sp ds S Ea Qa h).2⟩), T.g_read_word, F.kp, fb_of F (F.bindsN (fun _ _ _ _ _ _ us hl => match us, hl with | [_, _, _], _ => rfl)) (by rfl)⟩
theorem z_read_word {P : Program} {w : World} {K : PySem.W.Frag} {mg : Str → Option Value} {base : Heap} (T : Facts P K mg w) {k : Nat} : FD P w K mg base "read_word" k fun _ _ _ _ => False := by
  obtain ⟨fd, F⟩ := T.d_read_word
  exact ⟨_, fd, ["text", "at", "module"], never_ok, T.g_read_word, F.kp, fb_of F (F.bindsN (fun _ _ _ _ _ _ us hl => match us, hl with | [_, _, _], _ => rfl)) (by rfl)⟩
theorem sc_read_number : FnScope ["text", "at", "module", "end", "digits", "char"] ["text", "at", "module"] (defScope s_read_number) := ⟨rfl, rfl, rfl, by decide +kernel, rfl, by decide +kernel, by decide +kernel⟩
theorem ok_read_number {P : Program} {w : World} {K : PySem.W.Frag} {mg : Str → Option Value} {base : Heap} (T : Facts P K mg w) {k : Nat} (hk2 : 2 ≤ k) {G : AFn} {F_run_end F_is_digit : AFn} (h_run_end : FD P w K mg base "run_end" k F_run_end) (h_is_digit : FD P w K mg base "is_digit" k F_is_digit)
    (sp : ∀ ds S E Q, G ds S E Q → ds.length = 3 ∧ (a_read_number F_run_end F_is_digit) (bodyEnds Q E) (startA 6 ds) S) : FD P w K mg base "read_number" (k + 1) G := by
  obtain ⟨fd, F⟩ := T.d_read_number
  exact ⟨_, fd, ["text", "at", "module"], fn_ok F sc_read_number (fun ds S E Q h => (sp ds S E Q h).1) (fun cdv A outer s H E hr => ⟨a_read_number F_run_end F_is_digit, (ass_cons (as_set sc_read_number.nd (ae_call h_run_end hr takesE (aa_cons (av 0) (aa_cons (av 1) aa_nil))))
      (ass_cons (as_set sc_read_number.nd (ae_slice (av 0) (ao_some (av 1)) (ao_some (av 3))))
      (ass_cons (as_if (AW.at (aw_or (at_cmp ao_gt (ae_callB ac_len T.no_len (aa_cons (av 4) aa_nil)) ae_int) (aw_or1 (at_not (at_val (ae_callB (ac_all rfl) T.no_all (aa_cons (ae_lc rfl sc_read_number.nd [("char", 5)] (ai_any (av 4)) (agc_name (by decide) sc_read_number.nd) (fun _ _ _ _ _ => aifs_nil) (fun _ _ _ _ _ => (ae_call h_is_digit hr takesB (aa_cons (av 5) aa_nil)))) aa_nil))))))) (ass_one (as_raise rfl takesE (x_Malformed T) (hr.mono (show 1 + 1 ≤ k by omega)) (aa_cons (av 2) (aa_cons (av 1) aa_nil)))) ass_nil)
      (ass_cons (as_if (AW.at (aw_or (at_cmp ao_gt (ae_callTy ac_int T.no_int (aa_cons (av 4) aa_nil)) ae_int) (aw_or1 (AW.at (aw_and (at_cmp (ao_eq (ru64 hr)) (ae_ix (ru1 hr) (av 4) ae_int) ae_str) (aw_and1 (at_cmp ao_gt (ae_callB ac_len T.no_len (aa_cons (av 4) aa_nil)) ae_int))))))) (ass_one (as_raise rfl takesE (x_Malformed T) (hr.mono (show 1 + 1 ≤ k by omega)) (aa_cons (av 2) (aa_cons (av 1) aa_nil)))) ass_nil)
      (ass_one (as_ret (ae_tup (aa_cons (ae_tup (aa_cons ae_str (aa_cons (ae_callTy ac_int T.no_int (aa_cons (av 4) aa_nil)) (aa_cons (av 1) aa_nil)))) (aa_cons (av 3) aa_nil))))))))), fun ds S Ea Qa h => (sp ds S Ea Qa h).2⟩), T.g_read_number, F.kp, fb_of F (F.bindsN (fun _ _ _ _ _ _ us hl => match us, hl with | [_, _, _], _ => rfl)) (by rfl)⟩
theorem z_read_number {P : Program} {w : World} {K : PySem.W.Frag} {mg : Str → Option Value} {base : Heap} (T : Facts P K mg w) {k : Nat} : FD P w K mg base "read_number" k fun _ _ _ _ => False := by
  obtain ⟨fd, F⟩ := T.d_read_number
  exact ⟨_, fd, ["text", "at", "module"], never_ok, T.g_read_number, F.kp, fb_of F (F.bindsN (fun _ _ _ _ _ _ us hl => match us, hl with | [_, _, _], _ => rfl)) (by rfl)⟩
theorem sc_read_string : FnScope ["text", "at", "module", "end"] ["text", "at", "module"] (defScope s_read_string) := ⟨rfl, rfl, rfl, by decide +kernel, rfl, by decide +kernel, by decide +kernel⟩
theorem ok_read_string {P : Program} {w : World} {K : PySem.W.Frag} {mg : Str → Option Value} {base : Heap} (T : Facts P K mg w) {k : Nat} (hk2 : 2 ≤ k) {G : AFn} {F_run_end : AFn} (h_run_end : FD P w K mg base "run_end" k F_run_end)
    (sp : ∀ ds S E Q, G ds S E Q → ds.length = 3 ∧ (a_read_string F_run_end) (bodyEnds Q E) (startA 4 ds) S) : FD P w K mg base "read_string" (k + 1) G := by
  obtain ⟨fd, F⟩ := T.d_read_string
  exact ⟨_, fd, ["text", "at", "module"], fn_ok F sc_read_string (fun ds S E Q h => (sp ds S E Q h).1) (fun cdv A outer s H E hr => ⟨a_read_string F_run_end, (ass_cons (as_set sc_read_string.nd (ae_call h_run_end hr takesE (aa_cons (av 0) (aa_cons (ae_op ao_add (av 1) ae_int) aa_nil))))
      (ass_cons (as_if (AW.at (aw_or (at_cmp (ao_eq (ru64 hr)) (av 3) (ae_op ao_add (av 1) ae_int)) (aw_or (at_cmp ao_gt (ae_op ao_sub (ae_op ao_sub (av 3) (av 1)) ae_int) (ae_glob T.c_MAX_NAME)) (aw_or (at_cmp ao_ge (av 3) (ae_callB ac_len T.no_len (aa_cons (av 0) aa_nil))) (aw_or1 (at_cmp (ao_ne (ru64 hr)) (ae_ix (ru1 hr) (av 0) (av 3)) ae_str)))))) (ass_one (as_raise rfl takesE (x_Malformed T) (hr.mono (show 1 + 1 ≤ k by omega)) (aa_cons (av 2) (aa_cons (av 1) aa_nil)))) ass_nil)
      (ass_one (as_ret (ae_tup (aa_cons (ae_tup (aa_cons ae_str (aa_cons (ae_slice (av 0) (ao_some (ae_op ao_add (av 1) ae_int)) (ao_some (av 3))) (aa_cons (av 1) aa_nil)))) (aa_cons (ae_op ao_add (av 3) ae_int) aa_nil))))))), fun ds S Ea Qa h => (sp ds S Ea Qa h).2⟩), T.g_read_string, F.kp, fb_of F (F.bindsN (fun _ _ _ _ _ _ us hl => match us, hl with | [_, _, _], _ => rfl)) (by rfl)⟩
theorem z_read_string {P : Program} {w : World} {K : PySem.W.Frag} {mg : Str → Option Value} {base : Heap} (T : Facts P K mg w) {k : Nat} : FD P w K mg base "read_string" k fun _ _ _ _ => False := by
  obtain ⟨fd, F⟩ := T.d_read_string
  exact ⟨_, fd, ["text", "at", "module"], never_ok, T.g_read_string, F.kp, fb_of F (F.bindsN (fun _ _ _ _ _ _ us hl => match us, hl with | [_, _, _], _ => rfl)) (by rfl)⟩
theorem sc_read_sign : FnScope ["text", "at", "module", "sign"] ["text", "at", "module"] (defScope s_read_sign) := ⟨rfl, rfl, rfl, by decide +kernel, rfl, by decide +kernel, by decide +kernel⟩
theorem ok_read_sign {P : Program} {w : World} {K : PySem.W.Frag} {mg : Str → Option Value} {base : Heap} (T : Facts P K mg w) {k : Nat} (hk2 : 2 ≤ k) {G : AFn} 
    (sp : ∀ ds S E Q, G ds S E Q → ds.length = 3 ∧ (a_read_sign) (bodyEnds Q E) (startA 4 ds) S) : FD P w K mg base "read_sign" (k + 1) G := by
  obtain ⟨fd, F⟩ := T.d_read_sign
  exact ⟨_, fd, ["text", "at", "module"], fn_ok F sc_read_sign (fun ds S E Q h => (sp ds S E Q h).1) (fun cdv A outer s H E hr => ⟨a_read_sign, (ass_cons (as_for passesE rfl (ai_any (ae_glob T.c_SIGNS)) (ag_name sc_read_sign.nd) (ass_one (as_if (at_val (ae_starts (av 0) (av 3) (av 1))) (ass_one (as_ret (ae_tup (aa_cons (ae_tup (aa_cons ae_str (aa_cons (av 3) (aa_cons (av 1) aa_nil)))) (aa_cons (ae_op ao_add (av 1) (ae_callB ac_len T.no_len (aa_cons (av 3) aa_nil))) aa_nil))))) ass_nil)))
      (ass_one (as_raise rfl takesE (x_Malformed T) (hr.mono (show 1 + 1 ≤ k by omega)) (aa_cons (av 2) (aa_cons (av 1) aa_nil))))), fun ds S Ea Qa h => (sp ds S Ea Qa h).2⟩), T.g_read_sign, F.kp, fb_of F (F.bindsN (fun _ _ _ _ _ _ us hl => match us, hl with | [_, _, _], _ => rfl)) (by rfl)⟩
theorem z_read_sign {P : Program} {w : World} {K : PySem.W.Frag} {mg : Str → Option Value} {base : Heap} (T : Facts P K mg w) {k : Nat} : FD P w K mg base "read_sign" k fun _ _ _ _ => False := by
  obtain ⟨fd, F⟩ := T.d_read_sign
  exact ⟨_, fd, ["text", "at", "module"], never_ok, T.g_read_sign, F.kp, fb_of F (F.bindsN (fun _ _ _ _ _ _ us hl => match us, hl with | [_, _, _], _ => rfl)) (by rfl)⟩
theorem sc_read_token : FnScope ["text", "at", "module"] ["text", "at", "module"] (defScope s_read_token) := ⟨rfl, rfl, rfl, by decide +kernel, rfl, by decide +kernel, by decide +kernel⟩
theorem ok_read_token {P : Program} {w : World} {K : PySem.W.Frag} {mg : Str → Option Value} {base : Heap} (T : Facts P K mg w) {k : Nat} {G : AFn} {F_is_letter F_read_word F_is_digit F_read_number F_read_string F_read_sign : AFn} (h_is_letter : FD P w K mg base "is_letter" k F_is_letter) (h_read_word : FD P w K mg base "read_word" k F_read_word) (h_is_digit : FD P w K mg base "is_digit" k F_is_digit) (h_read_number : FD P w K mg base "read_number" k F_read_number) (h_read_string : FD P w K mg base "read_string" k F_read_string) (h_read_sign : FD P w K mg base "read_sign" k F_read_sign)
    (sp : ∀ ds S E Q, G ds S E Q → ds.length = 3 ∧ (a_read_token F_is_letter F_read_word F_is_digit F_read_number F_read_string F_read_sign) (bodyEnds Q E) (startA 3 ds) S) : FD P w K mg base "read_token" (k + 1) G := by
  obtain ⟨fd, F⟩ := T.d_read_token
  exact ⟨_, fd, ["text", "at", "module"], fn_ok F sc_read_token (fun ds S E Q h => (sp ds S E Q h).1) (fun cdv A outer s H E hr => ⟨a_read_token F_is_letter F_read_word F_is_digit F_read_number F_read_string F_read_sign, (ass_cons (as_if (at_val (ae_call h_is_letter hr takesE (aa_cons (ae_ix (ru1 hr) (av 0) (av 1)) aa_nil))) (ass_one (as_ret (ae_call h_read_word hr takesE (aa_cons (av 0) (aa_cons (av 1) (aa_cons (av 2) aa_nil)))))) ass_nil)
      (ass_cons (as_if (at_val (ae_call h_is_digit hr takesE (aa_cons (ae_ix (ru1 hr) (av 0) (av 1)) aa_nil))) (ass_one (as_ret (ae_call h_read_number hr takesE (aa_cons (av 0) (aa_cons (av 1) (aa_cons (av 2) aa_nil)))))) ass_nil)
      (ass_cons (as_if (at_cmp (ao_eq (ru64 hr)) (ae_ix (ru1 hr) (av 0) (av 1)) ae_str) (ass_one (as_ret (ae_call h_read_string hr takesE (aa_cons (av 0) (aa_cons (av 1) (aa_cons (av 2) aa_nil)))))) ass_nil)
      (ass_one (as_ret (ae_call h_read_sign hr takesE (aa_cons (av 0) (aa_cons (av 1) (aa_cons (av 2) aa_nil))))))))), fun ds S Ea Qa h => (sp ds S Ea Qa h).2⟩), T.g_read_token, F.kp, fb_of F (F.bindsN (fun _ _ _ _ _ _ us hl => match us, hl with | [_, _, _], _ => rfl)) (by rfl)⟩
theorem z_read_token {P : Program} {w : World} {K : PySem.W.Frag} {mg : Str → Option Value} {base : Heap} (T : Facts P K mg w) {k : Nat} : FD P w K mg base "read_token" k fun _ _ _ _ => False := by
  obtain ⟨fd, F⟩ := T.d_read_token
  exact ⟨_, fd, ["text", "at", "module"], never_ok, T.g_read_token, F.kp, fb_of F (F.bindsN (fun _ _ _ _ _ _ us hl => match us, hl with | [_, _, _], _ => rfl)) (by rfl)⟩
theorem sc_tokens : FnScope ["text", "module", "result", "at", "token"] ["text", "module"] (defScope s_tokens) := ⟨rfl, rfl, rfl, by decide +kernel, rfl, by decide +kernel, by decide +kernel⟩
theorem ok_tokens {P : Program} {w : World} {K : PySem.W.Frag} {mg : Str → Option Value} {base : Heap} (T : Facts P K mg w) {k : Nat} (hk2 : 2 ≤ k) {G : AFn} {F_comment_end F_read_token : AFn} (h_comment_end : FD P w K mg base "comment_end" k F_comment_end) (h_read_token : FD P w K mg base "read_token" k F_read_token)
    (sp : ∀ ds S E Q, G ds S E Q → ds.length = 2 ∧ (a_tokens F_comment_end F_read_token) (bodyEnds Q E) (startA 5 ds) S) : FD P w K mg base "tokens" (k + 1) G := by
  obtain ⟨fd, F⟩ := T.d_tokens
  exact ⟨_, fd, ["text", "module"], fn_ok F sc_tokens (fun ds S E Q h => (sp ds S E Q h).1) (fun cdv A outer s H E hr => ⟨a_tokens F_comment_end F_read_token, (ass_cons (as_if (at_cmp ao_gt (ae_callB ac_len T.no_len (aa_cons (av 0) aa_nil)) (ae_glob T.c_MAX_TEXT)) (ass_one (as_raise rfl takesE (x_Oversized T) (hr.mono (show 1 + 1 ≤ k by omega)) (aa_cons ae_str aa_nil))) ass_nil)
      (ass_cons (as_set sc_tokens.nd (ae_lst aa_nil))
      (ass_cons (as_set sc_tokens.nd ae_int)
      (ass_cons (as_while passesE (at_cmp ao_lt (av 3) (ae_callB ac_len T.no_len (aa_cons (av 0) aa_nil))) (ass_one (as_if (at_cmp (ao_in (ru65 hr)) (ae_ix (ru1 hr) (av 0) (av 3)) (ae_tup (aa_cons ae_str (aa_cons ae_str (aa_cons ae_str aa_nil))))) (ass_one (as_set sc_tokens.nd (ae_op ao_add (av 3) ae_int))) (ass_one (as_if (at_cmp (ao_eq (ru64 hr)) (ae_ix (ru1 hr) (av 0) (av 3)) ae_str) (ass_one (as_set sc_tokens.nd (ae_call h_comment_end hr takesE (aa_cons (av 0) (aa_cons (av 3) aa_nil))))) (ass_cons (as_asg (ae_call h_read_token hr takesE (aa_cons (av 0) (aa_cons (av 3) (aa_cons (av 1) aa_nil)))) (ag_tup rfl (ags_cons (ag_name sc_tokens.nd) (ags_cons (ag_name sc_tokens.nd) ags_nil))))
      (ass_one (as_expr (ae_append (av 2) (av 4))))))))))
      (ass_one (as_ret (av 2))))))), fun ds S Ea Qa h => (sp ds S Ea Qa h).2⟩), T.g_tokens, F.kp, fb_of F (F.bindsN (fun _ _ _ _ _ _ us hl => match us, hl with | [_, _], _ => rfl)) (by rfl)⟩
theorem z_tokens {P : Program} {w : World} {K : PySem.W.Frag} {mg : Str → Option Value} {base : Heap} (T : Facts P K mg w) {k : Nat} : FD P w K mg base "tokens" k fun _ _ _ _ => False := by
  obtain ⟨fd, F⟩ := T.d_tokens
  exact ⟨_, fd, ["text", "module"], never_ok, T.g_tokens, F.kp, fb_of F (F.bindsN (fun _ _ _ _ _ _ us hl => match us, hl with | [_, _], _ => rfl)) (by rfl)⟩
theorem sc__law_cell : FnScope ["_law_script", "_law_k"] ["_law_script", "_law_k"] (defScope s__law_cell) := ⟨rfl, rfl, rfl, by decide +kernel, rfl, by decide +kernel, by decide +kernel⟩
theorem ok__law_cell {P : Program} {w : World} {K : PySem.W.Frag} {mg : Str → Option Value} {base : Heap} (T : Facts P K mg w) {k : Nat} {G : AFn} 
    (sp : ∀ ds S E Q, G ds S E Q → ds.length = 2 ∧ (a__law_cell) (bodyEnds Q E) (startA 2 ds) S) : FD P w K mg base "_law_cell" (k + 1) G := by
  obtain ⟨fd, F⟩ := T.d__law_cell
  exact ⟨_, fd, ["_law_script", "_law_k"], fn_ok F sc__law_cell (fun ds S E Q h => (sp ds S E Q h).1) (fun cdv A outer s H E hr => ⟨a__law_cell, (ass_cons (as_if (at_cmp ao_lt (av 1) (ae_callB ac_len T.no_len (aa_cons (av 0) aa_nil))) (ass_one (as_ret (ae_callTy ac_int T.no_int (aa_cons (ae_ix (ru1 hr) (av 0) (av 1)) aa_nil)))) ass_nil)
      (ass_one (as_ret ae_int))), fun ds S Ea Qa h => (sp ds S Ea Qa h).2⟩), T.g__law_cell, F.kp, fb_of F (F.bindsN (fun _ _ _ _ _ _ us hl => match us, hl with | [_, _], _ => rfl)) (by rfl)⟩
theorem z__law_cell {P : Program} {w : World} {K : PySem.W.Frag} {mg : Str → Option Value} {base : Heap} (T : Facts P K mg w) {k : Nat} : FD P w K mg base "_law_cell" k fun _ _ _ _ => False := by
  obtain ⟨fd, F⟩ := T.d__law_cell
  exact ⟨_, fd, ["_law_script", "_law_k"], never_ok, T.g__law_cell, F.kp, fb_of F (F.bindsN (fun _ _ _ _ _ _ us hl => match us, hl with | [_, _], _ => rfl)) (by rfl)⟩
theorem sc__law_word : FnScope ["_law_cell_here", "_law_letters", "_law_more", "_law_text", "_law_rest", "_law_k"] ["_law_cell_here"] (defScope s__law_word) := ⟨rfl, rfl, rfl, by decide +kernel, rfl, by decide +kernel, by decide +kernel⟩
theorem ok__law_word {P : Program} {w : World} {K : PySem.W.Frag} {mg : Str → Option Value} {base : Heap} (T : Facts P K mg w) {k : Nat} {G : AFn} 
    (sp : ∀ ds S E Q, G ds S E Q → ds.length = 1 ∧ (a__law_word) (bodyEnds Q E) (startA 6 ds) S) : FD P w K mg base "_law_word" (k + 1) G := by
  obtain ⟨fd, F⟩ := T.d__law_word
  exact ⟨_, fd, ["_law_cell_here"], fn_ok F sc__law_word (fun ds S E Q h => (sp ds S E Q h).1) (fun cdv A outer s H E hr => ⟨a__law_word, (ass_cons (as_set sc__law_word.nd ae_str)
      (ass_cons (as_set sc__law_word.nd (ae_op ao_add (av 1) ae_str))
      (ass_cons (as_set sc__law_word.nd (ae_ix (ru1 hr) (av 1) (ae_op ao_mod (ae_callTy ac_int T.no_int (aa_cons (av 0) aa_nil)) ae_int)))
      (ass_cons (as_set sc__law_word.nd (ae_op ao_div (av 0) ae_int))
      (ass_cons (as_for passesE rfl (ai_range1 T.no_range (aa_cons (ae_op ao_mod (ae_callTy ac_int T.no_int (aa_cons (av 4) aa_nil)) ae_int) aa_nil)) (ag_name sc__law_word.nd) (ass_one (as_set sc__law_word.nd (ae_op ao_add (av 3) (ae_ix (ru1 hr) (av 2) (ae_op ao_mod (ae_callTy ac_int T.no_int (aa_cons (ae_op ao_div (av 4) (ae_op ao_add ae_int (av 5))) aa_nil)) ae_int))))))
      (ass_one (as_ret (av 3)))))))), fun ds S Ea Qa h => (sp ds S Ea Qa h).2⟩), T.g__law_word, F.kp, fb_of F (F.bindsN (fun _ _ _ _ _ _ us hl => match us, hl with | [_], _ => rfl)) (by rfl)⟩
theorem z__law_word {P : Program} {w : World} {K : PySem.W.Frag} {mg : Str → Option Value} {base : Heap} (T : Facts P K mg w) {k : Nat} : FD P w K mg base "_law_word" k fun _ _ _ _ => False := by
  obtain ⟨fd, F⟩ := T.d__law_word
  exact ⟨_, fd, ["_law_cell_here"], never_ok, T.g__law_word, F.kp, fb_of F (F.bindsN (fun _ _ _ _ _ _ us hl => match us, hl with | [_], _ => rfl)) (by rfl)⟩
theorem sc__law_token : FnScope ["_law_cell_here", "_law_kind", "_law_rest", "_law_word_here", "_law_signs", "_law_sign"] ["_law_cell_here"] (defScope s__law_token) := ⟨rfl, rfl, rfl, by decide +kernel, rfl, by decide +kernel, by decide +kernel⟩
theorem ok__law_token {P : Program} {w : World} {K : PySem.W.Frag} {mg : Str → Option Value} {base : Heap} (T : Facts P K mg w) {k : Nat} {G : AFn} {F__law_word : AFn} (h__law_word : FD P w K mg base "_law_word" k F__law_word)
    (sp : ∀ ds S E Q, G ds S E Q → ds.length = 1 ∧ (a__law_token F__law_word) (bodyEnds Q E) (startA 6 ds) S) : FD P w K mg base "_law_token" (k + 1) G := by
  obtain ⟨fd, F⟩ := T.d__law_token
  exact ⟨_, fd, ["_law_cell_here"], fn_ok F sc__law_token (fun ds S E Q h => (sp ds S E Q h).1) (fun cdv A outer s H E hr => ⟨a__law_token F__law_word, (ass_cons (as_set sc__law_token.nd (ae_op ao_mod (ae_callTy ac_int T.no_int (aa_cons (av 0) aa_nil)) ae_int))
      (ass_cons (as_set sc__law_token.nd (ae_op ao_div (av 0) ae_int))
      (ass_cons (as_if (at_cmp (ao_eq (ru64 hr)) (av 1) ae_int) (ass_cons (as_set sc__law_token.nd (ae_ix (ru1 hr) (ae_glob T.c_RESERVED) (ae_op ao_mod (ae_callTy ac_int T.no_int (aa_cons (av 2) aa_nil)) (ae_callB ac_len T.no_len (aa_cons (ae_glob T.c_RESERVED) aa_nil)))))
      (ass_one (as_ret (ae_lst (aa_cons ae_str (aa_cons (av 3) (aa_cons (av 3) aa_nil))))))) ass_nil)
      (ass_cons (as_if (at_cmp (ao_eq (ru64 hr)) (av 1) ae_int) (ass_cons (as_set sc__law_token.nd (ae_call h__law_word hr takesE (aa_cons (av 2) aa_nil)))
      (ass_cons (as_if (at_cmp (ao_in (ru65 hr)) (av 3) (ae_glob T.c_RESERVED)) (ass_one (as_ret (ae_lst (aa_cons ae_str (aa_cons (av 3) (aa_cons (av 3) aa_nil)))))) ass_nil)
      (ass_one (as_ret (ae_lst (aa_cons ae_str (aa_cons (av 3) (aa_cons (av 3) aa_nil)))))))) ass_nil)
      (ass_cons (as_if (at_cmp (ao_eq (ru64 hr)) (av 1) ae_int) (ass_one (as_ret (ae_lst (aa_cons ae_str (aa_cons (ae_op ao_mod (ae_callTy ac_int T.no_int (aa_cons (av 2) aa_nil)) ae_int) (aa_cons (ae_callTy ac_str T.no_str (aa_cons (ae_op ao_mod (ae_callTy ac_int T.no_int (aa_cons (av 2) aa_nil)) ae_int) aa_nil)) aa_nil)))))) ass_nil)
      (ass_cons (as_if (at_cmp (ao_eq (ru64 hr)) (av 1) ae_int) (ass_cons (as_set sc__law_token.nd (ae_call h__law_word hr takesE (aa_cons (av 2) aa_nil)))
      (ass_one (as_ret (ae_lst (aa_cons ae_str (aa_cons (av 3) (aa_cons (ae_op ao_add (ae_op ao_add ae_str (av 3)) ae_str) aa_nil))))))) ass_nil)
      (ass_cons (as_set sc__law_token.nd (ae_lst (aa_cons ae_str (aa_cons ae_str (aa_cons ae_str (aa_cons ae_str (aa_cons ae_str (aa_cons ae_str (aa_cons ae_str (aa_cons ae_str (aa_cons ae_str (aa_cons ae_str (aa_cons ae_str (aa_cons ae_str (aa_cons ae_str aa_nil)))))))))))))))
      (ass_cons (as_set sc__law_token.nd (ae_ix (ru1 hr) (av 4) (ae_op ao_mod (ae_callTy ac_int T.no_int (aa_cons (av 2) aa_nil)) ae_int)))
      (ass_one (as_ret (ae_lst (aa_cons ae_str (aa_cons (av 5) (aa_cons (av 5) aa_nil)))))))))))))), fun ds S Ea Qa h => (sp ds S Ea Qa h).2⟩), T.g__law_token, F.kp, fb_of F (F.bindsN (fun _ _ _ _ _ _ us hl => match us, hl with | [_], _ => rfl)) (by rfl)⟩
theorem z__law_token {P : Program} {w : World} {K : PySem.W.Frag} {mg : Str → Option Value} {base : Heap} (T : Facts P K mg w) {k : Nat} : FD P w K mg base "_law_token" k fun _ _ _ _ => False := by
  obtain ⟨fd, F⟩ := T.d__law_token
  exact ⟨_, fd, ["_law_cell_here"], never_ok, T.g__law_token, F.kp, fb_of F (F.bindsN (fun _ _ _ _ _ _ us hl => match us, hl with | [_], _ => rfl)) (by rfl)⟩
theorem sc__law_space : FnScope ["_law_cell_here"] ["_law_cell_here"] (defScope s__law_space) := ⟨rfl, rfl, rfl, by decide +kernel, rfl, by decide +kernel, by decide +kernel⟩
theorem ok__law_space {P : Program} {w : World} {K : PySem.W.Frag} {mg : Str → Option Value} {base : Heap} (T : Facts P K mg w) {k : Nat} {G : AFn} 
    (sp : ∀ ds S E Q, G ds S E Q → ds.length = 1 ∧ (a__law_space) (bodyEnds Q E) (startA 1 ds) S) : FD P w K mg base "_law_space" (k + 1) G := by
  obtain ⟨fd, F⟩ := T.d__law_space
  exact ⟨_, fd, ["_law_cell_here"], fn_ok F sc__law_space (fun ds S E Q h => (sp ds S E Q h).1) (fun cdv A outer s H E hr => ⟨a__law_space, (ass_one (as_ret (ae_ix (ru1 hr) (ae_lst (aa_cons ae_str (aa_cons ae_str (aa_cons ae_str (aa_cons ae_str (aa_cons ae_str (aa_cons ae_str aa_nil))))))) (ae_op ao_mod (ae_callTy ac_int T.no_int (aa_cons (av 0) aa_nil)) ae_int)))), fun ds S Ea Qa h => (sp ds S Ea Qa h).2⟩), T.g__law_space, F.kp, fb_of F (F.bindsN (fun _ _ _ _ _ _ us hl => match us, hl with | [_], _ => rfl)) (by rfl)⟩
theorem z__law_space {P : Program} {w : World} {K : PySem.W.Frag} {mg : Str → Option Value} {base : Heap} (T : Facts P K mg w) {k : Nat} : FD P w K mg base "_law_space" k fun _ _ _ _ => False := by
  obtain ⟨fd, F⟩ := T.d__law_space
  exact ⟨_, fd, ["_law_cell_here"], never_ok, T.g__law_space, F.kp, fb_of F (F.bindsN (fun _ _ _ _ _ _ us hl => match us, hl with | [_], _ => rfl)) (by rfl)⟩
theorem sc__law_bad : FnScope ["_law_cell_here"] ["_law_cell_here"] (defScope s__law_bad) := ⟨rfl, rfl, rfl, by decide +kernel, rfl, by decide +kernel, by decide +kernel⟩
theorem ok__law_bad {P : Program} {w : World} {K : PySem.W.Frag} {mg : Str → Option Value} {base : Heap} (T : Facts P K mg w) {k : Nat} {G : AFn} 
    (sp : ∀ ds S E Q, G ds S E Q → ds.length = 1 ∧ (a__law_bad) (bodyEnds Q E) (startA 1 ds) S) : FD P w K mg base "_law_bad" (k + 1) G := by
  obtain ⟨fd, F⟩ := T.d__law_bad
  exact ⟨_, fd, ["_law_cell_here"], fn_ok F sc__law_bad (fun ds S E Q h => (sp ds S E Q h).1) (fun cdv A outer s H E hr => ⟨a__law_bad, (ass_one (as_ret (ae_ix (ru1 hr) (ae_lst (aa_cons ae_str (aa_cons ae_str (aa_cons ae_str (aa_cons ae_str (aa_cons ae_str (aa_cons ae_str (aa_cons ae_str (aa_cons (ae_op ao_mul ae_str ae_int) (aa_cons ae_str (aa_cons (ae_op ao_add (ae_op ao_add ae_str (ae_op ao_mul ae_str ae_int)) ae_str) (aa_cons ae_str (aa_cons ae_str aa_nil))))))))))))) (ae_op ao_mod (ae_callTy ac_int T.no_int (aa_cons (av 0) aa_nil)) ae_int)))), fun ds S Ea Qa h => (sp ds S Ea Qa h).2⟩), T.g__law_bad, F.kp, fb_of F (F.bindsN (fun _ _ _ _ _ _ us hl => match us, hl with | [_], _ => rfl)) (by rfl)⟩
theorem z__law_bad {P : Program} {w : World} {K : PySem.W.Frag} {mg : Str → Option Value} {base : Heap} (T : Facts P K mg w) {k : Nat} : FD P w K mg base "_law_bad" k fun _ _ _ _ => False := by
  obtain ⟨fd, F⟩ := T.d__law_bad
  exact ⟨_, fd, ["_law_cell_here"], never_ok, T.g__law_bad, F.kp, fb_of F (F.bindsN (fun _ _ _ _ _ _ us hl => match us, hl with | [_], _ => rfl)) (by rfl)⟩
theorem sc_law : FnScope ["_law_script", "_law_text", "_law_due", "_law_k", "_law_kind", "_law_value", "_law_shown", "_law_actual", "_law_at", "_law_bad_here", "e"] ["_law_script"] (defScope s_law) := ⟨rfl, rfl, rfl, by decide +kernel, rfl, by decide +kernel, by decide +kernel⟩
theorem ok_law {P : Program} {w : World} {K : PySem.W.Frag} {mg : Str → Option Value} {base : Heap} (T : Facts P K mg w) {k : Nat} {G : AFn} {F__law_cell F__law_token F__law_space F_tokens F_is_name F__law_bad : AFn} (h__law_cell : FD P w K mg base "_law_cell" k F__law_cell) (h__law_token : FD P w K mg base "_law_token" k F__law_token) (h__law_space : FD P w K mg base "_law_space" k F__law_space) (h_tokens : FD P w K mg base "tokens" k F_tokens) (h_is_name : FD P w K mg base "is_name" k F_is_name) (h__law_bad : FD P w K mg base "_law_bad" k F__law_bad)
    (sp : ∀ ds S E Q, G ds S E Q → ds.length = 1 ∧ (a_law F__law_cell F__law_token F__law_space F_tokens F_is_name F__law_bad) (bodyEnds Q E) (startA 11 ds) S) : FD P w K mg base "law" (k + 1) G := by
  obtain ⟨fd, F⟩ := T.d_law
  exact ⟨_, fd, ["_law_script"], fn_ok F sc_law (fun ds S E Q h => (sp ds S E Q h).1) (fun cdv A outer s H E hr => ⟨a_law F__law_cell F__law_token F__law_space F_tokens F_is_name F__law_bad, (ass_cons (as_set sc_law.nd ae_str)
      (ass_cons (as_set sc_law.nd (ae_lst aa_nil))
      (ass_cons (as_for passesE rfl (ai_range2 T.no_range (aa_cons ae_int (aa_cons (ae_callB (ac_min rfl) T.no_min (aa_cons (ae_callB ac_len T.no_len (aa_cons (av 0) aa_nil)) (aa_cons ae_int aa_nil))) aa_nil))) (ag_name sc_law.nd) (ass_cons (as_asg (ae_call h__law_token hr takesE (aa_cons (ae_callB ac_abs T.no_abs (aa_cons (ae_call h__law_cell hr takesE (aa_cons (av 0) (aa_cons (av 3) aa_nil))) aa_nil)) aa_nil)) (ag_tup rfl (ags_cons (ag_name sc_law.nd) (ags_cons (ag_name sc_law.nd) (ags_cons (ag_name sc_law.nd) ags_nil)))))
      (ass_cons (as_expr (ae_append (av 2) (ae_tup (aa_cons (av 4) (aa_cons (av 5) (aa_cons (ae_callB ac_len T.no_len (aa_cons (av 1) aa_nil)) aa_nil))))))
      (ass_one (as_set sc_law.nd (ae_op ao_add (ae_op ao_add (av 1) (av 6)) (ae_call h__law_space hr takesE (aa_cons (ae_op ao_div (ae_callB ac_abs T.no_abs (aa_cons (ae_call h__law_cell hr takesE (aa_cons (av 0) (aa_cons (av 3) aa_nil))) aa_nil)) ae_int) aa_nil))))))))
      (ass_cons (as_set sc_law.nd (ae_call h_tokens hr takesE (aa_cons (av 1) (aa_cons ae_str aa_nil))))
      (ass_cons (as_if (AW.at (aw_or (at_not (at_val (ae_isi (.inl rfl) T.no_isinstance T.no_list Boot.«list» (av 7)))) (aw_or1 (at_cmp (ao_ne (ru64 hr)) (ae_callB (ac_repr hr.gs (ru66 hr)) T.no_repr (aa_cons (av 7) aa_nil)) (ae_callB (ac_repr hr.gs (ru66 hr)) T.no_repr (aa_cons (av 2) aa_nil)))))) (ass_one (as_ret ae_bl)) ass_nil)
      (ass_cons (as_for passesE rfl (ai_any (av 2)) (ag_tup rfl (ags_cons (ag_name sc_law.nd) (ags_cons (ag_name sc_law.nd) (ags_cons (ag_name sc_law.nd) ags_nil)))) (ass_one (as_if (AW.at (aw_and (at_cmp (ao_in (ru65 hr)) (av 4) (ae_lst (aa_cons ae_str (aa_cons ae_str aa_nil)))) (aw_and1 (at_cmp (ao_ne (ru64 hr)) (ae_call h_is_name hr takesE (aa_cons (av 5) aa_nil)) (ae_cmp (ao_eq (ru64 hr)) (av 4) ae_str))))) (ass_one (as_ret ae_bl)) ass_nil)))
      (ass_cons (as_if (AW.at (aw_or (at_cmp ao_isnot (ae_call h_is_name hr takesE (aa_cons ae_str aa_nil)) ae_bl) (aw_or (at_cmp ao_isnot (ae_call h_is_name hr takesE (aa_cons (ae_op ao_mul ae_str ae_int) aa_nil)) ae_bl) (aw_or (at_cmp ao_isnot (ae_call h_is_name hr takesE (aa_cons ae_int aa_nil)) ae_bl) (aw_or1 (at_cmp ao_isnot (ae_call h_is_name hr takesE (aa_cons ae_str aa_nil)) ae_bl)))))) (ass_one (as_ret ae_bl)) ass_nil)
      (ass_cons (as_set sc_law.nd (ae_call h__law_bad hr takesE (aa_cons (ae_callB ac_abs T.no_abs (aa_cons (ae_call h__law_cell hr takesE (aa_cons (av 0) (aa_cons ae_int aa_nil))) aa_nil)) aa_nil)))
      (ass_cons (as_tryAs (i := 10) (cl := "Malformed") (tab := TAB_Malformed) (su := fun a d => (aRet (aAndV (aOp oEq (aXf a d "module" (aVar 10)) (aC (.str "m7"))) (aOp oEq (aXf a d "at" (aVar 10)) (aCB cLen (aCons (aVar 1) aNil)))))) rfl rfl sc_law.nd rfl rfl ⟨rfl, by decide, .inl T.xc_Malformed.glo⟩ takesE T.tb_Malformed (fun W' pn xe tk pa => (ass_one (as_expr (ae_call h_tokens hr tk (aa_cons (ae_op ao_add (ae_op ao_add (av 1) (av 9)) ae_str) (aa_cons ae_str aa_nil)))))) (fun a oe d pn hz hf => (ass_one (as_ret (ae_and (ae_cmp (ao_eq (have z := ru64 hr; z)) (ae_xf T.xc_Malformed.xf (T.xc_Malformed.no _ (by simp)) hz hf (av 10)) ae_str) (ae_one (ae_cmp (ao_eq (have z := ru64 hr; z)) (ae_xf T.xc_Malformed.xf (T.xc_Malformed.no _ (by simp)) hz hf (av 10)) (ae_callB ac_len T.no_len (aa_cons (av 1) aa_nil)))))))))
      (ass_one (as_ret ae_bl))))))))))), fun ds S Ea Qa h => (sp ds S Ea Qa h).2⟩), T.g_law, F.kp, fb_of F (F.bindsN (fun _ _ _ _ _ _ us hl => match us, hl with | [_], _ => rfl)) (by rfl)⟩
theorem z_law {P : Program} {w : World} {K : PySem.W.Frag} {mg : Str → Option Value} {base : Heap} (T : Facts P K mg w) {k : Nat} : FD P w K mg base "law" k fun _ _ _ _ => False := by
  obtain ⟨fd, F⟩ := T.d_law
  exact ⟨_, fd, ["_law_script"], never_ok, T.g_law, F.kp, fb_of F (F.bindsN (fun _ _ _ _ _ _ us hl => match us, hl with | [_], _ => rfl)) (by rfl)⟩
end Rw
namespace Hd
open PySem PySem.Spec
open PyProof.Rows L2 AL Ab Rw
def fa_0 : List (He.Fa) := [.free "abs", .free "all", .free "int", .free "isinstance", .free "len", .free "list", .free "min", .free "range", .free "repr", .free "str", .free "super", .glo "is_letter", .glo "is_digit", .glo "in_name", .glo "is_name", .glo "run_end", .glo "comment_end", .glo "read_word", .glo "read_number", .glo "read_string", .glo "read_sign", .glo "read_token", .glo "tokens", .glo "_law_cell", .glo "_law_word", .glo "_law_token", .glo "_law_space", .glo "_law_bad", .glo "law"]
def fa : List (He.Fa) := fa_0
def fn_0 : List (He.DefD) := [⟨("is_letter", none), "is_letter", "is_letter", defArgs s_is_letter, defBody s_is_letter, defScope s_is_letter, [], []⟩, ⟨("is_digit", none), "is_digit", "is_digit", defArgs s_is_digit, defBody s_is_digit, defScope s_is_digit, [], []⟩, ⟨("in_name", none), "in_name", "in_name", defArgs s_in_name, defBody s_in_name, defScope s_in_name, [], []⟩, ⟨("is_name", none), "is_name", "is_name", defArgs s_is_name, defBody s_is_name, defScope s_is_name, [], []⟩, ⟨("run_end", none), "run_end", "run_end", defArgs s_run_end, defBody s_run_end, defScope s_run_end, [], []⟩, ⟨("comment_end", none), "comment_end", "comment_end", defArgs s_comment_end, defBody s_comment_end, defScope s_comment_end, [], []⟩, ⟨("read_word", none), "read_word", "read_word", defArgs s_read_word, defBody s_read_word, defScope s_read_word, [], []⟩, ⟨("read_number", none), "read_number", "read_number", defArgs s_read_number, defBody s_read_number, defScope s_read_number, [], []⟩, ⟨("read_string", none), "read_string", "read_string", defArgs s_read_string, defBody s_read_string, defScope s_read_string, [], []⟩, ⟨("read_sign", none), "read_sign", "read_sign", defArgs s_read_sign, defBody s_read_sign, defScope s_read_sign, [], []⟩, ⟨("read_token", none), "read_token", "read_token", defArgs s_read_token, defBody s_read_token, defScope s_read_token, [], []⟩, ⟨("tokens", none), "tokens", "tokens", defArgs s_tokens, defBody s_tokens, defScope s_tokens, [], []⟩, ⟨("_law_cell", none), "_law_cell", "_law_cell", defArgs s__law_cell, defBody s__law_cell, defScope s__law_cell, [], []⟩, ⟨("_law_word", none), "_law_word", "_law_word", defArgs s__law_word, defBody s__law_word, defScope s__law_word, [], []⟩, ⟨("_law_token", none), "_law_token", "_law_token", defArgs s__law_token, defBody s__law_token, defScope s__law_token, [], []⟩, ⟨("_law_space", none), "_law_space", "_law_space", defArgs s__law_space, defBody s__law_space, defScope s__law_space, [], []⟩, ⟨("_law_bad", none), "_law_bad", "_law_bad", defArgs s__law_bad, defBody s__law_bad, defScope s__law_bad, [], []⟩, ⟨("law", none), "law", "law", defArgs s_law, defBody s_law, defScope s_law, [], []⟩]
def fn : List (He.DefD) := fn_0
def cs_0 : List (Str × D) := [("MAX_TEXT", C_MAX_TEXT), ("MAX_NAME", C_MAX_NAME), ("RESERVED", C_RESERVED), ("SIGNS", C_SIGNS)]
def cs : List (Str × D) := cs_0
def ks_0 : List (Str × List (Str × D)) := []
def ks : List (Str × List (Str × D)) := ks_0
abbrev LW : PySem.W.OpenLaw := PySem.Challenge.rw_fascicle_k00_tokens
def xs : List XcD := [⟨"Malformed", "Malformed.__init__", defArgs s_Malformed_init, defBody s_Malformed_init, defScope s_Malformed_init, ["module", "at"]⟩, ⟨"Oversized", "Oversized.__init__", defArgs s_Oversized_init, defBody s_Oversized_init, defScope s_Oversized_init, ["limit"]⟩]
def es : List (Str × List (Str × Bool)) := [("Malformed", TAB_Malformed)]
theorem facts {K : PySem.W.Frag} {h : Heap} {mg : Str → Option Value} (X : K.In h) (G : h.Ns mainGlobals mg) {w : World} (c : SaysX LW.prog fa fn cs ks xs es w K) : Rw.Facts LW.prog K mg w where
  xc_Malformed := c.xc X G 0 rfl
  xc_Oversized := c.xc X G 1 rfl
  tb_Malformed := exB_ok c.e 0 rfl
  no_abs := He.free_ok X G (c.t.fact 0 rfl)
  no_all := He.free_ok X G (c.t.fact 1 rfl)
  no_int := He.free_ok X G (c.t.fact 2 rfl)
  no_isinstance := He.free_ok X G (c.t.fact 3 rfl)
  no_len := He.free_ok X G (c.t.fact 4 rfl)
  no_list := He.free_ok X G (c.t.fact 5 rfl)
  no_min := He.free_ok X G (c.t.fact 6 rfl)
  no_range := He.free_ok X G (c.t.fact 7 rfl)
  no_repr := He.free_ok X G (c.t.fact 8 rfl)
  no_str := He.free_ok X G (c.t.fact 9 rfl)
  no_super := He.free_ok X G (c.t.fact 10 rfl)
  c_MAX_TEXT := csB_ok X G c.k.c 0 rfl
  c_MAX_NAME := csB_ok X G c.k.c 1 rfl
  c_RESERVED := csB_ok X G c.k.c 2 rfl
  c_SIGNS := csB_ok X G c.k.c 3 rfl
  d_is_letter := c.t.def_ 0 rfl
  g_is_letter := He.glo_ok X G (c.t.fact 11 rfl)
  d_is_digit := c.t.def_ 1 rfl
  g_is_digit := He.glo_ok X G (c.t.fact 12 rfl)
  d_in_name := c.t.def_ 2 rfl
  g_in_name := He.glo_ok X G (c.t.fact 13 rfl)
  d_is_name := c.t.def_ 3 rfl
  g_is_name := He.glo_ok X G (c.t.fact 14 rfl)
  d_run_end := c.t.def_ 4 rfl
  g_run_end := He.glo_ok X G (c.t.fact 15 rfl)
  d_comment_end := c.t.def_ 5 rfl
  g_comment_end := He.glo_ok X G (c.t.fact 16 rfl)
  d_read_word := c.t.def_ 6 rfl
  g_read_word := He.glo_ok X G (c.t.fact 17 rfl)
  d_read_number := c.t.def_ 7 rfl
  g_read_number := He.glo_ok X G (c.t.fact 18 rfl)
  d_read_string := c.t.def_ 8 rfl
  g_read_string := He.glo_ok X G (c.t.fact 19 rfl)
  d_read_sign := c.t.def_ 9 rfl
  g_read_sign := He.glo_ok X G (c.t.fact 20 rfl)
  d_read_token := c.t.def_ 10 rfl
  g_read_token := He.glo_ok X G (c.t.fact 21 rfl)
  d_tokens := c.t.def_ 11 rfl
  g_tokens := He.glo_ok X G (c.t.fact 22 rfl)
  d__law_cell := c.t.def_ 12 rfl
  g__law_cell := He.glo_ok X G (c.t.fact 23 rfl)
  d__law_word := c.t.def_ 13 rfl
  g__law_word := He.glo_ok X G (c.t.fact 24 rfl)
  d__law_token := c.t.def_ 14 rfl
  g__law_token := He.glo_ok X G (c.t.fact 25 rfl)
  d__law_space := c.t.def_ 15 rfl
  g__law_space := He.glo_ok X G (c.t.fact 26 rfl)
  d__law_bad := c.t.def_ 16 rfl
  g__law_bad := He.glo_ok X G (c.t.fact 27 rfl)
  d_law := c.t.def_ 17 rfl
  g_law := He.glo_ok X G (c.t.fact 28 rfl)
def loose_0 : List (PySem.Str) := ["Refused", "Malformed", "Oversized", "MAX_TEXT", "MAX_NAME", "RESERVED", "SIGNS", "is_letter", "is_digit", "in_name", "is_name", "run_end", "comment_end", "read_word", "read_number", "read_string", "read_sign", "read_token", "tokens", "_law_cell", "_law_word", "_law_token", "_law_space", "_law_bad"]
def loose : List (PySem.Str) := loose_0
abbrev R : PySem.W.OpenRow := PySem.W.OpenLaw.row LW
abbrev hk : PySem.W.Hook := hookX LW.prog 5 fa fn cs ks xs es
def ob (s : PySem.W.SharedT) : (He.AlT × Bool) × (List XcV × Bool) := obsX LW.prog 5 fa fn cs ks xs es (HandSHeadRun.getT s)
theorem ob_eq (s : PySem.W.SharedT) : ob s = hk.obs s.abs := obsX_eq (HandSHeadRun.getT_eq s)
theorem run (w : World) : HandSHeadRun.RunEq R (PySem.W.view R.prog [27]) hk ob 3000 loose w := by
  intro os
  kernel_rfl
end Hd
open PySem PySem.W
open PySem.Calls PyProof.Rows
theorem hd_holds {k : Nat} (room : AL.RG k callerA) (hF : ∀ (w : World) (K : PySem.W.Frag) (mg : PySem.Str → Option Value) (base : Heap), Rw.Facts Hd.LW.prog K mg w → AL.FD Hd.LW.prog w K mg base "law" k AL.lawF) : Hd.LW.Holds := by
  w_on; o_law
  refine HandSHeadRun.head_any (r := OpenLaw.row Hd.LW) (q := view (OpenLaw.row Hd.LW).prog [27]) (H := Hd.hk) (ob := Hd.ob) (M := 3000) (loose := Hd.loose) (d := HandSHeadRun.topDef (OpenLaw.row Hd.LW).prog 27) (kwd := []) Hd.ob_eq
    (by kernel_rfl) (fun s => by kernel_rfl) Hd.run (by kernel_rfl) (by kernel_rfl) (by kernel_rfl) (by rfl) (by first | assumption | decide +kernel) (by decide +kernel) ⟨rfl, rfl, rfl, rfl, rfl, by decide +kernel⟩ ?hw ?hc
  case hw => w_witness2
  case hc =>
    refine AL.law_walk (l := Hd.LW) (k := k) rfl (by kernel_rfl) room ?F
    intro w mg fa h Y G hmg0
    obtain ⟨K, KX, c⟩ := Y
    have e : (HandSHeadRun.topDef (OpenLaw.row Hd.LW).prog 27).name = ("law" : PySem.Str) := by kernel_rfl
    rw [e] at hmg0 ⊢
    exact ⟨K, KX, fun base => hF w K mg base (Hd.facts KX G c)⟩
namespace Fi
open PySem PySem.Spec
open PyProof.Rows L2 AL Ab Lx Lk Rw
section
variable {P : Program} {w : World} {K : PySem.W.Frag} {mg : Str → Option Value} {base : Heap} (T : Facts P K mg w)
include T
theorem l_letter (k : Nat) : FD P w K mg base "is_letter" (k + 1) (G1 letter) := ok_is_letter T sp_letter
theorem l_digit (k : Nat) : FD P w K mg base "is_digit" (k + 1) (G1 digit) := ok_is_digit T sp_digit
theorem l_inname (k : Nat) : FD P w K mg base "in_name" (k + 2) (G1 inName) := ok_in_name T (l_letter T k) (l_digit T k) sp_inname
theorem l_run (k : Nat) : FD P w K mg base "run_end" (k + 3) GRun := ok_run_end T (l_inname T k) sp_run
theorem l_token : FD P w K mg base "read_token" 5 GTok :=
  ok_read_token T (l_letter T 3) (ok_read_word T (by decide) (l_run T 0) sp_word) (l_digit T 3) (ok_read_number T (by decide) (l_run T 0) (l_digit T 2) sp_number) (ok_read_string T (by decide) (l_run T 0) sp_string) (ok_read_sign T (by decide) sp_sign) sp_token
theorem l_tokenX : FD P w K mg base "read_token" 5 GTokX :=
  ok_read_token T (l_letter T 3) (ok_read_word T (by decide) (l_run T 0) sp_wordX) (l_digit T 3) (ok_read_number T (by decide) (l_run T 0) (l_digit T 2) sp_numX) (ok_read_string T (by decide) (l_run T 0) sp_stringX) (ok_read_sign T (by decide) sp_signX) sp_tokenX
theorem l_tokens : FD P w K mg base "tokens" 6 (oF GTokens GTokensX) :=
  (ok_tokens T (by decide) (ok_comment_end T sp_com) (l_token T) sp_tokens).or (ok_tokens T (by decide) (ok_comment_end T sp_com) ((l_token T).or (l_tokenX T)) sp_tokensX)
theorem l_isn : FD P w K mg base "is_name" 6 (oF GIsN GIsI) :=
  (ok_is_name T (l_letter T 4) (l_inname T 3) sp_isn).or (ok_is_name T (l_letter T 4) (l_inname T 3) sp_isi)
theorem l_law : FD P w K mg base "law" 7 lawF :=
  ok_law T (ok__law_cell T sp_cell) (ok__law_token T (ok__law_word T Lk.sp_word) Lk.sp_token) (ok__law_space T sp_space) (l_tokens T) (l_isn T) (ok__law_bad T sp_bad) sp_law
end
theorem room7 : RG 7 callerA := ⟨⟨rfl, by decide, by decide⟩, rfl⟩
end Fi
theorem PySem.Challenge.cw_fascicle_k00_tokens_holds : PySem.Challenge.rw_fascicle_k00_tokens.Holds :=
  hd_holds Fi.room7 fun w K mg base T => Fi.l_law T
