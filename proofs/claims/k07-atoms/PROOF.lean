import PyProof.Rows.All
import Wide.All
import OpenK.AllK
import Wide.FinOn
import HandS.ForMost
import HandS.Conv
import HandS.SortInts
import HandS.IsInst
import HandS.Flow
import HandS.Style
import HandS.TupAny
import HandS.Deep
import KE.GoesEnum
import KE.GoesMore
import KE.GoesZip
import OpenK.AllK
import Wide.FinOn
import PySem.Challenge.RW_oneofeach_k07_atoms_of_a_formula
set_option Elab.async false
set_option linter.all false
set_option maxRecDepth 100000
set_option maxHeartbeats 4000000
namespace Dl
open PySem PySem.Spec PyProof.Rows L2

/-! ### data -/
inductive D where
  | non
  | bl (b : Bool)
  | int (i : Int)
  | str (x : Str)
  | lst (xs : List D)
  | tup (xs : List D)
  | dict (kvs : List (D × D))
  | obj (c : Nat) (fs : List (Str × D))
  | scr (ns : List Int)

/-- outcomes of an expression: a value, an exception of an own class with its fields, or nothing is said -/
inductive R (α : Type) where
  | ok (a : α)
  | exc (c : Nat) (fs : List (Str × D))
  | bad
namespace R
def bind {α β : Type} (x : R α) (f : α → R β) : R β := match x with
  | .ok a => f a
  | .exc c fs => .exc c fs
  | .bad => .bad
def map {α β : Type} (f : α → β) (x : R α) : R β := x.bind fun a => .ok (f a)
end R
instance : Monad R where
  pure := R.ok
  bind := R.bind
@[simp] theorem R.pure_eq {α : Type} (a : α) : (pure a : R α) = .ok a := (rfl)
@[simp] theorem R.bind_ok {α β : Type} (a : α) (f : α → R β) : (R.ok a >>= f) = f a := (rfl)
@[simp] theorem R.bind_exc {α β : Type} (c fs) (f : α → R β) : ((R.exc c fs : R α) >>= f) = .exc c fs := (rfl)
@[simp] theorem R.bind_bad {α β : Type} (f : α → R β) : ((R.bad : R α) >>= f) = .bad := (rfl)
@[simp] theorem R.bind_ok' {α β : Type} (a : α) (f : α → R β) : (R.ok a).bind f = f a := (rfl)
@[simp] theorem R.bind_exc' {α β : Type} (c fs) (f : α → R β) : (R.exc c fs : R α).bind f = .exc c fs := (rfl)
@[simp] theorem R.bind_bad' {α β : Type} (f : α → R β) : (R.bad : R α).bind f = .bad := (rfl)
theorem R.bind_def {α β : Type} (x : R α) (f : α → R β) : (x >>= f) = x.bind f := rfl

abbrev S := List (Option D)

/-- a key of a dict as data -/
def kD : Key → D
  | .inl i => .int i
  | .inr x => .str x
def kTD (ks : List Key) : D := .tup (ks.map kD)

section
variable (K : PySem.W.Frag) (cl : Nat → Addr) (H : Hp)
mutual
inductive Rep : V → D → Prop
  | non : Rep .non .non
  | bl (b : Bool) : Rep (.bl b) (.bl b)
  | int (i : Int) : Rep (.int i) (.int i)
  | str (x : Str) : Rep (.str x) (.str x)
  | lst {a : Addr} {vs : List V} {ds : List D} : H a = some (.lst vs) → RepL vs ds → Rep (.ref a) (.lst ds)
  | tup {a : Addr} {vs : List V} {ds : List D} : SqT K H a vs → RepL vs ds → Rep (.ref a) (.tup ds)
  | dK {a : Addr} {ks : List (Key × V)} {ds : List (D × D)} : H a = some (.dK ks) → RepK ks ds → Rep (.ref a) (.dict ds)
  | dT {a : Addr} {ks : List (List Key × V)} {ds : List (D × D)} : H a = some (.dT ks) → RepT ks ds → Rep (.ref a) (.dict ds)
  | obj {a dx : Addr} {c : Nat} {fs : List (Str × V)} {ds : List (Str × D)} : H a = some (.ins (cl c) dx fs) → H dx = some (.own a) → RepF fs ds → Rep (.ref a) (.obj c ds)
  | scr {a : Addr} {ns : List Int} : SqL K H a (ns.map V.int) → Rep (.ref a) (.scr ns)
inductive RepL : List V → List D → Prop
  | nil : RepL [] []
  | cons {v : V} {vs : List V} {d : D} {ds : List D} : Rep v d → RepL vs ds → RepL (v :: vs) (d :: ds)
inductive RepK : List (Key × V) → List (D × D) → Prop
  | nil : RepK [] []
  | cons {k : Key} {v : V} {ks : List (Key × V)} {d : D} {ds : List (D × D)} : Rep v d → RepK ks ds → RepK ((k, v) :: ks) ((kD k, d) :: ds)
inductive RepT : List (List Key × V) → List (D × D) → Prop
  | nil : RepT [] []
  | cons {k : List Key} {v : V} {ks : List (List Key × V)} {d : D} {ds : List (D × D)} : Rep v d → RepT ks ds → RepT ((k, v) :: ks) ((kTD k, d) :: ds)
inductive RepF : List (Str × V) → List (Str × D) → Prop
  | nil : RepF [] []
  | cons {k : Str} {v : V} {ks : List (Str × V)} {d : D} {ds : List (Str × D)} : Rep v d → RepF ks ds → RepF ((k, v) :: ks) ((k, d) :: ds)
end
end

theorem same_rd {H H' : Hp} {a : Addr} {u : HO} (e : Same H H') (h : Rd H a u) : Rd H' a u := by
  rcases h with h | ⟨o, h⟩
  · exact Or.inl (e a _ h)
  · exact Or.inr ⟨o, e a _ h⟩
theorem same_t {K : PySem.W.Frag} {H H' : Hp} {a : Addr} {xs : List V} (e : Same H H') (h : SqT K H a xs) : SqT K H' a xs := by
  rcases h with h | h
  · exact Or.inl (same_rd e h)
  · exact Or.inr h

section
variable {K : PySem.W.Frag} {cl : Nat → Addr} {H H' : Hp}
mutual
theorem Rep.mono (e : Same H H') : ∀ {v : V} {d : D}, Rep K cl H v d → Rep K cl H' v d
  | _, _, .non => .non
  | _, _, .bl b => .bl b
  | _, _, .int i => .int i
  | _, _, .str x => .str x
  | _, _, .lst h r => .lst (e _ _ h) (RepL.mono e r)
  | _, _, .tup h r => .tup (same_t e h) (RepL.mono e r)
  | _, _, .dK h r => .dK (e _ _ h) (RepK.mono e r)
  | _, _, .dT h r => .dT (e _ _ h) (RepT.mono e r)
  | _, _, .obj h h2 r => .obj (e _ _ h) (e _ _ h2) (RepF.mono e r)
  | _, _, .scr h => .scr (e.seq h)
theorem RepL.mono (e : Same H H') : ∀ {vs : List V} {ds : List D}, RepL K cl H vs ds → RepL K cl H' vs ds
  | _, _, .nil => .nil
  | _, _, .cons h r => .cons (Rep.mono e h) (RepL.mono e r)
theorem RepK.mono (e : Same H H') : ∀ {vs : List (Key × V)} {ds : List (D × D)}, RepK K cl H vs ds → RepK K cl H' vs ds
  | _, _, .nil => .nil
  | _, _, .cons h r => .cons (Rep.mono e h) (RepK.mono e r)
theorem RepT.mono (e : Same H H') : ∀ {vs : List (List Key × V)} {ds : List (D × D)}, RepT K cl H vs ds → RepT K cl H' vs ds
  | _, _, .nil => .nil
  | _, _, .cons h r => .cons (Rep.mono e h) (RepT.mono e r)
theorem RepF.mono (e : Same H H') : ∀ {vs : List (Str × V)} {ds : List (Str × D)}, RepF K cl H vs ds → RepF K cl H' vs ds
  | _, _, .nil => .nil
  | _, _, .cons h r => .cons (Rep.mono e h) (RepF.mono e r)
end
theorem RepL.length : ∀ {vs : List V} {ds : List D}, RepL K cl H vs ds → vs.length = ds.length
  | _, _, .nil => rfl
  | _, _, .cons _ r => congrArg (· + 1) (RepL.length r)
theorem RepL.get : ∀ {vs : List V} {ds : List D} {i : Nat} {d : D}, RepL K cl H vs ds → ds[i]? = some d → ∃ v, vs[i]? = some v ∧ Rep K cl H v d
  | _, _, _, _, .nil, e => by simp at e
  | _, _, 0, _, .cons h _, e => by simp at e; subst e; exact ⟨_, rfl, h⟩
  | _, _, i + 1, _, .cons _ r, e => RepL.get (i := i) r (by simpa using e)
theorem RepL.get' : ∀ {vs : List V} {ds : List D} {i : Nat} {v : V}, RepL K cl H vs ds → vs[i]? = some v → ∃ d, ds[i]? = some d ∧ Rep K cl H v d
  | _, _, _, _, .nil, e => by simp at e
  | _, _, 0, _, .cons h _, e => by simp at e; subst e; exact ⟨_, rfl, h⟩
  | _, _, i + 1, _, .cons _ r, e => RepL.get' (i := i) r (by simpa using e)
theorem RepL.append : ∀ {vs ws : List V} {ds es : List D}, RepL K cl H vs ds → RepL K cl H ws es → RepL K cl H (vs ++ ws) (ds ++ es)
  | _, _, _, _, .nil, q => q
  | _, _, _, _, .cons h r, q => .cons h (RepL.append r q)
theorem RepL.set {v : V} {d : D} (q : Rep K cl H v d) : ∀ {vs : List V} {ds : List D} (i : Nat), RepL K cl H vs ds → RepL K cl H (vs.set i v) (ds.set i d)
  | _, _, _, .nil => .nil
  | _, _, 0, .cons _ r => .cons q r
  | _, _, i + 1, .cons h r => .cons h (RepL.set q i r)
theorem RepL.take : ∀ {vs : List V} {ds : List D} (n : Nat), RepL K cl H vs ds → RepL K cl H (vs.take n) (ds.take n)
  | _, _, 0, _ => .nil
  | _, _, _ + 1, .nil => .nil
  | _, _, n + 1, .cons h r => .cons h (RepL.take n r)
theorem RepL.drop : ∀ {vs : List V} {ds : List D} (n : Nat), RepL K cl H vs ds → RepL K cl H (vs.drop n) (ds.drop n)
  | _, _, 0, r => r
  | _, _, _ + 1, .nil => .nil
  | _, _, n + 1, .cons _ r => RepL.drop n r
theorem RepL.eraseIdx : ∀ {vs : List V} {ds : List D} (n : Nat), RepL K cl H vs ds → RepL K cl H (vs.eraseIdx n) (ds.eraseIdx n)
  | _, _, _, .nil => .nil
  | _, _, 0, .cons _ r => r
  | _, _, n + 1, .cons h r => .cons h (RepL.eraseIdx n r)
theorem RepL.dropLast : ∀ {vs : List V} {ds : List D}, RepL K cl H vs ds → RepL K cl H vs.dropLast ds.dropLast
  | _, _, .nil => .nil
  | _, _, .cons _ .nil => .nil
  | _, _, .cons h (.cons h2 r) => .cons h (RepL.dropLast (.cons h2 r))
theorem RepL.reverse {vs : List V} {ds : List D} (r : RepL K cl H vs ds) : RepL K cl H vs.reverse ds.reverse := by
  induction vs generalizing ds with
  | nil => cases r; exact .nil
  | cons v vs ih =>
    cases r with
    | cons h r =>
      rw [List.reverse_cons, List.reverse_cons]
      exact (ih r).append (.cons h .nil)
theorem RepF.lookup : ∀ {fs : List (Str × V)} {ds : List (Str × D)} {f : Str} {d : D}, RepF K cl H fs ds → ds.lookup f = some d → ∃ v, fs.lookup f = some v ∧ Rep K cl H v d
  | _, _, _, _, .nil, e => by cases e
  | _, _, f, d, .cons (k := k) h r, e => by
    rw [List.lookup_cons] at e ⊢
    cases hb : f == k with
    | true => rw [hb] at e; cases e; exact ⟨_, rfl, h⟩
    | false => rw [hb] at e; exact RepF.lookup r e
theorem RepF.lookup_none : ∀ {fs : List (Str × V)} {ds : List (Str × D)} {f : Str}, RepF K cl H fs ds → ds.lookup f = none → fs.lookup f = none
  | _, _, _, .nil, _ => rfl
  | _, _, f, .cons (k := k) h r, e => by
    rw [List.lookup_cons] at e ⊢
    cases hb : f == k with
    | true => rw [hb] at e; cases e
    | false => rw [hb] at e; exact RepF.lookup_none r e
theorem RepF.length : ∀ {fs : List (Str × V)} {ds : List (Str × D)}, RepF K cl H fs ds → fs.length = ds.length
  | _, _, .nil => rfl
  | _, _, .cons _ r => congrArg (· + 1) (RepF.length r)
end

/-! ### a step: the base B (told for good) and the heap H grow; what H holds beside B stays beside it -/
structure Stp (B H B' H' : Hp) : Prop where
  b : Same B B'
  i : Same B' H'
  h : Same H H'
  f : ∀ a, B a = none → H a ≠ none → B' a = none
theorem Stp.refl {B H : Hp} (e : Same B H) : Stp B H B H := ⟨Same.refl _, e, Same.refl _, fun _ h _ => h⟩
theorem Stp.trans {B H B1 H1 B2 H2 : Hp} (p : Stp B H B1 H1) (q : Stp B1 H1 B2 H2) : Stp B H B2 H2 :=
  ⟨p.b.trans q.b, q.i, p.h.trans q.h, fun a h1 h2 => q.f a (p.f a h1 h2) fun z => h2 (p.h.free z)⟩
theorem same_new {H : Hp} {p : Addr} {o : HO} (h : H p = none) : Same H (upd H p o) := fun a u e => by
  rw [upd_ne (ne_of_none e h)]; exact e
theorem same_up {B H : Hp} {p : Addr} {o : HO} (e : Same B H) : Same (upd B p o) (upd H p o) := fun a u q => by
  by_cases h : a = p
  · subst h; rw [upd_same] at q ⊢; exact q
  · rw [upd_ne h] at q ⊢; exact e a u q
theorem Stp.new {B H : Hp} {p : Addr} {o : HO} (e : Same B H) (h : H p = none) : Stp B H (upd B p o) (upd H p o) :=
  ⟨same_new (e.free h), same_up e, same_new h, fun a h1 h2 => by
    have hne : a ≠ p := fun z => by subst z; exact h2 h
    rw [upd_ne hne]; exact h1⟩
/-- a new object that is not told for good -/
theorem Stp.own {B H : Hp} {p : Addr} {o : HO} (e : Same B H) (h : H p = none) : Stp B H B (upd H p o) :=
  ⟨Same.refl _, e.trans (same_new h), same_new h, fun a h1 h2 => h1⟩

/-! ### what is owned -/
abbrev Slots := List (Option V)
section
variable (K : PySem.W.Frag) (cl : Nat → Addr)
/-- F: what is true of the places that are owned -/
def Own1 (F : Addr → Prop) (B H : Hp) (a : Addr) : D → Prop
  | .lst ds => F a ∧ ∃ vs, H a = some (.lst vs) ∧ RepL K cl B vs ds
  | .dict ds => F a ∧ ((∃ ks, H a = some (.dK ks) ∧ RepK K cl B ks ds) ∨ (∃ ks, H a = some (.dT ks) ∧ RepT K cl B ks ds))
  | .obj c ds => F a ∧ ∃ dx fs, H a = some (.ins (cl c) dx fs) ∧ H dx = some (.own a) ∧ F dx ∧ RepF K cl B fs ds
  | _ => False
/-- new beside B and H0 -/
def Nw (B H0 : Hp) (b : Addr) : Prop := B b = none ∧ H0 b = none
/-- the slots: Γ the owned ones; B0, H0: the def's entry -/
structure RelS (Γ : List Nat) (B0 H0 : Hp) (pn : List (Nat × Addr)) (σ : Slots) (s : S) (B H : Hp) : Prop where
  stp : Stp B0 H0 B H
  len : σ.length = s.length
  dat : ∀ i d, i ∉ Γ → s[i]? = some (some d) → ∃ v, σ[i]? = some (some v) ∧ Rep K cl B v d
  own : ∀ i d, i ∈ Γ → s[i]? = some (some d) → ∃ a, σ[i]? = some (some (V.ref a)) ∧ Own1 K cl (Nw B H0) B H a d
  sep : ∀ i j d d' a, i ∈ Γ → j ∈ Γ → i ≠ j → s[i]? = some (some d) → s[j]? = some (some d') → σ[i]? = some (some (V.ref a)) → σ[j]? ≠ some (some (V.ref a))
  pin : ∀ p ∈ pn, p.1 ∈ Γ ∧ σ[p.1]? = some (some (V.ref p.2))
end
section
variable {K : PySem.W.Frag} {cl : Nat → Addr} {B H B' H' B0 H0 : Hp} {a : Addr} {d : D} {Γ : List Nat} {σ : Slots} {s : S} {F F' : Addr → Prop} {pn : List (Nat × Addr)}
theorem Own1.at (h : Own1 K cl F B H a d) : F a ∧ ∃ o, H a = some o ∧ ∀ x, o ≠ .own x := by
  cases d with
  | lst ds => obtain ⟨f, vs, e, _⟩ := h; exact ⟨f, _, e, by intro x z; cases z⟩
  | dict ds =>
    obtain ⟨f, h⟩ := h
    rcases h with ⟨ks, e, r⟩ | ⟨ks, e, r⟩
    · exact ⟨f, _, e, by intro x z; cases z⟩
    · exact ⟨f, _, e, by intro x z; cases z⟩
  | obj c ds => obtain ⟨f, dx, fs, e, _⟩ := h; exact ⟨f, _, e, by intro x z; cases z⟩
  | _ => exact h.elim
/-- carried over: the base grows, the heap keeps the owned places -/
theorem Own1.carry (h : Own1 K cl F B H a d) (hb : Same B B') (hh : ∀ b o, F b → (b = a ∨ o = .own a) → H b = some o → H' b = some o ∧ F' b) : Own1 K cl F' B' H' a d := by
  cases d with
  | lst ds =>
    obtain ⟨f, vs, e, r⟩ := h
    have q := hh _ _ f (.inl rfl) e
    exact ⟨q.2, vs, q.1, r.mono hb⟩
  | dict ds =>
    obtain ⟨f, h⟩ := h
    rcases h with ⟨ks, e, r⟩ | ⟨ks, e, r⟩
    · have q := hh _ _ f (.inl rfl) e
      exact ⟨q.2, .inl ⟨ks, q.1, r.mono hb⟩⟩
    · have q := hh _ _ f (.inl rfl) e
      exact ⟨q.2, .inr ⟨ks, q.1, r.mono hb⟩⟩
  | obj c ds =>
    obtain ⟨f, dx, fs, e, e2, f2, r⟩ := h
    have q := hh _ _ f (.inl rfl) e
    have q2 := hh _ _ f2 (.inr rfl) e2
    exact ⟨q.2, dx, fs, q.1, q2.1, q2.2, r.mono hb⟩
  | _ => exact h.elim
theorem Own1.step (h : Own1 K cl (Nw B H0) B H a d) (p : Stp B H B' H') : Own1 K cl (Nw B' H0) B' H' a d :=
  h.carry p.b fun b o f _ e => ⟨p.h _ _ e, p.f b f.1 (by rw [e]; simp), f.2⟩
theorem RelS.mono (r : RelS K cl Γ B0 H0 pn σ s B H) (p : Stp B H B' H') : RelS K cl Γ B0 H0 pn σ s B' H' where
  stp := r.stp.trans p
  len := r.len
  dat := fun i d hi e => by
    obtain ⟨v, h1, h2⟩ := r.dat i d hi e
    exact ⟨v, h1, h2.mono p.b⟩
  own := fun i d hi e => by
    obtain ⟨a, h1, h2⟩ := r.own i d hi e
    exact ⟨a, h1, h2.step p⟩
  sep := r.sep
  pin := r.pin
theorem RelS.same (r : RelS K cl Γ B0 H0 pn σ s B H) : Same B H := r.stp.i
theorem put_same {o : HO} (e : Same B H) (q : H a = some o) : Same (upd B a o) H := fun b u z => by
  by_cases hb : b = a
  · subst hb; rw [upd_same] at z; cases z; exact q
  · rw [upd_ne hb] at z; exact e b u z
theorem put_new {o : HO} (n : B a = none) : ∀ b, B b = none → (upd B a o) b ≠ none → b = a := fun b h1 h2 => by
  by_cases hb : b = a
  · exact hb
  · rw [upd_ne hb] at h2; exact absurd h1 h2
/-- an owned thing told for good -/
theorem Own1.freeze (h : Own1 K cl F B H a d) (e : Same B H) (hF : ∀ b, F b → B b = none) : ∃ B', Same B B' ∧ Same B' H ∧ Rep K cl B' (.ref a) d ∧ (∀ b, B b = none → B' b ≠ none → F b ∧ (b = a ∨ H b = some (.own a))) := by
  cases d with
  | lst ds =>
    obtain ⟨f, vs, q, r⟩ := h
    exact ⟨_, same_new (hF _ f), put_same e q, .lst upd_same (r.mono (same_new (hF _ f))), fun b h1 h2 => by have z := put_new (hF _ f) b h1 h2; subst z; exact ⟨f, .inl rfl⟩⟩
  | dict ds =>
    obtain ⟨f, h⟩ := h
    rcases h with ⟨ks, q, r⟩ | ⟨ks, q, r⟩
    · exact ⟨_, same_new (hF _ f), put_same e q, .dK upd_same (r.mono (same_new (hF _ f))), fun b h1 h2 => by have z := put_new (hF _ f) b h1 h2; subst z; exact ⟨f, .inl rfl⟩⟩
    · exact ⟨_, same_new (hF _ f), put_same e q, .dT upd_same (r.mono (same_new (hF _ f))), fun b h1 h2 => by have z := put_new (hF _ f) b h1 h2; subst z; exact ⟨f, .inl rfl⟩⟩
  | obj c ds =>
    obtain ⟨f, dx, fs, q, q2, f2, r⟩ := h
    have hne : dx ≠ a := fun z => by rw [z, q] at q2; cases q2
    have n3 : (upd B a (.ins (cl c) dx fs)) dx = none := by rw [upd_ne hne]; exact hF _ f2
    have s0 : Same B (upd B a (.ins (cl c) dx fs)) := same_new (hF _ f)
    have s1 : Same (upd B a (.ins (cl c) dx fs)) (upd (upd B a (.ins (cl c) dx fs)) dx (.own a)) := same_new n3
    refine ⟨upd (upd B a (.ins (cl c) dx fs)) dx (.own a), s0.trans s1, put_same (put_same e q) q2, .obj (dx := dx) (s1 _ _ upd_same) upd_same (r.mono (s0.trans s1)), fun b h1 h2 => ?_⟩
    by_cases hb : b = dx
    · subst hb; exact ⟨f2, .inr q2⟩
    · rw [upd_ne hb] at h2
      have z := put_new (hF _ f) b h1 h2
      subst z; exact ⟨f, .inl rfl⟩
  | _ => exact h.elim
/-- what is owned at another place stays so when a' is told for good -/
theorem Own1.keep {a' : Addr} {d' : D} {F2 : Addr → Prop} (h : Own1 K cl (Nw B H0) B H a d) (hb : Same B B') (hne : a ≠ a') (h' : Own1 K cl F2 B H a' d') (hf : ∀ b, B b = none → B' b ≠ none → b = a' ∨ H b = some (.own a')) :
    Own1 K cl (Nw B' H0) B' H a d := by
  obtain ⟨_, o', e', no'⟩ := h'.at
  obtain ⟨_, o1, e1, no1⟩ := h.at
  refine h.carry hb fun b o f q e => ⟨e, ?_, f.2⟩
  cases z : B' b with
  | none => rfl
  | some u =>
    rcases hf b f.1 (by rw [z]; simp) with k | k
    · rcases q with q | q
      · exact absurd (q.symm.trans k) hne
      · subst k; rw [e] at e'; exact absurd ((Option.some.inj e').symm.trans q) (no' a)
    · rcases q with q | q
      · subst q; rw [e1] at k; exact absurd (Option.some.inj k) (no1 a')
      · rw [e, q] at k
        have k2 := Option.some.inj k
        injection k2 with k3
        exact absurd k3 hne
/-- slot i told for good -/
theorem RelS.freeze (r : RelS K cl Γ B0 H0 pn σ s B H) (i : Nat) (hi : i ∈ Γ) (hp : i ∉ pn.map (·.1)) : ∃ B', Same B B' ∧ RelS K cl (Γ.filter (· ≠ i)) B0 H0 pn σ s B' H := by
  by_cases hs : ∃ d, s[i]? = some (some d)
  · obtain ⟨d, e⟩ := hs
    obtain ⟨a, h1, h4⟩ := r.own i d hi e
    obtain ⟨B', b1, b2, b3, b4⟩ := h4.freeze r.same fun b f => f.1
    refine ⟨B', b1, ⟨⟨r.stp.b.trans b1, b2, r.stp.h, fun b n1 n2 => ?_⟩, r.len, fun j dj hj ej => ?_, fun j dj hj ej => ?_, fun j k dj dk aj hj hk => r.sep j k dj dk aj (List.mem_filter.mp hj).1 (List.mem_filter.mp hk).1, fun p hpp => ⟨List.mem_filter.mpr ⟨(r.pin p hpp).1, by simpa using fun z => hp (List.mem_map.mpr ⟨p, hpp, z⟩)⟩, (r.pin p hpp).2⟩⟩⟩
    · cases z : B' b with
      | none => rfl
      | some u =>
        have q := b4 b (r.stp.f b n1 n2) (by rw [z]; simp)
        exact absurd q.1.2 n2
    · by_cases hji : j = i
      · subst hji
        rw [e] at ej; cases ej
        exact ⟨_, h1, b3⟩
      · obtain ⟨v, g1, g2⟩ := r.dat j dj (fun z => hj (List.mem_filter.mpr ⟨z, by simpa using hji⟩)) ej
        exact ⟨v, g1, g2.mono b1⟩
    · obtain ⟨hj1, hj2⟩ := List.mem_filter.mp hj
      have hji : j ≠ i := by simpa using hj2
      obtain ⟨aj, g1, g2⟩ := r.own j dj hj1 ej
      have hne : aj ≠ a := fun z => by
        subst z
        exact r.sep i j d dj aj hi hj1 (Ne.symm hji) e ej h1 g1
      exact ⟨aj, g1, g2.keep b1 hne h4 fun b n1 n2 => (b4 b n1 n2).2⟩
  · refine ⟨B, Same.refl _, ⟨r.stp, r.len, fun j d hj e => ?_, fun j d hj e => r.own j d (List.mem_filter.mp hj).1 e, fun j k dj dk a hj hk => r.sep j k dj dk a (List.mem_filter.mp hj).1 (List.mem_filter.mp hk).1, fun p hpp => ⟨List.mem_filter.mpr ⟨(r.pin p hpp).1, by simpa using fun z => hp (List.mem_map.mpr ⟨p, hpp, z⟩)⟩, (r.pin p hpp).2⟩⟩⟩
    by_cases hji : j = i
    · subst hji; exact absurd ⟨d, e⟩ hs
    · exact r.dat j d (fun z => hj (List.mem_filter.mpr ⟨z, by simpa using hji⟩)) e
theorem RepL.getElem (i : Nat) : ∀ {n : Nat}, n = i → True := fun _ => trivial
/-- a data slot is stored -/
theorem RelS.set (r : RelS K cl Γ B0 H0 pn σ s B H) {i : Nat} {v : V} (q : Rep K cl B v d) (hi : i ∉ Γ) : RelS K cl Γ B0 H0 pn (σ.set i (some v)) (s.set i (some d)) B H where
  stp := r.stp
  len := by rw [List.length_set, List.length_set]; exact r.len
  dat := fun j dj hj e => by
    by_cases h : i = j
    · subst h
      by_cases hl : i < s.length
      · rw [List.getElem?_set_self hl] at e
        cases e
        exact ⟨v, List.getElem?_set_self (by rw [r.len]; exact hl), q⟩
      · rw [List.getElem?_eq_none (by simpa using hl)] at e; cases e
    · rw [List.getElem?_set_ne h] at e ⊢
      exact r.dat j dj hj e
  own := fun j dj hj e => by
    have h : i ≠ j := fun z => by subst z; exact hi hj
    rw [List.getElem?_set_ne h] at e ⊢
    exact r.own j dj hj e
  sep := fun j k dj dk a hj hk hne e1 e2 => by
    have h1 : i ≠ j := fun z => by subst z; exact hi hj
    have h2 : i ≠ k := fun z => by subst z; exact hi hk
    rw [List.getElem?_set_ne h1] at e1 ⊢
    rw [List.getElem?_set_ne h2] at e2 ⊢
    exact r.sep j k dj dk a hj hk hne e1 e2
  pin := fun p hp => ⟨(r.pin p hp).1, by rw [List.getElem?_set_ne fun z => hi (by rw [z]; exact (r.pin p hp).1)]; exact (r.pin p hp).2⟩
/-- an owned slot is stored, of a new thing -/
theorem RelS.setOwn (r : RelS K cl Γ B0 H0 pn σ s B H) {i : Nat} (q : Own1 K cl (Nw B H0) B H a d) (hi : i ∉ Γ) (hn : ∀ j d', j ∈ Γ → s[j]? = some (some d') → σ[j]? ≠ some (some (V.ref a))) : RelS K cl (i :: Γ) B0 H0 pn (σ.set i (some (V.ref a))) (s.set i (some d)) B H where
  stp := r.stp
  len := by rw [List.length_set, List.length_set]; exact r.len
  dat := fun j dj hj e => by
    have h : i ≠ j := fun z => by subst z; exact hj List.mem_cons_self
    rw [List.getElem?_set_ne h] at e ⊢
    exact r.dat j dj (fun z => hj (List.mem_cons_of_mem _ z)) e
  own := fun j dj hj e => by
    by_cases h : i = j
    · subst h
      by_cases hl : i < s.length
      · rw [List.getElem?_set_self hl] at e
        cases e
        exact ⟨a, List.getElem?_set_self (by rw [r.len]; exact hl), q⟩
      · rw [List.getElem?_eq_none (by simpa using hl)] at e; cases e
    · rw [List.getElem?_set_ne h] at e ⊢
      rcases List.mem_cons.mp hj with z | z
      · exact absurd z.symm h
      · exact r.own j dj z e
  sep := fun j k dj dk a' hj hk hne e1 e2 e3 e4 => by
    by_cases h1 : i = j
    · subst h1
      have h2 : i ≠ k := hne
      rw [List.getElem?_set_ne h2] at e2 e4
      have hk' : k ∈ Γ := by
        rcases List.mem_cons.mp hk with z | z
        · exact absurd z.symm h2
        · exact z
      by_cases hl : i < σ.length
      · rw [List.getElem?_set_self hl] at e3
        cases e3
        exact hn k dk hk' e2 e4
      · rw [List.getElem?_eq_none (by simpa using hl)] at e3; cases e3
    · rw [List.getElem?_set_ne h1] at e1 e3
      have hj' : j ∈ Γ := by
        rcases List.mem_cons.mp hj with z | z
        · exact absurd z.symm h1
        · exact z
      by_cases h2 : i = k
      · subst h2
        by_cases hl : i < σ.length
        · rw [List.getElem?_set_self hl] at e4
          cases e4
          exact hn j dj hj' e1 e3
        · rw [List.getElem?_eq_none (by simpa using hl)] at e4; cases e4
      · rw [List.getElem?_set_ne h2] at e2 e4
        have hk' : k ∈ Γ := by
          rcases List.mem_cons.mp hk with z | z
          · exact absurd z.symm h2
          · exact z
        exact r.sep j k dj dk a' hj' hk' hne e1 e2 e3 e4
  pin := fun p hp => ⟨List.mem_cons_of_mem _ (r.pin p hp).1, by rw [List.getElem?_set_ne fun z => hi (by rw [z]; exact (r.pin p hp).1)]; exact (r.pin p hp).2⟩
/-- the owned thing at slot i changes in place: what stands at its address, nothing else -/
theorem RelS.write (r : RelS K cl Γ B0 H0 pn σ s B H) {i : Nat} {d0 : D} {o : HO} (hi : i ∈ Γ) (es : s[i]? = some (some d0)) (ea : σ[i]? = some (some (V.ref a))) (no : ∀ x, o ≠ .own x)
    (q : Own1 K cl (Nw B H0) B (upd H a o) a d) : RelS K cl Γ B0 H0 pn σ (s.set i (some d)) B (upd H a o) := by
  obtain ⟨a', ea', q0⟩ := r.own i d0 hi es
  rw [ea] at ea'
  cases ea'
  obtain ⟨f0, o0, e0, no0⟩ := q0.at
  refine ⟨⟨r.stp.b, fun b u z => ?_, fun b u z => ?_, r.stp.f⟩, by rw [List.length_set]; exact r.len, fun j dj hj e => ?_, fun j dj hj e => ?_, fun j k dj dk aj hj hk hne e1 e2 e3 e4 => ?_, r.pin⟩
  · have hne : b ≠ a := ne_of_none z f0.1
    rw [upd_ne hne]; exact r.stp.i b u z
  · have hne : b ≠ a := ne_of_none z f0.2
    rw [upd_ne hne]; exact r.stp.h b u z
  · have h : i ≠ j := fun z => by subst z; exact hj hi
    rw [List.getElem?_set_ne h] at e
    exact r.dat j dj hj e
  · by_cases h : i = j
    · subst h
      have hl : i < s.length := (List.getElem?_eq_some_iff.mp es).1
      rw [List.getElem?_set_self hl] at e
      cases e
      exact ⟨a, ea, q⟩
    · rw [List.getElem?_set_ne h] at e
      obtain ⟨aj, g1, g2⟩ := r.own j dj hj e
      have hne : aj ≠ a := fun z => by subst z; exact r.sep i j d0 dj aj hi hj h es e ea g1
      refine ⟨aj, g1, g2.carry (Same.refl _) fun b u f k z => ⟨?_, f⟩⟩
      have hb : b ≠ a := fun y => by
        subst y
        rcases k with k | k
        · exact hne k.symm
        · rw [e0] at z; exact absurd ((Option.some.inj z).trans k) (no0 aj)
      rw [upd_ne hb]; exact z
  · have get : ∀ {m : Nat} {dm : D}, (s.set i (some d))[m]? = some (some dm) → ∃ d2, s[m]? = some (some d2) := fun {m dm} z => by
      by_cases h : i = m
      · subst h; exact ⟨d0, es⟩
      · rw [List.getElem?_set_ne h] at z; exact ⟨dm, z⟩
    obtain ⟨d1, g1⟩ := get e1
    obtain ⟨d2, g2⟩ := get e2
    exact r.sep j k d1 d2 aj hj hk hne g1 g2 e3 e4
/-- less is known -/
theorem RelS.weak {s' : S} (r : RelS K cl Γ B0 H0 pn σ s B H) (hl : List.length s' = List.length s) (h : ∀ (i : Nat) (d : D), s'[i]? = some (some d) → s[i]? = some (some d)) : RelS K cl Γ B0 H0 pn σ s' B H where
  stp := r.stp
  len := by rw [hl]; exact r.len
  dat := fun i d hi e => r.dat i d hi (h i d e)
  own := fun i d hi e => r.own i d hi (h i d e)
  sep := fun i j d d' a hi hj hne e1 e2 => r.sep i j d d' a hi hj hne (h i d e1) (h j d' e2)
  pin := r.pin
end
end Dl

namespace Dl
open PySem PySem.Spec PyProof.Rows L2

/-! ### readings that are sound for data -/
section
variable (K : PySem.W.Frag) (cl : Nat → Addr) (E : XK)
/-- an exception is wanted so -/
def ExcOk (B0 H0 : Hp) (c : Nat) (fs : List (Str × D)) : Prop := ∀ B' H' dx fv, Stp B0 H0 B' H' → H' dx = some (.xd fv) → RepF K cl B' fv fs → E (.ref (cl c)) (some dx) H'
def Nb {α : Type} (B0 H0 : Hp) : R α → Prop
  | .ok _ => True
  | .exc c fs => ExcOk K cl E B0 H0 c fs
  | .bad => False
/-- told for good, or owned -/
def Bw (B H : Hp) (v : V) (d : D) : Prop := Rep K cl B v d ∨ ∃ a, v = .ref a ∧ Own1 K cl (fun b => B b = none) B H a d
inductive BwL (B H : Hp) : List V → List D → Prop
  | nil : BwL B H [] []
  | cons {v : V} {vs : List V} {d : D} {ds : List D} : Bw K cl B H v d → BwL B H vs ds → BwL B H (v :: vs) (d :: ds)
def SndE (Γ : List Nat) (t : TE) (m : S → R D) : Prop := ∀ B0 H0 pn σ s B H (Q : VK), RelS K cl Γ B0 H0 pn σ s B H → Nb K cl E B0 H0 (m s) → (∀ d v B' H', m s = .ok d → Stp B H B' H' → Rep K cl B' v d → Q v H') → t σ H Q
def SndB (Γ : List Nat) (t : TE) (m : S → R D) : Prop := ∀ B0 H0 pn σ s B H (Q : VK), RelS K cl Γ B0 H0 pn σ s B H → Nb K cl E B0 H0 (m s) → (∀ d v B' H', m s = .ok d → Stp B H B' H' → Bw K cl B' H' v d → Q v H') → t σ H Q
/-- a new thing, owned -/
def SndF (Γ : List Nat) (t : TE) (m : S → R D) : Prop := ∀ B0 H0 pn σ s B H (Q : VK), RelS K cl Γ B0 H0 pn σ s B H → Nb K cl E B0 H0 (m s) → (∀ d a B' H', m s = .ok d → Stp B H B' H' → Own1 K cl (Nw B' H) B' H' a d → Q (.ref a) H') → t σ H Q
def SndT (Γ : List Nat) (t : TT) (m : S → R Bool) : Prop := ∀ B0 H0 pn σ s B H (Q : Bool → Hp → Prop), RelS K cl Γ B0 H0 pn σ s B H → Nb K cl E B0 H0 (m s) → (∀ b B' H', m s = .ok b → Stp B H B' H' → Q b H') → t σ H Q
def SndA (Γ : List Nat) (t : TA) (m : S → R (List D)) : Prop := ∀ B0 H0 pn σ s B H (Q : List V → Hp → Prop), RelS K cl Γ B0 H0 pn σ s B H → Nb K cl E B0 H0 (m s) → (∀ ds vs B' H', m s = .ok ds → Stp B H B' H' → RepL K cl B' vs ds → Q vs H') → t σ H Q
def SndAB (Γ : List Nat) (t : TA) (m : S → R (List D)) : Prop := ∀ B0 H0 pn σ s B H (Q : List V → Hp → Prop), RelS K cl Γ B0 H0 pn σ s B H → Nb K cl E B0 H0 (m s) → (∀ ds vs B' H', m s = .ok ds → Stp B H B' H' → BwL K cl B' H' vs ds → Q vs H') → t σ H Q
end

section
variable {K : PySem.W.Frag} {cl : Nat → Addr} {E : XK} {Γ : List Nat} {B H B' H' B0 H0 : Hp} {v : V} {d : D}
theorem Nb.bind {α β : Type} {x : R α} {f : α → R β} (h : Nb K cl E B0 H0 (x.bind f)) : Nb K cl E B0 H0 x := by
  cases x with
  | ok a => trivial
  | exc c fs => exact h
  | bad => exact h
theorem Nb.next {α β : Type} {x : R α} {f : α → R β} {a : α} (h : Nb K cl E B0 H0 (x.bind f)) (e : x = .ok a) : Nb K cl E B0 H0 (f a) := by
  subst e; exact h
theorem Bw.step (h : Bw K cl B H v d) (p : Stp B H B' H') : Bw K cl B' H' v d := by
  rcases h with h | ⟨a, e, h⟩
  · exact .inl (h.mono p.b)
  · exact .inr ⟨a, e, h.carry p.b fun b o f _ q => ⟨p.h _ _ q, p.f b f (by rw [q]; simp)⟩⟩
theorem BwL.step (p : Stp B H B' H') : ∀ {vs : List V} {ds : List D}, BwL K cl B H vs ds → BwL K cl B' H' vs ds
  | _, _, .nil => .nil
  | _, _, .cons h r => .cons (h.step p) (BwL.step p r)
theorem Bw.lst {ds : List D} (h : Bw K cl B H v (.lst ds)) (e : Same B H) : ∃ a vs, v = .ref a ∧ H a = some (.lst vs) ∧ RepL K cl B vs ds := by
  rcases h with h | ⟨a, e1, f, vs, h1, h2⟩
  · cases h with
    | lst h1 h2 => exact ⟨_, _, rfl, e _ _ h1, h2⟩
  · exact ⟨a, vs, e1, h1, h2⟩
theorem Bw.tup {ds : List D} (h : Bw K cl B H v (.tup ds)) : ∃ a vs, v = .ref a ∧ SqT K B a vs ∧ RepL K cl B vs ds := by
  rcases h with h | ⟨a, e1, h⟩
  · cases h with
    | tup h1 h2 => exact ⟨_, _, rfl, h1, h2⟩
  · exact h.elim
theorem Bw.int {i : Int} (h : Bw K cl B H v (.int i)) : v = .int i := by
  rcases h with h | ⟨a, e1, h⟩
  · cases h; rfl
  · exact h.elim
theorem Bw.str {i : Str} (h : Bw K cl B H v (.str i)) : v = .str i := by
  rcases h with h | ⟨a, e1, h⟩
  · cases h; rfl
  · exact h.elim
theorem Bw.bl {i : Bool} (h : Bw K cl B H v (.bl i)) : v = .bl i := by
  rcases h with h | ⟨a, e1, h⟩
  · cases h; rfl
  · exact h.elim
theorem Bw.non (h : Bw K cl B H v .non) : v = .non := by
  rcases h with h | ⟨a, e1, h⟩
  · cases h; rfl
  · exact h.elim
theorem Bw.scr {ns : List Int} (h : Bw K cl B H v (.scr ns)) : ∃ a, v = .ref a ∧ SqL K B a (ns.map V.int) := by
  rcases h with h | ⟨a, e1, h⟩
  · cases h with
    | scr h => exact ⟨_, rfl, h⟩
  · exact h.elim

theorem SndE.b {t : TE} {m : S → R D} (h : SndE K cl E Γ t m) : SndB K cl E Γ t m := fun B0 H0 pn σ s B H Q r n q => h B0 H0 pn σ s B H Q r n fun d v B' H' e p w => q d v B' H' e p (.inl w)
/-- a new thing told for good -/
theorem SndF.e {t : TE} {m : S → R D} (h : SndF K cl E Γ t m) : SndE K cl E Γ t m := fun B0 H0 pn σ s B H Q r n q => h B0 H0 pn σ s B H Q r n fun d a B' H' e p w => by
  obtain ⟨B2, b1, b2, b3, b4⟩ := w.freeze p.i fun b f => f.1
  refine q d (.ref a) B2 H' e ⟨p.b.trans b1, b2, p.h, fun b n1 n2 => ?_⟩ b3
  cases z : B2 b with
  | none => rfl
  | some u => exact absurd (b4 b (p.f b n1 n2) (by rw [z]; simp)).1.2 n2
theorem SndF.b {t : TE} {m : S → R D} (h : SndF K cl E Γ t m) : SndB K cl E Γ t m := h.e.b

/-! ### names and constants -/
def mVar (i : Nat) (s : S) : R D := match s[i]? with
  | some (some d) => .ok d
  | _ => .bad
theorem mVar_ok {i : Nat} {s : S} {d : D} (h : mVar i s = .ok d) : s[i]? = some (some d) := by
  unfold mVar at h
  split at h
  · cases h; assumption
  · cases h
theorem mVar_nb {i : Nat} {s : S} (h : Nb K cl E B0 H0 (mVar i s)) : ∃ d, mVar i s = .ok d := by
  unfold mVar at h ⊢
  split
  · exact ⟨_, rfl⟩
  · rename_i h1
    split at h
    · rename_i h2; exact absurd h2 (h1 _)
    · exact h.elim
theorem snd_var {i : Nat} (hi : i ∉ Γ) : SndE K cl E Γ (tVar i) (mVar i) := fun B0 H0 pn σ s B H Q r n q => by
  obtain ⟨d, e⟩ := mVar_nb n
  obtain ⟨v, h1, h2⟩ := r.dat i d hi (mVar_ok e)
  exact ⟨v, h1, q d v B H e (Stp.refl r.same) h2⟩
theorem snb_var {i : Nat} : SndB K cl E Γ (tVar i) (mVar i) := fun B0 H0 pn σ s B H Q r n q => by
  obtain ⟨d, e⟩ := mVar_nb n
  by_cases hi : i ∈ Γ
  · obtain ⟨a, h1, h2⟩ := r.own i d hi (mVar_ok e)
    exact ⟨.ref a, h1, q d _ B H e (Stp.refl r.same) (.inr ⟨a, rfl, h2.carry (Same.refl _) fun b o f _ z => ⟨z, f.1⟩⟩)⟩
  · obtain ⟨v, h1, h2⟩ := r.dat i d hi (mVar_ok e)
    exact ⟨v, h1, q d v B H e (Stp.refl r.same) (.inl h2)⟩
def mC (d : D) (_ : S) : R D := .ok d
theorem snd_c {v : V} {d : D} (h : ∀ H, Rep K cl H v d) : SndE K cl E Γ (tC v) (mC d) := fun B0 H0 pn σ s B H Q r n q => q d v B H rfl (Stp.refl r.same) (h B)

/-! ### operators -/
def ofO {α : Type} : Option α → R α
  | some a => .ok a
  | none => .bad
theorem ofO_nb {α : Type} {x : Option α} (h : Nb K cl E B0 H0 (ofO x)) : ∃ a, x = some a := by
  cases x with
  | none => exact h.elim
  | some a => exact ⟨a, rfl⟩
variable (K cl) in
/-- an operator of two operands that are looked at, the answer told for good -/
def Op2 (r : R2) (g : D → D → Option D) : Prop := ∀ B H x y d e z (Q : VK), Same B H → Bw K cl B H x d → Bw K cl B H y e → g d e = some z → (∀ v B' H', Stp B H B' H' → Rep K cl B' v z → Q v H') → r x y H Q
variable (K cl) in
def Op2F (r : R2) (g : D → D → Option D) : Prop := ∀ B H x y d e z (Q : VK), Same B H → Bw K cl B H x d → Bw K cl B H y e → g d e = some z → (∀ a B' H', Stp B H B' H' → Own1 K cl (Nw B' H) B' H' a z → Q (.ref a) H') → r x y H Q
variable (K cl) in
def Op1 (r : V → Hp → VK → Prop) (g : D → Option D) : Prop := ∀ B H x d z (Q : VK), Same B H → Bw K cl B H x d → g d = some z → (∀ v B' H', Stp B H B' H' → Rep K cl B' v z → Q v H') → r x H Q
variable (K cl) in
def OpA (r : List V → Hp → VK → Prop) (g : List D → Option D) : Prop := ∀ B H xs ds z (Q : VK), Same B H → BwL K cl B H xs ds → g ds = some z → (∀ v B' H', Stp B H B' H' → Rep K cl B' v z → Q v H') → r xs H Q
variable (K cl) in
def OpAF (r : List V → Hp → VK → Prop) (g : List D → Option D) : Prop := ∀ B H xs ds z (Q : VK), Same B H → BwL K cl B H xs ds → g ds = some z → (∀ a B' H', Stp B H B' H' → Own1 K cl (Nw B' H) B' H' a z → Q (.ref a) H') → r xs H Q
def mOp (g : D → D → Option D) (f h : S → R D) (s : S) : R D := (f s).bind fun x => (h s).bind fun y => ofO (g x y)
theorem snd_op {r : R2} {g : D → D → Option D} {ta tb : TE} {f h : S → R D} (hr : Op2 K cl r g) (ha : SndB K cl E Γ ta f) (hb : SndB K cl E Γ tb h) : SndE K cl E Γ (tOp r ta tb) (mOp g f h) := fun B0 H0 pn σ s B H Q rel n q => by
  refine ha B0 H0 pn σ s B H _ rel n.bind fun d x B1 H1 e1 p1 w1 => ?_
  have n1 := n.next e1
  refine hb B0 H0 pn σ s B1 H1 _ (rel.mono p1) n1.bind fun e y B2 H2 e2 p2 w2 => ?_
  obtain ⟨z, ez⟩ := ofO_nb (n1.next e2)
  refine hr B2 H2 x y d e z Q p2.i (w1.step p2) w2 ez fun v B3 H3 p3 w3 => ?_
  refine q z v B3 H3 ?_ ((p1.trans p2).trans p3) w3
  show (f s).bind _ = _
  rw [e1]; show (h s).bind _ = _; rw [e2]; show ofO _ = _; rw [ez]; rfl
theorem snf_op {r : R2} {g : D → D → Option D} {ta tb : TE} {f h : S → R D} (hr : Op2F K cl r g) (ha : SndB K cl E Γ ta f) (hb : SndB K cl E Γ tb h) : SndF K cl E Γ (tOp r ta tb) (mOp g f h) := fun B0 H0 pn σ s B H Q rel n q => by
  refine ha B0 H0 pn σ s B H _ rel n.bind fun d x B1 H1 e1 p1 w1 => ?_
  have n1 := n.next e1
  refine hb B0 H0 pn σ s B1 H1 _ (rel.mono p1) n1.bind fun e y B2 H2 e2 p2 w2 => ?_
  obtain ⟨z, ez⟩ := ofO_nb (n1.next e2)
  refine hr B2 H2 x y d e z Q p2.i (w1.step p2) w2 ez fun a B3 H3 p3 w3 => ?_
  refine q z a B3 H3 ?_ ((p1.trans p2).trans p3) (w3.carry (Same.refl _) fun b o ff _ zz => ⟨zz, ff.1, (p1.trans p2).h.free ff.2⟩)
  show (f s).bind _ = _
  rw [e1]; show (h s).bind _ = _; rw [e2]; show ofO _ = _; rw [ez]; rfl
def mOp1 (g : D → Option D) (f : S → R D) (s : S) : R D := (f s).bind fun x => ofO (g x)
theorem snd_un {r : V → Hp → VK → Prop} {g : D → Option D} {ta : TE} {f : S → R D} (hr : Op1 K cl r g) (ha : SndB K cl E Γ ta f) : SndE K cl E Γ (tUn r ta) (mOp1 g f) := fun B0 H0 pn σ s B H Q rel n q => by
  refine ha B0 H0 pn σ s B H _ rel n.bind fun d x B1 H1 e1 p1 w1 => ?_
  obtain ⟨z, ez⟩ := ofO_nb (n.next e1)
  refine hr B1 H1 x d z Q p1.i w1 ez fun v B3 H3 p3 w3 => ?_
  refine q z v B3 H3 ?_ (p1.trans p3) w3
  show (f s).bind _ = _
  rw [e1]; show ofO _ = _; rw [ez]; rfl
def mOpA (g : List D → Option D) (f : S → R (List D)) (s : S) : R D := (f s).bind fun x => ofO (g x)
theorem snd_cb {r : List V → Hp → VK → Prop} {g : List D → Option D} {ta : TA} {f : S → R (List D)} (hr : OpA K cl r g) (ha : SndAB K cl E Γ ta f) : SndE K cl E Γ (tCB r ta) (mOpA g f) := fun B0 H0 pn σ s B H Q rel n q => by
  refine ha B0 H0 pn σ s B H _ rel n.bind fun ds xs B1 H1 e1 p1 w1 => ?_
  obtain ⟨z, ez⟩ := ofO_nb (n.next e1)
  refine hr B1 H1 xs ds z Q p1.i w1 ez fun v B3 H3 p3 w3 => ?_
  refine q z v B3 H3 ?_ (p1.trans p3) w3
  show (f s).bind _ = _
  rw [e1]; show ofO _ = _; rw [ez]; rfl
theorem snf_cb {r : List V → Hp → VK → Prop} {g : List D → Option D} {ta : TA} {f : S → R (List D)} (hr : OpAF K cl r g) (ha : SndAB K cl E Γ ta f) : SndF K cl E Γ (tCB r ta) (mOpA g f) := fun B0 H0 pn σ s B H Q rel n q => by
  refine ha B0 H0 pn σ s B H _ rel n.bind fun ds xs B1 H1 e1 p1 w1 => ?_
  obtain ⟨z, ez⟩ := ofO_nb (n.next e1)
  refine hr B1 H1 xs ds z Q p1.i w1 ez fun a B3 H3 p3 w3 => ?_
  refine q z a B3 H3 ?_ (p1.trans p3) (w3.carry (Same.refl _) fun b o ff _ zz => ⟨zz, ff.1, p1.h.free ff.2⟩)
  show (f s).bind _ = _
  rw [e1]; show ofO _ = _; rw [ez]; rfl
/-! ### argument lists, displays -/
def mNil (_ : S) : R (List D) := .ok []
def mCons (f : S → R D) (g : S → R (List D)) (s : S) : R (List D) := (f s).bind fun x => (g s).bind fun xs => .ok (x :: xs)
theorem sna_nil : SndA K cl E Γ tNil mNil := fun B0 H0 pn σ s B H Q rel n q => q [] [] B H rfl (Stp.refl rel.same) .nil
theorem sna_cons {te : TE} {ta : TA} {f : S → R D} {g : S → R (List D)} (ha : SndE K cl E Γ te f) (hb : SndA K cl E Γ ta g) : SndA K cl E Γ (tCons te ta) (mCons f g) := fun B0 H0 pn σ s B H Q rel n q => by
  refine ha B0 H0 pn σ s B H _ rel n.bind fun d x B1 H1 e1 p1 w1 => ?_
  have n1 := n.next e1
  refine hb B0 H0 pn σ s B1 H1 _ (rel.mono p1) n1.bind fun ds xs B2 H2 e2 p2 w2 => ?_
  refine q (d :: ds) (x :: xs) B2 H2 ?_ (p1.trans p2) (.cons (w1.mono p2.b) w2)
  show (f s).bind _ = _
  rw [e1]; show (g s).bind _ = _; rw [e2]; rfl
theorem snab_nil : SndAB K cl E Γ tNil mNil := fun B0 H0 pn σ s B H Q rel n q => q [] [] B H rfl (Stp.refl rel.same) .nil
theorem snab_cons {te : TE} {ta : TA} {f : S → R D} {g : S → R (List D)} (ha : SndB K cl E Γ te f) (hb : SndAB K cl E Γ ta g) : SndAB K cl E Γ (tCons te ta) (mCons f g) := fun B0 H0 pn σ s B H Q rel n q => by
  refine ha B0 H0 pn σ s B H _ rel n.bind fun d x B1 H1 e1 p1 w1 => ?_
  have n1 := n.next e1
  refine hb B0 H0 pn σ s B1 H1 _ (rel.mono p1) n1.bind fun ds xs B2 H2 e2 p2 w2 => ?_
  refine q (d :: ds) (x :: xs) B2 H2 ?_ (p1.trans p2) (.cons (w1.step p2) w2)
  show (f s).bind _ = _
  rw [e1]; show (g s).bind _ = _; rw [e2]; rfl
/-- the most items that a list, a tuple, a text has here -/
def LIM : Nat := 1000000
theorem lim_sz {n : Nat} (h : n ≤ LIM) : n ≤ sizeLine := Nat.le_trans h (by decide)
theorem lim_lt {n : Nat} (h : n < LIM) : n < sizeLine := Nat.lt_of_lt_of_le h (by decide)
def oTup (ds : List D) : Option D := if ds.length ≤ LIM then some (.tup ds) else none
def oLst (ds : List D) : Option D := if ds.length ≤ LIM then some (.lst ds) else none
def mTup (f : S → R (List D)) (s : S) : R D := (f s).bind fun ds => ofO (oTup ds)
def mLst (f : S → R (List D)) (s : S) : R D := (f s).bind fun ds => ofO (oLst ds)
theorem snd_tup {ta : TA} {f : S → R (List D)} (ha : SndA K cl E Γ ta f) : SndE K cl E Γ (tTup ta) (mTup f) := fun B0 H0 pn σ s B H Q rel n q => by
  refine ha B0 H0 pn σ s B H _ rel n.bind fun ds xs B1 H1 e1 p1 w1 => ?_
  obtain ⟨z, ez⟩ := ofO_nb (n.next e1)
  unfold oTup at ez
  split at ez
  · rename_i hl
    cases ez
    refine ⟨by rw [w1.length]; exact lim_sz hl, fun p np => q _ _ (upd B1 p (.tup xs)) _ ?_ (p1.trans (Stp.new p1.i np)) (.tup (.of upd_same) (w1.mono (same_new (p1.i.free np))))⟩
    show (f s).bind _ = _
    rw [e1]; show ofO _ = _; rw [oTup, if_pos hl]; rfl
  · cases ez
theorem snf_lst {ta : TA} {f : S → R (List D)} (ha : SndA K cl E Γ ta f) : SndF K cl E Γ (tLst ta) (mLst f) := fun B0 H0 pn σ s B H Q rel n q => by
  refine ha B0 H0 pn σ s B H _ rel n.bind fun ds xs B1 H1 e1 p1 w1 => ?_
  obtain ⟨z, ez⟩ := ofO_nb (n.next e1)
  unfold oLst at ez
  split at ez
  · rename_i hl
    cases ez
    refine ⟨by rw [w1.length]; exact lim_sz hl, fun p np => q (.lst ds) p B1 _ ?_ (p1.trans (Stp.own p1.i np)) ⟨⟨p1.i.free np, p1.h.free np⟩, xs, upd_same, w1⟩⟩
    show (f s).bind _ = _
    rw [e1]; show ofO _ = _; rw [oLst, if_pos hl]; rfl
  · cases ez
/-! ### tests -/
def asB : D → Option Bool
  | .bl b => some b
  | _ => none
def mTst (f : S → R D) (s : S) : R Bool := (f s).bind fun x => ofO (asB x)
theorem asB_some {d : D} {b : Bool} (h : asB d = some b) : d = .bl b := by
  cases d <;> simp [asB] at h
  subst h; rfl
theorem snt_test {te : TE} {f : S → R D} (ha : SndE K cl E Γ te f) : SndT K cl E Γ (tTest te) (mTst f) := fun B0 H0 pn σ s B H Q rel n q => by
  refine ha B0 H0 pn σ s B H _ rel n.bind fun d x B1 H1 e1 p1 w1 => ?_
  obtain ⟨b, eb⟩ := ofO_nb (n.next e1)
  have ed := asB_some eb
  subst ed
  cases w1
  refine ⟨b, rfl, q b B1 H1 ?_ p1⟩
  show (f s).bind _ = _
  rw [e1]; rfl
theorem snt_B {te : TE} {f : S → R D} (ha : SndE K cl E Γ te f) : SndT K cl E Γ (tB te) (mTst f) := snt_test ha
def mAnd (f g : S → R Bool) (s : S) : R Bool := (f s).bind fun b => if b then g s else .ok false
def mOr (f g : S → R Bool) (s : S) : R Bool := (f s).bind fun b => if b then .ok true else g s
def mNot (f : S → R Bool) (s : S) : R Bool := (f s).bind fun b => .ok (!b)
theorem snt_and {t u : TT} {f g : S → R Bool} (h1 : SndT K cl E Γ t f) (h2 : SndT K cl E Γ u g) : SndT K cl E Γ (tAnd t u) (mAnd f g) := fun B0 H0 pn σ s B H Q rel n q => by
  refine h1 B0 H0 pn σ s B H _ rel n.bind fun b B1 H1 e1 p1 => ?_
  have n1 := n.next e1
  cases b with
  | true =>
    refine iteT (h2 B0 H0 pn σ s B1 H1 _ (rel.mono p1) n1 fun c B2 H2 e2 p2 => q c B2 H2 ?_ (p1.trans p2))
    show (f s).bind _ = _
    rw [e1]; exact e2
  | false =>
    refine iteF (q false B1 H1 ?_ p1)
    show (f s).bind _ = _
    rw [e1]; rfl
theorem snt_or {t u : TT} {f g : S → R Bool} (h1 : SndT K cl E Γ t f) (h2 : SndT K cl E Γ u g) : SndT K cl E Γ (tOr t u) (mOr f g) := fun B0 H0 pn σ s B H Q rel n q => by
  refine h1 B0 H0 pn σ s B H _ rel n.bind fun b B1 H1 e1 p1 => ?_
  have n1 := n.next e1
  cases b with
  | false =>
    refine iteF (h2 B0 H0 pn σ s B1 H1 _ (rel.mono p1) n1 fun c B2 H2 e2 p2 => q c B2 H2 ?_ (p1.trans p2))
    show (f s).bind _ = _
    rw [e1]; exact e2
  | true =>
    refine iteT (q true B1 H1 ?_ p1)
    show (f s).bind _ = _
    rw [e1]; rfl
theorem snt_not {t : TT} {f : S → R Bool} (h1 : SndT K cl E Γ t f) : SndT K cl E Γ (tNot t) (mNot f) := fun B0 H0 pn σ s B H Q rel n q => by
  refine h1 B0 H0 pn σ s B H _ rel n.bind fun b B1 H1 e1 p1 => q _ B1 H1 ?_ p1
  show (f s).bind _ = _
  rw [e1]; rfl
/-- and, or, not as values of Bools -/
def mAndV (f g : S → R D) (s : S) : R D := (f s).bind fun x => (ofO (asB x)).bind fun b => if b then g s else .ok (.bl false)
def mOrV (f g : S → R D) (s : S) : R D := (f s).bind fun x => (ofO (asB x)).bind fun b => if b then .ok (.bl true) else g s
def mNotV (f : S → R D) (s : S) : R D := (f s).bind fun x => (ofO (asB x)).bind fun b => .ok (.bl (!b))
theorem snd_andV {ta tb : TE} {f g : S → R D} (h1 : SndE K cl E Γ ta f) (h2 : SndE K cl E Γ tb g) : SndE K cl E Γ (tAndV ta tb) (mAndV f g) := fun B0 H0 pn σ s B H Q rel n q => by
  refine h1 B0 H0 pn σ s B H _ rel n.bind fun d x B1 H1 e1 p1 w1 => ?_
  have n1 := n.next e1
  obtain ⟨b, eb⟩ := ofO_nb n1.bind
  have n2 := n1.next (a := b) (by rw [eb]; rfl)
  have ed := asB_some eb
  subst ed
  cases w1
  refine ⟨b, rfl, ?_⟩
  cases b with
  | true =>
    refine iteT (h2 B0 H0 pn σ s B1 H1 _ (rel.mono p1) n2 fun c v B2 H2 e2 p2 w2 => q c v B2 H2 ?_ (p1.trans p2) w2)
    show (f s).bind _ = _
    rw [e1]; exact e2
  | false =>
    refine iteF (q _ _ B1 H1 ?_ p1 (.bl false))
    show (f s).bind _ = _
    rw [e1]; rfl
theorem snd_orV {ta tb : TE} {f g : S → R D} (h1 : SndE K cl E Γ ta f) (h2 : SndE K cl E Γ tb g) : SndE K cl E Γ (tOrV ta tb) (mOrV f g) := fun B0 H0 pn σ s B H Q rel n q => by
  refine h1 B0 H0 pn σ s B H _ rel n.bind fun d x B1 H1 e1 p1 w1 => ?_
  have n1 := n.next e1
  obtain ⟨b, eb⟩ := ofO_nb n1.bind
  have n2 := n1.next (a := b) (by rw [eb]; rfl)
  have ed := asB_some eb
  subst ed
  cases w1
  refine ⟨b, rfl, ?_⟩
  cases b with
  | false =>
    refine iteF (h2 B0 H0 pn σ s B1 H1 _ (rel.mono p1) n2 fun c v B2 H2 e2 p2 w2 => q c v B2 H2 ?_ (p1.trans p2) w2)
    show (f s).bind _ = _
    rw [e1]; exact e2
  | true =>
    refine iteT (q _ _ B1 H1 ?_ p1 (.bl true))
    show (f s).bind _ = _
    rw [e1]; rfl
theorem snd_notV {ta : TE} {f : S → R D} (h1 : SndE K cl E Γ ta f) : SndE K cl E Γ (tNotV ta) (mNotV f) := fun B0 H0 pn σ s B H Q rel n q => by
  refine h1 B0 H0 pn σ s B H _ rel n.bind fun d x B1 H1 e1 p1 w1 => ?_
  have n1 := n.next e1
  obtain ⟨b, eb⟩ := ofO_nb n1.bind
  have ed := asB_some eb
  subst ed
  cases w1
  refine ⟨b, rfl, q _ _ B1 H1 ?_ p1 (.bl _)⟩
  show (f s).bind _ = _
  rw [e1]; rfl
def mIf (t : S → R Bool) (f g : S → R D) (s : S) : R D := (t s).bind fun b => if b then f s else g s
theorem snd_if {t : TT} {ta tb : TE} {c : S → R Bool} {f g : S → R D} (h : SndT K cl E Γ t c) (h1 : SndE K cl E Γ ta f) (h2 : SndE K cl E Γ tb g) : SndE K cl E Γ (tIf t ta tb) (mIf c f g) := fun B0 H0 pn σ s B H Q rel n q => by
  refine h B0 H0 pn σ s B H _ rel n.bind fun b B1 H1 e1 p1 => ?_
  have n1 := n.next e1
  cases b with
  | true =>
    refine iteT (h1 B0 H0 pn σ s B1 H1 _ (rel.mono p1) n1 fun c' v B2 H2 e2 p2 w2 => q c' v B2 H2 ?_ (p1.trans p2) w2)
    show (c s).bind _ = _
    rw [e1]; exact e2
  | false =>
    refine iteF (h2 B0 H0 pn σ s B1 H1 _ (rel.mono p1) n1 fun c' v B2 H2 e2 p2 w2 => q c' v B2 H2 ?_ (p1.trans p2) w2)
    show (c s).bind _ = _
    rw [e1]; exact e2
theorem BwL.one {vs : List V} (h : BwL K cl B H vs [d]) : ∃ v, vs = [v] ∧ Bw K cl B H v d := by
  cases h with
  | cons h r => cases r; exact ⟨_, rfl, h⟩
theorem BwL.two {vs : List V} {d' : D} (h : BwL K cl B H vs [d, d']) : ∃ v v', vs = [v, v'] ∧ Bw K cl B H v d ∧ Bw K cl B H v' d' := by
  cases h with
  | cons h r =>
    cases r with
    | cons h' r => cases r; exact ⟨_, _, rfl, h, h'⟩
end
end Dl

namespace Dl
open PySem PySem.Spec PyProof.Rows L2

/-! ### statements -/
inductive Rs where
  | nx (s : S)
  | ret (d : D)
  | brk (s : S)
  | ct (s : S)
  | exc (c : Nat) (fs : List (Str × D))
  | bad
section
variable (K : PySem.W.Frag) (cl : Nat → Addr) (E : XK)
/-- fr: what is returned is new and owned; Bm: the base so far -/
def Post (fr : Bool) (Γ' Γl : List Nat) (B0 H0 : Hp) (pn : List (Nat × Addr)) (Bm : Hp) (W : Ends) : Rs → Prop
  | .nx s' => ∀ σ' B' H', Same Bm B' → RelS K cl Γ' B0 H0 pn σ' s' B' H' → W.nx σ' H'
  | .ret d => (fr = true ∧ ∀ a B' H', Stp B0 H0 B' H' → Own1 K cl (Nw B' H0) B' H' a d → W.rt (.ref a) H') ∨ (fr = false ∧ ∀ v B' H', Stp B0 H0 B' H' → Rep K cl B' v d → W.rt v H')
  | .brk s' => ∀ σ' B' H', Same Bm B' → RelS K cl Γl B0 H0 pn σ' s' B' H' → W.bk σ' H'
  | .ct s' => ∀ σ' B' H', Same Bm B' → RelS K cl Γl B0 H0 pn σ' s' B' H' → W.ct σ' H'
  | .exc c fs => ExcOk K cl E B0 H0 c fs
  | .bad => False
def SndS (fr : Bool) (Ω Γ Γ' Γl : List Nat) (t : TS) (m : S → Rs) : Prop := ∀ B0 H0 pn σ s B H (W : Ends), pn.map (·.1) = Ω → RelS K cl Γ B0 H0 pn σ s B H → Post K cl E fr Γ' Γl B0 H0 pn B W (m s) → t W σ H
def SndG (Γ : List Nat) (g : TG) (m : D → S → Option S) : Prop := ∀ B0 H0 pn σ s B H x d s' (Q : Slots → Hp → Prop), RelS K cl Γ B0 H0 pn σ s B H → Rep K cl B x d → m d s = some s' → (∀ σ', RelS K cl Γ B0 H0 pn σ' s' B H → Q σ' H) → g x σ H Q
def SndGs (Γ : List Nat) (g : TGs) (m : List D → S → Option S) : Prop := ∀ B0 H0 pn σ s B H xs ds s' (Q : Slots → Hp → Prop), RelS K cl Γ B0 H0 pn σ s B H → RepL K cl B xs ds → m ds s = some s' → (∀ σ', RelS K cl Γ B0 H0 pn σ' s' B H → Q σ' H) → g xs σ H Q
/-- what is walked: the items ds, whatever comes to stand beside -/
def Iters (J : It) (ds : List D) (B : Hp) : Prop := ∀ i B2 H2, Same B B2 → Same B2 H2 →
  (∀ d, ds[i]? = some d → J.go i H2 ∧ ∀ x H3, J.yld i H2 x H3 → ∃ B3, Stp B2 H2 B3 H3 ∧ Rep K cl B3 x d) ∧ (ds[i]? = none → J.stop i H2)
def SndI (Γ : List Nat) (wi : TI) (m : S → R (List D)) : Prop := ∀ B0 H0 pn σ s B H (Q : It → Hp → Prop), RelS K cl Γ B0 H0 pn σ s B H → Nb K cl E B0 H0 (m s) → (∀ ds J B' H', m s = .ok ds → Stp B H B' H' → Iters K cl J ds B' → Q J H') → wi σ H Q
end
def toS {α : Type} (x : R α) (f : α → Rs) : Rs := match x with
  | .ok a => f a
  | .exc c fs => .exc c fs
  | .bad => .bad
@[simp] theorem toS_ok {α : Type} (a : α) (f : α → Rs) : toS (.ok a) f = f a := (rfl)
@[simp] theorem toS_bad {α : Type} (f : α → Rs) : toS .bad f = .bad := (rfl)
def oS (x : Option S) (f : S → Rs) : Rs := match x with
  | some a => f a
  | none => .bad
@[simp] theorem oS_some (a : S) (f : S → Rs) : oS (some a) f = f a := (rfl)
section
variable {K : PySem.W.Frag} {cl : Nat → Addr} {E : XK} {fr : Bool} {Ω Γ Γ' Γ2 Γl : List Nat} {pn : List (Nat × Addr)} {B H B' H' B0 H0 Bm Bm' : Hp} {v : V} {d : D}
theorem Post.nb {α : Type} {W : Ends} {x : R α} {f : α → Rs} (h : Post K cl E fr Γ' Γl B0 H0 pn Bm W (toS x f)) : Nb K cl E B0 H0 x := by
  cases x with
  | ok a => trivial
  | exc c fs => exact h
  | bad => exact h
theorem Post.next {α : Type} {W : Ends} {x : R α} {f : α → Rs} {a : α} (h : Post K cl E fr Γ' Γl B0 H0 pn Bm W (toS x f)) (e : x = .ok a) : Post K cl E fr Γ' Γl B0 H0 pn Bm W (f a) := by
  subst e; exact h
theorem Post.oS {W : Ends} {x : Option S} {f : S → Rs} (h : Post K cl E fr Γ' Γl B0 H0 pn Bm W (oS x f)) : ∃ a, x = some a ∧ Post K cl E fr Γ' Γl B0 H0 pn Bm W (f a) := by
  cases x with
  | some a => exact ⟨a, rfl, h⟩
  | none => exact h.elim
theorem Post.up {W : Ends} {r : Rs} (h : Post K cl E fr Γ' Γl B0 H0 pn Bm W r) (e : Same Bm Bm') : Post K cl E fr Γ' Γl B0 H0 pn Bm' W r := by
  cases r with
  | nx s => exact fun σ' B' H' z => h σ' B' H' (e.trans z)
  | brk s => exact fun σ' B' H' z => h σ' B' H' (e.trans z)
  | ct s => exact fun σ' B' H' z => h σ' B' H' (e.trans z)
  | ret d => exact h
  | exc c fs => exact h
  | bad => exact h
/-- a step's end, then the rest -/
def mSeq (m n : S → Rs) (s : S) : Rs := match m s with
  | .nx s' => n s'
  | r => r
theorem sns_seq {t u : TS} {m n : S → Rs} (h1 : SndS K cl E fr Ω Γ Γ2 Γl t m) (h2 : SndS K cl E fr Ω Γ2 Γ' Γl u n) : SndS K cl E fr Ω Γ Γ' Γl (tSeq t u) (mSeq m n) := fun B0 H0 pn σ s B H W hΩ rel p => by
  refine h1 B0 H0 pn σ s B H _ hΩ rel ?_
  have p' : Post K cl E fr Γ' Γl B0 H0 pn B W (match m s with | .nx s' => n s' | r => r) := p
  cases e : m s with
  | nx s' =>
    rw [e] at p'
    exact fun σ' B' H' z rel' => h2 B0 H0 pn σ' s' B' H' W hΩ rel' (p'.up z)
  | ret d => rw [e] at p'; exact p'
  | brk s' => rw [e] at p'; exact p'
  | ct s' => rw [e] at p'; exact p'
  | exc c fs => rw [e] at p'; exact p'
  | bad => rw [e] at p'; exact p'
def mNx (s : S) : Rs := .nx s
def mBrk (s : S) : Rs := .brk s
def mCt (s : S) : Rs := .ct s
theorem sns_next : SndS K cl E fr Ω Γ Γ Γl tNext mNx := fun B0 H0 pn σ s B H W hΩ rel p => p σ B H (Same.refl _) rel
theorem sns_break : SndS K cl E fr Ω Γ Γ' Γ tBreak mBrk := fun B0 H0 pn σ s B H W hΩ rel p => p σ B H (Same.refl _) rel
theorem sns_cont : SndS K cl E fr Ω Γ Γ' Γ tCont mCt := fun B0 H0 pn σ s B H W hΩ rel p => p σ B H (Same.refl _) rel
/-- slot i told for good, ahead of t -/
theorem sns_frz {t : TS} {m : S → Rs} (i : Nat) (hi : i ∈ Γ) (ho : i ∉ Ω) (h : SndS K cl E fr Ω (Γ.filter (· ≠ i)) Γ' Γl t m) : SndS K cl E fr Ω Γ Γ' Γl t m := fun B0 H0 pn σ s B H W hΩ rel p => by
  obtain ⟨B', b, r⟩ := rel.freeze i hi (by rw [hΩ]; exact ho)
  exact h B0 H0 pn σ s B' H W hΩ r (p.up b)
/-- the same behind t -/
theorem sns_frzB {t : TS} {m : S → Rs} (i : Nat) (hi : i ∈ Γ') (ho : i ∉ Ω) (h : SndS K cl E fr Ω Γ Γ' Γl t m) : SndS K cl E fr Ω Γ (Γ'.filter (· ≠ i)) Γl t m := fun B0 H0 pn σ s B H W hΩ rel p => by
  refine h B0 H0 pn σ s B H W hΩ rel ?_
  cases e : m s with
  | nx s' =>
    rw [e] at p
    exact fun σ' B' H' z r => by
      obtain ⟨B2, b2, r2⟩ := r.freeze i hi (by rw [hΩ]; exact ho)
      exact p σ' B2 H' (z.trans b2) r2
  | ret d => rw [e] at p; exact p
  | brk s' => rw [e] at p; exact p
  | ct s' => rw [e] at p; exact p
  | exc c fs => rw [e] at p; exact p
  | bad => rw [e] at p; exact p
/-- an order of the owned slots -/
theorem RelS.perm {σ : Slots} {s : S} (h : ∀ i, i ∈ Γ' ↔ i ∈ Γ) (r : RelS K cl Γ B0 H0 pn σ s B H) : RelS K cl Γ' B0 H0 pn σ s B H :=
  ⟨r.stp, r.len, fun i d hi e => r.dat i d (fun z => hi ((h i).mpr z)) e, fun i d hi e => r.own i d ((h i).mp hi) e, fun i j d d' a hi hj => r.sep i j d d' a ((h i).mp hi) ((h j).mp hj), fun p hp => ⟨(h p.1).mpr (r.pin p hp).1, (r.pin p hp).2⟩⟩
theorem sns_perm {t : TS} {m : S → Rs} (Γ1 : List Nat) (hp : ∀ i, i ∈ Γ1 ↔ i ∈ Γ) (h : SndS K cl E fr Ω Γ1 Γ' Γl t m) : SndS K cl E fr Ω Γ Γ' Γl t m := fun B0 H0 pn σ s B H W hΩ rel p => h B0 H0 pn σ s B H W hΩ (rel.perm hp) p

/-! ### assignments -/
def mAsg (f : S → R D) (g : D → S → Option S) (s : S) : Rs := toS (f s) fun d => oS (g d s) .nx
def mgName (i : Nat) (d : D) (s : S) : Option S := some (s.set i (some d))
theorem sng_name {i : Nat} (hi : i ∉ Γ) : SndG K cl Γ (gName i) (mgName i) := fun B0 H0 pn σ s B H x d s' Q rel w e q => by
  cases e
  exact q _ (rel.set w hi)
def mgNil (ds : List D) (s : S) : Option S := match ds with
  | [] => some s
  | _ => none
def mgCons (g : D → S → Option S) (h : List D → S → Option S) (ds : List D) (s : S) : Option S := match ds with
  | [] => none
  | d :: ds => (g d s).bind fun s' => h ds s'
def mgTup (g : List D → S → Option S) (n : Nat) (d : D) (s : S) : Option S := match d with
  | .tup ds => if ds.length = n then g ds s else none
  | _ => none
theorem sngs_nil : SndGs K cl Γ gNil mgNil := fun B0 H0 pn σ s B H xs ds s' Q rel w e q => by
  cases w with
  | nil => cases e; exact ⟨rfl, q _ rel⟩
  | cons _ _ => cases e
theorem sngs_cons {g : TG} {gs : TGs} {m : D → S → Option S} {ms : List D → S → Option S} (h1 : SndG K cl Γ g m) (h2 : SndGs K cl Γ gs ms) : SndGs K cl Γ (gCons g gs) (mgCons m ms) := fun B0 H0 pn σ s B H xs ds s' Q rel w e q => by
  cases w with
  | nil => cases e
  | cons w1 w2 =>
    rename_i x xs' d ds'
    have e' : (m d s).bind (fun s' => ms ds' s') = some s' := e
    cases em : m d s with
    | some s1 =>
      rw [em] at e'
      exact ⟨x, xs', rfl, h1 B0 H0 pn σ s B H x d s1 _ rel w1 em fun σ1 rel1 => h2 B0 H0 pn σ1 s1 B H xs' ds' s' Q rel1 w2 e' q⟩
    | none => rw [em] at e'; cases e'
theorem sng_tup {gs : TGs} {ms : List D → S → Option S} {n : Nat} (h : SndGs K cl Γ gs ms) : SndG K cl Γ (gTup K n gs) (mgTup ms n) := fun B0 H0 pn σ s B H x d s' Q rel w e q => by
  cases w with
  | tup h1 h2 =>
    have e' : (if _ = n then _ else none) = some s' := e
    split at e'
    · rename_i hl
      exact ⟨_, _, rfl, same_t rel.same h1, h2.length.trans hl, h B0 H0 pn σ s B H _ _ s' Q rel h2 e' q⟩
    · cases e'
  | _ => cases e
theorem sns_asg {te : TE} {g : TG} {f : S → R D} {mg : D → S → Option S} (h : SndE K cl E Γ te f) (hg : SndG K cl Γ g mg) : SndS K cl E fr Ω Γ Γ Γl (tAsg te g) (mAsg f mg) := fun B0 H0 pn σ s B H W hΩ rel p => by
  refine h B0 H0 pn σ s B H _ rel p.nb fun d v B1 H1 e1 p1 w1 => ?_
  obtain ⟨s', em, p3⟩ := (p.next e1).oS
  exact hg B0 H0 pn σ s B1 H1 v d s' _ (rel.mono p1) w1 em fun σ' rel' => p3 σ' B1 H1 p1.b rel'
/-- x = e, e new: x owns it -/
theorem sns_asgF {te : TE} {i : Nat} {f : S → R D} (h : SndF K cl E Γ te f) (hi : i ∉ Γ) : SndS K cl E fr Ω Γ (i :: Γ) Γl (tAsg te (gName i)) (mAsg f (mgName i)) := fun B0 H0 pn σ s B H W hΩ rel p => by
  refine h B0 H0 pn σ s B H _ rel p.nb fun d a B1 H1 e1 p1 w1 => ?_
  obtain ⟨s', em, p2⟩ := (p.next e1).oS
  cases em
  have rel1 := rel.mono p1
  refine p2 _ B1 H1 p1.b (rel1.setOwn (w1.carry (Same.refl _) fun b o ff _ z => ⟨z, ff.1, rel.stp.h.free ff.2⟩) hi fun j d' hj e e' => ?_)
  obtain ⟨a', h1, h2⟩ := rel.own j d' hj e
  rw [e'] at h1
  cases h1
  obtain ⟨_, o, eo, _⟩ := h2.at
  rw [w1.at.1.2] at eo
  cases eo
/-- x op= e -/
theorem sns_aug {i : Nat} {te : TE} {ti : TIp} {f : S → R D} {g : D → D → Option D} (hi : i ∉ Γ) (hr : Op2 K cl ti g) (h : SndB K cl E Γ te f) : SndS K cl E fr Ω Γ Γ Γl (tAug i te ti) (mAsg (mOp g (mVar i) f) (mgName i)) := fun B0 H0 pn σ s B H W hΩ rel p => by
  have n : Nb K cl E B0 H0 ((mVar i s).bind fun x => (f s).bind fun y => ofO (g x y)) := p.nb
  obtain ⟨d0, e0⟩ := mVar_nb n.bind
  obtain ⟨v0, h1, h2⟩ := rel.dat i d0 hi (mVar_ok e0)
  have n1 := n.next e0
  refine ⟨v0, h1, h B0 H0 pn σ s B H _ rel n1.bind fun e y B1 H1 e1 p1 w1 => ?_⟩
  obtain ⟨z, ez⟩ := ofO_nb (n1.next e1)
  refine hr B1 H1 v0 y d0 e z _ p1.i (.inl (h2.mono p1.b)) w1 ez fun v B2 H2 p2 w2 => ?_
  have e3 : mOp g (mVar i) f s = .ok z := by
    show (mVar i s).bind _ = _
    rw [e0]; show (f s).bind _ = _; rw [e1]; show ofO _ = _; rw [ez]; rfl
  obtain ⟨s', em, p3⟩ := (p.next e3).oS
  cases em
  exact p3 _ B2 H2 (p1.trans p2).b ((rel.mono (p1.trans p2)).set w2 hi)
/-! ### return, if, an expression alone -/
def mRet (f : S → R D) (s : S) : Rs := toS (f s) .ret
theorem sns_ret {te : TE} {f : S → R D} (h : SndE K cl E Γ te f) : SndS K cl E false Ω Γ Γ' Γl (tRet te) (mRet f) := fun B0 H0 pn σ s B H W hΩ rel p => by
  refine h B0 H0 pn σ s B H _ rel p.nb fun d v B1 H1 e1 p1 w1 => ?_
  rcases p.next e1 with ⟨z, _⟩ | ⟨_, q⟩
  · cases z
  · exact q v B1 H1 (rel.stp.trans p1) w1
theorem sns_retF {te : TE} {f : S → R D} (h : SndF K cl E Γ te f) : SndS K cl E true Ω Γ Γ' Γl (tRet te) (mRet f) := fun B0 H0 pn σ s B H W hΩ rel p => by
  refine h B0 H0 pn σ s B H _ rel p.nb fun d a B1 H1 e1 p1 w1 => ?_
  rcases p.next e1 with ⟨_, q⟩ | ⟨z, _⟩
  · exact q a B1 H1 (rel.stp.trans p1) (w1.carry (Same.refl _) fun b o ff _ z => ⟨z, ff.1, rel.stp.h.free ff.2⟩)
  · cases z
/-- return of an owned name -/
theorem sns_retO {i : Nat} (hi : i ∈ Γ) : SndS K cl E true Ω Γ Γ' Γl (tRet (tVar i)) (mRet (mVar i)) := fun B0 H0 pn σ s B H W hΩ rel p => by
  obtain ⟨d0, e0⟩ := mVar_nb p.nb
  obtain ⟨a, h1, h2⟩ := rel.own i d0 hi (mVar_ok e0)
  rcases p.next e0 with ⟨_, q⟩ | ⟨z, _⟩
  · exact ⟨.ref a, h1, q a B H rel.stp h2⟩
  · cases z
def mRetN (_ : S) : Rs := .ret .non
theorem sns_retN : SndS K cl E false Ω Γ Γ' Γl tRetN mRetN := fun B0 H0 pn σ s B H W hΩ rel p => by
  rcases p with ⟨z, _⟩ | ⟨_, q⟩
  · cases z
  · exact q .non B H rel.stp .non
def mIfS (c : S → R Bool) (f g : S → Rs) (s : S) : Rs := toS (c s) fun b => if b then f s else g s
theorem sns_if {c : TT} {t u : TS} {mc : S → R Bool} {f g : S → Rs} (h : SndT K cl E Γ c mc) (h1 : SndS K cl E fr Ω Γ Γ' Γl t f) (h2 : SndS K cl E fr Ω Γ Γ' Γl u g) : SndS K cl E fr Ω Γ Γ' Γl (tIfS c t u) (mIfS mc f g) := fun B0 H0 pn σ s B H W hΩ rel p => by
  refine h B0 H0 pn σ s B H _ rel p.nb fun b B1 H1 e1 p1 => ?_
  have p2 := p.next e1
  cases b with
  | true => exact iteT (h1 B0 H0 pn σ s B1 H1 W hΩ (rel.mono p1) (p2.up p1.b))
  | false => exact iteF (h2 B0 H0 pn σ s B1 H1 W hΩ (rel.mono p1) (p2.up p1.b))
def mDrop (f : S → R D) (s : S) : Rs := toS (f s) fun _ => .nx s
theorem sns_drop {te : TE} {f : S → R D} (h : SndE K cl E Γ te f) : SndS K cl E fr Ω Γ Γ Γl (tDrop te) (mDrop f) := fun B0 H0 pn σ s B H W hΩ rel p => by
  refine h B0 H0 pn σ s B H _ rel p.nb fun d v B1 H1 e1 p1 w1 => ?_
  exact p.next e1 σ B1 H1 p1.b (rel.mono p1)

/-! ### loops -/
/-- behind a turn -/
def turnF (k : S → Rs) : Rs → Rs
  | .nx s => k s
  | .ct s => k s
  | .brk s => .nx s
  | r => r
def loopF (g : D → S → Option S) (body : S → Rs) : List D → S → Rs
  | [], s => .nx s
  | d :: ds, s => oS (g d s) fun s1 => turnF (loopF g body ds) (body s1)
def mFor (mi : S → R (List D)) (g : D → S → Option S) (body : S → Rs) (s : S) : Rs := toS (mi s) fun ds => loopF g body ds s
theorem sns_for {wi : TI} {g : TG} {tb : TS} {mi : S → R (List D)} {mg : D → S → Option S} {mb : S → Rs} (hi : SndI K cl E Γ wi mi) (hg : SndG K cl Γ g mg) (hb : SndS K cl E fr Ω Γ Γ Γ tb mb) : SndS K cl E fr Ω Γ Γ Γl (tFor wi g tb) (mFor mi mg mb) := fun B0 H0 pn σ s B H W hΩ rel p => by
  refine hi B0 H0 pn σ s B H _ rel p.nb fun ds J B1 H1 e1 p1 it => ?_
  have p2 : Post K cl E fr Γ Γl B0 H0 pn B W (loopF mg mb ds s) := p.next e1
  refine ⟨fun i m σ H => m = ds.length - i ∧ ∃ s' B2, Same B1 B2 ∧ RelS K cl Γ B0 H0 pn σ s' B2 H ∧ Post K cl E fr Γ Γl B0 H0 pn B2 W (loopF mg mb (ds.drop i) s'), ⟨_, rfl, s, B1, Same.refl _, rel.mono p1, p2.up p1.b⟩, ?_⟩
  rintro i m σ2 H2 ⟨rfl, s2, B2, b2, rel2, q2⟩
  have k := it i B2 H2 b2 rel2.same
  cases ed : ds[i]? with
  | none =>
    have hl : ds.length ≤ i := List.getElem?_eq_none_iff.mp ed
    rw [List.drop_eq_nil_of_le hl] at q2
    exact .inl ⟨k.2 ed, q2 σ2 B2 H2 (Same.refl _) rel2⟩
  | some d =>
    obtain ⟨hl, ed'⟩ := List.getElem?_eq_some_iff.mp ed
    rw [List.drop_eq_getElem_cons hl, ed'] at q2
    have q3 : Post K cl E fr Γ Γl B0 H0 pn B2 W (oS (mg d s2) fun s1 => turnF (loopF mg mb (ds.drop (i + 1))) (mb s1)) := q2
    obtain ⟨s3, em, q4⟩ := q3.oS
    obtain ⟨go, yl⟩ := k.1 d ed
    refine .inr ⟨go, fun σ' H' => ∃ s' B3, Same B1 B3 ∧ RelS K cl Γ B0 H0 pn σ' s' B3 H' ∧ Post K cl E fr Γ Γl B0 H0 pn B3 W (loopF mg mb (ds.drop (i + 1)) s'), fun σ' H' z => ⟨ds.length - (i + 1), by omega, rfl, z⟩, fun x H3 y => ?_⟩
    obtain ⟨B3, p3, w3⟩ := yl x H3 y
    refine hg B0 H0 pn σ2 s2 B3 H3 x d s3 _ (rel2.mono p3) w3 em fun σ3 rel3 => hb B0 H0 pn σ3 s3 B3 H3 _ hΩ rel3 ?_
    cases eb : mb s3 with
    | nx s4 =>
      rw [eb] at q4
      exact fun σ' B' H' z r => ⟨s4, B', (b2.trans p3.b).trans z, r, q4.up (p3.b.trans z)⟩
    | ct s4 =>
      rw [eb] at q4
      exact fun σ' B' H' z r => ⟨s4, B', (b2.trans p3.b).trans z, r, q4.up (p3.b.trans z)⟩
    | brk s4 =>
      rw [eb] at q4
      exact fun σ' B' H' z r => q4 σ' B' H' (p3.b.trans z) r
    | ret d => rw [eb] at q4; exact q4
    | exc c fs => rw [eb] at q4; exact q4
    | bad => rw [eb] at q4; exact q4
/-- while, with fuel -/
def loopW (c : S → R Bool) (body : S → Rs) : Nat → S → Rs
  | 0, _ => .bad
  | n + 1, s => toS (c s) fun b => if b then turnF (loopW c body n) (body s) else .nx s
def FUEL : Nat := 1000000
def mWhile (c : S → R Bool) (body : S → Rs) (s : S) : Rs := loopW c body FUEL s
theorem sns_while {c : TT} {tb : TS} {mc : S → R Bool} {mb : S → Rs} (hc : SndT K cl E Γ c mc) (hb : SndS K cl E fr Ω Γ Γ Γ tb mb) : SndS K cl E fr Ω Γ Γ Γl (tWhile c tb) (mWhile mc mb) := fun B0 H0 pn σ s B H W hΩ rel p => by
  refine ⟨fun m σ H => ∃ s' B2, Same B B2 ∧ RelS K cl Γ B0 H0 pn σ s' B2 H ∧ Post K cl E fr Γ Γl B0 H0 pn B2 W (loopW mc mb m s'), ⟨FUEL, s, B, Same.refl _, rel, p⟩, ?_⟩
  rintro m σ2 H2 ⟨s2, B2, b2, rel2, q2⟩
  cases m with
  | zero => exact q2.elim
  | succ m =>
    have q3 : Post K cl E fr Γ Γl B0 H0 pn B2 W (toS (mc s2) fun b => if b then turnF (loopW mc mb m) (mb s2) else .nx s2) := q2
    refine hc B0 H0 pn σ2 s2 B2 H2 _ rel2 q3.nb fun b B3 H3 e3 p3 => ?_
    have q4 := q3.next e3
    cases b with
    | false => exact iteF (q4 σ2 B3 H3 p3.b (rel2.mono p3))
    | true =>
      have q5 : Post K cl E fr Γ Γl B0 H0 pn B2 W (turnF (loopW mc mb m) (mb s2)) := q4
      refine iteT ⟨fun σ' H' => ∃ s' B3, Same B B3 ∧ RelS K cl Γ B0 H0 pn σ' s' B3 H' ∧ Post K cl E fr Γ Γl B0 H0 pn B3 W (loopW mc mb m s'), fun σ' H' z => ⟨m, Nat.lt_succ_self _, z⟩, hb B0 H0 pn σ2 s2 B3 H3 _ hΩ (rel2.mono p3) ?_⟩
      cases eb : mb s2 with
      | nx s4 =>
        rw [eb] at q5
        exact fun σ' B' H' z r => ⟨s4, B', (b2.trans p3.b).trans z, r, q5.up (p3.b.trans z)⟩
      | ct s4 =>
        rw [eb] at q5
        exact fun σ' B' H' z r => ⟨s4, B', (b2.trans p3.b).trans z, r, q5.up (p3.b.trans z)⟩
      | brk s4 =>
        rw [eb] at q5
        exact fun σ' B' H' z r => q5 σ' B' H' (p3.b.trans z) r
      | ret d => rw [eb] at q5; exact q5
      | exc c fs => rw [eb] at q5; exact q5
      | bad => rw [eb] at q5; exact q5
end
end Dl

namespace Dl
open PySem PySem.Spec PyProof.Rows L2

/-! ### a piece of syntax with its mirror -/
structure DE (X : Cx) (cl : Nat → Addr) (E : XK) (Γ : List Nat) (e : Expr) (m : S → R D) : Prop where
  ex : ∃ t, PE X e t ∧ SndE X.K cl E Γ t m
structure DB (X : Cx) (cl : Nat → Addr) (E : XK) (Γ : List Nat) (e : Expr) (m : S → R D) : Prop where
  ex : ∃ t, PE X e t ∧ SndB X.K cl E Γ t m
structure DF (X : Cx) (cl : Nat → Addr) (E : XK) (Γ : List Nat) (e : Expr) (m : S → R D) : Prop where
  ex : ∃ t, PE X e t ∧ SndF X.K cl E Γ t m
structure DT (X : Cx) (cl : Nat → Addr) (E : XK) (Γ : List Nat) (e : Expr) (m : S → R Bool) : Prop where
  ex : ∃ t, PT X e t ∧ SndT X.K cl E Γ t m
structure DW (X : Cx) (cl : Nat → Addr) (E : XK) (Γ : List Nat) (e : Expr) (m : S → R Bool) : Prop where
  ex : ∃ t, PW X e t ∧ SndT X.K cl E Γ t m
structure DA (X : Cx) (cl : Nat → Addr) (E : XK) (Γ : List Nat) (es : List Expr) (m : S → R (List D)) : Prop where
  ex : ∃ t, PA X es t ∧ SndA X.K cl E Γ t m
structure DAB (X : Cx) (cl : Nat → Addr) (E : XK) (Γ : List Nat) (es : List Expr) (m : S → R (List D)) : Prop where
  ex : ∃ t, PA X es t ∧ SndAB X.K cl E Γ t m
structure DG (X : Cx) (cl : Nat → Addr) (Γ : List Nat) (tg : Expr) (m : D → S → Option S) : Prop where
  ex : ∃ g, PG X tg g ∧ SndG X.K cl Γ g m
structure DGs (X : Cx) (cl : Nat → Addr) (Γ : List Nat) (tgs : List Expr) (m : List D → S → Option S) : Prop where
  ex : ∃ g, PGs X tgs g ∧ SndGs X.K cl Γ g m
structure DI (X : Cx) (cl : Nat → Addr) (E : XK) (Γ : List Nat) (tg it : Expr) (m : S → R (List D)) : Prop where
  ex : ∃ wi, PI X tg it wi ∧ SndI X.K cl E Γ wi m
structure DS (X : Cx) (cl : Nat → Addr) (E : XK) (fr : Bool) (Ω Γ Γ' Γl : List Nat) (st : Stmt) (m : S → Rs) : Prop where
  ex : ∃ t, PS X st t ∧ SndS X.K cl E fr Ω Γ Γ' Γl t m
structure DSs (X : Cx) (cl : Nat → Addr) (E : XK) (fr : Bool) (Ω Γ Γ' Γl : List Nat) (st : List Stmt) (m : S → Rs) : Prop where
  ex : ∃ t, PSs X st t ∧ SndS X.K cl E fr Ω Γ Γ' Γl t m

/-! ### the operators on data -/
def oAdd : D → D → Option D
  | .int i, .int j => some (.int (i + j))
  | .str x, .str y => if x.length + y.length ≤ LIM then some (.str (x ++ y)) else none
  | .lst xs, .lst ys => if xs.length + ys.length ≤ LIM then some (.lst (xs ++ ys)) else none
  | .tup xs, .tup ys => if xs.length + ys.length ≤ LIM then some (.tup (xs ++ ys)) else none
  | _, _ => none
def oCat : D → D → Option D
  | .lst xs, .lst ys => if xs.length + ys.length ≤ LIM then some (.lst (xs ++ ys)) else none
  | _, _ => none
def oSub : D → D → Option D
  | .int i, .int j => some (.int (i - j))
  | _, _ => none
instance (i j : Int) : Decidable (CMul i j) := by unfold CMul; infer_instance
/-- // by any number that is not 0 -/
def CD (_ j : Int) : Prop := j ≠ 0 ∧ j.natAbs < 2 ^ 512
instance (i j : Int) : Decidable (CD i j) := by unfold CD; infer_instance
theorem op_fdivD {X : Cx} : OpR X (binaryOp .FloorDiv) (rI CD fun i j => .int (i.fdiv j)) := opI fun i j _ _ _ _ _ hc q => by
  have h0 : j.natAbs ≠ 0 := fun z => hc.1 (Int.natAbs_eq_zero.mp z)
  have h1 : j.natAbs.log2 < 512 := (Nat.log2_lt h0).mpr hc.2
  exact floordiv_int hc.1 q (.inl (PyProof.noPylong_of_log2 (Nat.lt_trans h1 (by decide))))
instance (i j : Int) : Decidable (CPow i j) := by unfold CPow; infer_instance
def oMul : D → D → Option D
  | .int i, .int j => if CMul i j then some (.int (i * j)) else none
  | _, _ => none
def oFdiv : D → D → Option D
  | .int i, .int j => if CD i j then some (.int (i.fdiv j)) else none
  | _, _ => none
def oMod : D → D → Option D
  | .int i, .int j => if j ≠ 0 then some (.int (i.fmod j)) else none
  | _, _ => none
def oPow : D → D → Option D
  | .int i, .int j => if CPow i j then some (.int (i ^ j.toNat)) else none
  | _, _ => none
def oLt : D → D → Option D
  | .int i, .int j => some (.bl (decide (i < j)))
  | .str x, .str y => some (.bl (decide (x.cps.toList < y.cps.toList)))
  | _, _ => none
def oLe : D → D → Option D
  | .int i, .int j => some (.bl (decide (i ≤ j)))
  | _, _ => none
def oGt : D → D → Option D
  | .int i, .int j => some (.bl (decide (j < i)))
  | _, _ => none
def oGe : D → D → Option D
  | .int i, .int j => some (.bl (decide (j ≤ i)))
  | _, _ => none
def oNeg : D → Option D
  | .int i => some (.int (-i))
  | _ => none
/-- is, is not: None and bools -/
def oIs : D → D → Option D
  | .non, .non => some (.bl true)
  | .bl _, .non => some (.bl false)
  | .int _, .non => some (.bl false)
  | .str _, .non => some (.bl false)
  | .lst _, .non => some (.bl false)
  | .tup _, .non => some (.bl false)
  | .dict _, .non => some (.bl false)
  | .obj _ _, .non => some (.bl false)
  | .bl a, .bl b => some (.bl (a == b))
  | _, _ => none
def oIsNot (x y : D) : Option D := (oIs x y).bind fun d => match d with
  | .bl b => some (.bl (!b))
  | _ => none
mutual
def toP : D → Option PyData
  | .non => some .none
  | .bl b => some (.bool b)
  | .int i => some (.int i)
  | .str x => some (.str x)
  | .lst xs => (toPs xs).bind fun ps => some (.list ps)
  | .tup xs => (toPs xs).bind fun ps => some (.tuple ps)
  | _ => none
def toPs : List D → Option (List PyData)
  | [] => some []
  | d :: ds => (toP d).bind fun p => (toPs ds).bind fun ps => some (p :: ps)
end
def oEqB (x y : D) : Option Bool := (toP x).bind fun p => (toP y).bind fun q => if SeqAt.shaped p = true ∧ SeqAt.shaped q = true then some (PyData.eqv p q) else none
def oEq (x y : D) : Option D := (oEqB x y).bind fun b => some (.bl b)
def oNe (x y : D) : Option D := (oEqB x y).bind fun b => some (.bl (!b))
/-- x in y -/
def oInB (x y : D) : Option Bool := match y with
  | .lst ys => (toP x).bind fun p => (toPs ys).bind fun qs => if SeqAt.shaped p = true ∧ SeqAt.shaped (.list qs) = true then some (qs.any fun z => PyData.eqv z p) else none
  | _ => none
def oIn (x y : D) : Option D := (oInB x y).bind fun b => some (.bl b)
def oNotIn (x y : D) : Option D := (oInB x y).bind fun b => some (.bl (!b))
def oIx : D → D → Option D
  | .lst xs, .int i => atI xs i
  | .tup xs, .int i => atI xs i
  | .str z, .int i => if z.length ≤ LIM then (atI z.cps.toList i).bind fun c => some (.str ⟨#[c]⟩) else none
  | .scr ns, .int i => (atI ns i).bind fun n => some (.int n)
  | _, _ => none

section
variable {K : PySem.W.Frag} {cl : Nat → Addr} {E : XK} {Γ : List Nat} {B H B' H' B0 H0 : Hp} {v : V} {d : D}
mutual
theorem Rep.dp (e : Same B H) : ∀ {d : D} {v : V} {p : PyData}, Rep K cl B v d → toP d = some p → Dp K H v p
  | .non, _, _, .non, h => by cases h; exact .non
  | .bl b, _, _, .bl _, h => by cases h; exact .bl b
  | .int i, _, _, .int _, h => by cases h; exact .int i
  | .str x, _, _, .str _, h => by cases h; exact .str x
  | .lst ds, _, p, .lst h1 h2, h => by
    have h' : (toPs ds).bind (fun ps => some (PyData.list ps)) = some p := h
    cases e2 : toPs ds with
    | none => rw [e2] at h'; cases h'
    | some ps =>
      rw [e2] at h'
      cases h'
      exact .lst (.of (e _ _ h1)) (RepL.dp e h2 e2)
  | .tup ds, _, p, .tup h1 h2, h => by
    have h' : (toPs ds).bind (fun ps => some (PyData.tuple ps)) = some p := h
    cases e2 : toPs ds with
    | none => rw [e2] at h'; cases h'
    | some ps =>
      rw [e2] at h'
      cases h'
      exact .tup (same_t e h1) (RepL.dp e h2 e2)
theorem RepL.dp (e : Same B H) : ∀ {ds : List D} {vs : List V} {ps : List PyData}, RepL K cl B vs ds → toPs ds = some ps → DpAll K H vs ps
  | [], _, _, .nil, h => by cases h; exact .nil
  | d :: ds, _, ps, .cons h1 h2, h => by
    have h' : (toP d).bind (fun p => (toPs ds).bind fun ps => some (p :: ps)) = some ps := h
    cases e1 : toP d with
    | none => rw [e1] at h'; cases h'
    | some p =>
      rw [e1] at h'
      cases e2 : toPs ds with
      | none => rw [e2] at h'; cases h'
      | some qs =>
        rw [e2] at h'
        cases h'
        exact .cons (Rep.dp e h1 e1) (RepL.dp e h2 e2)
end
theorem Bw.dp (h : Bw K cl B H v d) (e : Same B H) {p : PyData} (hp : toP d = some p) : Dp K H v p := by
  rcases h with h | ⟨a, rfl, h⟩
  · exact h.dp e hp
  · cases d with
    | lst ds =>
      obtain ⟨f, vs, h1, h2⟩ := h
      have h' : (toPs ds).bind (fun ps => some (PyData.list ps)) = some p := hp
      cases e2 : toPs ds with
      | none => rw [e2] at h'; cases h'
      | some ps =>
        rw [e2] at h'
        cases h'
        exact .lst (.of h1) (h2.dp e e2)
    | dict ds => cases hp
    | obj c ds => cases hp
    | _ => exact h.elim
end

section
variable {X : Cx} {cl : Nat → Addr} {E : XK} {Γ : List Nat} {B H B' H' B0 H0 : Hp} {v : V} {d : D}
/-! ### each operator by its rule -/
theorem opInt2 {f : Value → Value → Sem Value} {g : Int → Int → V} {o : D → D → Option D} {h : Int → Int → D} (hr : ∀ i j H, Rep X.K cl H (g i j) (h i j)) (ho : ∀ d e z, o d e = some z → ∃ i j, d = .int i ∧ e = .int j ∧ z = h i j) : Op2 X.K cl (rI0 g) o := by
  intro B H x y d e z Q sm hx hy hz q
  obtain ⟨i, j, rfl, rfl, rfl⟩ := ho d e z hz
  exact ⟨i, j, hx.int, hy.int, q _ B H (Stp.refl sm) (hr i j B)⟩
def rAddA (K : PySem.W.Frag) : R2 := fun x y H Q => rI0 (fun i j => .int (i + j)) x y H Q ∨ (∃ i j, x = .str i ∧ y = .str j ∧ i.length + j.length ≤ sizeLine ∧ Q (.str (i ++ j)) H) ∨ rCat x y H Q ∨ rCatA K x y H Q
theorem op_addA : OpR X (binaryOp .Add) (rAddA X.K) := by
  intro pins s σ H x y v u Q I rx ry h
  rcases h with h | h | h | h
  · exact op_add pins s σ H x y v u Q I rx ry h
  · exact op_add_str pins s σ H x y v u Q I rx ry h
  · exact op_cat pins s σ H x y v u Q I rx ry h
  · exact op_catA pins s σ H x y v u Q I rx ry h
theorem o2_add : Op2 X.K cl (rAddA X.K) oAdd := by
  intro B H x y d e z Q sm hx hy hz q
  unfold oAdd at hz
  split at hz
  · cases hz
    exact .inl ⟨_, _, hx.int, hy.int, q _ B H (Stp.refl sm) (.int _)⟩
  · split at hz
    · rename_i hl
      cases hz
      exact .inr (.inl ⟨_, _, hx.str, hy.str, lim_sz hl, q _ B H (Stp.refl sm) (.str _)⟩)
    · cases hz
  · split at hz
    · rename_i hl
      cases hz
      obtain ⟨a, vs, rfl, h1, r1⟩ := hx.lst sm
      obtain ⟨b, ws, rfl, h2, r2⟩ := hy.lst sm
      exact .inr (.inr (.inl ⟨a, b, vs, ws, rfl, rfl, h1, h2, by rw [r1.length, r2.length]; exact lim_sz hl, fun p np => q _ (upd B p (.lst (vs ++ ws))) _ (Stp.new sm np) (.lst upd_same ((r1.append r2).mono (same_new (sm.free np))))⟩))
    · cases hz
  · split at hz
    · rename_i hl
      cases hz
      obtain ⟨a, vs, rfl, h1, r1⟩ := hx.tup
      obtain ⟨b, ws, rfl, h2, r2⟩ := hy.tup
      refine .inr (.inr (.inr ⟨a, b, vs, ws, rfl, rfl, same_t sm h1, same_t sm h2, by rw [r1.length, r2.length]; exact lim_sz hl, fun e => ?_, fun _ e => ?_, fun _ _ p np => ?_⟩))
      · subst e
        cases r1
        exact q _ B H (Stp.refl sm) (.tup h2 r2)
      · subst e
        cases r2
        rw [List.append_nil] at q
        exact q _ B H (Stp.refl sm) (.tup h1 r1)
      · exact q _ (upd B p (.tup (vs ++ ws))) _ (Stp.new sm np) (.tup (.of upd_same) ((r1.append r2).mono (same_new (sm.free np))))
    · cases hz
  · cases hz
theorem o2f_cat : Op2F X.K cl rCat oCat := by
  intro B H x y d e z Q sm hx hy hz q
  unfold oCat at hz
  split at hz
  · split at hz
    · rename_i hl
      cases hz
      obtain ⟨a, vs, rfl, h1, r1⟩ := hx.lst sm
      obtain ⟨b, ws, rfl, h2, r2⟩ := hy.lst sm
      exact ⟨a, b, vs, ws, rfl, rfl, h1, h2, by rw [r1.length, r2.length]; exact lim_sz hl, fun p np => q p B _ (Stp.own sm np) ⟨⟨sm.free np, np⟩, vs ++ ws, upd_same, r1.append r2⟩⟩
    · cases hz
  · cases hz
theorem o2_sub : Op2 X.K cl (rI0 fun i j => .int (i - j)) oSub := by
  intro B H x y d e z Q sm hx hy hz q
  unfold oSub at hz
  split at hz
  · cases hz; exact ⟨_, _, hx.int, hy.int, q _ B H (Stp.refl sm) (.int _)⟩
  · cases hz
theorem o2_mul : Op2 X.K cl (rI CMul fun i j => .int (i * j)) oMul := by
  intro B H x y d e z Q sm hx hy hz q
  unfold oMul at hz
  split at hz
  · split at hz
    · rename_i hc
      cases hz; exact ⟨_, _, hx.int, hy.int, hc, q _ B H (Stp.refl sm) (.int _)⟩
    · cases hz
  · cases hz
theorem o2_fdiv : Op2 X.K cl (rI CD fun i j => .int (i.fdiv j)) oFdiv := by
  intro B H x y d e z Q sm hx hy hz q
  unfold oFdiv at hz
  split at hz
  · split at hz
    · rename_i hc
      cases hz; exact ⟨_, _, hx.int, hy.int, hc, q _ B H (Stp.refl sm) (.int _)⟩
    · cases hz
  · cases hz
theorem o2_mod : Op2 X.K cl (rI (fun _ j => j ≠ 0) fun i j => .int (i.fmod j)) oMod := by
  intro B H x y d e z Q sm hx hy hz q
  unfold oMod at hz
  split at hz
  · split at hz
    · rename_i hc
      cases hz; exact ⟨_, _, hx.int, hy.int, hc, q _ B H (Stp.refl sm) (.int _)⟩
    · cases hz
  · cases hz
theorem o2_pow : Op2 X.K cl (rI CPow fun i j => .int (i ^ j.toNat)) oPow := by
  intro B H x y d e z Q sm hx hy hz q
  unfold oPow at hz
  split at hz
  · split at hz
    · rename_i hc
      cases hz; exact ⟨_, _, hx.int, hy.int, hc, q _ B H (Stp.refl sm) (.int _)⟩
    · cases hz
  · cases hz
def rLtA : R2 := fun x y H Q => rI0 (fun i j => .bl (decide (i < j))) x y H Q ∨ ∃ i j, x = .str i ∧ y = .str j ∧ Q (.bl (decide (i.cps.toList < j.cps.toList))) H
theorem op_ltA : OpR X (compareOp .Lt) rLtA := by
  intro pins s σ H x y v u Q I rx ry h
  rcases h with h | h
  · exact op_lt pins s σ H x y v u Q I rx ry h
  · exact op_lt_str pins s σ H x y v u Q I rx ry h
theorem o2_lt : Op2 X.K cl rLtA oLt := by
  intro B H x y d e z Q sm hx hy hz q
  unfold oLt at hz
  split at hz
  · cases hz; exact .inl ⟨_, _, hx.int, hy.int, q _ B H (Stp.refl sm) (.bl _)⟩
  · cases hz; exact .inr ⟨_, _, hx.str, hy.str, q _ B H (Stp.refl sm) (.bl _)⟩
  · cases hz
theorem o2_le : Op2 X.K cl (rI0 fun i j => .bl (decide (i ≤ j))) oLe := by
  intro B H x y d e z Q sm hx hy hz q
  unfold oLe at hz
  split at hz
  · cases hz; exact ⟨_, _, hx.int, hy.int, q _ B H (Stp.refl sm) (.bl _)⟩
  · cases hz
theorem o2_gt : Op2 X.K cl (rI0 fun i j => .bl (decide (j < i))) oGt := by
  intro B H x y d e z Q sm hx hy hz q
  unfold oGt at hz
  split at hz
  · cases hz; exact ⟨_, _, hx.int, hy.int, q _ B H (Stp.refl sm) (.bl _)⟩
  · cases hz
theorem o2_ge : Op2 X.K cl (rI0 fun i j => .bl (decide (j ≤ i))) oGe := by
  intro B H x y d e z Q sm hx hy hz q
  unfold oGe at hz
  split at hz
  · cases hz; exact ⟨_, _, hx.int, hy.int, q _ B H (Stp.refl sm) (.bl _)⟩
  · cases hz
theorem o1_neg : Op1 X.K cl (rU fun i => .int (-i)) oNeg := by
  intro B H x d z Q sm hx hz q
  unfold oNeg at hz
  split at hz
  · cases hz; exact ⟨_, hx.int, q _ B H (Stp.refl sm) (.int _)⟩
  · cases hz
theorem oEqB_some {x y : D} {b : Bool} (h : oEqB x y = some b) : ∃ p q, toP x = some p ∧ toP y = some q ∧ SeqAt.shaped p = true ∧ SeqAt.shaped q = true ∧ b = PyData.eqv p q := by
  unfold oEqB at h
  cases ex : toP x with
  | none => rw [ex] at h; cases h
  | some p =>
    rw [ex] at h
    cases ey : toP y with
    | none => rw [ey] at h; cases h
    | some q =>
      rw [ey] at h
      have h' : (if SeqAt.shaped p = true ∧ SeqAt.shaped q = true then some (PyData.eqv p q) else none) = some b := h
      split at h'
      · rename_i hs
        cases h'
        exact ⟨p, q, rfl, rfl, hs.1, hs.2, rfl⟩
      · cases h'
theorem o2_eq : Op2 X.K cl (rEqD X.K) oEq := by
  intro B H x y d e z Q sm hx hy hz q
  unfold oEq at hz
  cases eb : oEqB d e with
  | none => rw [eb] at hz; cases hz
  | some b =>
    rw [eb] at hz
    cases hz
    obtain ⟨p, p', e1, e2, s1, s2, rfl⟩ := oEqB_some eb
    exact ⟨p, p', hx.dp sm e1, hy.dp sm e2, s1, s2, q _ B H (Stp.refl sm) (.bl _)⟩
theorem o2_ne : Op2 X.K cl (rNeD X.K) oNe := by
  intro B H x y d e z Q sm hx hy hz q
  unfold oNe at hz
  cases eb : oEqB d e with
  | none => rw [eb] at hz; cases hz
  | some b =>
    rw [eb] at hz
    cases hz
    obtain ⟨p, p', e1, e2, s1, s2, rfl⟩ := oEqB_some eb
    exact ⟨p, p', hx.dp sm e1, hy.dp sm e2, s1, s2, q _ B H (Stp.refl sm) (.bl _)⟩
def rIsA : R2 := fun x y H Q => (y = .non ∧ Q (.bl (decide (x = .non))) H) ∨ rIsB x y H Q
def rNotA : R2 := fun x y H Q => (y = .non ∧ Q (.bl (!decide (x = .non))) H) ∨ rNotB x y H Q
theorem op_isA : OpR X (compareOp .Is) rIsA := by
  intro pins s σ H x y v u Q I rx ry h
  rcases h with h | h
  · exact op_isN pins s σ H x y v u Q I rx ry h
  · exact op_isBl pins s σ H x y v u Q I rx ry h
theorem op_notA : OpR X (compareOp .IsNot) rNotA := by
  intro pins s σ H x y v u Q I rx ry h
  rcases h with h | h
  · exact op_notN pins s σ H x y v u Q I rx ry h
  · exact op_notBl pins s σ H x y v u Q I rx ry h
theorem Bw.notNon (h : Bw X.K cl B H v d) (hd : d ≠ .non) : v ≠ .non := by
  rintro rfl
  rcases h with h | ⟨a, e, _⟩
  · cases h; exact hd rfl
  · cases e
theorem oIs_some {x y : D} {z : D} (h : oIs x y = some z) : (y = .non ∧ ∃ b, z = .bl b ∧ (b = true ↔ x = .non)) ∨ ∃ a b, x = .bl a ∧ y = .bl b ∧ z = .bl (a == b) := by
  unfold oIs at h
  split at h <;> first
    | (cases h; exact .inl ⟨rfl, _, rfl, by simp⟩)
    | (cases h; exact .inr ⟨_, _, rfl, rfl, rfl⟩)
    | cases h
theorem o2_is : Op2 X.K cl rIsA oIs := by
  intro B H x y d e z Q sm hx hy hz q
  rcases oIs_some hz with ⟨rfl, b, rfl, hb⟩ | ⟨a, b, rfl, rfl, rfl⟩
  · refine .inl ⟨hy.non, ?_⟩
    have e : decide (x = V.non) = b := by
      cases b with
      | true => have := hb.mp rfl; subst this; rw [hx.non]; rfl
      | false => exact decide_eq_false (hx.notNon fun z => by simpa using hb.mpr z)
    rw [e]
    exact q _ B H (Stp.refl sm) (.bl _)
  · refine .inr ⟨a, b, hx.bl, hy.bl, ?_⟩
    have e : decide (a = b) = (a == b) := by cases a <;> cases b <;> rfl
    rw [e]
    exact q _ B H (Stp.refl sm) (.bl _)
theorem o2_isNot : Op2 X.K cl rNotA oIsNot := by
  intro B H x y d e z Q sm hx hy hz q
  unfold oIsNot at hz
  cases ei : oIs d e with
  | none => rw [ei] at hz; cases hz
  | some z' =>
    rw [ei] at hz
    rcases oIs_some ei with ⟨rfl, b, rfl, hb⟩ | ⟨a, b, rfl, rfl, rfl⟩
    · cases hz
      refine .inl ⟨hy.non, ?_⟩
      have e : decide (x = V.non) = b := by
        cases b with
        | true => have := hb.mp rfl; subst this; rw [hx.non]; rfl
        | false => exact decide_eq_false (hx.notNon fun z => by simpa using hb.mpr z)
      rw [e]
      exact q _ B H (Stp.refl sm) (.bl _)
    · cases hz
      refine .inr ⟨a, b, hx.bl, hy.bl, ?_⟩
      have e : decide (a = b) = (a == b) := by cases a <;> cases b <;> rfl
      rw [e]
      exact q _ B H (Stp.refl sm) (.bl _)
theorem oInB_some {x y : D} {b : Bool} (h : oInB x y = some b) : ∃ ys p qs, y = .lst ys ∧ toP x = some p ∧ toP (.lst ys) = some (.list qs) ∧ SeqAt.shaped p = true ∧ SeqAt.shaped (.list qs) = true ∧ b = qs.any fun z => PyData.eqv z p := by
  unfold oInB at h
  split at h
  · rename_i ys
    cases ex : toP x with
    | none => rw [ex] at h; cases h
    | some p =>
      rw [ex] at h
      cases ey : toPs ys with
      | none => rw [ey] at h; cases h
      | some qs =>
        rw [ey] at h
        have h' : (if SeqAt.shaped p = true ∧ SeqAt.shaped (.list qs) = true then some (qs.any fun z => PyData.eqv z p) else none) = some b := h
        split at h'
        · rename_i hs
          cases h'
          refine ⟨ys, p, qs, rfl, rfl, ?_, hs.1, hs.2, rfl⟩
          show (toPs ys).bind _ = _
          rw [ey]; rfl
        · cases h'
  · cases h
theorem o2_in : Op2 X.K cl (rInD X.K) oIn := by
  intro B H x y d e z Q sm hx hy hz q
  unfold oIn at hz
  cases eb : oInB d e with
  | none => rw [eb] at hz; cases hz
  | some b =>
    rw [eb] at hz
    cases hz
    obtain ⟨ys, p, qs, rfl, e1, e2, s1, s2, rfl⟩ := oInB_some eb
    exact ⟨p, qs, hx.dp sm e1, hy.dp sm e2, s1, s2, q _ B H (Stp.refl sm) (.bl _)⟩
theorem o2_notIn : Op2 X.K cl (rNotInD X.K) oNotIn := by
  intro B H x y d e z Q sm hx hy hz q
  unfold oNotIn at hz
  cases eb : oInB d e with
  | none => rw [eb] at hz; cases hz
  | some b =>
    rw [eb] at hz
    cases hz
    obtain ⟨ys, p, qs, rfl, e1, e2, s1, s2, rfl⟩ := oInB_some eb
    exact ⟨p, qs, hx.dp sm e1, hy.dp sm e2, s1, s2, q _ B H (Stp.refl sm) (.bl _)⟩
theorem atI_rep {vs : List V} {ds : List D} {i : Int} {d : D} (r : RepL X.K cl B vs ds) (h : atI ds i = some d) : ∃ v, atI vs i = some v ∧ Rep X.K cl B v d := by
  unfold atI at h ⊢
  rw [r.length]
  cases e : ixN ds.length i with
  | none => rw [e] at h; cases h
  | some j =>
    rw [e] at h
    exact r.get h
theorem o2_ix : Op2 X.K cl (rIx X.K) oIx := by
  intro B H x y d e z Q sm hx hy hz q
  unfold oIx at hz
  split at hz
  · obtain ⟨a, vs, rfl, h1, r1⟩ := hx.lst sm
    obtain ⟨v, h2, r2⟩ := atI_rep r1 hz
    exact .inl ⟨a, vs, _, v, rfl, hy.int, .of h1, h2, q v B H (Stp.refl sm) r2⟩
  · obtain ⟨a, vs, rfl, h1, r1⟩ := hx.tup
    obtain ⟨v, h2, r2⟩ := atI_rep r1 hz
    exact .inr (.inl ⟨a, vs, _, v, rfl, hy.int, same_t sm h1, h2, q v B H (Stp.refl sm) r2⟩)
  · split at hz
    · rename_i s i hl
      cases ec : atI s.cps.toList i with
      | none => rw [ec] at hz; cases hz
      | some c =>
        rw [ec] at hz
        cases hz
        exact .inr (.inr ⟨s, i, c, hx.str, hy.int, lim_sz hl, ec, q _ B H (Stp.refl sm) (.str _)⟩)
    · cases hz
  · rename_i ns i
    cases ec : atI ns i with
    | none => rw [ec] at hz; cases hz
    | some n =>
      rw [ec] at hz
      cases hz
      obtain ⟨a, rfl, h1⟩ := hx.scr
      refine .inl ⟨a, ns.map V.int, i, .int n, rfl, hy.int, sm.seq h1, ?_, q _ B H (Stp.refl sm) (.int _)⟩
      unfold atI at ec ⊢
      rw [List.length_map]
      cases e : ixN ns.length i with
      | none => rw [e] at ec; cases ec
      | some j =>
        rw [e] at ec
        show (ns.map V.int)[j]? = _
        rw [List.getElem?_map]
        have ec' : ns[j]? = some n := ec
        rw [ec']; rfl
  · cases hz
end
end Dl

namespace Dl
open PySem PySem.Spec PyProof.Rows L2

theorem DE.b {X : Cx} {cl : Nat → Addr} {E : XK} {Γ : List Nat} {ex : Expr} {f : S → R D} (h : DE X cl E Γ ex f) : DB X cl E Γ ex f := let ⟨t, h1, h2⟩ := h; ⟨t, h1, h2.b⟩
theorem DF.e {X : Cx} {cl : Nat → Addr} {E : XK} {Γ : List Nat} {ex : Expr} {f : S → R D} (h : DF X cl E Γ ex f) : DE X cl E Γ ex f := let ⟨t, h1, h2⟩ := h; ⟨t, h1, h2.e⟩
theorem DF.b {X : Cx} {cl : Nat → Addr} {E : XK} {Γ : List Nat} {ex : Expr} {f : S → R D} (h : DF X cl E Γ ex f) : DB X cl E Γ ex f := let ⟨t, h1, h2⟩ := h; ⟨t, h1, h2.b⟩
section
variable {X : Cx} {cl : Nat → Addr} {E : XK} {Γ Γ' Γ2 Γl : List Nat} {fr : Bool} {B H B' H' B0 H0 : Hp} {v : V} {d : D} {a b e : Expr} {es : List Expr} {f g : S → R D} {fs : S → R (List D)} {pos : Pos}
/-! names, constants -/
theorem e_var (i : Nat) {x : Str} (hi : i ∉ Γ := by decide) (hN : X.N[i]? = some x := by rfl) (hv : Vis X.env.scope x := by first | exact Or.inl rfl | exact Or.inr (Or.inl rfl) | exact Or.inr (Or.inr rfl)) (hd : (x == ("__debug__" : Str)) = false := by decide)
    (hcd : (x == ("__classdict__" : Str)) = false := by decide) : DE X cl E Γ (.Name x pos) (mVar i) := ⟨_, pe_var hN hv hd hcd, snd_var hi⟩
theorem b_var (i : Nat) {x : Str} (hN : X.N[i]? = some x := by rfl) (hv : Vis X.env.scope x := by first | exact Or.inl rfl | exact Or.inr (Or.inl rfl) | exact Or.inr (Or.inr rfl)) (hd : (x == ("__debug__" : Str)) = false := by decide)
    (hcd : (x == ("__classdict__" : Str)) = false := by decide) : DB X cl E Γ (.Name x pos) (mVar i) := ⟨_, pe_var hN hv hd hcd, snb_var⟩
theorem e_int {i : Int} {j} : DE X cl E Γ (.Constant (.int i) j pos) (mC (.int i)) := ⟨_, pe_int, snd_c fun _ => .int i⟩
theorem e_bl {i : Bool} {j} : DE X cl E Γ (.Constant (.bool i) j pos) (mC (.bl i)) := ⟨_, pe_bl, snd_c fun _ => .bl i⟩
theorem e_non {j} : DE X cl E Γ (.Constant .none j pos) (mC .non) := ⟨_, pe_non, snd_c fun _ => .non⟩
theorem e_str {x : Str} {j} : DE X cl E Γ (.Constant (.str x) j pos) (mC (.str x)) := ⟨_, pe_str, snd_c fun _ => .str x⟩
/-- a constant of the module -/
theorem e_glob {x : Str} {d : D} (h : ∃ u v, X.mg x = some u ∧ RelV v u ∧ ∀ H, Rep X.K cl H v d) (hg : Gl X x := by rfl) (hd : (x == ("__debug__" : Str)) = false := by decide) : DE X cl E Γ (.Name x pos) (mC d) :=
  let ⟨_, _, h1, h2, h3⟩ := h; ⟨_, pe_glob hg h1 h2 hd, snd_c h3⟩
/-! operators -/
theorem e_bin {op : Operator} {r : R2} {o : D → D → Option D} (hr : OpR X (binaryOp op) r) (ho : Op2 X.K cl r o) (ha : DB X cl E Γ a f) (hb : DB X cl E Γ b g) : DE X cl E Γ (.BinOp a op b pos) (mOp o f g) :=
  let ⟨_, h1, h2⟩ := ha; let ⟨_, h3, h4⟩ := hb; ⟨_, pe_op hr h1 h3, snd_op ho h2 h4⟩
theorem e_add (ha : DB X cl E Γ a f) (hb : DB X cl E Γ b g) : DE X cl E Γ (.BinOp a .Add b pos) (mOp oAdd f g) := e_bin op_addA o2_add ha hb
theorem f_cat (ha : DB X cl E Γ a f) (hb : DB X cl E Γ b g) : DF X cl E Γ (.BinOp a .Add b pos) (mOp oCat f g) :=
  let ⟨_, h1, h2⟩ := ha; let ⟨_, h3, h4⟩ := hb; ⟨_, pe_op op_cat h1 h3, snf_op o2f_cat h2 h4⟩
theorem e_sub (ha : DB X cl E Γ a f) (hb : DB X cl E Γ b g) : DE X cl E Γ (.BinOp a .Sub b pos) (mOp oSub f g) := e_bin op_sub o2_sub ha hb
theorem e_mul (ha : DB X cl E Γ a f) (hb : DB X cl E Γ b g) : DE X cl E Γ (.BinOp a .Mult b pos) (mOp oMul f g) := e_bin op_mul o2_mul ha hb
theorem e_fdiv (ha : DB X cl E Γ a f) (hb : DB X cl E Γ b g) : DE X cl E Γ (.BinOp a .FloorDiv b pos) (mOp oFdiv f g) := e_bin op_fdivD o2_fdiv ha hb
theorem e_mod (ha : DB X cl E Γ a f) (hb : DB X cl E Γ b g) : DE X cl E Γ (.BinOp a .Mod b pos) (mOp oMod f g) := e_bin op_modN o2_mod ha hb
theorem e_pow (ha : DB X cl E Γ a f) (hb : DB X cl E Γ b g) : DE X cl E Γ (.BinOp a .Pow b pos) (mOp oPow f g) := e_bin op_pow o2_pow ha hb
theorem e_neg (ha : DB X cl E Γ a f) : DE X cl E Γ (.UnaryOp .USub a pos) (mOp1 oNeg f) := let ⟨_, h1, h2⟩ := ha; ⟨_, pe_un un_neg h1, snd_un o1_neg h2⟩
theorem e_cmp {op : CmpOp} {r : R2} {o : D → D → Option D} (hr : OpR X (compareOp op) r) (ho : Op2 X.K cl r o) (ha : DB X cl E Γ a f) (hb : DB X cl E Γ b g) (hm : behindInMarks op b = false) : DE X cl E Γ (.Compare a [op] [b] pos) (mOp o f g) :=
  let ⟨_, h1, h2⟩ := ha; let ⟨_, h3, h4⟩ := hb; ⟨_, pe_cmpR hr h1 h3 hm, snd_op ho h2 h4⟩
theorem t_cmp {op : CmpOp} {r : R2} {o : D → D → Option D} (hr : OpR X (compareOp op) r) (ho : Op2 X.K cl r o) (ha : DB X cl E Γ a f) (hb : DB X cl E Γ b g) (hm : behindInMarks op b = false) : DT X cl E Γ (.Compare a [op] [b] pos) (mTst (mOp o f g)) :=
  let ⟨_, h1, h2⟩ := ha; let ⟨_, h3, h4⟩ := hb; ⟨_, pt_cmpR hr h1 h3 hm, snt_test (snd_op ho h2 h4)⟩
theorem e_lt (ha : DB X cl E Γ a f) (hb : DB X cl E Γ b g) : DE X cl E Γ (.Compare a [.Lt] [b] pos) (mOp oLt f g) := e_cmp op_ltA o2_lt ha hb (nomark _)
theorem t_lt (ha : DB X cl E Γ a f) (hb : DB X cl E Γ b g) : DT X cl E Γ (.Compare a [.Lt] [b] pos) (mTst (mOp oLt f g)) := t_cmp op_ltA o2_lt ha hb (nomark _)
theorem e_le (ha : DB X cl E Γ a f) (hb : DB X cl E Γ b g) : DE X cl E Γ (.Compare a [.LtE] [b] pos) (mOp oLe f g) := e_cmp op_le o2_le ha hb (nomark _)
theorem t_le (ha : DB X cl E Γ a f) (hb : DB X cl E Γ b g) : DT X cl E Γ (.Compare a [.LtE] [b] pos) (mTst (mOp oLe f g)) := t_cmp op_le o2_le ha hb (nomark _)
theorem e_gt (ha : DB X cl E Γ a f) (hb : DB X cl E Γ b g) : DE X cl E Γ (.Compare a [.Gt] [b] pos) (mOp oGt f g) := e_cmp op_gt o2_gt ha hb (nomark _)
theorem t_gt (ha : DB X cl E Γ a f) (hb : DB X cl E Γ b g) : DT X cl E Γ (.Compare a [.Gt] [b] pos) (mTst (mOp oGt f g)) := t_cmp op_gt o2_gt ha hb (nomark _)
theorem e_ge (ha : DB X cl E Γ a f) (hb : DB X cl E Γ b g) : DE X cl E Γ (.Compare a [.GtE] [b] pos) (mOp oGe f g) := e_cmp op_ge o2_ge ha hb (nomark _)
theorem t_ge (ha : DB X cl E Γ a f) (hb : DB X cl E Γ b g) : DT X cl E Γ (.Compare a [.GtE] [b] pos) (mTst (mOp oGe f g)) := t_cmp op_ge o2_ge ha hb (nomark _)
theorem e_eq {k : Nat} (hr : Room k X.A) (ha : DB X cl E Γ a f) (hb : DB X cl E Γ b g) : DE X cl E Γ (.Compare a [.Eq] [b] pos) (mOp oEq f g) := e_cmp (op_eqD hr.units) o2_eq ha hb (nomark _)
theorem t_eq {k : Nat} (hr : Room k X.A) (ha : DB X cl E Γ a f) (hb : DB X cl E Γ b g) : DT X cl E Γ (.Compare a [.Eq] [b] pos) (mTst (mOp oEq f g)) := t_cmp (op_eqD hr.units) o2_eq ha hb (nomark _)
theorem e_ne {k : Nat} (hr : Room k X.A) (ha : DB X cl E Γ a f) (hb : DB X cl E Γ b g) : DE X cl E Γ (.Compare a [.NotEq] [b] pos) (mOp oNe f g) := e_cmp (op_neD hr.units) o2_ne ha hb (nomark _)
theorem t_ne {k : Nat} (hr : Room k X.A) (ha : DB X cl E Γ a f) (hb : DB X cl E Γ b g) : DT X cl E Γ (.Compare a [.NotEq] [b] pos) (mTst (mOp oNe f g)) := t_cmp (op_neD hr.units) o2_ne ha hb (nomark _)
theorem e_is (ha : DB X cl E Γ a f) (hb : DB X cl E Γ b g) : DE X cl E Γ (.Compare a [.Is] [b] pos) (mOp oIs f g) := e_cmp op_isA o2_is ha hb (nomark _)
theorem t_is (ha : DB X cl E Γ a f) (hb : DB X cl E Γ b g) : DT X cl E Γ (.Compare a [.Is] [b] pos) (mTst (mOp oIs f g)) := t_cmp op_isA o2_is ha hb (nomark _)
theorem e_isnot (ha : DB X cl E Γ a f) (hb : DB X cl E Γ b g) : DE X cl E Γ (.Compare a [.IsNot] [b] pos) (mOp oIsNot f g) := e_cmp op_notA o2_isNot ha hb (nomark _)
theorem t_isnot (ha : DB X cl E Γ a f) (hb : DB X cl E Γ b g) : DT X cl E Γ (.Compare a [.IsNot] [b] pos) (mTst (mOp oIsNot f g)) := t_cmp op_notA o2_isNot ha hb (nomark _)
theorem room65 {k : Nat} {A : Around} (r : Room k A) : A.units + 65 < cLine := by have := r.un; omega
theorem e_in {k : Nat} (hr : Room k X.A) (ha : DB X cl E Γ a f) (hb : DB X cl E Γ b g) (hm : behindInMarks .In b = false := by rfl) : DE X cl E Γ (.Compare a [.In] [b] pos) (mOp oIn f g) := e_cmp (op_inD (room65 hr)) o2_in ha hb hm
theorem t_in {k : Nat} (hr : Room k X.A) (ha : DB X cl E Γ a f) (hb : DB X cl E Γ b g) (hm : behindInMarks .In b = false := by rfl) : DT X cl E Γ (.Compare a [.In] [b] pos) (mTst (mOp oIn f g)) := t_cmp (op_inD (room65 hr)) o2_in ha hb hm
theorem e_notin {k : Nat} (hr : Room k X.A) (ha : DB X cl E Γ a f) (hb : DB X cl E Γ b g) (hm : behindInMarks .NotIn b = false := by rfl) : DE X cl E Γ (.Compare a [.NotIn] [b] pos) (mOp oNotIn f g) := e_cmp (op_notInD (room65 hr)) o2_notIn ha hb hm
theorem t_notin {k : Nat} (hr : Room k X.A) (ha : DB X cl E Γ a f) (hb : DB X cl E Γ b g) (hm : behindInMarks .NotIn b = false := by rfl) : DT X cl E Γ (.Compare a [.NotIn] [b] pos) (mTst (mOp oNotIn f g)) := t_cmp (op_notInD (room65 hr)) o2_notIn ha hb hm
theorem e_ix (ha : DB X cl E Γ a f) (hb : DB X cl E Γ b g) (hs : PlainIx b := by intro _ _; rfl) : DE X cl E Γ (.Subscript a b pos) (mOp oIx f g) :=
  let ⟨_, h1, h2⟩ := ha; let ⟨_, h3, h4⟩ := hb; ⟨_, pe_ix ix_seq h1 h3 hs, snd_op o2_ix h2 h4⟩
/-! lists of arguments, displays -/
theorem a_nil : DA X cl E Γ [] mNil := ⟨_, pa_nil, sna_nil⟩
theorem a_cons (ha : DE X cl E Γ e f) (hr : DA X cl E Γ es fs) (hs : starEach (e :: es) X.env = (false, eval e X.env) :: starEach es X.env := by rfl) : DA X cl E Γ (e :: es) (mCons f fs) :=
  let ⟨_, h1, h2⟩ := ha; let ⟨_, h3, h4⟩ := hr; ⟨_, pa_cons h1 h3 hs, sna_cons h2 h4⟩
theorem ab_nil : DAB X cl E Γ [] mNil := ⟨_, pa_nil, snab_nil⟩
theorem ab_cons (ha : DB X cl E Γ e f) (hr : DAB X cl E Γ es fs) (hs : starEach (e :: es) X.env = (false, eval e X.env) :: starEach es X.env := by rfl) : DAB X cl E Γ (e :: es) (mCons f fs) :=
  let ⟨_, h1, h2⟩ := ha; let ⟨_, h3, h4⟩ := hr; ⟨_, pa_cons h1 h3 hs, snab_cons h2 h4⟩
theorem e_tup {x1} (h : DA X cl E Γ es fs) : DE X cl E Γ (.Tuple es x1 pos) (mTup fs) := let ⟨_, h1, h2⟩ := h; ⟨_, pe_tup h1, snd_tup h2⟩
theorem f_lst (h : DA X cl E Γ es fs) : DF X cl E Γ (.List es pos) (mLst fs) := let ⟨_, h1, h2⟩ := h; ⟨_, pe_lst h1, snf_lst h2⟩
/-! tests -/
theorem t_and1 {m : S → R Bool} (h : DT X cl E Γ a m) : DW X cl E Γ (.BoolOp .And [a] pos) m := let ⟨_, h1, h2⟩ := h; ⟨_, pw_and1 h1, h2⟩
theorem t_or1 {m : S → R Bool} (h : DT X cl E Γ a m) : DW X cl E Γ (.BoolOp .Or [a] pos) m := let ⟨_, h1, h2⟩ := h; ⟨_, pw_or1 h1, h2⟩
theorem t_and {m n : S → R Bool} (h : DT X cl E Γ a m) (h' : DW X cl E Γ (.BoolOp .And (b :: es) pos) n) : DW X cl E Γ (.BoolOp .And (a :: b :: es) pos) (mAnd m n) := let ⟨_, h1, h2⟩ := h; let ⟨_, h3, h4⟩ := h'; ⟨_, pw_and h1 h3, snt_and h2 h4⟩
theorem t_or {m n : S → R Bool} (h : DT X cl E Γ a m) (h' : DW X cl E Γ (.BoolOp .Or (b :: es) pos) n) : DW X cl E Γ (.BoolOp .Or (a :: b :: es) pos) (mOr m n) := let ⟨_, h1, h2⟩ := h; let ⟨_, h3, h4⟩ := h'; ⟨_, pw_or h1 h3, snt_or h2 h4⟩
theorem DW.t {m : S → R Bool} (h : DW X cl E Γ e m) : DT X cl E Γ e m := let ⟨_, h1, h2⟩ := h; ⟨_, h1.pt, h2⟩
theorem t_not {m : S → R Bool} (h : DT X cl E Γ a m) : DT X cl E Γ (.UnaryOp .Not a pos) (mNot m) := let ⟨_, h1, h2⟩ := h; ⟨_, pt_not h1, snt_not h2⟩
/-- an expression whose value is a Bool -/
theorem t_val (h : DE X cl E Γ e f) (he : ∀ whole, isTrue e X.env whole = (do let v ← whole; standAt e.pos; holding [v] (truthy v)) := by intro _; rfl) : DT X cl E Γ e (mTst f) := let ⟨_, h1, h2⟩ := h; ⟨_, pt_val h1 he, snt_B h2⟩
theorem e_one {op} (h : DE X cl E Γ a f) : DE X cl E Γ (.BoolOp op [a] pos) f := let ⟨_, h1, h2⟩ := h; ⟨_, pe_one h1, h2⟩
theorem e_and (h : DE X cl E Γ a f) (h' : DE X cl E Γ (.BoolOp .And (b :: es) pos) g) : DE X cl E Γ (.BoolOp .And (a :: b :: es) pos) (mAndV f g) := let ⟨_, h1, h2⟩ := h; let ⟨_, h3, h4⟩ := h'; ⟨_, pe_and h1 h3, snd_andV h2 h4⟩
theorem e_or (h : DE X cl E Γ a f) (h' : DE X cl E Γ (.BoolOp .Or (b :: es) pos) g) : DE X cl E Γ (.BoolOp .Or (a :: b :: es) pos) (mOrV f g) := let ⟨_, h1, h2⟩ := h; let ⟨_, h3, h4⟩ := h'; ⟨_, pe_or h1 h3, snd_orV h2 h4⟩
theorem e_not (h : DE X cl E Γ a f) : DE X cl E Γ (.UnaryOp .Not a pos) (mNotV f) := let ⟨_, h1, h2⟩ := h; ⟨_, pe_not h1, snd_notV h2⟩
theorem e_if {c : Expr} {m : S → R Bool} (h : DT X cl E Γ c m) (h' : DE X cl E Γ a f) (h'' : DE X cl E Γ b g) : DE X cl E Γ (.IfExp c a b pos) (mIf m f g) :=
  let ⟨_, h1, h2⟩ := h; let ⟨_, h3, h4⟩ := h'; let ⟨_, h5, h6⟩ := h''; ⟨_, pe_ifExp h1 h3 h5, snd_if h2 h4 h6⟩
/-! built-in calls -/
theorem e_callB {id : String} {x : Str} {p : Pos} {r : List V → Hp → VK → Prop} {o : List D → Option D} (hc : CallR X (.builtin id) r) (ho : OpA X.K cl r o) (hm : X.mg x = none) (hv : bootBuiltins x = some (.builtin id)) (ha : DAB X cl E Γ (e :: es) fs) (hg : Gl X x := by rfl) (hn : x ≠ "__name__" := by decide) (hdb : (x == ("__debug__" : Str)) = false := by decide)
    (he : starEach (e :: es) X.env = (false, eval e X.env) :: starEach es X.env := by rfl) (hpl : (backTo pos (starEach es X.env)).any (·.1) = false := by rfl) : DE X cl E Γ (.Call (.Name x p) (e :: es) [] pos) (mOpA o fs) :=
  let ⟨_, h1, h2⟩ := ha; ⟨_, pe_callB hc hg hm hv h1 hn hdb he hpl, snd_cb ho h2⟩
theorem e_callTy {id : String} {x : Str} {p : Pos} {r : List V → Hp → VK → Prop} {o : List D → Option D} (hc : CallR X (.type id) r) (ho : OpA X.K cl r o) (hm : X.mg x = none) (hv : bootBuiltins x = some (.type id)) (ha : DAB X cl E Γ (e :: es) fs) (hg : Gl X x := by rfl) (hn : x ≠ "__name__" := by decide) (hdb : (x == ("__debug__" : Str)) = false := by decide)
    (he : starEach (e :: es) X.env = (false, eval e X.env) :: starEach es X.env := by rfl) (hpl : (backTo pos (starEach es X.env)).any (·.1) = false := by rfl) : DE X cl E Γ (.Call (.Name x p) (e :: es) [] pos) (mOpA o fs) :=
  let ⟨_, h1, h2⟩ := ha; ⟨_, pe_callTy hc hg hm hv h1 hn hdb he hpl, snd_cb ho h2⟩
theorem f_callTy {id : String} {x : Str} {p : Pos} {r : List V → Hp → VK → Prop} {o : List D → Option D} (hc : CallR X (.type id) r) (ho : OpAF X.K cl r o) (hm : X.mg x = none) (hv : bootBuiltins x = some (.type id)) (ha : DAB X cl E Γ (e :: es) fs) (hg : Gl X x := by rfl) (hn : x ≠ "__name__" := by decide) (hdb : (x == ("__debug__" : Str)) = false := by decide)
    (he : starEach (e :: es) X.env = (false, eval e X.env) :: starEach es X.env := by rfl) (hpl : (backTo pos (starEach es X.env)).any (·.1) = false := by rfl) : DF X cl E Γ (.Call (.Name x p) (e :: es) [] pos) (mOpA o fs) :=
  let ⟨_, h1, h2⟩ := ha; ⟨_, pe_callTy hc hg hm hv h1 hn hdb he hpl, snf_cb ho h2⟩
def oLen : List D → Option D
  | [.lst xs] => some (.int xs.length)
  | [.tup xs] => some (.int xs.length)
  | [.str z] => if z.length ≤ LIM then some (.int z.length) else none
  | [.scr ns] => some (.int ns.length)
  | _ => none
theorem oa_len : OpA X.K cl (fun xs H Q => ∃ x n, xs = [x] ∧ LenV X.K x H n ∧ Q (.int n) H) oLen := by
  intro B H vs ds z Q sm w hz q
  unfold oLen at hz
  split at hz
  · cases hz
    obtain ⟨v, rfl, k⟩ := w.one
    obtain ⟨a, us, rfl, h1, r1⟩ := k.lst sm
    exact ⟨_, us.length, rfl, .inl ⟨us, .of h1, rfl⟩, by rw [r1.length]; exact q _ B H (Stp.refl sm) (.int _)⟩
  · cases hz
    obtain ⟨v, rfl, k⟩ := w.one
    obtain ⟨a, us, rfl, h1, r1⟩ := k.tup
    exact ⟨_, us.length, rfl, .inr ⟨us, same_t sm h1, rfl⟩, by rw [r1.length]; exact q _ B H (Stp.refl sm) (.int _)⟩
  · split at hz
    · rename_i s hl
      cases hz
      obtain ⟨v, rfl, k⟩ := w.one
      rw [k.str]
      exact ⟨_, s.length, rfl, ⟨lim_sz hl, rfl⟩, q _ B H (Stp.refl sm) (.int _)⟩
    · cases hz
  · rename_i ns
    cases hz
    obtain ⟨v, rfl, k⟩ := w.one
    obtain ⟨a, rfl, h1⟩ := k.scr
    exact ⟨_, ns.length, rfl, .inl ⟨ns.map V.int, sm.seq h1, by rw [List.length_map]⟩, q _ B H (Stp.refl sm) (.int _)⟩
  · cases hz
theorem e_len {p : Pos} (hm : X.mg "len" = none) (ha : DB X cl E Γ e f) (hg : Gl X "len" := by rfl) (hs : starEach [e] X.env = (false, eval e X.env) :: starEach [] X.env := by rfl) (hpl : (backTo pos (starEach [] X.env)).any (·.1) = false := by rfl) : DE X cl E Γ (.Call (.Name "len" p) [e] [] pos) (mOpA oLen (mCons f mNil)) :=
  e_callB call_len oa_len hm PySem.boot_len (ab_cons ha ab_nil hs) hg (by decide) (by decide) hs hpl
def oInt : List D → Option D
  | [.int i] => some (.int i)
  | [.bl k] => some (.int (if k then 1 else 0))
  | _ => none
theorem oa_int : OpA X.K cl (fun xs H Q => (∃ i, xs = [.int i] ∧ Q (.int i) H) ∨ ∃ k, xs = [.bl k] ∧ Q (.int (if k then 1 else 0)) H) oInt := by
  intro B H vs ds z Q sm w hz q
  unfold oInt at hz
  split at hz
  · cases hz
    obtain ⟨v, rfl, k⟩ := w.one
    rw [k.int]
    exact .inl ⟨_, rfl, q _ B H (Stp.refl sm) (.int _)⟩
  · cases hz
    obtain ⟨v, rfl, k⟩ := w.one
    rw [k.bl]
    exact .inr ⟨_, rfl, q _ B H (Stp.refl sm) (.int _)⟩
  · cases hz
theorem e_intc {p : Pos} (hm : X.mg "int" = none) (ha : DB X cl E Γ e f) (hg : Gl X "int" := by rfl) (hs : starEach [e] X.env = (false, eval e X.env) :: starEach [] X.env := by rfl) (hpl : (backTo pos (starEach [] X.env)).any (·.1) = false := by rfl) : DE X cl E Γ (.Call (.Name "int" p) [e] [] pos) (mOpA oInt (mCons f mNil)) :=
  e_callTy call_int1 oa_int hm boot_int (ab_cons ha ab_nil hs) hg (by decide) (by decide) hs hpl
def oList : List D → Option D
  | [.lst xs] => some (.lst xs)
  | [.tup xs] => some (.lst xs)
  | _ => none
theorem oaf_list : OpAF X.K cl (fun xs H Q => ∃ p ys, xs = [.ref p] ∧ (SqL X.K H p ys ∨ SqT X.K H p ys) ∧ ∀ l, H l = none → Q (.ref l) (upd H l (.lst ys))) oList := by
  intro B H vs ds z Q sm w hz q
  unfold oList at hz
  split at hz
  · cases hz
    obtain ⟨v, rfl, k⟩ := w.one
    obtain ⟨a, us, rfl, h1, r1⟩ := k.lst sm
    exact ⟨a, us, rfl, .inl (.of h1), fun l nl => q l B _ (Stp.own sm nl) ⟨⟨sm.free nl, nl⟩, us, upd_same, r1⟩⟩
  · cases hz
    obtain ⟨v, rfl, k⟩ := w.one
    obtain ⟨a, us, rfl, h1, r1⟩ := k.tup
    exact ⟨a, us, rfl, .inr (same_t sm h1), fun l nl => q l B _ (Stp.own sm nl) ⟨⟨sm.free nl, nl⟩, us, upd_same, r1⟩⟩
  · cases hz
theorem f_list {p : Pos} (hm : X.mg "list" = none) (ha : DB X cl E Γ e f) (hg : Gl X "list" := by rfl) (hs : starEach [e] X.env = (false, eval e X.env) :: starEach [] X.env := by rfl) (hpl : (backTo pos (starEach [] X.env)).any (·.1) = false := by rfl) : DF X cl E Γ (.Call (.Name "list" p) [e] [] pos) (mOpA oList (mCons f mNil)) :=
  f_callTy call_list_of oaf_list hm boot_list (ab_cons ha ab_nil hs) hg (by decide) (by decide) hs hpl
def oTuple : List D → Option D
  | [.lst xs] => some (.tup xs)
  | [.tup xs] => some (.tup xs)
  | _ => none
theorem oa_tuple : OpA X.K cl (fun xs H Q => ∃ p ys, xs = [.ref p] ∧ ((SqL X.K H p ys ∧ ∀ l, H l = none → Q (.ref l) (upd H l (.tup ys))) ∨ (SqT X.K H p ys ∧ Q (.ref p) H))) oTuple := by
  intro B H vs ds z Q sm w hz q
  unfold oTuple at hz
  split at hz
  · cases hz
    obtain ⟨v, rfl, k⟩ := w.one
    obtain ⟨a, us, rfl, h1, r1⟩ := k.lst sm
    exact ⟨a, us, rfl, .inl ⟨.of h1, fun l nl => q _ (upd B l (.tup us)) _ (Stp.new sm nl) (.tup (.of upd_same) (r1.mono (same_new (sm.free nl))))⟩⟩
  · cases hz
    obtain ⟨v, rfl, k⟩ := w.one
    obtain ⟨a, us, rfl, h1, r1⟩ := k.tup
    exact ⟨a, us, rfl, .inr ⟨same_t sm h1, q _ B H (Stp.refl sm) (.tup h1 r1)⟩⟩
  · cases hz
theorem e_tuple {p : Pos} (hm : X.mg "tuple" = none) (ha : DB X cl E Γ e f) (hg : Gl X "tuple" := by rfl) (hs : starEach [e] X.env = (false, eval e X.env) :: starEach [] X.env := by rfl) (hpl : (backTo pos (starEach [] X.env)).any (·.1) = false := by rfl) : DE X cl E Γ (.Call (.Name "tuple" p) [e] [] pos) (mOpA oTuple (mCons f mNil)) :=
  e_callTy call_tuple_of oa_tuple hm boot_tuple (ab_cons ha ab_nil hs) hg (by decide) (by decide) hs hpl
/-- max(i, j), min(i, j) -/
def oMax2 : List D → Option D
  | [.int i, .int j] => some (.int (if j > i then j else i))
  | _ => none
def oMin2 : List D → Option D
  | [.int i, .int j] => some (.int (if j < i then j else i))
  | _ => none
theorem oa_max2 : OpA X.K cl (fun xs H Q => ∃ i j, xs = [.int i, .int j] ∧ Q (.int (if j > i then j else i)) H) oMax2 := by
  intro B H vs ds z Q sm w hz q
  unfold oMax2 at hz
  split at hz
  · cases hz
    obtain ⟨v, v', rfl, k, k'⟩ := w.two
    rw [k.int, k'.int]
    exact ⟨_, _, rfl, q _ B H (Stp.refl sm) (.int _)⟩
  · cases hz
theorem oa_min2 : OpA X.K cl (fun xs H Q => ∃ i j, xs = [.int i, .int j] ∧ Q (.int (if j < i then j else i)) H) oMin2 := by
  intro B H vs ds z Q sm w hz q
  unfold oMin2 at hz
  split at hz
  · cases hz
    obtain ⟨v, v', rfl, k, k'⟩ := w.two
    rw [k.int, k'.int]
    exact ⟨_, _, rfl, q _ B H (Stp.refl sm) (.int _)⟩
  · cases hz
theorem e_max2 {p : Pos} (hm : X.mg "max" = none) (ha : DB X cl E Γ a f) (hb : DB X cl E Γ b g) (hc : X.calm = true := by rfl) (hg : Gl X "max" := by rfl) (hs : starEach [a, b] X.env = (false, eval a X.env) :: starEach [b] X.env := by rfl) (hs2 : starEach [b] X.env = (false, eval b X.env) :: starEach [] X.env := by rfl) (hpl : (backTo pos (starEach [b] X.env)).any (·.1) = false := by rfl) : DE X cl E Γ (.Call (.Name "max" p) [a, b] [] pos) (mOpA oMax2 (mCons f (mCons g mNil))) :=
  e_callB (call_max2 hc) oa_max2 hm (by decide +kernel) (ab_cons ha (ab_cons hb ab_nil hs2) hs) hg (by decide) (by decide) hs hpl
theorem e_min2 {p : Pos} (hm : X.mg "min" = none) (ha : DB X cl E Γ a f) (hb : DB X cl E Γ b g) (hc : X.calm = true := by rfl) (hg : Gl X "min" := by rfl) (hs : starEach [a, b] X.env = (false, eval a X.env) :: starEach [b] X.env := by rfl) (hs2 : starEach [b] X.env = (false, eval b X.env) :: starEach [] X.env := by rfl) (hpl : (backTo pos (starEach [b] X.env)).any (·.1) = false := by rfl) : DE X cl E Γ (.Call (.Name "min" p) [a, b] [] pos) (mOpA oMin2 (mCons f (mCons g mNil))) :=
  e_callB (call_min2 hc) oa_min2 hm (by decide +kernel) (ab_cons ha (ab_cons hb ab_nil hs2) hs) hg (by decide) (by decide) hs hpl
/-- the built-in class of a value -/
def tyN : D → Option String
  | .non => some "NoneType"
  | .bl _ => some "bool"
  | .int _ => some "int"
  | .str _ => some "str"
  | .lst _ => some "list"
  | .tup _ => some "tuple"
  | .dict _ => some "dict"
  | _ => none
/-- isinstance(x, T), T a built-in class -/
def oIsi (T : String) (d : D) : Option D := (tyN d).bind fun n => (kitB n T).bind fun b => some (.bl b)
theorem sqt_ty {K : PySem.W.Frag} {a : Addr} {xs : List V} (h : SqT K H a xs) : TyX K H (.ref a) (.type "tuple") := by
  rcases h with (h | ⟨o, h⟩) | ⟨o, its, n, h1, h2, _⟩
  · exact .base (.tup h)
  · exact .fTuple h
  · exact .kTuple h1 h2
theorem Bw.ty (h : Bw X.K cl B H v d) (e : Same B H) {n : String} (hn : tyN d = some n) : TyX X.K H v (.type n) := by
  rcases h with h | ⟨a, rfl, h⟩
  · cases h with
    | non => cases hn; exact .base .non
    | bl b => cases hn; exact .base (.bl b)
    | int i => cases hn; exact .base (.int i)
    | str x => cases hn; exact .base (.str x)
    | lst h1 _ => cases hn; exact .base (.lst (e _ _ h1))
    | tup h1 _ => cases hn; exact sqt_ty (same_t e h1)
    | dK h1 _ => cases hn; exact .base (.dK (e _ _ h1))
    | dT h1 _ => cases hn; exact .base (.dT (e _ _ h1))
    | obj _ _ _ => cases hn
    | scr _ => cases hn
  · cases d with
    | lst ds => obtain ⟨f, vs, h1, h2⟩ := h; cases hn; exact .base (.lst h1)
    | dict ds =>
      obtain ⟨f, h⟩ := h
      cases hn
      rcases h with ⟨ks, h1, _⟩ | ⟨ks, h1, _⟩
      · exact .base (.dK h1)
      · exact .base (.dT h1)
    | obj c ds => cases hn
    | _ => exact h.elim
theorem snd_isi {te : TE} {T : String} (h : SndB X.K cl E Γ te f) : SndE X.K cl E Γ (tCB (rIsi X.K) (tCons te (tCons (tC (.ty T)) tNil))) (mOp1 (oIsi T) f) := fun B0 H0 pn σ s B H Q rel n q => by
  refine h B0 H0 pn σ s B H _ rel n.bind fun d x B1 H1 e1 p1 w1 => ?_
  obtain ⟨z, ez⟩ := ofO_nb (n.next e1)
  have e3 : mOp1 (oIsi T) f s = .ok z := by
    show (f s).bind _ = _
    rw [e1]; show ofO _ = _; rw [ez]; rfl
  unfold oIsi at ez
  cases en : tyN d with
  | none => rw [en] at ez; cases ez
  | some nm =>
    rw [en] at ez
    cases eb : kitB nm T with
    | none =>
      have ez' : (kitB nm T).bind (fun b => some (D.bl b)) = some z := ez
      rw [eb] at ez'; cases ez'
    | some b =>
      have ez' : (kitB nm T).bind (fun b => some (D.bl b)) = some z := ez
      rw [eb] at ez'
      cases ez'
      exact ⟨x, .ty T, .type nm, .type T, b, rfl, .ty T, w1.ty p1.i en, kit_ty eb, q _ _ B1 H1 e3 p1 (.bl b)⟩
theorem e_isi {T : String} {y : Str} {p p2 : Pos} (hm : X.mg "isinstance" = none) (hT : X.mg y = none) (hv : bootBuiltins y = some (.type T)) (ha : DB X cl E Γ a f) (hg : Gl X "isinstance" := by rfl) (hgT : Gl X y := by rfl) (hn : y ≠ "__name__" := by decide) (hd : (y == ("__debug__" : Str)) = false := by decide)
    (hs : starEach [a, .Name y p2] X.env = (false, eval a X.env) :: starEach [.Name y p2] X.env := by rfl) (hs2 : starEach [.Name y p2] X.env = (false, eval (.Name y p2) X.env) :: starEach [] X.env := by rfl) (hpl : (backTo pos (starEach [.Name y p2] X.env)).any (·.1) = false := by rfl) :
    DE X cl E Γ (.Call (.Name "isinstance" p) [a, .Name y p2] [] pos) (mOp1 (oIsi T) f) :=
  let ⟨_, h1, h2⟩ := ha; ⟨_, pe_callB call_isi hg hm (by decide +kernel) (pa_cons h1 (pa_cons (pe_bltn (v := .ty T) hgT hT hv rfl hn hd) pa_nil hs2) hs) (by decide) (by decide) hs hpl, snd_isi h2⟩
/-! slices -/
structure DO (X : Cx) (cl : Nat → Addr) (E : XK) (Γ : List Nat) (e : Option Expr) (m : S → R (Option Int)) : Prop where
  ex : ∃ t, PO X e t ∧ ∀ B0 H0 pn σ s B H (Q : Option Int → Hp → Prop), RelS X.K cl Γ B0 H0 pn σ s B H → Nb X.K cl E B0 H0 (m s) → (∀ i B' H', m s = .ok i → Stp B H B' H' → Q i H') → t σ H Q
def mNo (_ : S) : R (Option Int) := .ok none
def asI : D → Option Int
  | .int i => some i
  | _ => none
theorem asI_some {d : D} {i : Int} (h : asI d = some i) : d = .int i := by
  cases d <;> simp [asI] at h
  subst h; rfl
def mPart (f : S → R D) (s : S) : R (Option Int) := (f s).bind fun d => (ofO (asI d)).bind fun i => .ok (some i)
theorem o_no : DO X cl E Γ none mNo := ⟨_, po_none, fun B0 H0 pn σ s B H Q rel n q => q none B H rfl (Stp.refl rel.same)⟩
theorem o_some (h : DE X cl E Γ e f) : DO X cl E Γ (some e) (mPart f) :=
  let ⟨_, h1, h2⟩ := h; ⟨_, po_some h1, fun B0 H0 pn σ s B H Q rel n q => by
    refine h2 B0 H0 pn σ s B H _ rel n.bind fun d x B1 H1 e1 p1 w1 => ?_
    have n1 := n.next e1
    obtain ⟨i, ei⟩ := ofO_nb n1.bind
    have ed := asI_some ei
    subst ed
    cases w1
    refine ⟨i, rfl, q _ B1 H1 ?_ p1⟩
    show (f s).bind _ = _
    rw [e1]; rfl⟩
def cutL (xs : List D) (lo hi : Option Int) : List D := (xs.drop (HT.sIx xs.length 0 lo)).take (HT.sIx xs.length xs.length hi - HT.sIx xs.length 0 lo)
def oSl (x : D) (lo hi : Option Int) : Option D := match x with
  | .lst xs => some (.lst (cutL xs lo hi))
  | .tup xs => some (.tup (cutL xs lo hi))
  | .str z => if z.length ≤ LIM then some (.str (cutS z lo hi)) else none
  | _ => none
def rSl (K : PySem.W.Frag) : V → Option Int → Option Int → Hp → VK → Prop := fun x lo hi H Q => rSlL K x lo hi H Q ∨ rSlA K x lo hi H Q ∨ rSlS x lo hi H Q
theorem cut_rep {vs : List V} {ds : List D} (r : RepL X.K cl B vs ds) (lo hi : Option Int) : RepL X.K cl B (cutV vs lo hi) (cutL ds lo hi) := by
  unfold cutV cutL
  rw [r.length]
  exact (r.drop _).take _
def mSl (f : S → R D) (l u : S → R (Option Int)) (s : S) : R D := (f s).bind fun x => (l s).bind fun lo => (u s).bind fun hi => ofO (oSl x lo hi)
theorem cutL_whole {ds : List D} {lo hi : Option Int} (h : HT.sIx ds.length 0 lo = 0 ∧ HT.sIx ds.length ds.length hi = ds.length) : cutL ds lo hi = ds := by
  unfold cutL
  rw [h.1, h.2]
  simp
theorem o_sl {x : V} {d z : D} {lo hi : Option Int} {Q : VK} (sm : Same B H) (w : Bw X.K cl B H x d) (hz : oSl d lo hi = some z) (q : ∀ v B' H', Stp B H B' H' → Rep X.K cl B' v z → Q v H') : rSl X.K x lo hi H Q := by
  unfold oSl at hz
  split at hz
  · cases hz
    obtain ⟨a, us, rfl, h1, r1⟩ := w.lst sm
    exact .inl ⟨a, us, rfl, .of h1, fun p np => q _ (upd B p (.lst (cutV us lo hi))) _ (Stp.new sm np) (.lst upd_same ((cut_rep r1 lo hi).mono (same_new (sm.free np))))⟩
  · cases hz
    obtain ⟨a, us, rfl, h1, r1⟩ := w.tup
    refine .inr (.inl ⟨a, us, rfl, same_t sm h1, fun hw => ?_, fun hw p np => ?_⟩)
    · rw [r1.length] at hw
      rw [cutL_whole hw] at q
      exact q _ B H (Stp.refl sm) (.tup h1 r1)
    · exact q _ (upd B p (.tup (cutV us lo hi))) _ (Stp.new sm np) (.tup (.of upd_same) ((cut_rep r1 lo hi).mono (same_new (sm.free np))))
  · split at hz
    · rename_i s hl
      cases hz
      exact .inr (.inr ⟨s, w.str, lim_sz hl, q _ B H (Stp.refl sm) (.str _)⟩)
    · cases hz
  · cases hz
theorem e_slice {lo hi : Option Expr} {l u : S → R (Option Int)} {p2 : Pos} (ha : DB X cl E Γ a f) (hl : DO X cl E Γ lo l) (hh : DO X cl E Γ hi u) : DE X cl E Γ (.Subscript a (.Slice lo hi none p2) pos) (mSl f l u) :=
  let ⟨_, h1, h2⟩ := ha; let ⟨_, h3, h4⟩ := hl; let ⟨_, h5, h6⟩ := hh
  ⟨_, pe_slice (r := rSl X.K) (sl_list.or (sl_tupA.or sl_str)) h1 h3 h5, fun B0 H0 pn σ s B H Q rel n q => by
    refine h2 B0 H0 pn σ s B H _ rel n.bind fun d x B1 H1 e1 p1 w1 => ?_
    have n1 := n.next e1
    refine h4 B0 H0 pn σ s B1 H1 _ (rel.mono p1) n1.bind fun i B2 H2 e2 p2 => ?_
    have n2 := n1.next e2
    refine h6 B0 H0 pn σ s B2 H2 _ ((rel.mono p1).mono p2) n2.bind fun j B3 H3 e3 p3 => ?_
    obtain ⟨z, ez⟩ := ofO_nb (n2.next e3)
    refine o_sl p3.i (w1.step (p2.trans p3)) ez fun v B4 H4 p4 w4 => q z v B4 H4 ?_ (((p1.trans p2).trans p3).trans p4) w4
    show (f s).bind _ = _
    rw [e1]; show (l s).bind _ = _; rw [e2]; show (u s).bind _ = _; rw [e3]; show ofO _ = _; rw [ez]; rfl⟩
end
end Dl

namespace Dl
open PySem PySem.Spec PyProof.Rows L2

/-! ### statements -/
section
variable {X : Cx} {cl : Nat → Addr} {E : XK} {Ω Γ Γ' Γ2 Γl : List Nat} {pn : List (Nat × Addr)} {fr : Bool} {st : Stmt} {sts : List Stmt} {m n : S → Rs} {f g : S → R D} {ea eb ex : Expr} {pos : Pos}
theorem ss_nil : DSs X cl E fr Ω Γ Γ Γl [] mNx := ⟨_, pss_nil, sns_next⟩
theorem ss_cons (h : DS X cl E fr Ω Γ Γ2 Γl st m) (h' : DSs X cl E fr Ω Γ2 Γ' Γl sts n) : DSs X cl E fr Ω Γ Γ' Γl (st :: sts) (mSeq m n) := let ⟨_, h1, h2⟩ := h; let ⟨_, h3, h4⟩ := h'; ⟨_, pss_cons h1 h3, sns_seq h2 h4⟩
theorem ss_one (h : DS X cl E fr Ω Γ Γ' Γl st m) : DSs X cl E fr Ω Γ Γ' Γl [st] m := let ⟨_, h1, h2⟩ := h; ⟨_, pss_one h1, h2⟩
theorem ss_frz (i : Nat) (h : DSs X cl E fr Ω (Γ.filter (· ≠ i)) Γ' Γl sts m) (hi : i ∈ Γ := by decide) (ho : i ∉ Ω := by decide) : DSs X cl E fr Ω Γ Γ' Γl sts m := let ⟨_, h1, h2⟩ := h; ⟨_, h1, sns_frz i hi ho h2⟩
theorem s_frz (i : Nat) (h : DS X cl E fr Ω (Γ.filter (· ≠ i)) Γ' Γl st m) (hi : i ∈ Γ := by decide) (ho : i ∉ Ω := by decide) : DS X cl E fr Ω Γ Γ' Γl st m := let ⟨_, h1, h2⟩ := h; ⟨_, h1, sns_frz i hi ho h2⟩
theorem s_frzB (i : Nat) (h : DS X cl E fr Ω Γ Γ' Γl st m) (hi : i ∈ Γ' := by decide) (ho : i ∉ Ω := by decide) : DS X cl E fr Ω Γ (Γ'.filter (· ≠ i)) Γl st m := let ⟨_, h1, h2⟩ := h; ⟨_, h1, sns_frzB i hi ho h2⟩
theorem ss_frzB (i : Nat) (h : DSs X cl E fr Ω Γ Γ' Γl sts m) (hi : i ∈ Γ' := by decide) (ho : i ∉ Ω := by decide) : DSs X cl E fr Ω Γ (Γ'.filter (· ≠ i)) Γl sts m := let ⟨_, h1, h2⟩ := h; ⟨_, h1, sns_frzB i hi ho h2⟩
theorem ss_perm (Γ1 : List Nat) (h : DSs X cl E fr Ω Γ1 Γ' Γl sts m) (hp : ∀ i, i ∈ Γ1 ↔ i ∈ Γ) : DSs X cl E fr Ω Γ Γ' Γl sts m := let ⟨_, h1, h2⟩ := h; ⟨_, h1, sns_perm Γ1 hp h2⟩
theorem s_pass : DS X cl E fr Ω Γ Γ Γl (.Pass pos) mNx := ⟨_, ps_pass, sns_next⟩
theorem s_break : DS X cl E fr Ω Γ Γ' Γ (.Break pos) mBrk := ⟨_, ps_break, sns_break⟩
theorem s_cont : DS X cl E fr Ω Γ Γ' Γ (.Continue pos) mCt := ⟨_, ps_continue, sns_cont⟩
/-! targets -/
theorem g_name (i : Nat) {x : Str} (hN : X.N.Nodup) (hi : i ∉ Γ := by decide) (hx : X.N[i]? = some x := by rfl) (hl : Loc X.env.scope x := by first | exact Or.inl rfl | exact Or.inr rfl) (hf : X.fn x = true ∨ X.env.scope.names.lookup x = some .local := by first | exact .inl rfl | exact .inr rfl | assumption) : DG X cl Γ (.Name x pos) (mgName i) :=
  ⟨_, pg_name hN hx hl hf, sng_name hi⟩
theorem g_nil : DGs X cl Γ [] mgNil := ⟨_, pgs_nil, sngs_nil⟩
theorem g_cons {es : List Expr} {mg : D → S → Option S} {mgs : List D → S → Option S} (h : DG X cl Γ ex mg) (h' : DGs X cl Γ es mgs) (hs : (assignEach (ex :: es) X.env).map (·.2) = assign ex X.env :: (assignEach es X.env).map (·.2) := by rfl) : DGs X cl Γ (ex :: es) (mgCons mg mgs) :=
  let ⟨_, h1, h2⟩ := h; let ⟨_, h3, h4⟩ := h'; ⟨_, pgs_cons h1 h3 hs, sngs_cons h2 h4⟩
theorem g_tup {es : List Expr} {k : Nat} {mgs : List D → S → Option S} (nn : Nat) (h : DGs X cl Γ es mgs) (hc : X.calm = true := by rfl) (hn : (assignEach es X.env).length = nn := by rfl) (hst : (assignEach es X.env).findIdx? (·.1) = none := by rfl) : DG X cl Γ (.Tuple es k pos) (mgTup mgs nn) :=
  let ⟨_, h1, h2⟩ := h; ⟨_, pg_tup hc h1 hn hst, sng_tup h2⟩
/-! assignments -/
theorem s_set {x : Str} {pos' : Pos} (i : Nat) (hN : X.N.Nodup) (h : DE X cl E Γ ex f) (hi : i ∉ Γ := by decide) (hx : X.N[i]? = some x := by rfl) (hl : Loc X.env.scope x := by first | exact Or.inl rfl | exact Or.inr rfl) (hs : swapsWith ex (some (.Name x pos')) pos.line X.env = pure false := by rfl) (hf : X.fn x = true ∨ X.env.scope.names.lookup x = some .local := by first | exact .inl rfl | exact .inr rfl | assumption) :
    DS X cl E fr Ω Γ Γ Γl (.Assign [.Name x pos'] ex pos) (mAsg f (mgName i)) := let ⟨_, h1, h2⟩ := h; ⟨_, ps_set hN hx hl h1 hs hf, sns_asg h2 (sng_name hi)⟩
theorem s_own {x : Str} {pos' : Pos} (i : Nat) (hN : X.N.Nodup) (h : DF X cl E Γ ex f) (hi : i ∉ Γ := by decide) (hx : X.N[i]? = some x := by rfl) (hl : Loc X.env.scope x := by first | exact Or.inl rfl | exact Or.inr rfl) (hs : swapsWith ex (some (.Name x pos')) pos.line X.env = pure false := by rfl) (hf : X.fn x = true ∨ X.env.scope.names.lookup x = some .local := by first | exact .inl rfl | exact .inr rfl | assumption) :
    DS X cl E fr Ω Γ (i :: Γ) Γl (.Assign [.Name x pos'] ex pos) (mAsg f (mgName i)) := let ⟨_, h1, h2⟩ := h; ⟨_, ps_set hN hx hl h1 hs hf, sns_asgF h2 hi⟩
theorem s_asg {tg : Expr} {mg : D → S → Option S} (h : DE X cl E Γ ex f) (hg : DG X cl Γ tg mg) (hs : swapsWithSole [tg] ex pos.line X.env = pure false := by rfl) (hw : swappedStores [tg] ex X.env = pure none := by rfl) (h1 : (assignEach [tg] X.env).map (·.2) = [assign tg X.env] := by rfl) :
    DS X cl E fr Ω Γ Γ Γl (.Assign [tg] ex pos) (mAsg f mg) := let ⟨_, h1', h2⟩ := h; let ⟨_, h3, h4⟩ := hg; ⟨_, ps_asg h1' h3 hs hw h1, sns_asg h2 h4⟩
theorem s_aug {op : Operator} {ti : TIp} {o : D → D → Option D} {x : Str} {pos' : Pos} (i : Nat) (hr : PIp X op ti) (ho : Op2 X.K cl ti o) (hN : X.N.Nodup) (h : DB X cl E Γ ex f) (hi : i ∉ Γ := by decide) (hx : X.N[i]? = some x := by rfl) (hl : Loc X.env.scope x := by first | exact Or.inl rfl | exact Or.inr rfl) (hf : X.fn x = true ∨ X.env.scope.names.lookup x = some .local := by first | exact .inl rfl | exact .inr rfl | assumption) :
    DS X cl E fr Ω Γ Γ Γl (.AugAssign (.Name x pos') op ex pos) (mAsg (mOp o (mVar i) f) (mgName i)) := let ⟨_, h1, h2⟩ := h; ⟨_, ps_aug hN hx hl h1 hr hf, sns_aug hi ho h2⟩
theorem ip_mul : PIp X .Mult (rI CMul fun i j => .int (i * j)) := by
  intro pins s σ H x y v u Q I r1 r2 h
  obtain ⟨i, j, e1, e2, hc, q⟩ := h
  subst e1; subst e2
  obtain ⟨t, rfl⟩ := r1
  obtain ⟨t', rfl⟩ := r2
  exact imul_int ⟨.int _, H, I.tok _, ⟨_, rfl⟩, q⟩ hc.ok
def oAddI (x y : D) : Option D := match x, y with
  | .int i, .int j => some (.int (i + j))
  | _, _ => none
theorem oi_addI : Op2 X.K cl (ipI fun i j => i + j) oAddI := by
  intro B H x y d e z Q sm hx hy hz q
  unfold oAddI at hz
  split at hz
  · cases hz; exact ⟨_, _, hx.int, hy.int, q _ B H (Stp.refl sm) (.int _)⟩
  · cases hz
theorem oi_sub : Op2 X.K cl (ipI fun i j => i - j) oSub := by
  intro B H x y d e z Q sm hx hy hz q
  unfold oSub at hz
  split at hz
  · cases hz; exact ⟨_, _, hx.int, hy.int, q _ B H (Stp.refl sm) (.int _)⟩
  · cases hz
theorem s_augadd {x : Str} {pos' : Pos} (i : Nat) (hN : X.N.Nodup) (h : DB X cl E Γ ex f) (hi : i ∉ Γ := by decide) (hx : X.N[i]? = some x := by rfl) (hl : Loc X.env.scope x := by first | exact Or.inl rfl | exact Or.inr rfl) (hf : X.fn x = true ∨ X.env.scope.names.lookup x = some .local := by first | exact .inl rfl | exact .inr rfl | assumption) :
    DS X cl E fr Ω Γ Γ Γl (.AugAssign (.Name x pos') .Add ex pos) (mAsg (mOp oAddI (mVar i) f) (mgName i)) := s_aug i ip_add oi_addI hN h hi hx hl hf
theorem s_augsub {x : Str} {pos' : Pos} (i : Nat) (hN : X.N.Nodup) (h : DB X cl E Γ ex f) (hi : i ∉ Γ := by decide) (hx : X.N[i]? = some x := by rfl) (hl : Loc X.env.scope x := by first | exact Or.inl rfl | exact Or.inr rfl) (hf : X.fn x = true ∨ X.env.scope.names.lookup x = some .local := by first | exact .inl rfl | exact .inr rfl | assumption) :
    DS X cl E fr Ω Γ Γ Γl (.AugAssign (.Name x pos') .Sub ex pos) (mAsg (mOp oSub (mVar i) f) (mgName i)) := s_aug i ip_sub oi_sub hN h hi hx hl hf
theorem s_augmul {x : Str} {pos' : Pos} (i : Nat) (hN : X.N.Nodup) (h : DB X cl E Γ ex f) (hi : i ∉ Γ := by decide) (hx : X.N[i]? = some x := by rfl) (hl : Loc X.env.scope x := by first | exact Or.inl rfl | exact Or.inr rfl) (hf : X.fn x = true ∨ X.env.scope.names.lookup x = some .local := by first | exact .inl rfl | exact .inr rfl | assumption) :
    DS X cl E fr Ω Γ Γ Γl (.AugAssign (.Name x pos') .Mult ex pos) (mAsg (mOp oMul (mVar i) f) (mgName i)) := s_aug i ip_mul o2_mul hN h hi hx hl hf
/-! returns, ifs, loops -/
theorem s_ret (h : DE X cl E Γ ex f) : DS X cl E false Ω Γ Γ' Γl (.Return (some ex) pos) (mRet f) := let ⟨_, h1, h2⟩ := h; ⟨_, ps_ret h1, sns_ret h2⟩
theorem s_retF (h : DF X cl E Γ ex f) : DS X cl E true Ω Γ Γ' Γl (.Return (some ex) pos) (mRet f) := let ⟨_, h1, h2⟩ := h; ⟨_, ps_ret h1, sns_retF h2⟩
theorem s_retO {x : Str} {p : Pos} (i : Nat) (hi : i ∈ Γ := by decide) (hN : X.N[i]? = some x := by rfl) (hv : Vis X.env.scope x := by first | exact Or.inl rfl | exact Or.inr (Or.inl rfl) | exact Or.inr (Or.inr rfl)) (hd : (x == ("__debug__" : Str)) = false := by decide)
    (hcd : (x == ("__classdict__" : Str)) = false := by decide) : DS X cl E true Ω Γ Γ' Γl (.Return (some (.Name x p)) pos) (mRet (mVar i)) := ⟨_, ps_ret (pe_var hN hv hd hcd), sns_retO hi⟩
theorem s_retN : DS X cl E false Ω Γ Γ' Γl (.Return none pos) mRetN := ⟨_, ps_retN, sns_retN⟩
theorem s_if {c : Expr} {as bs : List Stmt} {mc : S → R Bool} (h : DT X cl E Γ c mc) (h1 : DSs X cl E fr Ω Γ Γ' Γl as m) (h2 : DSs X cl E fr Ω Γ Γ' Γl bs n) : DS X cl E fr Ω Γ Γ' Γl (.If c as bs pos) (mIfS mc m n) :=
  let ⟨_, h1', h2'⟩ := h; let ⟨_, h3, h4⟩ := h1; let ⟨_, h5, h6⟩ := h2; ⟨_, ps_if h1' h3 h5, sns_if h2' h4 h6⟩
theorem s_expr (h : DE X cl E Γ ex f) (hs : swapsWith ex none pos.line X.env = pure false := by rfl) : DS X cl E fr Ω Γ Γ Γl (.Expr ex pos) (mDrop f) := let ⟨_, h1, h2⟩ := h; ⟨_, ps_expr h1 hs, sns_drop h2⟩
theorem s_for {it tg : Expr} {body : List Stmt} {mi : S → R (List D)} {mg : D → S → Option S} (hp : PassesOwn (model X.prog X.w) X.A X.env X.xe) (hi : DI X cl E Γ tg it mi) (hg : DG X cl Γ tg mg) (hb : DSs X cl E fr Ω Γ Γ Γ body m) (hc : X.calm = true := by rfl) (hs : ∀ x, foldedSetIterable it X.env x = pure x := by intro _; rfl) :
    DS X cl E fr Ω Γ Γ Γl (.For tg it body [] pos) (mFor mi mg m) := let ⟨_, h1, h2⟩ := hi; let ⟨_, h3, h4⟩ := hg; let ⟨_, h5, h6⟩ := hb; ⟨_, ps_for hp hc h1 h3 h5 hs, sns_for h2 h4 h6⟩
theorem s_while {c : Expr} {body : List Stmt} {mc : S → R Bool} (hp : PassesOwn (model X.prog X.w) X.A X.env X.xe) (hc : DT X cl E Γ c mc) (hb : DSs X cl E fr Ω Γ Γ Γ body m) : DS X cl E fr Ω Γ Γ Γl (.While c body [] pos) (mWhile mc m) :=
  let ⟨_, h1, h2⟩ := hc; let ⟨_, h3, h4⟩ := hb; ⟨_, ps_while hp h1 h3, sns_while h2 h4⟩
end

/-! ### what an owned list does -/
section
variable {X : Cx} {cl : Nat → Addr} {E : XK} {Ω Γ Γ' Γ2 Γl : List Nat} {pn : List (Nat × Addr)} {fr : Bool} {f g : S → R D} {ea eb ex : Expr} {pos : Pos} {K : PySem.W.Frag} {B H B0 H0 : Hp}
/-- the list at slot i -/
def oL (i : Nat) (s : S) (k : List D → Rs) : Rs := match s[i]? with
  | some (some (.lst ds)) => k ds
  | _ => .bad
theorem Post.oL {W : Ends} {i : Nat} {s : S} {k : List D → Rs} {Bm : Hp} (h : Post K cl E fr Γ' Γl B0 H0 pn Bm W (oL i s k)) : ∃ ds, s[i]? = some (some (.lst ds)) ∧ Post K cl E fr Γ' Γl B0 H0 pn Bm W (k ds) := by
  unfold Dl.oL at h
  split at h
  · exact ⟨_, by assumption, h⟩
  · exact h.elim
def setL (i : Nat) (s : S) (x : Option (List D)) : Rs := match x with
  | some ds => .nx (s.set i (some (.lst ds)))
  | none => .bad
theorem Post.setL {W : Ends} {i : Nat} {s : S} {x : Option (List D)} {Bm : Hp} (h : Post K cl E fr Γ' Γl B0 H0 pn Bm W (setL i s x)) : ∃ ds, x = some ds ∧ Post K cl E fr Γ' Γl B0 H0 pn Bm W (.nx (s.set i (some (.lst ds)))) := by
  cases x with
  | some ds => exact ⟨ds, rfl, h⟩
  | none => exact h.elim
theorem RelS.lst {σ : Slots} {s : S} {i : Nat} {ds : List D} (rel : RelS K cl Γ B0 H0 pn σ s B H) (hi : i ∈ Γ) (e : s[i]? = some (some (.lst ds))) : ∃ a vs, σ[i]? = some (some (V.ref a)) ∧ Nw B H0 a ∧ H a = some (.lst vs) ∧ RepL K cl B vs ds := by
  obtain ⟨a, h1, f, vs, h2, h3⟩ := rel.own i _ hi e
  exact ⟨a, vs, h1, f, h2, h3⟩
theorem RelS.putL {σ : Slots} {s : S} {i : Nat} {a : Addr} {ds ds' : List D} {vs' : List V} (rel : RelS K cl Γ B0 H0 pn σ s B H) (hi : i ∈ Γ) (e : s[i]? = some (some (.lst ds))) (ea : σ[i]? = some (some (V.ref a))) (hn : Nw B H0 a) (r : RepL K cl B vs' ds') :
    RelS K cl Γ B0 H0 pn σ (s.set i (some (.lst ds'))) B (upd H a (.lst vs')) := rel.write hi e ea (by intro x z; cases z) ⟨hn, vs', upd_same, r⟩
/-- x.append(e) -/
def pushL (d : D) (ds : List D) : Option (List D) := if ds.length < LIM then some (ds ++ [d]) else none
def mApp (i : Nat) (f : S → R D) (s : S) : Rs := oL i s fun ds => toS (f s) fun d => setL i s (pushL d ds)
theorem sns_app {te : TE} {i : Nat} (hi : i ∈ Γ) (h : SndE K cl E Γ te f) : SndS K cl E fr Ω Γ Γ Γl (tDrop (tBM K "list" rAppend (tVar i) (tCons te tNil))) (mApp i f) := fun B0 H0 pn σ s B H W hΩ rel p => by
  obtain ⟨ds, es, p1⟩ := p.oL
  obtain ⟨a, vs, ea, hn, ha, r⟩ := rel.lst hi es
  refine ⟨_, ea, .inl ⟨rfl, vs, .of ha⟩, h B0 H0 pn σ s B H _ rel p1.nb fun d v B1 H1 e1 q1 w1 => ?_⟩
  obtain ⟨ds', e2, p3⟩ := (p1.next e1).setL
  have rel1 := rel.mono q1
  obtain ⟨a', vs', ea', hn', ha', r'⟩ := rel1.lst hi es
  rw [ea] at ea'
  cases ea'
  unfold pushL at e2
  split at e2
  · rename_i hl
    cases e2
    exact ⟨a, vs', v, rfl, rfl, ha', by rw [r'.length]; exact lim_lt hl, p3 σ B1 _ q1.b (rel1.putL hi es ea hn' (r'.append (.cons w1 .nil)))⟩
  · cases e2
/-- x.extend(e), e a list -/
def oLs : D → Option (List D)
  | .lst ds => some ds
  | _ => none
def extL (d : D) (ds : List D) : Option (List D) := (oLs d).bind fun es => if ds.length + es.length ≤ LIM then some (ds ++ es) else none
def mExt (i : Nat) (f : S → R D) (s : S) : Rs := oL i s fun ds => toS (f s) fun d => setL i s (extL d ds)
theorem sns_ext {te : TE} {i : Nat} (hi : i ∈ Γ) (h : SndB K cl E Γ te f) : SndS K cl E fr Ω Γ Γ Γl (tDrop (tBM K "list" rExtend (tVar i) (tCons te tNil))) (mExt i f) := fun B0 H0 pn σ s B H W hΩ rel p => by
  obtain ⟨ds, es, p1⟩ := p.oL
  obtain ⟨a, vs, ea, hn, ha, r⟩ := rel.lst hi es
  refine ⟨_, ea, .inl ⟨rfl, vs, .of ha⟩, h B0 H0 pn σ s B H _ rel p1.nb fun d v B1 H1 e1 q1 w1 => ?_⟩
  obtain ⟨ds', e2, p3⟩ := (p1.next e1).setL
  have rel1 := rel.mono q1
  obtain ⟨a', vs', ea', hn', ha', r'⟩ := rel1.lst hi es
  rw [ea] at ea'
  cases ea'
  unfold extL at e2
  cases d with
  | lst zs =>
    have e2' : (if ds.length + zs.length ≤ LIM then some (ds ++ zs) else none) = some ds' := e2
    split at e2'
    · rename_i hl
      cases e2'
      obtain ⟨b, ws, rfl, hb, rb⟩ := w1.lst rel1.same
      exact ⟨a, b, vs', ws, rfl, rfl, ha', hb, by rw [r'.length, rb.length]; exact lim_sz hl, p3 σ B1 _ q1.b (rel1.putL hi es ea hn' (r'.append rb))⟩
    · cases e2'
  | _ => cases e2
/-- x[j] = e -/
def putAt (j d : D) (ds : List D) : Option (List D) := match j with
  | .int k => (ixN ds.length k).bind fun n => some (ds.set n d)
  | _ => none
def mPut (i : Nat) (g f : S → R D) (s : S) : Rs := toS (f s) fun d => oL i s fun ds => toS (g s) fun j => setL i s (putAt j d ds)
theorem sns_put {te ti : TE} {i : Nat} (hi : i ∈ Γ) (h : SndE K cl E Γ te f) (h' : SndB K cl E Γ ti g) : SndS K cl E fr Ω Γ Γ Γl (tAsg te (gSub (tVar i) ti rSetL)) (mPut i g f) := fun B0 H0 pn σ s B H W hΩ rel p => by
  refine h B0 H0 pn σ s B H _ rel p.nb fun d v B1 H1 e1 q1 w1 => ?_
  obtain ⟨ds, es, p1⟩ := (p.next e1).oL
  have rel1 := rel.mono q1
  obtain ⟨a, vs, ea, hn, ha, r⟩ := rel1.lst hi es
  refine ⟨_, ea, h' B0 H0 pn σ s B1 H1 _ rel1 p1.nb fun j u B2 H2 e2 q2 w2 => ?_⟩
  obtain ⟨ds', e3, p3⟩ := (p1.next e2).setL
  have rel2 := rel1.mono q2
  obtain ⟨a', vs', ea', hn', ha', r'⟩ := rel2.lst hi es
  rw [ea] at ea'
  cases ea'
  unfold putAt at e3
  split at e3
  · rename_i k
    cases en : ixN ds.length k with
    | none => rw [en] at e3; cases e3
    | some n =>
      rw [en] at e3
      cases e3
      exact ⟨a, vs', k, n, rfl, w2.int, ha', by rw [r'.length]; exact en, p3 σ B2 _ (q1.b.trans q2.b) (rel2.putL hi es ea hn' (RepL.set (w1.mono q2.b) n r'))⟩
  · cases e3
/-- y = x.pop(e), x.pop() dropped .. : the item and the rest -/
def popAt (j : D) (ds : List D) : Option (D × List D) := match j with
  | .int k => if -(2 ^ 63) ≤ k ∧ k < 2 ^ 63 then (seqIndex? k ds.length).bind fun n => (ds[n]?).bind fun d => some (d, ds.eraseIdx n) else none
  | _ => none
/-- y.append(x.pop(e)) -/
def mAppPop (i l : Nat) (g : S → R D) (s : S) : Rs := oL i s fun ds => oL l s fun es => toS (g s) fun j => match popAt j es with
  | some (d, es') => match pushL d ds with
    | some ds' => .nx ((s.set l (some (.lst es'))).set i (some (.lst ds')))
    | none => .bad
  | none => .bad
theorem sns_appPop {ti : TE} {i l : Nat} (hi : i ∈ Γ) (hl : l ∈ Γ) (hil : i ≠ l) (h : SndB K cl E Γ ti g) : SndS K cl E fr Ω Γ Γ Γl (tDrop (tBM K "list" rAppend (tVar i) (tCons (tBM K "list" rPopAt (tVar l) (tCons ti tNil)) tNil))) (mAppPop i l g) := fun B0 H0 pn σ s B H W hΩ rel p => by
  obtain ⟨ds, es, p1⟩ := p.oL
  obtain ⟨fs, es2, p2⟩ := p1.oL
  obtain ⟨a, vs, ea, hn, ha, r⟩ := rel.lst hi es
  obtain ⟨b, ws, eb, hn2, hb, r2⟩ := rel.lst hl es2
  refine ⟨_, ea, .inl ⟨rfl, vs, .of ha⟩, _, eb, .inl ⟨rfl, ws, .of hb⟩, h B0 H0 pn σ s B H _ rel p2.nb fun j u B1 H1 e1 q1 w1 => ?_⟩
  have p3 := p2.next e1
  have rel1 := rel.mono q1
  obtain ⟨b', ws', eb', hn2', hb', r2'⟩ := rel1.lst hl es2
  rw [eb] at eb'
  cases eb'
  cases ep : popAt j fs with
  | none => rw [ep] at p3; exact p3.elim
  | some dp =>
    obtain ⟨d, es'⟩ := dp
    rw [ep] at p3
    dsimp only at p3
    cases eq : pushL d ds with
    | none => rw [eq] at p3; exact p3.elim
    | some ds' =>
      rw [eq] at p3
      unfold popAt at ep
      split at ep
      · rename_i k
        split at ep
        · rename_i hk
          cases en : seqIndex? k fs.length with
          | none => rw [en] at ep; cases ep
          | some n =>
            rw [en] at ep
            cases ed : fs[n]? with
            | none =>
              have ep' : (fs[n]?).bind (fun d => some (d, fs.eraseIdx n)) = some (d, es') := ep
              rw [ed] at ep'; cases ep'
            | some d' =>
              have ep' : (fs[n]?).bind (fun d => some (d, fs.eraseIdx n)) = some (d, es') := ep
              rw [ed] at ep'
              cases ep'
              obtain ⟨v, hv, rv⟩ := r2'.get ed
              have rel2 := rel1.putL hl es2 eb hn2' (r2'.eraseIdx n)
              refine ⟨b, ws', k, n, v, rfl, by rw [w1.int], hb', hk.1, hk.2, by rw [r2'.length]; exact en, hv, ?_⟩
              have es3 : (s.set l (some (.lst (fs.eraseIdx n))))[i]? = some (some (.lst ds)) := by rw [List.getElem?_set_ne (Ne.symm hil)]; exact es
              obtain ⟨a', vs', ea', hn', ha', r'⟩ := rel2.lst hi es3
              rw [ea] at ea'
              cases ea'
              unfold pushL at eq
              split at eq
              · rename_i hlim
                cases eq
                exact ⟨a, vs', v, rfl, rfl, ha', by rw [r'.length]; exact lim_lt hlim, p3 σ B1 _ q1.b (rel2.putL hi es3 ea hn' (r'.append (.cons rv .nil)))⟩
              · cases eq
        · cases ep
      · cases ep
/-- x.sort() of ints -/
def asInts : List D → Option (List Int)
  | [] => some []
  | .int i :: ds => (asInts ds).bind fun ns => some (i :: ns)
  | _ :: _ => none
end

section
variable {X : Cx} {cl : Nat → Addr} {E : XK} {Ω Γ Γ' Γ2 Γl : List Nat} {pn : List (Nat × Addr)} {fr : Bool} {f g : S → R D} {ea eb ex : Expr} {pos apos cpos p1 p2 : Pos}
theorem s_app {x : Str} (i : Nat) (h : DE X cl E Γ ex f) (hi : i ∈ Γ := by decide) (hN : X.N[i]? = some x := by rfl) (hv : Vis X.env.scope x := by first | exact Or.inl rfl | exact Or.inr (Or.inl rfl) | exact Or.inr (Or.inr rfl)) (hd : (x == ("__debug__" : Str)) = false := by decide)
    (hcd : (x == ("__classdict__" : Str)) = false := by decide) (hbase : attributeBase (.Name x p1) "append" X.env (eval (.Name x p1) X.env) = eval (.Name x p1) X.env := by rfl)
    (hfew : ((backTo cpos (starEach [ex] X.env)).all (fun x => !x.1) && (backToKw cpos (keywordEach [] X.env)).all (fun x => x.1.isSome)
      && decide ([ex].length + ([] : List Keyword).length + (if ([] : List Keyword).isEmpty then 0 else 1) < 30)) = true := by rfl)
    (hline : (apos.endLine == cpos.line) = true := by rfl) (hs : starEach [ex] X.env = (false, eval ex X.env) :: starEach [] X.env := by rfl) (hplain : (backTo cpos (starEach [] X.env)).any (·.1) = false := by rfl)
    (hsw : swapsWith (.Call (.Attribute (.Name x p1) "append" apos) [ex] [] cpos) none pos.line X.env = pure false := by rfl) :
    DS X cl E fr Ω Γ Γ Γl (.Expr (.Call (.Attribute (.Name x p1) "append" apos) [ex] [] cpos) pos) (mApp i f) :=
  let ⟨_, h1, h2⟩ := h; ⟨_, ps_expr (pe_bm PySem.F.plainAttrs_list PySem.F.slot_list_append PySem.F.type_list_append mt_append (pe_var hN hv hd hcd) (pa_cons h1 pa_nil hs) hbase hfew hline hs hplain) hsw, sns_app hi h2⟩
theorem s_ext {x : Str} (i : Nat) (h : DB X cl E Γ ex f) (hi : i ∈ Γ := by decide) (hN : X.N[i]? = some x := by rfl) (hv : Vis X.env.scope x := by first | exact Or.inl rfl | exact Or.inr (Or.inl rfl) | exact Or.inr (Or.inr rfl)) (hd : (x == ("__debug__" : Str)) = false := by decide)
    (hcd : (x == ("__classdict__" : Str)) = false := by decide) (hbase : attributeBase (.Name x p1) "extend" X.env (eval (.Name x p1) X.env) = eval (.Name x p1) X.env := by rfl)
    (hfew : ((backTo cpos (starEach [ex] X.env)).all (fun x => !x.1) && (backToKw cpos (keywordEach [] X.env)).all (fun x => x.1.isSome)
      && decide ([ex].length + ([] : List Keyword).length + (if ([] : List Keyword).isEmpty then 0 else 1) < 30)) = true := by rfl)
    (hline : (apos.endLine == cpos.line) = true := by rfl) (hs : starEach [ex] X.env = (false, eval ex X.env) :: starEach [] X.env := by rfl) (hplain : (backTo cpos (starEach [] X.env)).any (·.1) = false := by rfl)
    (hsw : swapsWith (.Call (.Attribute (.Name x p1) "extend" apos) [ex] [] cpos) none pos.line X.env = pure false := by rfl) :
    DS X cl E fr Ω Γ Γ Γl (.Expr (.Call (.Attribute (.Name x p1) "extend" apos) [ex] [] cpos) pos) (mExt i f) :=
  let ⟨_, h1, h2⟩ := h; ⟨_, ps_expr (pe_bm PySem.F.plainAttrs_list PySem.F.slot_list_extend PySem.F.type_list_extend mt_extend (pe_var hN hv hd hcd) (pa_cons h1 pa_nil hs) hbase hfew hline hs hplain) hsw, sns_ext hi h2⟩
theorem s_put {x : Str} {j : Expr} (i : Nat) (h' : DB X cl E Γ j g) (h : DE X cl E Γ ex f) (hi : i ∈ Γ := by decide) (hN : X.N[i]? = some x := by rfl) (hv : Vis X.env.scope x := by first | exact Or.inl rfl | exact Or.inr (Or.inl rfl) | exact Or.inr (Or.inr rfl)) (hd : (x == ("__debug__" : Str)) = false := by decide)
    (hcd : (x == ("__classdict__" : Str)) = false := by decide)
    (ha : ∀ v, assign (.Subscript (.Name x p1) j p2) X.env v = (do
      let ov ← holding [v] (eval (.Name x p1) X.env)
      let iv ← holding [v, ov] (eval j X.env)
      standAt p2
      holding [v, ov, iv] (setItem ov iv v)
      release [v, ov, iv] []) := by intro _; rfl)
    (hs : swapsWithSole [.Subscript (.Name x p1) j p2] ex pos.line X.env = pure false := by rfl) (hw : swappedStores [.Subscript (.Name x p1) j p2] ex X.env = pure none := by rfl) (h1 : (assignEach [.Subscript (.Name x p1) j p2] X.env).map (·.2) = [assign (.Subscript (.Name x p1) j p2) X.env] := by rfl) :
    DS X cl E fr Ω Γ Γ Γl (.Assign [.Subscript (.Name x p1) j p2] ex pos) (mPut i g f) :=
  let ⟨_, h1', h2⟩ := h; let ⟨_, h3, h4⟩ := h'; ⟨_, ps_asg h1' (pg_sub (pe_var hN hv hd hcd) h3 set_list ha) hs hw h1, sns_put hi h2 h4⟩
theorem s_appPop {x y : Str} {j : Expr} {apos2 cpos2 : Pos} (i l : Nat) (h : DB X cl E Γ j g) (hi : i ∈ Γ := by decide) (hl : l ∈ Γ := by decide) (hil : i ≠ l := by decide) (hN : X.N[i]? = some x := by rfl) (hN2 : X.N[l]? = some y := by rfl)
    (hv : Vis X.env.scope x := by first | exact Or.inl rfl | exact Or.inr (Or.inl rfl) | exact Or.inr (Or.inr rfl)) (hv2 : Vis X.env.scope y := by first | exact Or.inl rfl | exact Or.inr (Or.inl rfl) | exact Or.inr (Or.inr rfl)) (hd : (x == ("__debug__" : Str)) = false := by decide) (hd2 : (y == ("__debug__" : Str)) = false := by decide)
    (hcd : (x == ("__classdict__" : Str)) = false := by decide) (hcd2 : (y == ("__classdict__" : Str)) = false := by decide)
    (hbase : attributeBase (.Name x p1) "append" X.env (eval (.Name x p1) X.env) = eval (.Name x p1) X.env := by rfl) (hbase2 : attributeBase (.Name y p2) "pop" X.env (eval (.Name y p2) X.env) = eval (.Name y p2) X.env := by rfl)
    (hfew : ((backTo cpos (starEach [.Call (.Attribute (.Name y p2) "pop" apos2) [j] [] cpos2] X.env)).all (fun x => !x.1) && (backToKw cpos (keywordEach [] X.env)).all (fun x => x.1.isSome)
      && decide ([Expr.Call (.Attribute (.Name y p2) "pop" apos2) [j] [] cpos2].length + ([] : List Keyword).length + (if ([] : List Keyword).isEmpty then 0 else 1) < 30)) = true := by rfl)
    (hfew2 : ((backTo cpos2 (starEach [j] X.env)).all (fun x => !x.1) && (backToKw cpos2 (keywordEach [] X.env)).all (fun x => x.1.isSome)
      && decide ([j].length + ([] : List Keyword).length + (if ([] : List Keyword).isEmpty then 0 else 1) < 30)) = true := by rfl)
    (hline : (apos.endLine == cpos.line) = true := by rfl) (hline2 : (apos2.endLine == cpos2.line) = true := by rfl)
    (hs : starEach [.Call (.Attribute (.Name y p2) "pop" apos2) [j] [] cpos2] X.env = (false, eval (.Call (.Attribute (.Name y p2) "pop" apos2) [j] [] cpos2) X.env) :: starEach [] X.env := by rfl) (hs2 : starEach [j] X.env = (false, eval j X.env) :: starEach [] X.env := by rfl)
    (hplain : (backTo cpos (starEach [] X.env)).any (·.1) = false := by rfl) (hplain2 : (backTo cpos2 (starEach [] X.env)).any (·.1) = false := by rfl)
    (hsw : swapsWith (.Call (.Attribute (.Name x p1) "append" apos) [.Call (.Attribute (.Name y p2) "pop" apos2) [j] [] cpos2] [] cpos) none pos.line X.env = pure false := by rfl) :
    DS X cl E fr Ω Γ Γ Γl (.Expr (.Call (.Attribute (.Name x p1) "append" apos) [.Call (.Attribute (.Name y p2) "pop" apos2) [j] [] cpos2] [] cpos) pos) (mAppPop i l g) :=
  let ⟨_, h1, h2⟩ := h; ⟨_, ps_expr (pe_bm PySem.F.plainAttrs_list PySem.F.slot_list_append PySem.F.type_list_append mt_append (pe_var hN hv hd hcd) (pa_cons (pe_bm PySem.F.plainAttrs_list PySem.F.slot_list_pop PySem.F.type_list_pop mt_popAt (pe_var hN2 hv2 hd2 hcd2) (pa_cons h1 pa_nil hs2) hbase2 hfew2 hline2 hs2 hplain2) pa_nil hs) hbase hfew hline hs hplain) hsw, sns_appPop hi hl hil h2⟩
end
end Dl

namespace Dl
open PySem PySem.Spec PyProof.Rows L2

/-! ### what is walked -/
def rgD (lo : Int) (n : Nat) : List D := (List.range n).map fun k : Nat => D.int (lo + (k : Int))
theorem rgD_get {lo : Int} {n i : Nat} {d : D} (h : (rgD lo n)[i]? = some d) : i < n ∧ d = .int (lo + (i : Int)) := by
  unfold rgD at h
  rw [List.getElem?_map] at h
  by_cases hi : i < n
  · rw [List.getElem?_range hi] at h
    exact ⟨hi, (Option.some.inj h).symm⟩
  · rw [List.getElem?_eq_none (by simpa using hi)] at h; cases h
theorem rgD_none {lo : Int} {n i : Nat} (h : (rgD lo n)[i]? = none) : n ≤ i := by
  have := List.getElem?_eq_none_iff.mp h
  unfold rgD at this
  simpa using this
theorem rgD_length {lo : Int} {n : Nat} : (rgD lo n).length = n := by unfold rgD; simp
section
variable {X : Cx} {cl : Nat → Addr} {E : XK} {Ω Γ Γ' Γ2 Γl : List Nat} {pn : List (Nat × Addr)} {fr : Bool} {f g : S → R D} {ea eb ex tg : Expr} {pos : Pos} {K : PySem.W.Frag} {B H B0 H0 : Hp}
theorem iters_rg {lo : Int} {n : Nat} : Iters K cl (Itr lo n) (rgD lo n) B := fun i B2 H2 _ e2 => ⟨fun d h => by
  obtain ⟨h1, rfl⟩ := rgD_get h
  refine ⟨h1, fun x H3 y => ?_⟩
  obtain ⟨rfl, rfl⟩ := y
  exact ⟨B2, Stp.refl e2, .int _⟩, fun h => rgD_none h⟩
def smallI (i : Int) : Bool := decide (-(2 ^ 62) ≤ i) && decide (i < 2 ^ 62)
theorem smallI_ok {i : Int} (h : smallI i = true) : -(2 ^ 62) ≤ i ∧ i < 2 ^ 62 := by
  unfold smallI at h
  rw [Bool.and_eq_true] at h
  exact ⟨of_decide_eq_true h.1, of_decide_eq_true h.2⟩
def oRg1 : List D → Option (List D)
  | [.int j] => if smallI j = true then some (rgD 0 j.toNat) else none
  | _ => none
def oRg2 : List D → Option (List D)
  | [.int i, .int j] => if smallI i = true ∧ smallI j = true then some (rgD i (j - i).toNat) else none
  | _ => none
def mIt (o : List D → Option (List D)) (fs : S → R (List D)) (s : S) : R (List D) := (fs s).bind fun ds => ofO (o ds)
theorem snd_rg1 {ta : TA} {fs : S → R (List D)} (h : SndAB K cl E Γ ta fs) : SndI K cl E Γ (iRng1 ta) (mIt oRg1 fs) := fun B0 H0 pn σ s B H Q rel n q => by
  refine h B0 H0 pn σ s B H _ rel n.bind fun ds vs B1 H1 e1 p1 w1 => ?_
  obtain ⟨z, ez⟩ := ofO_nb (n.next e1)
  have e3 : mIt oRg1 fs s = .ok z := by
    show (fs s).bind _ = _
    rw [e1]; show ofO _ = _; rw [ez]; rfl
  unfold oRg1 at ez
  split at ez
  · split at ez
    · rename_i j hj
      cases ez
      obtain ⟨v, rfl, w⟩ := w1.one
      rw [w.int]
      have hs := smallI_ok hj
      exact ⟨j, rfl, hs.1, hs.2, q _ _ B1 H1 e3 p1 iters_rg⟩
    · cases ez
  · cases ez
theorem snd_rg2 {ta : TA} {fs : S → R (List D)} (h : SndAB K cl E Γ ta fs) : SndI K cl E Γ (iRng2 ta) (mIt oRg2 fs) := fun B0 H0 pn σ s B H Q rel n q => by
  refine h B0 H0 pn σ s B H _ rel n.bind fun ds vs B1 H1 e1 p1 w1 => ?_
  obtain ⟨z, ez⟩ := ofO_nb (n.next e1)
  have e3 : mIt oRg2 fs s = .ok z := by
    show (fs s).bind _ = _
    rw [e1]; show ofO _ = _; rw [ez]; rfl
  unfold oRg2 at ez
  split at ez
  · split at ez
    · rename_i i j hj
      cases ez
      obtain ⟨v, v', rfl, w, w'⟩ := w1.two
      rw [w.int, w'.int]
      have h1 := smallI_ok hj.1
      have h2 := smallI_ok hj.2
      exact ⟨i, j, rfl, ⟨h1.1, h1.2, h2.1, h2.2⟩, q _ _ B1 H1 e3 p1 iters_rg⟩
    · cases ez
  · cases ez
theorem i_rg1 {p : Pos} (hm : X.mg "range" = none) (h : DB X cl E Γ ea f) (hg : Gl X "range" := by rfl) (hs0 : starEach [ea] X.env = (false, eval ea X.env) :: starEach [] X.env := by rfl) (hs : starEach [ea] X.env = [(false, eval ea X.env)] := by rfl) : DI X cl E Γ tg (.Call (.Name "range" p) [ea] [] pos) (mIt oRg1 (mCons f mNil)) :=
  let ⟨_, h1, h2⟩ := h; ⟨_, pi_range1 hg hm (pa_cons h1 pa_nil hs0) hs, snd_rg1 (snab_cons h2 snab_nil)⟩
theorem i_rg2 {p : Pos} (hm : X.mg "range" = none) (h : DB X cl E Γ ea f) (h' : DB X cl E Γ eb g) (hg : Gl X "range" := by rfl) (hs0 : starEach [ea, eb] X.env = (false, eval ea X.env) :: starEach [eb] X.env := by rfl) (hs1 : starEach [eb] X.env = (false, eval eb X.env) :: starEach [] X.env := by rfl)
    (hs : starEach [ea, eb] X.env = [(false, eval ea X.env), (false, eval eb X.env)] := by rfl) (hs2 : starEach [eb] X.env = [(false, eval eb X.env)] := by rfl) : DI X cl E Γ tg (.Call (.Name "range" p) [ea, eb] [] pos) (mIt oRg2 (mCons f (mCons g mNil))) :=
  let ⟨_, h1, h2⟩ := h; let ⟨_, h3, h4⟩ := h'; ⟨_, pi_range2 hg hm (pa_cons h1 (pa_cons h3 pa_nil hs1) hs0) hs hs2, snd_rg2 (snab_cons h2 (snab_cons h4 snab_nil))⟩
/-- a list, a tuple, a text -/
def iAny (K : PySem.W.Frag) (tl : TE) : TI := fun σ H R => tl σ H fun x H1 => (∃ a, x = .ref a ∧ (∃ xs, SqL K H1 a xs) ∧ R (Itl K a) H1) ∨ (∃ a, x = .ref a ∧ (∃ xs, SqT K H1 a xs) ∧ R (Itt K a) H1) ∨ ∃ z, x = .str z ∧ R (Its z) H1
theorem pi_any {l : Expr} {tl : TE} (hl : PE X l tl) : PI X tg l (iAny X.K tl) := by
  refine ⟨fun pins s σ H R I h => ?_⟩
  refine thn (hl.run pins s σ H _ I h) fun v s1 ⟨x, H1, I1, r1, q1⟩ => ?_
  rcases q1 with ⟨a, e, ⟨xs, hq⟩, q⟩ | ⟨a, e, ⟨xs, hq⟩, q⟩ | ⟨z, e, q⟩
  · subst e
    cases r1
    obtain ⟨its, rv, p, hz⟩ := I1.list hq
    refine wpAny_pyIter_list p.isList ?_
    refine ⟨s1.heap.objs.size, [s1.heap.objs.size], _, _, H1, rfl, I1.kept (t' := s1.toks) fun b o e => Heap.get?_push_of_some _ e, turn_list a _, ⟨_, Heap.get?_push_size _ rfl, rfl, rfl⟩, fun b hb => ?_, q⟩
    have e : b = s1.heap.objs.size := by simpa using hb
    subst e
    exact I1.fpOk (Nat.le_refl _) (I1.hok.fresh (Nat.le_refl _))
  · subst e
    cases r1
    obtain ⟨its, rv, p, hz⟩ := I1.tuple hq
    refine wpAny_pyIter_tuple (show s1.heap.IsTuple a its.toArray from p) ?_
    refine ⟨s1.heap.objs.size, [s1.heap.objs.size], _, _, H1, rfl, I1.kept (t' := s1.toks) fun b o e => Heap.get?_push_of_some _ e, turn_tuple a _, ⟨_, Heap.get?_push_size _ rfl, rfl, rfl⟩, fun b hb => ?_, q⟩
    have e : b = s1.heap.objs.size := by simpa using hb
    subst e
    exact I1.fpOk (Nat.le_refl _) (I1.hok.fresh (Nat.le_refl _))
  · subst e
    obtain ⟨t, rfl⟩ := r1
    cases ha : z.cps.all (· < 128)
    · exact wpAny_pyIter_wide ha (pi_one (tk := s1.toks) I1 _ (turn_str _ z t "str_iterator" (.inr rfl)) ⟨_, Heap.get?_push_size _ rfl, rfl, rfl⟩ q)
    · exact wpAny_pyIter_ascii ha (pi_one (tk := s1.toks) I1 _ (turn_str _ z t "str_ascii_iterator" (.inl rfl)) ⟨_, Heap.get?_push_size _ rfl, rfl, rfl⟩ q)
theorem iters_lst {a : Addr} {vs : List V} {ds : List D} (h : B a = some (.lst vs)) (r : RepL K cl B vs ds) : Iters K cl (Itl K a) ds B := fun i B2 H2 e1 e2 => ⟨fun d hd => by
  obtain ⟨v, hv, rv⟩ := r.get hd
  refine ⟨⟨vs, v, .of (e2 _ _ (e1 _ _ h)), hv⟩, fun x H3 y => ?_⟩
  obtain ⟨rfl, y⟩ := y
  have e := y vs (.of (e2 _ _ (e1 _ _ h)))
  rw [hv] at e
  cases e
  exact ⟨B2, Stp.refl e2, rv.mono e1⟩, fun hd => ⟨vs, .of (e2 _ _ (e1 _ _ h)), by rw [r.length]; exact List.getElem?_eq_none_iff.mp hd⟩⟩
theorem iters_tup {a : Addr} {vs : List V} {ds : List D} (h : SqT K B a vs) (r : RepL K cl B vs ds) : Iters K cl (Itt K a) ds B := fun i B2 H2 e1 e2 => ⟨fun d hd => by
  obtain ⟨v, hv, rv⟩ := r.get hd
  refine ⟨⟨vs, v, same_t (e1.trans e2) h, hv⟩, fun x H3 y => ?_⟩
  obtain ⟨rfl, y⟩ := y
  have e := y vs (same_t (e1.trans e2) h)
  rw [hv] at e
  cases e
  exact ⟨B2, Stp.refl e2, rv.mono e1⟩, fun hd => ⟨vs, same_t (e1.trans e2) h, by rw [r.length]; exact List.getElem?_eq_none_iff.mp hd⟩⟩
def signs (z : Str) : List D := z.cps.toList.map fun c => D.str ⟨#[c]⟩
theorem iters_str {z : Str} : Iters K cl (Its z) (signs z) B := fun i B2 H2 e1 e2 => ⟨fun d hd => by
  unfold signs at hd
  rw [List.getElem?_map] at hd
  cases ec : z.cps.toList[i]? with
  | none => rw [ec] at hd; cases hd
  | some c =>
    rw [ec] at hd
    cases hd
    have ec' : z.cps[i]? = some c := by rw [← Array.getElem?_toList]; exact ec
    have hi : i < z.cps.size := by
      obtain ⟨q, _⟩ := Array.getElem?_eq_some_iff.mp ec'
      exact q
    refine ⟨hi, fun x H3 y => ?_⟩
    obtain ⟨rfl, c', e, rfl⟩ := y
    rw [ec'] at e
    cases e
    exact ⟨B2, Stp.refl e2, .str _⟩, fun hd => by
  unfold signs at hd
  have := List.getElem?_eq_none_iff.mp hd
  show z.cps.size ≤ i
  simpa using this⟩
def oSeq : D → Option (List D)
  | .lst ds => some ds
  | .tup ds => some ds
  | .str z => some (signs z)
  | _ => none
def mSeqI (f : S → R D) (s : S) : R (List D) := (f s).bind fun d => ofO (oSeq d)
theorem snd_any {te : TE} (h : SndE K cl E Γ te f) : SndI K cl E Γ (iAny K te) (mSeqI f) := fun B0 H0 pn σ s B H Q rel n q => by
  refine h B0 H0 pn σ s B H _ rel n.bind fun d v B1 H1 e1 p1 w1 => ?_
  obtain ⟨z, ez⟩ := ofO_nb (n.next e1)
  have e3 : mSeqI f s = .ok z := by
    show (f s).bind _ = _
    rw [e1]; show ofO _ = _; rw [ez]; rfl
  cases w1 with
  | lst h1 r1 => cases ez; exact .inl ⟨_, rfl, ⟨_, .of (p1.i _ _ h1)⟩, q _ _ B1 H1 e3 p1 (iters_lst h1 r1)⟩
  | tup h1 r1 => cases ez; exact .inr (.inl ⟨_, rfl, ⟨_, same_t p1.i h1⟩, q _ _ B1 H1 e3 p1 (iters_tup h1 r1)⟩)
  | str z => cases ez; exact .inr (.inr ⟨z, rfl, q _ _ B1 H1 e3 p1 iters_str⟩)
  | _ => cases ez
theorem i_any (h : DE X cl E Γ ex f) : DI X cl E Γ tg ex (mSeqI f) := let ⟨_, h1, h2⟩ := h; ⟨_, pi_any h1, snd_any h2⟩
end

/-! ### comprehensions -/
def wipeD (s : S) : List Nat → S
  | [] => s
  | v :: vs => (wipeD s vs).set v none
def noExc {α : Type} : R α → R α
  | .ok a => .ok a
  | _ => .bad
theorem noExc_ok {α : Type} {x : R α} {a : α} (h : noExc x = .ok a) : x = .ok a := by
  cases x with
  | ok b => exact h
  | exc c fs => cases h
  | bad => cases h
theorem Nb.noExc {K : PySem.W.Frag} {cl : Nat → Addr} {E : XK} {B0 H0 : Hp} {α : Type} {x : R α} (h : Nb K cl E B0 H0 (noExc x)) : ∃ a, x = .ok a := by
  cases x with
  | ok b => exact ⟨b, rfl⟩
  | exc c fs => exact h.elim
  | bad => exact h.elim
/-- what a comprehension makes of the items -/
def lcRun (g : D → S → Option S) (t : S → R Bool) (e : S → R D) (s : S) : List D → R (List D)
  | [] => .ok []
  | d :: ds => (ofO (g d s)).bind fun s1 => (noExc (t s1)).bind fun b => if b then (noExc (e s1)).bind fun y => (lcRun g t e s ds).bind fun ys => .ok (y :: ys) else lcRun g t e s ds
def mLc (mi : S → R (List D)) (g : D → S → Option S) (t : S → R Bool) (e : S → R D) (vs : List Nat) (s : S) : R D := (mi s).bind fun ds => (lcRun g t e (wipeD s vs) ds).bind fun ys => ofO (oLst ys)
def mYes (_ : S) : R Bool := .ok true
theorem lcRun_cases {g : D → S → Option S} {t : S → R Bool} {e : S → R D} {s : S} {d : D} {ds zs : List D} (h : lcRun g t e s (d :: ds) = .ok zs) :
    ∃ s1 b, g d s = some s1 ∧ t s1 = .ok b ∧ ((b = true ∧ ∃ y ys, e s1 = .ok y ∧ lcRun g t e s ds = .ok ys ∧ zs = y :: ys) ∨ (b = false ∧ lcRun g t e s ds = .ok zs)) := by
  unfold lcRun at h
  cases e1 : g d s with
  | none => rw [e1] at h; cases h
  | some s1 =>
    rw [e1] at h
    have h' : (noExc (t s1)).bind (fun b => if b then (noExc (e s1)).bind fun y => (lcRun g t e s ds).bind fun ys => .ok (y :: ys) else lcRun g t e s ds) = R.ok zs := h
    cases e2 : noExc (t s1) with
    | exc c fs => rw [e2] at h'; cases h'
    | bad => rw [e2] at h'; cases h'
    | ok b =>
      rw [e2] at h'
      refine ⟨s1, b, rfl, noExc_ok e2, ?_⟩
      cases b with
      | false => exact .inr ⟨rfl, h'⟩
      | true =>
        have h2 : (noExc (e s1)).bind (fun y => (lcRun g t e s ds).bind fun ys => .ok (y :: ys)) = R.ok zs := h'
        cases e3 : noExc (e s1) with
        | exc c fs => rw [e3] at h2; cases h2
        | bad => rw [e3] at h2; cases h2
        | ok y =>
          rw [e3] at h2
          have h3 : (lcRun g t e s ds).bind (fun ys => R.ok (y :: ys)) = R.ok zs := h2
          cases e4 : lcRun g t e s ds with
          | exc c fs => rw [e4] at h3; cases h3
          | bad => rw [e4] at h3; cases h3
          | ok ys => rw [e4] at h3; cases h3; exact .inl ⟨rfl, y, ys, noExc_ok e3, rfl, rfl⟩
theorem lcRun_nb {K : PySem.W.Frag} {cl : Nat → Addr} {E : XK} {B0 H0 : Hp} {g : D → S → Option S} {t : S → R Bool} {e : S → R D} {s : S} : ∀ {ds : List D}, Nb K cl E B0 H0 (lcRun g t e s ds) → ∃ zs, lcRun g t e s ds = .ok zs
  | [], _ => ⟨[], rfl⟩
  | d :: ds, h => by
    unfold lcRun at h ⊢
    obtain ⟨s1, e1⟩ := ofO_nb h.bind
    rw [e1] at h ⊢
    have h1 : Nb K cl E B0 H0 ((noExc (t s1)).bind fun b => if b then (noExc (e s1)).bind fun y => (lcRun g t e s ds).bind fun ys => .ok (y :: ys) else lcRun g t e s ds) := h
    obtain ⟨b, e2⟩ := h1.bind.noExc
    rw [show noExc (t s1) = .ok b by rw [e2]; rfl] at h1
    show ∃ zs, ((noExc (t s1)).bind fun b => if b then (noExc (e s1)).bind fun y => (lcRun g t e s ds).bind fun ys => .ok (y :: ys) else lcRun g t e s ds) = .ok zs
    rw [show noExc (t s1) = .ok b by rw [e2]; rfl]
    cases b with
    | false => exact lcRun_nb (ds := ds) h1
    | true =>
      have h2 : Nb K cl E B0 H0 ((noExc (e s1)).bind fun y => (lcRun g t e s ds).bind fun ys => .ok (y :: ys)) := h1
      obtain ⟨y, e3⟩ := h2.bind.noExc
      rw [show noExc (e s1) = .ok y by rw [e3]; rfl] at h2
      have h3 : Nb K cl E B0 H0 ((lcRun g t e s ds).bind fun ys => .ok (y :: ys)) := h2
      obtain ⟨ys, e4⟩ := lcRun_nb (ds := ds) h3.bind
      refine ⟨y :: ys, ?_⟩
      show ((noExc (e s1)).bind fun y => (lcRun g t e s ds).bind fun ys => .ok (y :: ys)) = _
      rw [show noExc (e s1) = .ok y by rw [e3]; rfl]
      show ((lcRun g t e s ds).bind fun ys => R.ok (y :: ys)) = _
      rw [e4]; rfl
section
variable {cl : Nat → Addr} {E : XK} {Γ : List Nat} {pn : List (Nat × Addr)} {K : PySem.W.Frag} {B H B' H' B0 H0 : Hp}
theorem wipe_get {σ : Slots} {vs : List Nat} {i : Nat} (h : i ∉ vs) : (wipe σ vs)[i]? = σ[i]? := by
  induction vs with
  | nil => rfl
  | cons v vs ih =>
    unfold wipe
    rw [List.getElem?_set_ne fun z => h (by rw [z]; exact List.mem_cons_self)]
    exact ih fun z => h (List.mem_cons_of_mem _ z)
theorem wipeD_len {s : S} : ∀ {vs : List Nat}, List.length (wipeD s vs) = List.length s
  | [] => rfl
  | v :: vs => by unfold wipeD; rw [List.length_set, wipeD_len]
theorem wipeD_some {s : S} {i : Nat} {d : D} : ∀ {vs : List Nat}, (wipeD s vs)[i]? = some (some d) → s[i]? = some (some d) ∧ i ∉ vs
  | [], h => ⟨h, by simp⟩
  | v :: vs, h => by
    unfold wipeD at h
    by_cases hi : v = i
    · subst hi
      by_cases hv : v < List.length (wipeD s vs)
      · rw [List.getElem?_set_self hv] at h; cases h
      · rw [List.getElem?_eq_none (by simpa using hv)] at h; cases h
    · rw [List.getElem?_set_ne hi] at h
      obtain ⟨h1, h2⟩ := wipeD_some h
      exact ⟨h1, by simp only [List.mem_cons, not_or]; exact ⟨fun e => hi e.symm, h2⟩⟩
theorem RelS.wipe {σ : Slots} {s : S} (r : RelS K cl Γ B0 H0 pn σ s B H) (vs : List Nat) : RelS K cl Γ B0 H0 [] (wipe σ vs) (wipeD s vs) B H where
  stp := r.stp
  len := by rw [wipe_length, wipeD_len]; exact r.len
  dat := fun i d hi e => by
    obtain ⟨e1, e2⟩ := wipeD_some e
    obtain ⟨v, h1, h2⟩ := r.dat i d hi e1
    exact ⟨v, by rw [wipe_get e2]; exact h1, h2⟩
  own := fun i d hi e => by
    obtain ⟨e1, e2⟩ := wipeD_some e
    obtain ⟨a, h1, h2⟩ := r.own i d hi e1
    exact ⟨a, by rw [wipe_get e2]; exact h1, h2⟩
  sep := fun i j d d' a hi hj hne e1 e2 e3 => by
    obtain ⟨k1, k2⟩ := wipeD_some e1
    obtain ⟨k3, k4⟩ := wipeD_some e2
    rw [wipe_get k2] at e3
    rw [wipe_get k4]
    exact r.sep i j d d' a hi hj hne k1 k3 e3
  pin := fun p hp => nomatch hp
theorem Stp.mut {a : Addr} {o : HO} (p : Stp B H B' H') (h1 : B' a = none) (h2 : H a = none) : Stp B H B' (upd H' a o) :=
  ⟨p.b, fun b u z => by rw [upd_ne (ne_of_none z h1)]; exact p.i b u z, fun b u z => by rw [upd_ne (ne_of_none z h2)]; exact p.h b u z, p.f⟩
/-- the target's names are the block's own -/
def GIn (vs : List Nat) (g : TG) : Prop := ∀ x σ H Q, g x σ H Q → g x σ H fun σ2 H2 => wipe σ2 vs = wipe σ vs ∧ Q σ2 H2
def GIns (vs : List Nat) (g : TGs) : Prop := ∀ x σ H Q, g x σ H Q → g x σ H fun σ2 H2 => wipe σ2 vs = wipe σ vs ∧ Q σ2 H2
theorem wipe_set {σ : Slots} {v : Option V} {i : Nat} : ∀ {vs : List Nat}, i ∈ vs → wipe (σ.set i v) vs = wipe σ vs := by
  intro vs hi
  refine List.ext_getElem? fun j => ?_
  by_cases hj : j ∈ vs
  · have gen : ∀ (τ : Slots) (vs : List Nat), j ∈ vs → j < τ.length → (wipe τ vs)[j]? = some none := fun τ vs => by
      induction vs with
      | nil => intro h; cases h
      | cons u us ih =>
        intro h hl
        unfold wipe
        by_cases hu : u = j
        · subst hu; exact List.getElem?_set_self (by rw [wipe_length]; exact hl)
        · rw [List.getElem?_set_ne hu]
          rcases List.mem_cons.mp h with z | z
          · exact absurd z.symm hu
          · exact ih z hl
    by_cases hl : j < σ.length
    · rw [gen _ _ hj (by rw [List.length_set]; exact hl), gen _ _ hj hl]
    · rw [List.getElem?_eq_none (by rw [wipe_length, List.length_set]; omega), List.getElem?_eq_none (by rw [wipe_length]; omega)]
  · rw [wipe_get hj, wipe_get hj, List.getElem?_set_ne fun z => hj (by rw [← z]; exact hi)]
theorem gin_name {vs : List Nat} {i : Nat} (hi : i ∈ vs) : GIn vs (gName i) := fun x σ H Q h => ⟨wipe_set hi, h⟩
theorem gins_nil {vs : List Nat} : GIns vs gNil := fun x σ H Q h => ⟨h.1, rfl, h.2⟩
theorem gins_cons {vs : List Nat} {g : TG} {gs : TGs} (h1 : GIn vs g) (h2 : GIns vs gs) (mono : ∀ x σ H Q Q', (∀ σ H, Q σ H → Q' σ H) → g x σ H Q → g x σ H Q') : GIns vs (gCons g gs) := fun x σ H Q h => by
  obtain ⟨v, r, e, h⟩ := h
  refine ⟨v, r, e, mono _ _ _ _ _ (fun σ1 H1 q => ?_) (h1 _ _ _ _ h)⟩
  obtain ⟨q1, q2⟩ := q
  have k := h2 _ _ _ _ q2
  rw [q1] at k
  exact k
theorem gin_tup {vs : List Nat} {gs : TGs} {n : Nat} (h : GIns vs gs) : GIn vs (gTup K n gs) := fun x σ H Q k => by
  obtain ⟨a, xs, e1, e2, e3, k⟩ := k
  exact ⟨a, xs, e1, e2, e3, h _ _ _ _ k⟩
theorem wipe_wipe {σ : Slots} {vs : List Nat} : wipe (wipe σ vs) vs = wipe σ vs := by
  have : ∀ us, (∀ i ∈ us, i ∈ vs) → wipe (wipe σ us) vs = wipe σ vs := fun us => by
    induction us with
    | nil => intro _; rfl
    | cons u us ih =>
      intro h
      show wipe ((wipe σ us).set u none) vs = _
      rw [wipe_set (h u List.mem_cons_self)]
      exact ih fun i hi => h i (List.mem_cons_of_mem _ hi)
  exact this vs fun _ h => h
theorem snf_lc {wi : TI} {g : TG} {tt : TT} {te : TE} {vs : List Nat} {mi : S → R (List D)} {mg : D → S → Option S} {mt : S → R Bool} {me : S → R D} (hi : SndI K cl E Γ wi mi) (hg : SndG K cl Γ g mg) (hw : GIn vs g) (ht : SndT K cl E0 Γ tt mt) (he : SndE K cl E0 Γ te me) :
    SndF K cl E Γ (tLc wi g tt te vs) (mLc mi mg mt me vs) := fun B0 H0 pn σ s B H Q rel n q => by
  refine hi B0 H0 pn σ s B H _ rel n.bind fun ds J B1 H1 e1 p1 it => ?_
  have n1 := n.next e1
  obtain ⟨zs, ez⟩ := lcRun_nb n1.bind
  obtain ⟨z, eo⟩ := ofO_nb (n1.next ez)
  unfold oLst at eo
  split at eo
  · rename_i hlim
    cases eo
    have eall : mLc mi mg mt me vs s = .ok (.lst zs) := by
      show (mi s).bind _ = _
      rw [e1]; show (lcRun _ _ _ _ _).bind _ = _; rw [ez]; show ofO _ = _; rw [oLst, if_pos hlim]; rfl
    intro Dl hD
    have rel1 := rel.mono p1
    refine ⟨fun i m H => m = ds.length - i ∧ ∃ B2 acc accD rest, Same B1 B2 ∧ Stp B1 H1 B2 H ∧ B2 Dl = none ∧ H Dl = some (.lst acc) ∧ RepL K cl B2 acc accD ∧ lcRun mg mt me (wipeD s vs) (ds.drop i) = .ok rest ∧ zs = accD ++ rest,
      ⟨_, rfl, B1, [], [], zs, Same.refl _, Stp.own p1.i hD, p1.i.free hD, upd_same, .nil, ez, rfl⟩, ?_⟩
    rintro i m H2 ⟨rfl, B2, acc, accD, rest, b2, st, bD, hDl, ra, er, ezs⟩
    have k := it i B2 H2 b2 st.i
    cases ed : ds[i]? with
    | none =>
      have hl : ds.length ≤ i := List.getElem?_eq_none_iff.mp ed
      rw [List.drop_eq_nil_of_le hl] at er
      cases er
      rw [List.append_nil] at ezs
      subst ezs
      exact .inl ⟨k.2 ed, q _ Dl B2 H2 eall (p1.trans st) ⟨⟨bD, p1.h.free hD⟩, acc, hDl, ra⟩⟩
    | some d =>
      obtain ⟨hl, ed'⟩ := List.getElem?_eq_some_iff.mp ed
      rw [List.drop_eq_getElem_cons hl, ed'] at er
      obtain ⟨s1, b, eg, et, alt⟩ := lcRun_cases er
      obtain ⟨go, yl⟩ := k.1 d ed
      refine .inr ⟨go, fun H' => ∃ B2 acc accD rest, Same B1 B2 ∧ Stp B1 H1 B2 H' ∧ B2 Dl = none ∧ H' Dl = some (.lst acc) ∧ RepL K cl B2 acc accD ∧ lcRun mg mt me (wipeD s vs) (ds.drop (i + 1)) = .ok rest ∧ zs = accD ++ rest, fun H' z => ⟨ds.length - (i + 1), by omega, rfl, z⟩, fun x H3 y => ?_⟩
      obtain ⟨B3, p3, w3⟩ := yl x H3 y
      have rel3 : RelS K cl Γ B0 H0 [] (wipe σ vs) (wipeD s vs) B3 H3 := (rel1.mono (st.trans p3)).wipe vs
      have z := hw x (wipe σ vs) H3 (fun σ2 H4 => tt σ2 H4 fun b H3 => if b = true then te σ2 H3 fun y H4 => ∃ acc, H4 Dl = some (.lst acc) ∧ acc.length < sizeLine ∧ (fun H' => ∃ B2 acc accD rest, Same B1 B2 ∧ Stp B1 H1 B2 H' ∧ B2 Dl = none ∧ H' Dl = some (.lst acc) ∧ RepL K cl B2 acc accD ∧ lcRun mg mt me (wipeD s vs) (ds.drop (i + 1)) = .ok rest ∧ zs = accD ++ rest) (upd H4 Dl (.lst (acc ++ [y])))
          else (fun H' => ∃ B2 acc accD rest, Same B1 B2 ∧ Stp B1 H1 B2 H' ∧ B2 Dl = none ∧ H' Dl = some (.lst acc) ∧ RepL K cl B2 acc accD ∧ lcRun mg mt me (wipeD s vs) (ds.drop (i + 1)) = .ok rest ∧ zs = accD ++ rest) H3) ?_
      · rw [wipe_wipe] at z
        exact z
      · refine hg B0 H0 [] _ _ B3 H3 x d s1 _ rel3 w3 eg fun σ3 rel4 => ?_
        refine ht B0 H0 [] σ3 s1 B3 H3 _ rel4 (by rw [et]; trivial) fun b' B4 H4 e4 p4 => ?_
        rw [et] at e4
        cases e4
        have stF : Stp B1 H1 B4 H4 := (st.trans p3).trans p4
        have bD4 : B4 Dl = none := p4.f _ (p3.f _ bD (by rw [hDl]; simp)) (by rw [p3.h _ _ hDl]; simp)
        have hD4 : H4 Dl = some (.lst acc) := p4.h _ _ (p3.h _ _ hDl)
        rcases alt with ⟨rfl, y, ys, ee, er2, rfl⟩ | ⟨rfl, er2⟩
        · refine iteT (he B0 H0 [] σ3 s1 B4 H4 _ (rel4.mono p4) (by rw [ee]; trivial) fun y' v B5 H5 e5 p5 w5 => ?_)
          rw [ee] at e5
          cases e5
          have bD5 : B5 Dl = none := p5.f _ bD4 (by rw [hD4]; simp)
          have hD5 : H5 Dl = some (.lst acc) := p5.h _ _ hD4
          have hlen : acc.length < LIM := by
            rw [ra.length]
            have : zs.length = accD.length + (ys.length + 1) := by rw [ezs, List.length_append]; rfl
            omega
          exact ⟨acc, hD5, lim_lt hlen, B5, acc ++ [v], accD ++ [y], ys, ((b2.trans p3.b).trans p4.b).trans p5.b, (stF.trans p5).mut bD5 hD, bD5, upd_same, (ra.mono ((p3.b.trans p4.b).trans p5.b)).append (.cons w5 .nil), er2, by rw [ezs, List.append_assoc]; rfl⟩
        · exact iteF ⟨B4, acc, accD, rest, (b2.trans p3.b).trans p4.b, stF, bD4, hD4, ra.mono (p3.b.trans p4.b), er2, ezs⟩
  · cases eo
end
end Dl

namespace Dl
open PySem PySem.Spec PyProof.Rows L2

/-! ### comprehensions as syntax -/
def GMono (g : TG) : Prop := ∀ x σ H Q Q', (∀ σ H, Q σ H → Q' σ H) → g x σ H Q → g x σ H Q'
def GMonos (g : TGs) : Prop := ∀ x σ H Q Q', (∀ σ H, Q σ H → Q' σ H) → g x σ H Q → g x σ H Q'
structure DGv (X : Cx) (cl : Nat → Addr) (Γ vs : List Nat) (tg : Expr) (m : D → S → Option S) : Prop where
  ex : ∃ g, PG X tg g ∧ SndG X.K cl Γ g m ∧ GIn vs g ∧ GMono g
structure DGvs (X : Cx) (cl : Nat → Addr) (Γ vs : List Nat) (tgs : List Expr) (m : List D → S → Option S) : Prop where
  ex : ∃ g, PGs X tgs g ∧ SndGs X.K cl Γ g m ∧ GIns vs g ∧ GMonos g
structure DTs (X : Cx) (cl : Nat → Addr) (E : XK) (Γ : List Nat) (ifs : List Expr) (m : S → R Bool) : Prop where
  ex : ∃ t, PTs X ifs t ∧ SndT X.K cl E Γ t m
section
variable {X : Cx} {cl : Nat → Addr} {E : XK} {Ω Γ Γ' Γ2 Γl vs : List Nat} {fr : Bool} {f g : S → R D} {ea eb ex tg : Expr} {pos : Pos}
theorem gv_name (i : Nat) {x : Str} (hN : X.N.Nodup) (hi : i ∉ Γ := by decide) (hv : i ∈ vs := by decide) (hx : X.N[i]? = some x := by rfl) (hl : Loc X.env.scope x := by first | exact Or.inl rfl | exact Or.inr rfl) (hf : X.fn x = true ∨ X.env.scope.names.lookup x = some .local := by first | exact .inl rfl | exact .inr rfl | assumption) : DGv X cl Γ vs (.Name x pos) (mgName i) :=
  ⟨_, pg_name hN hx hl hf, sng_name hi, gin_name hv, fun x σ H Q Q' h q => h _ _ q⟩
theorem gv_nil : DGvs X cl Γ vs [] mgNil := ⟨_, pgs_nil, sngs_nil, gins_nil, fun x σ H Q Q' h q => ⟨q.1, h _ _ q.2⟩⟩
theorem gv_cons {es : List Expr} {mg : D → S → Option S} {mgs : List D → S → Option S} (h : DGv X cl Γ vs ex mg) (h' : DGvs X cl Γ vs es mgs) (hs : (assignEach (ex :: es) X.env).map (·.2) = assign ex X.env :: (assignEach es X.env).map (·.2) := by rfl) : DGvs X cl Γ vs (ex :: es) (mgCons mg mgs) :=
  let ⟨_, h1, h2, h3, h4⟩ := h; let ⟨_, k1, k2, k3, k4⟩ := h'; ⟨_, pgs_cons h1 k1 hs, sngs_cons h2 k2, gins_cons h3 k3 h4, fun x σ H Q Q' hq ⟨v, r, e, q⟩ => ⟨v, r, e, h4 _ _ _ _ _ (fun σ1 H1 z => k4 _ _ _ _ _ hq z) q⟩⟩
theorem gv_tup {es : List Expr} {k : Nat} {mgs : List D → S → Option S} (nn : Nat) (h : DGvs X cl Γ vs es mgs) (hc : X.calm = true := by rfl) (hn : (assignEach es X.env).length = nn := by rfl) (hst : (assignEach es X.env).findIdx? (·.1) = none := by rfl) : DGv X cl Γ vs (.Tuple es k pos) (mgTup mgs nn) :=
  let ⟨_, h1, h2, h3, h4⟩ := h; ⟨_, pg_tup hc h1 hn hst, sng_tup h2, gin_tup h3, fun x σ H Q Q' hq ⟨a, xs, e1, e2, e3, q⟩ => ⟨a, xs, e1, e2, e3, h4 _ _ _ _ _ hq q⟩⟩
theorem ts_nil : DTs X cl E Γ [] mYes := ⟨_, pts_nil, fun B0 H0 pn σ s B H Q rel n q => q true B H rfl (Stp.refl rel.same)⟩
theorem ts_one {m : S → R Bool} (h : DT X cl E Γ ex m) : DTs X cl E Γ [ex] m := let ⟨_, h1, h2⟩ := h; ⟨_, pts_one h1, h2⟩
/-- a block's frame -/
abbrev Bl := Shared × Hp × Addr × List (Str × Addr) × List Addr
abbrev bl (X : Cx) (scope : Scope) (i : Bl) : Cx := X.blk i.1 i.2.1 scope (compEnvC scope i.2.2.2.1 i.2.2.1 X.env) i.2.2.2.2
theorem lc_parts {scope : Scope} {elt tg : Expr} {ifs : List Expr} {mg : D → S → Option S} {mt : S → R Bool} {me : S → R D}
    (hg : ∀ i : Bl, DGv (bl X scope i) cl Γ vs tg mg) (ht : ∀ i : Bl, DTs (bl X scope i) cl E0 Γ ifs mt) (he : ∀ i : Bl, DE (bl X scope i) cl E0 Γ elt me) :
    ∃ (g : TG) (tt : TT) (te : TE), (∀ i : Bl, PG (bl X scope i) tg g) ∧ SndG X.K cl Γ g mg ∧ GIn vs g ∧ (∀ i : Bl, PTs (bl X scope i) ifs tt) ∧ SndT X.K cl E0 Γ tt mt ∧ (∀ i : Bl, PE (bl X scope i) elt te) ∧ SndE X.K cl E0 Γ te me := by
  have cg := fun i => (hg i).ex
  have ct := fun i => (ht i).ex
  have ce := fun i => (he i).ex
  refine ⟨fun x σ H Q => ∀ i, (cg i).choose x σ H Q, fun σ H Q => ∀ i, (ct i).choose σ H Q, fun σ H Q => ∀ i, (ce i).choose σ H Q, fun i => ?_, ?_, ?_, fun i => ?_, ?_, fun i => ?_, ?_⟩
  · exact ⟨fun pins s σ H v u Q I r h => (cg i).choose_spec.1.run pins s σ H v u Q I r (h i)⟩
  · exact fun B0 H0 pn σ s B H x d s' Q rel w e q i => (cg i).choose_spec.2.1 B0 H0 pn σ s B H x d s' Q rel w e q
  · exact fun x σ H Q h i => (cg i).choose_spec.2.2.1 x σ H Q (h i)
  · exact ⟨fun pins s σ H Q I h => (ct i).choose_spec.1.run pins s σ H Q I (h i)⟩
  · exact fun B0 H0 pn σ s B H Q rel n q i => (ct i).choose_spec.2 B0 H0 pn σ s B H Q rel n q
  · exact ⟨fun pins s σ H Q I h => (ce i).choose_spec.1.run pins s σ H Q I (h i)⟩
  · exact fun B0 H0 pn σ s B H Q rel n q i => (ce i).choose_spec.2 B0 H0 pn σ s B H Q rel n q
theorem f_lc {scope : Scope} (own : List (Str × Nat)) {elt tg iter : Expr} {ifs : List Expr} {mi : S → R (List D)} {mg : D → S → Option S} {mt : S → R Bool} {me : S → R D} (hN : X.N.Nodup) (hi : DI X cl E Γ tg iter mi)
    (hg : ∀ i : Bl, DGv (bl X scope i) cl Γ (own.map (·.2)) tg mg) (ht : ∀ i : Bl, DTs (bl X scope i) cl E0 Γ ifs mt) (he : ∀ i : Bl, DE (bl X scope i) cl E0 Γ elt me)
    (ok : blkC X.N X.env.scope scope own = true) (hc : X.calm = true := by rfl) (hs : ∀ x, foldedSetIterable iter X.env x = pure x := by intro _; rfl) :
    DF X cl E Γ (.ListComp elt [⟨tg, iter, ifs, 0⟩] scope pos) (mLc mi mg mt me (own.map (·.2))) := by
  obtain ⟨wi, h1, h2⟩ := hi.ex
  obtain ⟨g, tt, te, g1, g2, g3, t1, t2, e1, e2⟩ := lc_parts hg ht he
  exact ⟨_, pe_lc hc hN h1 (blkOk_by ok) (fun s H C c fp => g1 (s, H, C, c, fp)) (fun s H C c fp => t1 (s, H, C, c, fp)) (fun s H C c fp => e1 (s, H, C, c, fp)) hs, snf_lc h2 g2 g3 t2 e2⟩
/-- y = [..], y a plain local -/
theorem lc_asg {scope : Scope} (own : List (Str × Nat)) {elt tg iter : Expr} {ifs : List Expr} {mi : S → R (List D)} {mg : D → S → Option S} {mt : S → R Bool} {me : S → R D} {y : Str} {py spos : Pos} (i : Nat) (hN : X.N.Nodup) (hi : DI X cl E Γ tg iter mi)
    (hg : ∀ i : Bl, DGv (bl X scope i) cl Γ (own.map (·.2)) tg mg) (ht : ∀ i : Bl, DTs (bl X scope i) cl E0 Γ ifs mt) (he : ∀ i : Bl, DE (bl X scope i) cl E0 Γ elt me)
    (ok : blkC X.N X.env.scope scope own = true) (hsw : swapsWith (.ListComp elt [⟨tg, iter, ifs, 0⟩] scope pos) (some (.Name y py)) spos.line X.env = pure true) (hc : X.calm = true) (hs : ∀ x, foldedSetIterable iter X.env x = pure x) (hy : X.N[i]? = some y) (hyl : X.env.scope.names.lookup y = some .local) :
    ∃ te, PS X (.Assign [.Name y py] (.ListComp elt [⟨tg, iter, ifs, 0⟩] scope pos) spos) (tAsg te (gName i)) ∧ SndF X.K cl E Γ te (mLc mi mg mt me (own.map (·.2))) := by
  obtain ⟨wi, h1, h2⟩ := hi.ex
  obtain ⟨g, tt, te, g1, g2, g3, t1, t2, e1, e2⟩ := lc_parts hg ht he
  exact ⟨_, ps_setLc hc hN hy hyl hsw h1 (blkOk_by ok) (fun s H C c fp => g1 (s, H, C, c, fp)) (fun s H C c fp => t1 (s, H, C, c, fp)) (fun s H C c fp => e1 (s, H, C, c, fp)) hs, snf_lc h2 g2 g3 t2 e2⟩
theorem s_ownLc {scope : Scope} (own : List (Str × Nat)) {elt tg iter : Expr} {ifs : List Expr} {mi : S → R (List D)} {mg : D → S → Option S} {mt : S → R Bool} {me : S → R D} {y : Str} {py spos : Pos} (i : Nat) (hN : X.N.Nodup) (hi : DI X cl E Γ tg iter mi)
    (hg : ∀ i : Bl, DGv (bl X scope i) cl Γ (own.map (·.2)) tg mg) (ht : ∀ i : Bl, DTs (bl X scope i) cl E0 Γ ifs mt) (he : ∀ i : Bl, DE (bl X scope i) cl E0 Γ elt me)
    (ok : blkC X.N X.env.scope scope own = true) (hsw : swapsWith (.ListComp elt [⟨tg, iter, ifs, 0⟩] scope pos) (some (.Name y py)) spos.line X.env = pure true) (hin : i ∉ Γ := by decide) (hc : X.calm = true := by rfl) (hs : ∀ x, foldedSetIterable iter X.env x = pure x := by intro _; rfl) (hy : X.N[i]? = some y := by rfl) (hyl : X.env.scope.names.lookup y = some .local := by rfl) :
    DS X cl E fr Ω Γ (i :: Γ) Γl (.Assign [.Name y py] (.ListComp elt [⟨tg, iter, ifs, 0⟩] scope pos) spos) (mAsg (mLc mi mg mt me (own.map (·.2))) (mgName i)) :=
  let ⟨_, h1, h2⟩ := lc_asg own i hN hi hg ht he ok hsw hc hs hy hyl; ⟨_, h1, sns_asgF h2 hin⟩
theorem s_setLc {scope : Scope} (own : List (Str × Nat)) {elt tg iter : Expr} {ifs : List Expr} {mi : S → R (List D)} {mg : D → S → Option S} {mt : S → R Bool} {me : S → R D} {y : Str} {py spos : Pos} (i : Nat) (hN : X.N.Nodup) (hi : DI X cl E Γ tg iter mi)
    (hg : ∀ i : Bl, DGv (bl X scope i) cl Γ (own.map (·.2)) tg mg) (ht : ∀ i : Bl, DTs (bl X scope i) cl E0 Γ ifs mt) (he : ∀ i : Bl, DE (bl X scope i) cl E0 Γ elt me)
    (ok : blkC X.N X.env.scope scope own = true) (hsw : swapsWith (.ListComp elt [⟨tg, iter, ifs, 0⟩] scope pos) (some (.Name y py)) spos.line X.env = pure true) (hin : i ∉ Γ := by decide) (hc : X.calm = true := by rfl) (hs : ∀ x, foldedSetIterable iter X.env x = pure x := by intro _; rfl) (hy : X.N[i]? = some y := by rfl) (hyl : X.env.scope.names.lookup y = some .local := by rfl) :
    DS X cl E fr Ω Γ Γ Γl (.Assign [.Name y py] (.ListComp elt [⟨tg, iter, ifs, 0⟩] scope pos) spos) (mAsg (mLc mi mg mt me (own.map (·.2))) (mgName i)) :=
  let ⟨_, h1, h2⟩ := lc_asg own i hN hi hg ht he ok hsw hc hs hy hyl; ⟨_, h1, sns_asg h2.e (sng_name hin)⟩
end

/-! ### defs -/
section
variable (K : PySem.W.Frag) (cl : Nat → Addr)
/-- what a def does with data; fr: it hands back a new, owned thing -/
def spX (fr : Bool) (m : List D → R D) : Sp := fun vs H Q E => ∃ B ds, Same B H ∧ RepL K cl B vs ds ∧ Nb K cl E B H (m ds) ∧
  ∀ d, m ds = .ok d → (fr = true ∧ ∀ a B' H', Stp B H B' H' → Own1 K cl (Nw B' H) B' H' a d → Q (.ref a) H') ∨ (fr = false ∧ ∀ v B' H', Stp B H B' H' → Rep K cl B' v d → Q v H')
end
structure Fn (P : Program) (w : World) (K : PySem.W.Frag) (mg : Str → Option Value) (base : Heap) (cl : Nat → Addr) (CX : CXT) (k : Nat) (x : Str) (fr : Bool) (m : List D → R D) : Prop where
  ex : ∃ f fd ps, mg x = some (.ref f) ∧ FnOk P w K mg base CX k f fd ps (spX K cl fr m) ∧ PySem.W.keepIn K (.ref f) = true ∧ Binds K fd ps []
section
variable {X : Cx} {cl : Nat → Addr} {E : XK} {Γ : List Nat} {fr : Bool} {f g : S → R D} {ea eb ex : Expr} {es : List Expr} {fs : S → R (List D)} {pos p : Pos} {CX : CXT} {k j : Nat} {x : Str} {m : List D → R D}
def mCall (m : List D → R D) (fs : S → R (List D)) (s : S) : R D := (fs s).bind m
theorem ExcOk.step {K : PySem.W.Frag} {B0 H0 B H : Hp} {α : Type} {r : R α} (p : Stp B0 H0 B H) (h : Nb K cl E B0 H0 r) : Nb K cl E B H r := by
  cases r with
  | ok a => trivial
  | exc c fs => exact fun B' H' dx fv q => h B' H' dx fv (p.trans q)
  | bad => exact h
theorem snd_call {K : PySem.W.Frag} {ta : TA} (h : SndA K cl E Γ ta fs) : SndE K cl E Γ (tCall (spX K cl false m) [] E ta) (mCall m fs) := fun B0 H0 pn σ s B H Q rel n q => by
  refine h B0 H0 pn σ s B H _ rel n.bind fun ds vs B1 H1 e1 p1 w1 => ?_
  show spX K cl false m (vs ++ []) H1 Q E
  rw [List.append_nil]
  refine ⟨B1, ds, p1.i, w1, ExcOk.step (rel.mono p1).stp (n.next e1), fun d ed => .inr ⟨rfl, fun v B' H' p' w' => q d v B' H' ?_ (p1.trans p') w'⟩⟩
  show (fs s).bind m = _
  rw [e1]; exact ed
theorem snf_call {K : PySem.W.Frag} {ta : TA} (h : SndA K cl E Γ ta fs) : SndF K cl E Γ (tCall (spX K cl true m) [] E ta) (mCall m fs) := fun B0 H0 pn σ s B H Q rel n q => by
  refine h B0 H0 pn σ s B H _ rel n.bind fun ds vs B1 H1 e1 p1 w1 => ?_
  show spX K cl true m (vs ++ []) H1 Q E
  rw [List.append_nil]
  refine ⟨B1, ds, p1.i, w1, ExcOk.step (rel.mono p1).stp (n.next e1), fun d ed => .inl ⟨rfl, fun a B' H' p' w' => q d a B' H' ?_ (p1.trans p') (w'.carry (Same.refl _) fun b o ff _ z => ⟨z, ff.1, p1.h.free ff.2⟩)⟩⟩
  show (fs s).bind m = _
  rw [e1]; exact ed
theorem e_call (hF : Fn X.prog X.w X.K X.mg X.base cl CX k x false m) (hr : Room j X.A) (hk : k ≤ j) (hx : Passes CX X E) (ha : DA X cl E Γ (ea :: es) fs) (hg : Gl X x := by rfl) (hdb : (x == ("__debug__" : Str)) = false := by decide)
    (he : starEach (ea :: es) X.env = (false, eval ea X.env) :: starEach es X.env := by rfl) (hpl : (backTo pos (starEach es X.env)).any (·.1) = false := by rfl) : DE X cl E Γ (.Call (.Name x p) (ea :: es) [] pos) (mCall m fs) :=
  let ⟨_, _, _, h1, h2, h3, h4⟩ := hF; let ⟨_, h5, h6⟩ := ha; ⟨_, pe_call h2 (hr.mono hk) hg h1 h3 h4 .nil hx h5 hdb he hpl, snd_call h6⟩
theorem f_call (hF : Fn X.prog X.w X.K X.mg X.base cl CX k x true m) (hr : Room j X.A) (hk : k ≤ j) (hx : Passes CX X E) (ha : DA X cl E Γ (ea :: es) fs) (hg : Gl X x := by rfl) (hdb : (x == ("__debug__" : Str)) = false := by decide)
    (he : starEach (ea :: es) X.env = (false, eval ea X.env) :: starEach es X.env := by rfl) (hpl : (backTo pos (starEach es X.env)).any (·.1) = false := by rfl) : DF X cl E Γ (.Call (.Name x p) (ea :: es) [] pos) (mCall m fs) :=
  let ⟨_, _, _, h1, h2, h3, h4⟩ := hF; let ⟨_, h5, h6⟩ := ha; ⟨_, pe_call h2 (hr.mono hk) hg h1 h3 h4 .nil hx h5 hdb he hpl, snf_call h6⟩
end
/-- a def's body run on data: n parameters, N slots; nothing is raised -/
def runM (fr : Bool) (n N : Nat) (body : S → Rs) (ds : List D) : R D := if ds.length = n then (match body (ds.map some ++ List.replicate (N - n) none) with
  | .ret d => .ok d
  | .nx _ => if fr then .bad else .ok .non
  | _ => .bad) else .bad
theorem relS_start {K : PySem.W.Frag} {cl : Nat → Addr} {B H : Hp} {vs : List V} {ds : List D} {N : List Str} (e : Same B H) (r : RepL K cl B vs ds) : RelS K cl [] B H [] (L2.start N vs) (ds.map some ++ List.replicate (N.length - ds.length) none) B H where
  stp := Stp.refl e
  len := by unfold L2.start; rw [List.length_append, List.length_append, List.length_map, List.length_map, List.length_replicate, List.length_replicate, r.length]
  dat := fun i d _ h => by
    unfold L2.start
    by_cases hi : i < ds.length
    · rw [List.getElem?_append_left (by simpa using hi), List.getElem?_map] at h
      cases ed : ds[i]? with
      | none => rw [ed] at h; cases h
      | some d' =>
        rw [ed] at h
        cases h
        obtain ⟨v, hv, rv⟩ := r.get ed
        exact ⟨v, by rw [List.getElem?_append_left (by rw [List.length_map, r.length]; exact hi), List.getElem?_map, hv]; rfl, rv⟩
    · rw [List.getElem?_append_right (by simpa using hi), List.getElem?_replicate] at h
      split at h <;> cases h
  own := fun i d h => absurd h (by simp)
  sep := fun i j d d' a h => absurd h (by simp)
  pin := fun p hp => nomatch hp
section
variable {P : Program} {w : World} {K : PySem.W.Frag} {mg : Str → Option Value} {base : Heap} {cl : Nat → Addr}
theorem fn_ok {x qual : Str} {st : Stmt} {f : Addr} {fd : FuncData} {N ps : List Str} {k : Nat} {fr : Bool} {Γ' : List Nat} {m : S → Rs} (F : Fun K x qual st f fd) (S0 : FnScope N ps (defScope st))
    (body : ∀ (cdv : Value) (A : Around) (outer : List Env) (s : Shared) (H : Hp) (E : XK), Room k (A.deeper (envOfC qual (defScope st) s.heap.objs.size f cdv)) → DSs (cxOf CX0 P w K mg base N qual (defScope st) f cdv A outer s H E).nox cl E0 fr [] [] Γ' [] (defBody st) m) :
    FnOk P w K mg base CX0 (k + 1) f fd ps (spX K cl fr (runM fr ps.length N.length m)) := by
  refine F.ok S0 (fun vs H Q E h => ?_) (fun cdv A outer s H vs Q E hr h => ?_)
  · obtain ⟨B, ds, _, r, n, _⟩ := h
    by_cases hl : ds.length = ps.length
    · rw [r.length]; exact hl
    · rw [runM, if_neg hl] at n; exact n.elim
  · obtain ⟨B, ds, sm, r, n, q⟩ := h
    obtain ⟨t, h1, h2⟩ := (body cdv A outer s H E hr).ex
    refine ⟨t, h1, h2 B H [] _ _ B H _ rfl (relS_start sm r) ?_⟩
    by_cases hl : ds.length = ps.length
    · have e0 : runM fr ps.length N.length m ds = (match m (ds.map some ++ List.replicate (N.length - ds.length) none) with
        | .ret d => .ok d
        | .nx _ => if fr then .bad else .ok .non
        | _ => .bad) := by rw [runM, if_pos hl, hl]
      rw [e0] at n q
      cases em : m (ds.map some ++ List.replicate (N.length - ds.length) none) with
      | ret d =>
        rw [em] at n q
        rcases q d rfl with ⟨e, z⟩ | ⟨e, z⟩
        · exact .inl ⟨e, z⟩
        · exact .inr ⟨e, z⟩
      | nx s' =>
        rw [em] at n q
        cases fr with
        | true => exact n.elim
        | false =>
          intro σ' B' H' _ rel
          rcases q .non rfl with ⟨e, z⟩ | ⟨e, z⟩
          · cases e
          · exact z .non B' H' rel.stp .non
      | brk s' => rw [em] at n; exact n.elim
      | ct s' => rw [em] at n; exact n.elim
      | exc c fs => rw [em] at n; exact n.elim
      | bad => rw [em] at n; exact n.elim
    · rw [runM, if_neg hl] at n; exact n.elim
/-- a def that raises nothing -/
theorem fn_mk {x qual : Str} {st : Stmt} {f : Addr} {fd : FuncData} {N ps : List Str} {k : Nat} {fr : Bool} {Γ' : List Nat} {m : S → Rs} (F : Fun K x qual st f fd) (S0 : FnScope N ps (defScope st)) (hm : mg x = some (.ref f)) (bd : Binds K fd ps [])
    (body : ∀ (cdv : Value) (A : Around) (outer : List Env) (s : Shared) (H : Hp) (E : XK), Room k (A.deeper (envOfC qual (defScope st) s.heap.objs.size f cdv)) → DSs (cxOf CX0 P w K mg base N qual (defScope st) f cdv A outer s H E).nox cl E0 fr [] [] Γ' [] (defBody st) m) :
    Fn P w K mg base cl CX0 (k + 1) x fr (runM fr ps.length N.length m) := ⟨f, fd, ps, hm, fn_ok F S0 body, F.kp, bd⟩
end

/-! ### objects -/
section
variable {X : Cx} {cl : Nat → Addr} {E : XK} {Ω Γ Γl : List Nat} {fr : Bool} {f g : S → R D} {ea eb ex : Expr} {es : List Expr} {fs : S → R (List D)} {pos p pos' p1 : Pos} {CX : CXT} {k j : Nat} {x : Str}
/-- o.f, o of one of the classes cs -/
def oFld (cs : List Nat) (f : Str) : D → Option D
  | .obj c ds => if c ∈ cs then ds.lookup f else none
  | _ => none
theorem snd_fld {K : PySem.W.Frag} {te : TE} {fld : Str} (cs : List Nat) (hc : ∀ c ∈ cs, Cls K (cl c) ∧ NoAttr K (cl c) fld) (h : SndB K cl E Γ te f) : SndE K cl E Γ (tFld K te fld) (mOp1 (oFld cs fld) f) := fun B0 H0 pn σ s B H Q rel n q => by
  refine h B0 H0 pn σ s B H _ rel n.bind fun d v B1 H1 e1 p1 w1 => ?_
  obtain ⟨z, ez⟩ := ofO_nb (n.next e1)
  have e3 : mOp1 (oFld cs fld) f s = .ok z := by
    show (f s).bind _ = _
    rw [e1]; show ofO _ = _; rw [ez]; rfl
  unfold oFld at ez
  split at ez
  · split at ez
    · rename_i c ds hin
      obtain ⟨h1, h2⟩ := hc c hin
      rcases w1 with w1 | ⟨a, rfl, f0, dx, fv, k1, k2, k3, k4⟩
      · cases w1 with
        | obj k1 k2 k4 =>
          obtain ⟨u, l, ru⟩ := k4.lookup ez
          exact ⟨_, _, _, _, u, rfl, p1.i _ _ k1, h1, h2, l, q z u B1 H1 e3 p1 ru⟩
      · obtain ⟨u, l, ru⟩ := k4.lookup ez
        exact ⟨_, _, _, _, u, rfl, k1, h1, h2, l, q z u B1 H1 e3 p1 ru⟩
    · cases ez
  · cases ez
theorem e_fld {fld : Str} (cs : List Nat) (hc : ∀ c ∈ cs, Cls X.K (cl c) ∧ NoAttr X.K (cl c) fld) (h : DB X cl E Γ ex f) (hb : attributeBase ex fld X.env (eval ex X.env) = eval ex X.env := by rfl) : DE X cl E Γ (.Attribute ex fld pos) (mOp1 (oFld cs fld) f) :=
  let ⟨_, h1, h2⟩ := h; ⟨_, pe_fld h1 hb, snd_fld cs hc h2⟩
/-- self.f = e -/
def putD (f : Str) (d : D) : List (Str × D) → List (Str × D)
  | [] => [(f, d)]
  | (g, x) :: r => if g = f then (g, d) :: r else (g, x) :: putD f d r
theorem putF_rep {K : PySem.W.Frag} {B : Hp} {fld : Str} {v : V} {d : D} (w : Rep K cl B v d) : ∀ {fs : List (Str × V)} {ds : List (Str × D)}, RepF K cl B fs ds → RepF K cl B (putF fld v fs) (putD fld d ds)
  | _, _, .nil => .cons w .nil
  | _, _, .cons (k := k) h r => by
    unfold putF putD
    by_cases e : k = fld
    · rw [if_pos e, if_pos e]; exact .cons w r
    · rw [if_neg e, if_neg e]; exact .cons h (putF_rep w r)
def oO (i c : Nat) (s : S) (kk : List (Str × D) → Rs) : Rs := match s[i]? with
  | some (some (.obj c' ds)) => if c' = c then kk ds else .bad
  | _ => .bad
def mSetF (i c : Nat) (fld : Str) (f : S → R D) (s : S) : Rs := toS (f s) fun d => oO i c s fun ds => if ds.length < 100 then .nx (s.set i (some (.obj c (putD fld d ds)))) else .bad
theorem sns_setF {K : PySem.W.Frag} {te : TE} {fld : Str} {i c : Nat} (hi : i ∈ Γ) (hc : Cls K (cl c) ∧ NoAttr K (cl c) fld) (h : SndE K cl E Γ te f) : SndS K cl E fr Ω Γ Γ Γl (sFld K (tVar i) te fld) (mSetF i c fld f) := fun B0 H0 pn σ s B H W hΩ rel p0 => by
  refine h B0 H0 pn σ s B H _ rel p0.nb fun d v B1 H1 e1 p1 w1 => ?_
  have p2 := p0.next e1
  have rel1 := rel.mono p1
  unfold oO at p2
  split at p2
  · rename_i c' ds es
    split at p2
    · rename_i ec
      subst ec
      dsimp only at p2
      split at p2
      · rename_i hl
        obtain ⟨a, ea, f0, dx, fv, k1, k2, k3, k4⟩ := rel1.own i _ hi es
        have hne : dx ≠ a := fun z => by rw [z, k1] at k2; cases k2
        refine ⟨_, ea, a, cl c', dx, fv, rfl, k1, hc.1, hc.2, by rw [k4.length]; omega, p2 σ B1 _ p1.b (rel1.write hi es ea (by intro x z; cases z) ⟨f0, dx, putF fld v fv, upd_same, ?_, k3, putF_rep w1 k4⟩)⟩
        rw [upd_ne hne]; exact k2
      · exact p2.elim
    · exact p2.elim
  · exact p2.elim
theorem s_setF {fld y : Str} (i c : Nat) (hc : Cls X.K (cl c) ∧ NoAttr X.K (cl c) fld) (h : DE X cl E Γ ex f) (hi : i ∈ Γ := by decide) (hN : X.N[i]? = some y := by rfl) (hv : Vis X.env.scope y := by first | exact Or.inl rfl | exact Or.inr (Or.inl rfl) | exact Or.inr (Or.inr rfl)) (hd : (y == ("__debug__" : Str)) = false := by decide)
    (hcd : (y == ("__classdict__" : Str)) = false := by decide) (hs : swapsWith ex (some (.Attribute (.Name y p1) fld pos')) pos.line X.env = pure false := by rfl) : DS X cl E fr Ω Γ Γ Γl (.Assign [.Attribute (.Name y p1) fld pos'] ex pos) (mSetF i c fld f) :=
  let ⟨_, h1, h2⟩ := h; ⟨_, ps_fld (pe_var hN hv hd hcd) h1 hs, sns_setF hi hc h2⟩
/-- what an __init__ does: the arguments' data to the fields -/
def spI (K : PySem.W.Frag) (cl : Nat → Addr) (c : Nat) (m : List D → R (List (Str × D))) : Sp := fun vs H Q E => ∃ y dx vs' B H1 ds, vs = .ref y :: vs' ∧ H = upd (upd H1 dx (.own y)) y (.ins (cl c) dx []) ∧ H1 y = none ∧ H1 dx = none ∧ dx ≠ y ∧ Same B H1 ∧ RepL K cl B vs' ds ∧ Nb K cl E B H1 (m ds) ∧
  ∀ fs B' H', m ds = .ok fs → Stp B H1 B' H' → Own1 K cl (Nw B' H1) B' H' y (.obj c fs) → Q .non H'
structure Mak (P : Program) (w : World) (K : PySem.W.Frag) (mg : Str → Option Value) (base : Heap) (cl : Nat → Addr) (CX : CXT) (k : Nat) (x : Str) (c : Nat) (m : List D → R (List (Str × D))) : Prop where
  ex : ∃ f fd ps, mg x = some (.ref (cl c)) ∧ Mk K (cl c) f ∧ FnOk P w K mg base CX k f fd ps (spI K cl c m) ∧ Binds K fd ps []
def mMake (c : Nat) (m : List D → R (List (Str × D))) (fs : S → R (List D)) (s : S) : R D := (fs s).bind fun ds => (m ds).bind fun fv => .ok (.obj c fv)
theorem snf_make {K : PySem.W.Frag} {ta : TA} {c : Nat} {m : List D → R (List (Str × D))} (h : SndA K cl E Γ ta fs) : SndF K cl E Γ (tMake (cl c) (spI K cl c m) [] E ta) (mMake c m fs) := fun B0 H0 pn σ s B H Q rel n q => by
  refine h B0 H0 pn σ s B H _ rel n.bind fun ds vs B1 H1 e1 p1 w1 => ?_
  have n1 := n.next e1
  intro y dx hy hdx hne
  show spI K cl c m (.ref y :: (vs ++ [])) _ _ E
  rw [List.append_nil]
  refine ⟨y, dx, vs, B1, H1, ds, rfl, rfl, hy, hdx, hne, p1.i, w1, ExcOk.step (rel.mono p1).stp n1.bind, fun fv B' H' em p' w' => ⟨rfl, q _ y B' H' ?_ (p1.trans p') (w'.carry (Same.refl _) fun b o ff _ z => ⟨z, ff.1, p1.h.free ff.2⟩)⟩⟩
  show (fs s).bind _ = _
  rw [e1]; show (m ds).bind _ = _; rw [em]; rfl
theorem f_make {c : Nat} {m : List D → R (List (Str × D))} (hF : Mak X.prog X.w X.K X.mg X.base cl CX k x c m) (hr : Room j X.A) (hk : k + 1 ≤ j) (hx : Passes CX X E) (ha : DA X cl E Γ (ea :: es) fs) (hg : Gl X x := by rfl) (hdb : (x == ("__debug__" : Str)) = false := by decide)
    (he : starEach (ea :: es) X.env = (false, eval ea X.env) :: starEach es X.env := by rfl) (hpl : (backTo pos (starEach es X.env)).any (·.1) = false := by rfl) : DF X cl E Γ (.Call (.Name x p) (ea :: es) [] pos) (mMake c m fs) :=
  let ⟨_, _, _, h1, h2, h3, h4⟩ := hF; let ⟨_, h5, h6⟩ := ha; ⟨_, pe_make h2 h3 (hr.mono hk) hg h1 h4 .nil hx h5 hdb he hpl, snf_make h6⟩
end
/-- the fields of the thing at slot 0 -/
def iniR (c : Nat) (s : S) : R (List (Str × D)) := match (s[(0 : Nat)]? : Option (Option D)) with
  | some (some (.obj c' fs)) => if c' = c then .ok fs else .bad
  | _ => .bad
/-- an __init__'s body: n parameters with self -/
def runI (c n N : Nat) (body : S → Rs) (ds : List D) : R (List (Str × D)) := if ds.length + 1 = n then (match body (some (.obj c []) :: ds.map some ++ List.replicate (N - n) none) with
  | .nx s => iniR c s
  | _ => .bad) else .bad
section
variable {P : Program} {w : World} {K : PySem.W.Frag} {mg : Str → Option Value} {base : Heap} {cl : Nat → Addr}
theorem mak_mk {x y qual : Str} {st : Stmt} {f : Addr} {fd : FuncData} {N ps : List Str} {k c : Nat} {m : S → Rs} (F : Fun K y qual st f fd) (S0 : FnScope N ps (defScope st)) (hm : mg x = some (.ref (cl c))) (hM : Mk K (cl c) f) (bd : Binds K fd ps [])
    (body : ∀ (cdv : Value) (A : Around) (outer : List Env) (s : Shared) (H : Hp) (E : XK), Room k (A.deeper (envOfC qual (defScope st) s.heap.objs.size f cdv)) → DSs (cxOf CX0 P w K mg base N qual (defScope st) f cdv A outer s H E).nox cl E0 false [0] [0] [0] [] (defBody st) m) :
    Mak P w K mg base cl CX0 (k + 1) x c (runI c ps.length N.length m) := by
  refine ⟨f, fd, ps, hm, hM, F.ok S0 (fun vs H Q E h => ?_) (fun cdv A outer s H vs Q E hr h => ?_), bd⟩
  · obtain ⟨a, dx, vs', B, H1, ds, rfl, _, _, _, _, _, r, n, _⟩ := h
    by_cases hl : ds.length + 1 = ps.length
    · rw [List.length_cons, r.length]; exact hl
    · rw [runI, if_neg hl] at n; exact n.elim
  · obtain ⟨a, dx, vs', B, H1, ds, rfl, rfl, ha, hdx, hne, sm, r, n, q⟩ := h
    obtain ⟨t, h1, h2⟩ := (body cdv A outer s _ E hr).ex
    have hnx : (upd H1 dx (.own a)) a = none := by rw [upd_ne (Ne.symm hne)]; exact ha
    have s1 : Same H1 (upd (upd H1 dx (.own a)) a (.ins (cl c) dx [])) := (same_new hdx).trans (same_new hnx)
    have rel0 : RelS K cl [0] B H1 [(0, a)] (L2.start N (.ref a :: vs')) (some (.obj c []) :: ds.map some ++ List.replicate (N.length - ps.length) none) B (upd (upd H1 dx (.own a)) a (.ins (cl c) dx [])) := by
      by_cases hl : ds.length + 1 = ps.length
      · refine ⟨⟨Same.refl _, sm.trans s1, s1, fun b z _ => z⟩, ?_, fun i d hi e => ?_, fun i d hi e => ?_, fun i j d d' a' hi hj hne' => ?_, fun p hp => ?_⟩
        · unfold L2.start
          simp only [List.map_cons, List.length_append, List.length_cons, List.length_map, List.length_replicate, r.length]
          rw [hl]
        · cases i with
          | zero => exact absurd (List.mem_singleton.mpr rfl) hi
          | succ i =>
            unfold L2.start
            have e' : (ds.map some ++ List.replicate (N.length - ps.length) none)[i]? = some (some d) := e
            show ∃ v, (vs'.map some ++ List.replicate (N.length - (V.ref a :: vs').length) none)[i]? = some (some v) ∧ _
            by_cases hi2 : i < ds.length
            · rw [List.getElem?_append_left (by simpa using hi2), List.getElem?_map] at e'
              cases ed : ds[i]? with
              | none => rw [ed] at e'; cases e'
              | some d' =>
                rw [ed] at e'
                cases e'
                obtain ⟨v, hv, rv⟩ := r.get ed
                exact ⟨v, by rw [List.getElem?_append_left (by rw [List.length_map, r.length]; exact hi2), List.getElem?_map, hv]; rfl, rv⟩
            · rw [List.getElem?_append_right (by simpa using hi2), List.getElem?_replicate] at e'
              split at e' <;> cases e'
        · have hi' := List.mem_singleton.mp hi
          subst hi'
          cases e
          exact ⟨a, rfl, ⟨sm.free ha, ha⟩, dx, [], upd_same, by rw [upd_ne hne, upd_same], ⟨sm.free hdx, hdx⟩, .nil⟩
        · exact absurd ((List.mem_singleton.mp hi).trans (List.mem_singleton.mp hj).symm) hne'
        · have z := List.mem_singleton.mp hp
          subst z
          exact ⟨List.mem_singleton.mpr rfl, rfl⟩
      · rw [runI, if_neg hl] at n; exact n.elim
    refine ⟨t, h1, h2 B H1 [(0, a)] _ _ B _ _ rfl rel0 ?_⟩
    by_cases hl : ds.length + 1 = ps.length
    · rw [runI, if_pos hl] at n q
      cases em : m (some (.obj c []) :: ds.map some ++ List.replicate (N.length - ps.length) none) with
      | nx s' =>
        rw [em] at n q
        intro σ' B' H' _ rel
        have n' : Nb K cl E B H1 (iniR c s') := n
        have q' : ∀ fs B' H', iniR c s' = .ok fs → Stp B H1 B' H' → Own1 K cl (Nw B' H1) B' H' a (.obj c fs) → Q .non H' := q
        unfold iniR at n' q'
        split at n'
        · rename_i c' fs es
          split at n'
          · rename_i ec
            subst ec
            obtain ⟨a', ea', w'⟩ := rel.own 0 _ (List.mem_singleton.mpr rfl) es
            have ea := (rel.pin (0, a) (List.mem_singleton.mpr rfl)).2
            rw [ea'] at ea
            cases ea
            exact q' fs B' H' (by rw [es]; simp) rel.stp w'
          · exact n'.elim
        · exact n'.elim
      | ret d => rw [em] at n; exact n.elim
      | brk s' => rw [em] at n; exact n.elim
      | ct s' => rw [em] at n; exact n.elim
      | exc c fs => rw [em] at n; exact n.elim
      | bad => rw [em] at n; exact n.elim
    · rw [runI, if_neg hl] at n; exact n.elim
end
end Dl

namespace Dl
open PySem PySem.Spec PyProof.Rows L2

/-! ### list(range(n)), tuple(range(n)) -/
section
variable {X : Cx} {cl : Nat → Addr} {E : XK} {Γ : List Nat} {f g : S → R D} {ea eb : Expr} {pos p p2 pos2 : Pos} {K : PySem.W.Frag} {B H : Hp}
theorem rg_rep {lo hi : Int} : RepL K cl B (rgV lo hi) (rgD lo (hi - lo).toNat) := by
  unfold rgV rgD
  generalize List.range (hi - lo).toNat = l
  induction l with
  | nil => exact .nil
  | cons i l ih => exact .cons (.int _) ih
def rgOkB (a b : Int) : Bool := decide (-(2 ^ 62) ≤ a) && decide (a < 2 ^ 62) && decide (-(2 ^ 62) ≤ b) && decide (b < 2 ^ 62) && decide ((b - a).toNat ≤ LIM)
theorem rgOk_of {a b : Int} (h : rgOkB a b = true) : RgOk a b := by
  unfold rgOkB at h
  simp only [Bool.and_eq_true, decide_eq_true_eq] at h
  obtain ⟨⟨⟨⟨h1, h2⟩, h3⟩, h4⟩, h5⟩ := h
  exact ⟨h1, h2, h3, h4, Nat.le_trans h5 (by decide)⟩
def mListRg (f : S → R D) (s : S) : R D := (f s).bind fun d => (ofO (asI d)).bind fun n => if rgOkB 0 n = true then .ok (.lst (rgD 0 n.toNat)) else .bad
def mTupRg (f : S → R D) (s : S) : R D := (f s).bind fun d => (ofO (asI d)).bind fun n => if rgOkB 0 n = true then .ok (.tup (rgD 0 n.toNat)) else .bad
theorem snf_listRg {te : TE} (h : SndB K cl E Γ te f) : SndF K cl E Γ (tLstRg (tRg1 te)) (mListRg f) := fun B0 H0 pn σ s B H Q rel n q => by
  refine h B0 H0 pn σ s B H _ rel n.bind fun d v B1 H1 e1 p1 w1 => ?_
  have n1 := n.next e1
  obtain ⟨i, ei⟩ := ofO_nb n1.bind
  have n2 := n1.next (a := i) (by rw [ei]; rfl)
  have ed := asI_some ei
  subst ed
  refine ⟨i, w1.int, ?_⟩
  split at n2
  · rename_i hr
    refine ⟨rgOk_of hr, fun a na => ?_⟩
    refine q (.lst (rgD 0 i.toNat)) a B1 _ ?_ (p1.trans (Stp.own p1.i na)) ⟨⟨p1.i.free na, p1.h.free na⟩, rgV 0 i, upd_same, by simpa using rg_rep (lo := 0) (hi := i)⟩
    show (f s).bind _ = _
    rw [e1]; show (if rgOkB 0 i = true then _ else _) = _; rw [if_pos hr]
  · exact n2.elim
theorem snd_tupRg {te : TE} (h : SndB K cl E Γ te f) : SndE K cl E Γ (tTupRg (tRg1 te)) (mTupRg f) := fun B0 H0 pn σ s B H Q rel n q => by
  refine h B0 H0 pn σ s B H _ rel n.bind fun d v B1 H1 e1 p1 w1 => ?_
  have n1 := n.next e1
  obtain ⟨i, ei⟩ := ofO_nb n1.bind
  have n2 := n1.next (a := i) (by rw [ei]; rfl)
  have ed := asI_some ei
  subst ed
  refine ⟨i, w1.int, ?_⟩
  split at n2
  · rename_i hr
    refine ⟨rgOk_of hr, fun a na => ?_⟩
    refine q (.tup (rgD 0 i.toNat)) (.ref a) (upd B1 a (.tup (rgV 0 i))) _ ?_ (p1.trans (Stp.new p1.i na)) (.tup (.of upd_same) (by simpa using rg_rep (lo := 0) (hi := i)))
    show (f s).bind _ = _
    rw [e1]; show (if rgOkB 0 i = true then _ else _) = _; rw [if_pos hr]
  · exact n2.elim
theorem f_listRg (hl : X.mg "list" = none) (hm : X.mg "range" = none) (h : DB X cl E Γ ea f) (hc : X.calm = true := by rfl) (hg : Gl X "list" := by rfl) (hg2 : Gl X "range" := by rfl) (hs : starEach [ea] X.env = (false, eval ea X.env) :: starEach [] X.env := by rfl)
    (hs2 : starEach [.Call (.Name "range" p2) [ea] [] pos2] X.env = (false, eval (.Call (.Name "range" p2) [ea] [] pos2) X.env) :: starEach [] X.env := by rfl) : DF X cl E Γ (.Call (.Name "list" p) [.Call (.Name "range" p2) [ea] [] pos2] [] pos) (mListRg f) :=
  let ⟨_, h1, h2⟩ := h; ⟨_, pe_listRg hc hg hl (prg_1 hg2 hm h1 hs) hs2, snf_listRg h2⟩
theorem e_tupRg (hl : X.mg "tuple" = none) (hm : X.mg "range" = none) (h : DB X cl E Γ ea f) (hc : X.calm = true := by rfl) (hg : Gl X "tuple" := by rfl) (hg2 : Gl X "range" := by rfl) (hs : starEach [ea] X.env = (false, eval ea X.env) :: starEach [] X.env := by rfl)
    (hs2 : starEach [.Call (.Name "range" p2) [ea] [] pos2] X.env = (false, eval (.Call (.Name "range" p2) [ea] [] pos2) X.env) :: starEach [] X.env := by rfl) : DE X cl E Γ (.Call (.Name "tuple" p) [.Call (.Name "range" p2) [ea] [] pos2] [] pos) (mTupRg f) :=
  let ⟨_, h1, h2⟩ := h; ⟨_, pe_tupRg hc hg hl (prg_1 hg2 hm h1 hs) hs2, snd_tupRg h2⟩
end
/-! ### the law -/
section
variable {P : Program} {w : World} {K : PySem.W.Frag} {mg : Str → Option Value} {base : Heap} {cl : Nat → Addr}
end
/-- the law's own promise: True -/
def spLaw (K : PySem.W.Frag) : Sp := fun vs H Q _ => ∃ (a : Addr) (ns : List Int), vs = [.ref a] ∧ SqL K H a (ns.map V.int) ∧ ns.length ≤ 63 ∧ ∀ H', Q (.bl true) H'
theorem law_imp {K : PySem.W.Frag} {cl : Nat → Addr} {m : List D → R D} (h : ∀ ns : List Int, ns.length ≤ 63 → m [.scr ns] = .ok (.bl true)) : ∀ vs H Q E, spLaw K vs H Q E → spX K cl false m vs H Q E := by
  rintro vs H Q E ⟨a, ns, rfl, hS, hl, q⟩
  refine ⟨H, [.scr ns], Same.refl _, .cons (.scr hS) .nil, by rw [h ns hl]; trivial, fun d e => .inr ⟨rfl, fun v B' H' _ w => ?_⟩⟩
  rw [h ns hl] at e
  cases e
  cases w
  exact q H'
end Dl

namespace Dl
open PySem PySem.Spec PyProof.Rows L2

/-! ### a list or a tuple: its iterator -/
def IterS (t : Bool) (h : Heap) (it a : Addr) (i : Nat) : Prop := match t with
  | false => h.IsListIter it a i
  | true => h.IsTupleIter it a i
def HSeq (t : Bool) (h : Heap) (a : Addr) (items : Array Value) : Prop := match t with
  | false => h.IsList a items
  | true => h.IsTuple a items
def SeqV (K : PySem.W.Frag) (t : Bool) (H : Hp) (a : Addr) (xs : List V) : Prop := match t with
  | false => SqL K H a xs
  | true => SqT K H a xs
def itOb (t : Bool) (a : Addr) : Obj := { cls := .type (match t with | false => "list_iterator" | true => "tuple_iterator"), data := .fields #[.ref a, .int 0 0] }
theorem drawS {prog : Program} {w : World} {A : Around} (hh : A.handled = none) (t : Bool) (it a : Addr) (hne : a ≠ it) (items : Array Value) :
    Draws prog w A it [it, a] items.size (fun i v => items[i]? = some v) (fun i h => IterS t h it a i ∧ HSeq t h a items) := by
  cases t with
  | false => exact Draws.list hh it a hne items
  | true => exact Draws.tuple hh it a hne items
theorem begS (t : Bool) (a : Addr) (items : Array Value) : Begins (.ref a) (itOb t a) fun h => HSeq t h a items := by
  cases t with
  | false => exact begins_list a items
  | true => exact begins_tuple a items
theorem IterS.at' {t : Bool} {h h' : Heap} {it a : Addr} {i : Nat} (x : IterS t h it a i) (k : ∀ o, h.get? it = some o → h'.get? it = some o) : IterS t h' it a i := by
  cases t with
  | false => exact Heap.IsListIter.at x k
  | true => exact Heap.IsTupleIter.at x k
theorem IterS.ob {t : Bool} {h : Heap} {it a : Addr} {i : Nat} (x : IterS t h it a i) : ∃ o, h.get? it = some o ∧ ∀ v, o.data ≠ .cell v := by
  cases t with
  | false => obtain ⟨o, ho, hc, hd⟩ := x; exact ⟨o, ho, fun v z => by rw [hd] at z; cases z⟩
  | true => obtain ⟨o, ho, hc, hd⟩ := x; exact ⟨o, ho, fun v z => by rw [hd] at z; cases z⟩
theorem iterS0 {t : Bool} {h : Heap} {it a : Addr} (e : h.get? it = some (itOb t a)) : IterS t h it a 0 := by
  cases t with
  | false => exact ⟨_, e, rfl, rfl⟩
  | true => exact ⟨_, e, rfl, rfl⟩
section
variable {X : Cx} {pins : List (Addr × Obj)} {σ : L2.St} {H : Hp} {s : Shared}
theorem inv_seq {t : Bool} {a : Addr} {xs : List V} (I : L2.Inv X pins σ H s) (h : SeqV X.K t H a xs) : ∃ its, Vals xs its ∧ HSeq t s.heap a its.toArray := by
  cases t with
  | false => obtain ⟨its, rv, p, _⟩ := I.list h; exact ⟨its, rv, p.isList⟩
  | true => obtain ⟨its, rv, p, _⟩ := I.tuple h; exact ⟨its, rv, p⟩
theorem inv_inj {t : Bool} {a : Addr} {xs ys : List V} (I : L2.Inv X pins σ H s) (h : SeqV X.K t H a xs) (h' : SeqV X.K t H a ys) : xs = ys := by
  cases t with
  | false => exact I.list_inj h h'
  | true => exact I.tuple_inj h h'
end
theorem HSeq.lt {t : Bool} {h : Heap} {a : Addr} {items : Array Value} (x : HSeq t h a items) : a < h.objs.size := by
  cases t with
  | false => obtain ⟨o, ho, _⟩ := x; exact Heap.lt_size ho
  | true => obtain ⟨o, ho, _⟩ := x; exact Heap.lt_size ho

/-! ### enumerate(x), x a list or a tuple -/
theorem meets_enumB {v : Value} {o : Obj} {H : Heap → Prop} (B : Begins v o H) :
    Meets (Builtin.«enumerate.__new__» ⟨[.type "enumerate", v], []⟩) (fun _ R s => H s.heap ∧
      R (.ok (.ret (.ref (s.heap.push o).objs.size))) { s with heap := (s.heap.push o).push { cls := .type "enumerate", data := .fields #[.none, .bool false, .ref s.heap.objs.size, rawInt 0, .none, .none] } }) :=
  .of_wp fun prog w A R s h => by
    obtain ⟨hp, g, d, tk, os⟩ := s; obtain ⟨h1, h⟩ := h
    have hsub := sub_enumerate
    have q1 : ∀ {A' : Around} {E : Value → Shared → Prop} {Q : Value → Shared → Prop}, Q (.ref hp.objs.size) ⟨hp.push o, g, d, tk, os⟩ → wpAny (model prog w) A' (pyIter v) Q E ⟨hp, g, d, tk, os⟩ :=
      fun q => B.iter prog w _ _ ⟨hp, g, d, tk, os⟩ _ h1 q
    wp_walk using q1
    refine wpAny_stack_any fun st => wpAny_pure ?_
    split
    · rename_i c _ _ _ _ _
      cases (c == Value.type "enumerate")
      · wp_walk using q1
        exact ⟨_, rfl, h⟩
      · wp_walk using q1
        exact ⟨_, rfl, h⟩
    · wp_walk using q1
      exact ⟨_, rfl, h⟩
theorem enum_b1 {prog : Program} {w : World} {A : Around} {E : Value → Shared → Prop} {s : Shared} {v : Value} {o : Obj} {H : Heap → Prop} {Q : Value → Shared → Prop} (B : Begins v o H) (h1 : H s.heap)
    (h : ∀ h', IsEnum h' (s.heap.objs.size + 1) s.heap.objs.size 0 .none → h'.get? s.heap.objs.size = some o → h'.objs.size = s.heap.objs.size + 2 →
      (∀ b o, s.heap.get? b = some o → h'.get? b = some o) → Q (.ref (s.heap.objs.size + 1)) { s with heap := h' }) :
    wpAny (model prog w) A (call (.type "enumerate") [v]) Q E s := by
  refine callType_new F.called_enumerate (by decide) (F.typeCall_enumerate_1 _) (F.newCall_enumerate_1 _) (fun obj => F.args_object_init_2 obj _) F.entry_enumerate_new
    (meets_enumB B) ⟨h1, ?_⟩
  have hz : (s.heap.push o).objs.size = s.heap.objs.size + 1 := Heap.size_push ..
  show _ ∧ _
  rw [hz]
  have he : IsEnum ((s.heap.push o).push { cls := .type "enumerate", data := .fields #[.none, .bool false, .ref s.heap.objs.size, rawInt 0, .none, .none] }) (s.heap.objs.size + 1) s.heap.objs.size 0 .none := by
    have := Heap.get?_push_size (s.heap.push o) (o := { cls := .type "enumerate", data := .fields #[.none, .bool false, .ref s.heap.objs.size, rawInt 0, .none, .none] }) rfl
    rw [hz] at this; exact this
  refine ⟨⟨_, he, rfl⟩, h _ he (Heap.get?_push_of_some _ (Heap.get?_push_size _ B.free)) (by rw [Heap.size_push, hz]) fun b o x => Heap.get?_push_of_some _ (Heap.get?_push_of_some _ x)⟩
def ItE (K : PySem.W.Frag) (t : Bool) (a : Addr) (n : Nat) : It :=
  ⟨fun i H => i < n ∧ ∃ (xs : List V) (x : V), SeqV K t H a xs ∧ xs[i]? = some x, fun i H v H' => ∃ T x, v = .ref T ∧ H T = none ∧ H' = upd H T (.tup [.int (i : Nat), x]) ∧ ∀ xs, SeqV K t H a xs → xs[i]? = some x, fun i H => n ≤ i ∧ ∃ xs : List V, SeqV K t H a xs ∧ xs.length = n⟩
theorem turn_E {P : Program} {w : World} {K : PySem.W.Frag} {elts : List Expr} {kk : Nat} {tpos : Pos} (t : Bool) (a e it : Addr) (n : Nat) (hea : e ≠ a) (hia : a ≠ it) :
    Turn P w K (.Tuple elts kk tpos) (ItE K t a n) [e, it] e (fun i h => i ≤ n ∧ (∃ old, IsEnum h e it ((i : Nat) : Int) old) ∧ IterS t h it a i ∧ e ≠ it) where
  mem := by simp
  obj := fun i h st b hb => by
    obtain ⟨_, ⟨old, he⟩, hi, _⟩ := st
    have e' : b = e ∨ b = it := by simpa using hb
    rcases e' with z | z
    · rw [z]; exact ⟨_, he, fun v q => nomatch q⟩
    · rw [z]; exact hi.ob
  keep := fun i h h' st k => let ⟨hin, ⟨old, he⟩, hi, hne⟩ := st; ⟨hin, ⟨old, k e (by simp) _ he⟩, hi.at' fun o q => k it (by simp) o q, hne⟩
  item := by
    intro X hP hw hK hc i pins s σ H E I hf st hg
    subst hP hw hK
    obtain ⟨hin, ⟨old, he⟩, hit, hne⟩ := st
    obtain ⟨hlt0, xs, x, hq, hx⟩ := hg
    obtain ⟨its, rv, p⟩ := inv_seq I hq
    obtain ⟨u, hu, ru⟩ := rv.get hx
    have hel : e < s.heap.objs.size := Heap.lt_size he
    have hil : it < s.heap.objs.size := by obtain ⟨_, q, _⟩ := hit.ob; exact Heap.lt_size q
    have hlt : i < its.toArray.size := by
      obtain ⟨q, _⟩ := List.getElem?_eq_some_iff.mp hu
      simpa using q
    refine wpAny_pyNext_enum_itemD (drawS (A := X.A.in1) (I.ok.hd hc) t it a hia its.toArray) he ⟨hit, p⟩ hlt hne (by simp; exact ⟨hne, hea⟩) fun u' h' tk hu' ho hit' hT hsz hk => ?_
    have eu : u' = u := by
      have z : its[i]? = some u' := by simpa using hu'
      rw [hu] at z; cases z; rfl
    subst eu
    refine ⟨_, rfl, wpAny_letOwnedTupleGo_enum (s := { s with heap := h', toks := tk + 1 }) ho fun h'' he' sb => ?_⟩
    have hT2 : h''.get? s.heap.objs.size = some { cls := .type "tuple", data := .seq #[.int i tk, u'] } := (sb.2 _ (Nat.ne_of_gt hel)).trans hT
    have new : ObjOk X.prog X.w (upd H s.heap.objs.size (.tup [.int (i : Nat), x])) h'' s.heap.objs.size (.tup [.int (i : Nat), x]) :=
      ⟨by show 2 ≤ sizeLine; decide, [.int i tk, u'], .cons ⟨_, rfl⟩ (.cons ru .nil), ⟨_, hT2, rfl, _, rfl⟩⟩
    have I1 : Inv X pins σ (upd H s.heap.objs.size (.tup [.int (i : Nat), x])) { s with heap := h'', toks := tk + 1 } :=
      I.turnedNew (ch := [e, it]) (fun b ob hb q => (sb.2 b (fun z => hb (by simp [z]))).trans (hk b ob (fun z => hb (by simp [z])) (fun z => hb (by simp [z])) q)) hf (Nat.le_refl _) new
    refine ⟨.ref s.heap.objs.size, _, I1, rfl, ⟨_, x, rfl, I.hok.fresh (Nat.le_refl _), rfl, fun ys hy => by have z := inv_inj I hy hq; subst z; exact hx⟩, ⟨hlt0, ⟨u', ?_⟩, hit'.1.at' fun o q => (sb.2 it (Ne.symm hne)).trans q, hne⟩, fun b hb => ?_⟩
    · have e1 : ((i + 1 : Nat) : Int) = (i : Int) + 1 := by omega
      rw [e1]; exact he'
    · have hb' : b < s.heap.objs.size := by
        have e' : b = e ∨ b = it := by simpa using hb
        rcases e' with z | z
        · rw [z]; exact hel
        · rw [z]; exact hil
      rw [upd_ne (Nat.ne_of_lt hb')]
      exact (hf b hb).1
  done := by
    intro X hP hw hK hc i pins s σ H E I hf st hg
    subst hP hw hK
    obtain ⟨hin, ⟨old, he⟩, hit, hne⟩ := st
    obtain ⟨hge, xs, hq, hx⟩ := hg
    obtain ⟨its, rv, p⟩ := inv_seq I hq
    obtain ⟨f0, f1, f2, f3, f4, f5⟩ := hf it (by simp)
    have hl := rv.length
    have hn : its.toArray.size = i := by simp; omega
    refine wpAny_pyNext_enum_endD (drawS (A := X.A.in1) (I.ok.hd hc) t it a hia its.toArray) he ⟨by rw [hn]; exact hit, p⟩ fun h' eb => ⟨rfl, I.turned (t' := s.toks) (fun b o hb q => eb b o hb q) f0 f1 f3 f4 f5⟩
  self := fun A i s Q E st h => let ⟨_, ⟨_, he⟩, _⟩ := st; wpAny_pyIter_enum he h
def iEnumS (K : PySem.W.Frag) (te : TE) : TI := fun σ H R => te σ H fun v H1 => ∃ t a xs, v = .ref a ∧ SeqV K t H1 a xs ∧ R (ItE K t a xs.length) H1
theorem pi_enumS {X : Cx} {e : Expr} {te : TE} {p pos tpos : Pos} {elts : List Expr} {kk : Nat} (hg : Gl X "enumerate") (hm : X.mg "enumerate" = none) (he : PE X e te) (hs : starEach [e] X.env = (false, eval e X.env) :: starEach [] X.env := by rfl) :
    PI X (.Tuple elts kk tpos) (.Call (.Name "enumerate" p) [e] [] pos) (iEnumS X.K te) := by
  refine ⟨fun pins s σ H R I h => ?_⟩
  refine Call_ (ld_blt I hg hm boot_enumerate (PyProof.Rows.callWith_type1 (args_cons (thn (he.run pins s σ H _ I h) fun u s1 ⟨v, H1, I1, r1, q1⟩ => args_nil ?_) hs) hs rfl))
  obtain ⟨t, a, xs, ev, hq, q⟩ := q1
  subst ev
  obtain rfl : u = Value.ref a := r1
  obtain ⟨its, rv, p'⟩ := inv_seq I1 hq
  have hal := p'.lt
  refine enum_b1 (begS t a its.toArray) p' fun h' he hit hsz hk => wpAny_pyIter_enum he ?_
  have I2 : Inv X pins σ H1 { s1 with heap := h' } := I1.kept (t' := s1.toks) hk
  refine ⟨s1.heap.objs.size + 1, [s1.heap.objs.size + 1, s1.heap.objs.size], _, _, H1, rfl, I2, turn_E t a (s1.heap.objs.size + 1) s1.heap.objs.size xs.length (Nat.ne_of_gt (Nat.lt_succ_of_lt hal)) (Nat.ne_of_lt hal), ⟨Nat.zero_le _, ⟨.none, he⟩, iterS0 hit, Nat.succ_ne_self _⟩, fun b hb => ?_, q⟩
  have e' : b = s1.heap.objs.size + 1 ∨ b = s1.heap.objs.size := by simpa using hb
  have hle : s1.heap.objs.size ≤ b := by
    rcases e' with z | z
    · rw [z]; exact Nat.le_add_right _ _
    · rw [z]; exact Nat.le_refl _
  exact I1.fpOk hle (I1.hok.fresh hle)
section
variable {X : Cx} {cl : Nat → Addr} {E : XK} {Ω Γ Γ' Γ2 Γl : List Nat} {pn : List (Nat × Addr)} {fr : Bool} {f g : S → R D} {ea eb ex tg : Expr} {pos : Pos} {K : PySem.W.Frag} {B H B0 H0 : Hp}
/-- the items with their places -/
def enD (ds : List D) : List D := (List.range ds.length).map fun i => .tup [.int (i : Nat), ds.getD i .non]
def asSeq : D → Option (List D)
  | .lst ds => some ds
  | .tup ds => some ds
  | _ => none
def oEnum1 : List D → Option (List D)
  | [d] => (asSeq d).bind fun ds => some (enD ds)
  | _ => none
theorem seqV_of {K : PySem.W.Frag} {cl : Nat → Addr} {B H : Hp} {v : V} {d : D} {ds : List D} (sm : Same B H) (h : Rep K cl B v d) (e : asSeq d = some ds) : ∃ t a vs, v = .ref a ∧ SeqV K t B a vs ∧ SeqV K t H a vs ∧ RepL K cl B vs ds := by
  cases h with
  | lst h1 r => cases e; exact ⟨false, _, _, rfl, .of h1, .of (sm _ _ h1), r⟩
  | tup h1 r => cases e; exact ⟨true, _, _, rfl, h1, same_t sm h1, r⟩
  | _ => cases e
theorem SeqV.up {K : PySem.W.Frag} {t : Bool} {B H : Hp} {a : Addr} {vs : List V} (sm : Same B H) (h : SeqV K t B a vs) : SeqV K t H a vs := by
  cases t with
  | false => exact sm.seq h
  | true => exact same_t sm h
theorem iters_E {K : PySem.W.Frag} {cl : Nat → Addr} {B : Hp} {t : Bool} {a : Addr} {vs : List V} {ds : List D} (h : SeqV K t B a vs) (r : RepL K cl B vs ds) : Iters K cl (ItE K t a vs.length) (enD ds) B := fun i B2 H2 e1 e2 => ⟨fun d hd => by
  unfold enD at hd
  rw [List.getElem?_map] at hd
  by_cases hi : i < ds.length
  · rw [List.getElem?_range hi] at hd
    cases hd
    have hd' : ds[i]? = some (ds.getD i .non) := by rw [List.getD_eq_getElem?_getD, List.getElem?_eq_getElem hi]; rfl
    obtain ⟨v, hv, rv⟩ := r.get hd'
    refine ⟨⟨by rw [r.length]; exact hi, vs, v, (h.up e1).up e2, hv⟩, fun x H3 y => ?_⟩
    obtain ⟨T, x', rfl, hT, rfl, y⟩ := y
    have e := y vs ((h.up e1).up e2)
    rw [hv] at e
    cases e
    exact ⟨upd B2 T (.tup [.int (i : Nat), v]), Stp.new e2 hT, .tup (.of upd_same) (.cons (.int _) (.cons ((rv.mono e1).mono (same_new (e2.free hT))) .nil))⟩
  · rw [List.getElem?_eq_none (by simpa using hi)] at hd; exact (nomatch hd), fun hd => ⟨by
  have := List.getElem?_eq_none_iff.mp hd
  unfold enD at this
  rw [r.length]
  simpa using this, vs, (h.up e1).up e2, rfl⟩⟩
theorem snd_enum {te : TE} (h : SndE K cl E Γ te f) : SndI K cl E Γ (iEnumS K te) (mIt oEnum1 (mCons f mNil)) := fun B0 H0 pn σ s B H Q rel n q => by
  have n0 : Nb K cl E B0 H0 ((f s).bind fun d => ofO (oEnum1 [d])) := by
    have n' : Nb K cl E B0 H0 ((mCons f mNil s).bind fun ds => ofO (oEnum1 ds)) := n
    unfold mCons mNil at n'
    cases e : f s with
    | ok d => rw [e] at n'; exact n'
    | exc c fs => rw [e] at n'; exact n'
    | bad => rw [e] at n'; exact n'
  refine h B0 H0 pn σ s B H _ rel n0.bind fun d v B1 H1 e1 p1 w1 => ?_
  obtain ⟨z, ez⟩ := ofO_nb (n0.next e1)
  have e3 : mIt oEnum1 (mCons f mNil) s = .ok z := by
    show (((f s).bind fun x => (R.ok []).bind fun xs => R.ok (x :: xs)).bind fun ds => ofO (oEnum1 ds)) = _
    rw [e1]; show ofO (oEnum1 [d]) = _; rw [ez]; rfl
  cases ed : asSeq d with
  | none =>
    have ez' : (asSeq d).bind (fun ds => some (enD ds)) = some z := ez
    rw [ed] at ez'; cases ez'
  | some ds =>
    have ez' : (asSeq d).bind (fun ds => some (enD ds)) = some z := ez
    rw [ed] at ez'
    cases ez'
    obtain ⟨t, a, vs, rfl, h1, h2, r⟩ := seqV_of p1.i w1 ed
    exact ⟨t, a, vs, rfl, h2, q _ _ B1 H1 e3 p1 (iters_E h1 r)⟩
theorem i_enum1 {p tpos : Pos} {elts : List Expr} {kk : Nat} (hm : X.mg "enumerate" = none) (h : DE X cl E Γ ea f) (hg : Gl X "enumerate" := by rfl) (hs : starEach [ea] X.env = (false, eval ea X.env) :: starEach [] X.env := by rfl) : DI X cl E Γ (.Tuple elts kk tpos) (.Call (.Name "enumerate" p) [ea] [] pos) (mIt oEnum1 (mCons f mNil)) :=
  let ⟨_, h1, h2⟩ := h; ⟨_, pi_enumS hg hm h1 hs, snd_enum h2⟩
end
end Dl

namespace Dl
open PySem PySem.Spec PyProof.Rows L2

/-! ### all, any, sum, max, min of a list -/
def asBls : List D → Option (List Bool)
  | [] => some []
  | .bl b :: ds => (asBls ds).bind fun bs => some (b :: bs)
  | _ :: _ => none
theorem asInts_eq : ∀ {ds : List D} {ns : List Int}, asInts ds = some ns → ds = ns.map D.int
  | [], ns, h => by cases h; rfl
  | .int i :: ds, ns, h => by
    have h' : (asInts ds).bind (fun ns => some (i :: ns)) = some ns := h
    cases e : asInts ds with
    | none => rw [e] at h'; cases h'
    | some ms => rw [e] at h'; cases h'; rw [asInts_eq e]; rfl
theorem asBls_eq : ∀ {ds : List D} {ns : List Bool}, asBls ds = some ns → ds = ns.map D.bl
  | [], ns, h => by cases h; rfl
  | .bl i :: ds, ns, h => by
    have h' : (asBls ds).bind (fun ns => some (i :: ns)) = some ns := h
    cases e : asBls ds with
    | none => rw [e] at h'; cases h'
    | some ms => rw [e] at h'; cases h'; rw [asBls_eq e]; rfl
theorem asInts_map {ns : List Int} : asInts (ns.map D.int) = some ns := by
  induction ns with
  | nil => rfl
  | cons n ns ih => show (asInts (ns.map D.int)).bind _ = _; rw [ih]; rfl
theorem asBls_map {ns : List Bool} : asBls (ns.map D.bl) = some ns := by
  induction ns with
  | nil => rfl
  | cons n ns ih => show (asBls (ns.map D.bl)).bind _ = _; rw [ih]; rfl
section
variable {K : PySem.W.Frag} {cl : Nat → Addr} {B H : Hp}
theorem repL_ints {vs : List V} {ns : List Int} (h : RepL K cl B vs (ns.map D.int)) : vs = ns.map V.int := by
  induction ns generalizing vs with
  | nil => cases h; rfl
  | cons n ns ih =>
    cases h with
    | cons h r => cases h; rw [ih r]; rfl
theorem repL_bls {vs : List V} {ns : List Bool} (h : RepL K cl B vs (ns.map D.bl)) : vs = ns.map V.bl := by
  induction ns generalizing vs with
  | nil => cases h; rfl
  | cons n ns ih =>
    cases h with
    | cons h r => cases h; rw [ih r]; rfl
theorem ints_repL {ns : List Int} : RepL K cl B (ns.map V.int) (ns.map D.int) := by
  induction ns with
  | nil => exact .nil
  | cons n ns ih => exact .cons (.int n) ih
end
def oAll1 : List D → Option D
  | [.lst ds] => (asBls ds).bind fun bs => some (.bl (bs.all id))
  | _ => none
def oAny1 : List D → Option D
  | [.lst ds] => (asBls ds).bind fun bs => some (.bl (bs.any id))
  | _ => none
def oSum1 : List D → Option D
  | [.lst ds] => (asInts ds).bind fun ns => some (.int ns.sum)
  | _ => none
def maxI : List Int → Option Int
  | [] => none
  | n :: ns => some (ns.foldl max n)
def minI : List Int → Option Int
  | [] => none
  | n :: ns => some (ns.foldl min n)
theorem foldl_max {ns : List Int} : ∀ {n : Int}, (∀ y ∈ n :: ns, y ≤ ns.foldl max n) ∧ ns.foldl max n ∈ n :: ns := by
  induction ns with
  | nil => intro n; simp
  | cons m ns ih =>
    intro n
    have q := @ih (max n m)
    simp only [List.foldl_cons]
    refine ⟨fun y hy => ?_, ?_⟩
    · have q1 := q.1 (max n m) List.mem_cons_self
      simp only [List.mem_cons] at hy
      rcases hy with rfl | rfl | hy
      · omega
      · omega
      · exact q.1 y (List.mem_cons_of_mem _ hy)
    · have q2 := q.2
      simp only [List.mem_cons] at q2 ⊢
      rcases q2 with e | e
      · rw [e]
        by_cases h : n ≤ m
        · exact .inr (.inl (by omega))
        · exact .inl (by omega)
      · exact .inr (.inr e)
theorem foldl_min {ns : List Int} : ∀ {n : Int}, (∀ y ∈ n :: ns, ns.foldl min n ≤ y) ∧ ns.foldl min n ∈ n :: ns := by
  induction ns with
  | nil => intro n; simp
  | cons m ns ih =>
    intro n
    have q := @ih (min n m)
    simp only [List.foldl_cons]
    refine ⟨fun y hy => ?_, ?_⟩
    · have q1 := q.1 (min n m) List.mem_cons_self
      simp only [List.mem_cons] at hy
      rcases hy with rfl | rfl | hy
      · omega
      · omega
      · exact q.1 y (List.mem_cons_of_mem _ hy)
    · have q2 := q.2
      simp only [List.mem_cons] at q2 ⊢
      rcases q2 with e | e
      · rw [e]
        by_cases h : n ≤ m
        · exact .inl (by omega)
        · exact .inr (.inl (by omega))
      · exact .inr (.inr e)
def oMax1 : List D → Option D
  | [.lst ds] => (asInts ds).bind fun ns => (maxI ns).bind fun m => some (.int m)
  | _ => none
def oMin1 : List D → Option D
  | [.lst ds] => (asInts ds).bind fun ns => (minI ns).bind fun m => some (.int m)
  | _ => none
section
variable {X : Cx} {cl : Nat → Addr} {E : XK} {Ω Γ Γ' Γ2 Γl : List Nat} {pn : List (Nat × Addr)} {fr : Bool} {f g h0 : S → R D} {ea eb ec ex tg : Expr} {pos : Pos} {B H B0 H0 : Hp}
theorem bw_lst {v : V} {ds : List D} (w : Bw X.K cl B H v (.lst ds)) (sm : Same B H) : ∃ a vs, v = .ref a ∧ SqL X.K H a vs ∧ RepL X.K cl B vs ds := by
  obtain ⟨a, vs, e, h, r⟩ := w.lst sm
  exact ⟨a, vs, e, .of h, r⟩
theorem oa_all : OpA X.K cl (rAll X.K) oAll1 := by
  intro B H vs ds z Q sm w hz q
  unfold oAll1 at hz
  split at hz
  · rename_i es
    cases e : asBls es with
    | none => rw [e] at hz; cases hz
    | some bs =>
      rw [e] at hz; cases hz
      obtain ⟨v, rfl, k⟩ := w.one
      obtain ⟨a, us, rfl, h1, r1⟩ := bw_lst k sm
      rw [asBls_eq e] at r1
      rw [repL_bls r1] at h1
      exact ⟨a, bs, rfl, h1, q _ B H (Stp.refl sm) (.bl _)⟩
  · cases hz
theorem oa_any : OpA X.K cl (rAny X.K) oAny1 := by
  intro B H vs ds z Q sm w hz q
  unfold oAny1 at hz
  split at hz
  · rename_i es
    cases e : asBls es with
    | none => rw [e] at hz; cases hz
    | some bs =>
      rw [e] at hz; cases hz
      obtain ⟨v, rfl, k⟩ := w.one
      obtain ⟨a, us, rfl, h1, r1⟩ := bw_lst k sm
      rw [asBls_eq e] at r1
      rw [repL_bls r1] at h1
      exact ⟨a, bs, rfl, h1, q _ B H (Stp.refl sm) (.bl _)⟩
  · cases hz
theorem oa_sum : OpA X.K cl (rSum X.K) oSum1 := by
  intro B H vs ds z Q sm w hz q
  unfold oSum1 at hz
  split at hz
  · rename_i es
    cases e : asInts es with
    | none => rw [e] at hz; cases hz
    | some bs =>
      rw [e] at hz; cases hz
      obtain ⟨v, rfl, k⟩ := w.one
      obtain ⟨a, us, rfl, h1, r1⟩ := bw_lst k sm
      rw [asInts_eq e] at r1
      rw [repL_ints r1] at h1
      exact ⟨a, bs, rfl, h1, q _ B H (Stp.refl sm) (.int _)⟩
  · cases hz
theorem oa_max1 : OpA X.K cl (rMax X.K) oMax1 := by
  intro B H vs ds z Q sm w hz q
  unfold oMax1 at hz
  split at hz
  · rename_i es
    cases e : asInts es with
    | none => rw [e] at hz; cases hz
    | some bs =>
      rw [e] at hz
      obtain ⟨v, rfl, k⟩ := w.one
      obtain ⟨a, us, rfl, h1, r1⟩ := bw_lst k sm
      rw [asInts_eq e] at r1
      rw [repL_ints r1] at h1
      cases bs with
      | nil => cases hz
      | cons n ns =>
        cases hz
        refine ⟨a, n :: ns, rfl, h1, by simp, fun m h2 h3 => ?_⟩
        have k := foldl_max (ns := ns) (n := n)
        have e : m = ns.foldl max n := by
          have := h3 _ k.2
          have := k.1 _ h2
          omega
        rw [e]
        exact q _ B H (Stp.refl sm) (.int _)
  · cases hz
theorem oa_min1 : OpA X.K cl (rMin X.K) oMin1 := by
  intro B H vs ds z Q sm w hz q
  unfold oMin1 at hz
  split at hz
  · rename_i es
    cases e : asInts es with
    | none => rw [e] at hz; cases hz
    | some bs =>
      rw [e] at hz
      obtain ⟨v, rfl, k⟩ := w.one
      obtain ⟨a, us, rfl, h1, r1⟩ := bw_lst k sm
      rw [asInts_eq e] at r1
      rw [repL_ints r1] at h1
      cases bs with
      | nil => cases hz
      | cons n ns =>
        cases hz
        refine ⟨a, n :: ns, rfl, h1, by simp, fun m h2 h3 => ?_⟩
        have k := foldl_min (ns := ns) (n := n)
        have e : m = ns.foldl min n := by
          have := h3 _ k.2
          have := k.1 _ h2
          omega
        rw [e]
        exact q _ B H (Stp.refl sm) (.int _)
  · cases hz
theorem e_all1 {p : Pos} (hm : X.mg "all" = none) (h : DB X cl E Γ ea f) (hc : X.calm = true := by rfl) (hs : starEach [ea] X.env = (false, eval ea X.env) :: starEach [] X.env := by rfl) (hpl : (backTo pos (starEach [] X.env)).any (·.1) = false := by rfl) (hg : Gl X "all" := by rfl) : DE X cl E Γ (.Call (.Name "all" p) [ea] [] pos) (mOpA oAll1 (mCons f mNil)) := e_callB (cr_all hc) oa_all hm (by decide +kernel) (ab_cons h ab_nil hs) hg (by decide) (by decide) hs hpl
theorem e_any1 {p : Pos} (hm : X.mg "any" = none) (h : DB X cl E Γ ea f) (hc : X.calm = true := by rfl) (hs : starEach [ea] X.env = (false, eval ea X.env) :: starEach [] X.env := by rfl) (hpl : (backTo pos (starEach [] X.env)).any (·.1) = false := by rfl) (hg : Gl X "any" := by rfl) : DE X cl E Γ (.Call (.Name "any" p) [ea] [] pos) (mOpA oAny1 (mCons f mNil)) := e_callB (cr_any hc) oa_any hm (by decide +kernel) (ab_cons h ab_nil hs) hg (by decide) (by decide) hs hpl
theorem e_sum1 {p : Pos} (hm : X.mg "sum" = none) (h : DB X cl E Γ ea f) (hc : X.calm = true := by rfl) (hs : starEach [ea] X.env = (false, eval ea X.env) :: starEach [] X.env := by rfl) (hpl : (backTo pos (starEach [] X.env)).any (·.1) = false := by rfl) (hg : Gl X "sum" := by rfl) : DE X cl E Γ (.Call (.Name "sum" p) [ea] [] pos) (mOpA oSum1 (mCons f mNil)) := e_callB (cr_sum hc) oa_sum hm (by decide +kernel) (ab_cons h ab_nil hs) hg (by decide) (by decide) hs hpl
theorem e_max1 {p : Pos} (hm : X.mg "max" = none) (h : DB X cl E Γ ea f) (hc : X.calm = true := by rfl) (hs : starEach [ea] X.env = (false, eval ea X.env) :: starEach [] X.env := by rfl) (hpl : (backTo pos (starEach [] X.env)).any (·.1) = false := by rfl) (hg : Gl X "max" := by rfl) : DE X cl E Γ (.Call (.Name "max" p) [ea] [] pos) (mOpA oMax1 (mCons f mNil)) := e_callB (cr_max hc) oa_max1 hm (by decide +kernel) (ab_cons h ab_nil hs) hg (by decide) (by decide) hs hpl
theorem e_min1 {p : Pos} (hm : X.mg "min" = none) (h : DB X cl E Γ ea f) (hc : X.calm = true := by rfl) (hs : starEach [ea] X.env = (false, eval ea X.env) :: starEach [] X.env := by rfl) (hpl : (backTo pos (starEach [] X.env)).any (·.1) = false := by rfl) (hg : Gl X "min" := by rfl) : DE X cl E Γ (.Call (.Name "min" p) [ea] [] pos) (mOpA oMin1 (mCons f mNil)) := e_callB (cr_min hc) oa_min1 hm (by decide +kernel) (ab_cons h ab_nil hs) hg (by decide) (by decide) hs hpl
/-! ### a < b < c -/
def mChain (o o' : D → D → Option D) (f g h : S → R D) (s : S) : R D := (f s).bind fun x => (g s).bind fun y => (ofO ((o x y).bind asB)).bind fun b => if b then (h s).bind fun z => ofO (o' y z) else .ok (.bl false)
theorem snd_chain {r r' : R2} {o o' : D → D → Option D} {ta tb tc : TE} (hr : Op2 X.K cl r o) (hr' : Op2 X.K cl r' o') (h1 : SndB X.K cl E Γ ta f) (h2 : SndB X.K cl E Γ tb g) (h3 : SndB X.K cl E Γ tc h0) : SndE X.K cl E Γ (tChain r r' ta tb tc) (mChain o o' f g h0) := fun B0 H0 pn σ s B H Q rel n q => by
  refine h1 B0 H0 pn σ s B H _ rel n.bind fun d x B1 H1 e1 p1 w1 => ?_
  have n1 := n.next e1
  refine h2 B0 H0 pn σ s B1 H1 _ (rel.mono p1) n1.bind fun e y B2 H2 e2 p2 w2 => ?_
  have n2 := n1.next e2
  obtain ⟨b, eb⟩ := ofO_nb n2.bind
  have n3 := n2.next (a := b) (by rw [eb]; rfl)
  cases eo : o d e with
  | none => rw [eo] at eb; cases eb
  | some z =>
    rw [eo] at eb
    have ez := asB_some (show asB z = some b from eb)
    subst ez
    refine hr B2 H2 x y d e _ _ p2.i (w1.step p2) w2 eo fun v B3 H3 p3 w3 => ?_
    cases w3
    refine ⟨b, rfl, ?_⟩
    cases b with
    | true =>
      refine iteT (h3 B0 H0 pn σ s B3 H3 _ (((rel.mono p1).mono p2).mono p3) n3.bind fun d4 w B4 H4 e4 p4 w4 => ?_)
      obtain ⟨z, ez⟩ := ofO_nb (n3.next e4)
      refine hr' B4 H4 y w e d4 z Q p4.i ((w2.step p3).step p4) w4 ez fun v B5 H5 p5 w5 => q z v B5 H5 ?_ ((((p1.trans p2).trans p3).trans p4).trans p5) w5
      show (f s).bind _ = _
      rw [e1]; show (g s).bind _ = _; rw [e2]; show (ofO ((o d e).bind asB)).bind _ = _; rw [eo]; show (h0 s).bind _ = _; rw [e4]; show ofO _ = _; rw [ez]; rfl
    | false =>
      refine iteF (q _ _ B3 H3 ?_ ((p1.trans p2).trans p3) (.bl false))
      show (f s).bind _ = _
      rw [e1]; show (g s).bind _ = _; rw [e2]; show (ofO ((o d e).bind asB)).bind _ = _; rw [eo]; rfl
/-- an operator of a chain -/
structure Ch (X : Cx) (cl : Nat → Addr) (op : CmpOp) (o : D → D → Option D) : Prop where
  ex : ∃ r : R2, OpR X (compareOp op) r ∧ Op2 X.K cl r o
theorem ch_lt : Ch X cl .Lt oLt := ⟨_, op_ltA, o2_lt⟩
theorem ch_le : Ch X cl .LtE oLe := ⟨_, op_le, o2_le⟩
theorem ch_gt : Ch X cl .Gt oGt := ⟨_, op_gt, o2_gt⟩
theorem ch_ge : Ch X cl .GtE oGe := ⟨_, op_ge, o2_ge⟩
theorem ch_eq {k : Nat} (hr : Room k X.A) : Ch X cl .Eq oEq := ⟨_, op_eqD hr.units, o2_eq⟩
theorem ch_ne {k : Nat} (hr : Room k X.A) : Ch X cl .NotEq oNe := ⟨_, op_neD hr.units, o2_ne⟩
theorem e_chain {op op' : CmpOp} {o o' : D → D → Option D} (c1 : Ch X cl op o) (c2 : Ch X cl op' o') (ha : DB X cl E Γ ea f) (hb : DB X cl E Γ eb g) (hc : DB X cl E Γ ec h0) (hm : lastMarks [op, op'] [eb, ec] = false := by with_unfolding_all rfl) : DE X cl E Γ (.Compare ea [op, op'] [eb, ec] pos) (mChain o o' f g h0) :=
  let ⟨_, r1, o1⟩ := c1; let ⟨_, r2, o2⟩ := c2; let ⟨_, h1, h2⟩ := ha; let ⟨_, h3, h4⟩ := hb; let ⟨_, h5, h6⟩ := hc; ⟨_, pe_chain r1 r2 h1 h3 h5 hm, snd_chain o1 o2 h2 h4 h6⟩
theorem t_chain {op op' : CmpOp} {o o' : D → D → Option D} (c1 : Ch X cl op o) (c2 : Ch X cl op' o') (ha : DB X cl E Γ ea f) (hb : DB X cl E Γ eb g) (hc : DB X cl E Γ ec h0) (hm : lastMarks [op, op'] [eb, ec] = false := by with_unfolding_all rfl) : DT X cl E Γ (.Compare ea [op, op'] [eb, ec] pos) (mTst (mChain o o' f g h0)) :=
  let ⟨_, r1, o1⟩ := c1; let ⟨_, r2, o2⟩ := c2; let ⟨_, h1, h2⟩ := ha; let ⟨_, h3, h4⟩ := hb; let ⟨_, h5, h6⟩ := hc; ⟨_, pt_chain r1 r2 h1 h3 h5 hm, snt_test (snd_chain o1 o2 h2 h4 h6)⟩
end
/-! ### sorted(x), x a list or a tuple of ints -/
theorem collect_seq {prog : Program} {w : World} {A : Around} {E : Value → Shared → Prop} {s : Shared} {t : Bool} {l : Addr} {vs : List Value} {Q : List Value → Shared → Prop} (hl : HSeq t s.heap l vs.toArray)
    (h : Q vs { s with heap := (s.heap.push (seqObj "list" #[] 0)).update s.heap.objs.size (Obj.mapSeq (· ++ vs.toArray)) }) (hsz : vs.length ≤ sizeLine) :
    wpAny (model prog w) A (collect (.ref l)) Q E s := by
  cases t with
  | false => exact collect_list hl h hsz
  | true =>
  obtain ⟨o, ho, hc, n, hd⟩ := id hl
  unfold collect
  refine wpAny_bind (wpAny_runValue (codeAny_builtin entry_proto_collect' ?_))
  show wpAny _ _ (do again (.builtin "list.__iadd__" ⟨[← newList [], .ref l], []⟩)) _ _ s
  refine wpAny_bind (wpAny_newList (wpAny_pure ⟨Code.quiet_builtin _ (by decide +kernel), codeAny_builtin entry_list_iadd' ?_⟩))
  show wpAny _ _ (Builtin.List.listExtendWith (.ref s.heap.objs.size) (.ref l) (.ref s.heap.objs.size)) _ _ { s with heap := s.heap.push (seqObj "list" #[] 0) }
  unfold Builtin.List.listExtendWith
  have ho' : (s.heap.push (seqObj "list" #[] 0)).get? l = some o := Heap.get?_push_of_some _ ho
  refine wpAny_bind (wpAny_typeOf (T := "tuple") ⟨o, ho', hc⟩ ?_)
  have ht : (Value.type "tuple" == Value.type "tuple") = true := by rfl
  rw [if_pos (by rw [ht]; simp)]
  refine wpAny_bind (listItems_at ho' hd ?_)
  refine wpAny_bind (listItems_at (xs := #[]) (n := 0) (Heap.get?_push_size _ rfl) rfl ?_)
  rw [if_neg (by simp)]
  refine wpAny_bind (listUpdate_at (xs := #[]) (n := 0) (Heap.get?_push_size _ rfl) rfl ?_ (Nat.zero_le _) (by show (#[] ++ vs.toArray).size ≤ sizeLine + 1; simp only [Array.size_append, List.size_toArray, List.length_nil]; omega))
  refine wpAny_pure ?_
  show wpAny (model prog w) A (do
      let o ← load s.heap.objs.size
      match o.data with
      | .seq xs _ => pure xs.toList
      | _ => unsupported "internal:collect") Q E { s with heap := (s.heap.push (seqObj "list" #[] 0)).update s.heap.objs.size (Obj.mapSeq (· ++ vs.toArray)) }
  refine wpAny_bind (wpAny_load (get?_update_seq (Heap.get?_push_size _ rfl) _) ?_)
  show wpAny _ _ (pure ((#[] : Array Value) ++ vs.toArray).toList) Q E _
  rw [show ((#[] : Array Value) ++ vs.toArray).toList = vs by simp]
  exact wpAny_pure h
theorem sorted_ordS {prog : Program} {w : World} {A : Around} {E : Value → Shared → Prop} {s : Shared} {t : Bool} {l : Addr} {vs : List Value} {ltv : Value → Value → Bool} {Q : Value → Shared → Prop} (O : SrtO.Swo ltv) (hl : HSeq t s.heap l vs.toArray) (hz : vs.length ≤ sizeLine)
    (hS : 2 ≤ vs.length → ∀ (h₁ : Heap) (a : Addr), h₁.get? a = some (seqObj "list" vs.toArray 0) → (∀ b o, s.heap.get? b = some o → b ≠ a ∧ h₁.get? b = some o) → SrtO.SortableO prog w A.in1.in1 { s with heap := h₁ } a vs ltv)
    (h : ∀ out : List Value, SrtO.Srtd ltv out → SrtO.Stb ltv out vs → Q (.ref (s.heap.objs.size + 1)) { s with heap := sortedAll s.heap vs out.toArray }) :
    wpAny (model prog w) A (call (.builtin "sorted") [.ref l]) Q E s := by
  refine Calls.call_function_entry kind_sorted plain_sorted entry_sorted (args_sorted1 _) ?_
  unfold Builtin.«sorted»
  refine wpAny_bind (m := checkCount "sorted" 1 1 _) (wpAny_pure ?_)
  refine wpAny_bind (collect_seq hl ?_ hz)
  refine wpAny_bind (wpAny_newList ?_ hz)
  have hsz : ((s.heap.push (seqObj "list" #[] 0)).update s.heap.objs.size (Obj.mapSeq (· ++ vs.toArray))).objs.size = s.heap.objs.size + 1 := by
    rw [Heap.size_update, size_push']
  have hoL : (((s.heap.push (seqObj "list" #[] 0)).update s.heap.objs.size (Obj.mapSeq (· ++ vs.toArray))).push (seqObj "list" vs.toArray 0)).get? (s.heap.objs.size + 1) = some (seqObj "list" vs.toArray 0) := by
    rw [← hsz]; exact Heap.get?_push_size _ rfl
  have keep : ∀ b o, s.heap.get? b = some o → b ≠ s.heap.objs.size + 1 ∧ (((s.heap.push (seqObj "list" #[] 0)).update s.heap.objs.size (Obj.mapSeq (· ++ vs.toArray))).push (seqObj "list" vs.toArray 0)).get? b = some o := fun b o q => by
    have hlt : b < s.heap.objs.size := Heap.lt_size q
    refine ⟨Nat.ne_of_lt (Nat.lt_succ_of_lt hlt), Heap.get?_push_of_some _ ?_⟩
    rw [Heap.get?_update_ne _ _ _ _ (Nat.ne_of_lt hlt)]
    exact Heap.get?_push_of_some _ q
  show wpAny _ _ _ _ _ { s with heap := ((s.heap.push (seqObj "list" #[] 0)).update s.heap.objs.size (Obj.mapSeq (· ++ vs.toArray))).push (seqObj "list" vs.toArray 0) }
  rw [hsz]
  refine wpAny_bind (wpAny_holding (wpAny_call_entry slot_list_sort ⟨_, hoL, rfl⟩ entry_list_sort (SrtO.list_sort_ord O hoL hz (fun h2 => hS h2 _ _ hoL keep) fun out hs hb => ⟨_, rfl, ?_⟩) (args_list_sort _)))
  exact wpAny_pure ⟨_, rfl, h out hs hb⟩
def leI (a b : Int) : Bool := decide (a ≤ b)
def srtI (ns : List Int) : List Int := ns.mergeSort leI
theorem srtI_perm (ns : List Int) : (srtI ns).Perm ns := List.mergeSort_perm ns leI
theorem srtI_sorted (ns : List Int) : (srtI ns).Pairwise (· ≤ ·) := by
  have h := List.pairwise_mergeSort (le := leI) (fun a b c h1 h2 => by unfold leI at *; simp at *; omega) (fun a b => by unfold leI; simp; omega) ns
  exact h.imp fun h => by unfold leI at h; simpa using h
theorem srtI_uniq {ns ms : List Int} (h1 : ms.Perm ns) (h2 : ms.Pairwise (· ≤ ·)) : ms = srtI ns :=
  List.Perm.eq_of_pairwise (le := (· ≤ ·)) (fun a b _ _ h h' => by omega) h2 (srtI_sorted ns) (h1.trans (srtI_perm ns).symm)
def oSortI : List D → Option D
  | [d] => (asSeq d).bind fun ds => (asInts ds).bind fun ns => some (.lst ((srtI ns).map D.int))
  | _ => none
def rSortedS (K : PySem.W.Frag) : List V → Hp → VK → Prop := fun vs H Q => ∃ (t : Bool) (a : Addr) (ns : List Int), vs = [V.ref a] ∧ SeqV K t H a (ns.map V.int) ∧
  ∀ p : Addr, H p = none → Q (.ref p) (upd H p (.lst ((srtI ns).map V.int)))
theorem inv_seq2 {X : Cx} {pins : List (Addr × Obj)} {σ : L2.St} {H : Hp} {s : Shared} {t : Bool} {a : Addr} {xs : List V} (I : L2.Inv X pins σ H s) (h : SeqV X.K t H a xs) : ∃ its, Vals xs its ∧ HSeq t s.heap a its.toArray ∧ xs.length ≤ sizeLine := by
  cases t with
  | false => obtain ⟨its, rv, p, z⟩ := I.list h; exact ⟨its, rv, p.isList, z⟩
  | true => obtain ⟨its, rv, p, z⟩ := I.tuple h; exact ⟨its, rv, p, z⟩
theorem cr_sortedS {X : Cx} : CallR X (.builtin "sorted") (rSortedS X.K) := by
  intro pins s σ H vs us Q I r h
  obtain ⟨t, a, ns, rfl, hs, q⟩ := h
  obtain ⟨its, rv, hl, hz⟩ := inv_seq2 I hs
  rw [Vals.ref1 r]
  have hi := rv.ints
  refine sorted_ordS SrtO.swo_int hl (by rw [← rv.length]; exact hz) (fun h2 h₁ a' _ _ => SrtO.ints_sortable hi h2) fun out h1 h2 => ?_
  obtain ⟨k1, k2, k3⟩ := SrtO.ints_out hi h1 h2
  obtain ⟨ep, he'⟩ := PyProof.Rows.sortedAll_at s.heap its out.toArray
  have hlen : ((out.map SrtO.iv).map V.int).length ≤ sizeLine := by
    rw [List.length_map, k2.length_eq]
    rw [List.length_map] at hz
    exact hz
  refine ⟨.ref _, upd H (s.heap.objs.size + 1) (.lst ((out.map SrtO.iv).map V.int)), I.laid (t' := s.toks) (fun _ _ => PyProof.Rows.sortedAll_old) (Nat.le_succ _) ⟨hlen, out, ep, vals_of_ints k1, he'⟩, rfl, ?_⟩
  rw [srtI_uniq k2 k3]
  exact q _ (I.hok.fresh (Nat.le_succ _))
section
variable {X : Cx} {cl : Nat → Addr} {E : XK} {Ω Γ Γ' Γ2 Γl : List Nat} {f g h0 : S → R D} {ea : Expr} {pos : Pos} {B H B0 H0 : Hp}
theorem bw_seq {v : V} {d : D} {ds : List D} (w : Bw X.K cl B H v d) (sm : Same B H) (e : asSeq d = some ds) : ∃ t a vs, v = .ref a ∧ SeqV X.K t H a vs ∧ RepL X.K cl B vs ds := by
  cases d with
  | lst es =>
    cases e
    obtain ⟨a, vs, e, h, r⟩ := w.lst sm
    exact ⟨false, a, vs, e, .of h, r⟩
  | tup es =>
    cases e
    obtain ⟨a, vs, e, h, r⟩ := w.tup
    exact ⟨true, a, vs, e, same_t sm h, r⟩
  | _ => cases e
theorem oaf_sortI : OpAF X.K cl (rSortedS X.K) oSortI := by
  intro B H vs ds z Q sm w hz q
  unfold oSortI at hz
  split at hz
  · rename_i d
    cases e : asSeq d with
    | none => rw [e] at hz; cases hz
    | some es =>
      rw [e] at hz
      have hz' : (asInts es).bind (fun ns => some (D.lst ((srtI ns).map D.int))) = some z := hz
      cases e2 : asInts es with
      | none => rw [e2] at hz'; cases hz'
      | some ns =>
        rw [e2] at hz'; cases hz'
        obtain ⟨v, rfl, k⟩ := w.one
        obtain ⟨t, a, us, rfl, h1, r1⟩ := bw_seq k sm e
        rw [asInts_eq e2] at r1
        rw [repL_ints r1] at h1
        exact ⟨t, a, ns, rfl, h1, fun p np => q p B _ (Stp.own sm np) ⟨⟨sm.free np, np⟩, _, upd_same, ints_repL⟩⟩
  · cases hz
theorem f_callB {id : String} {e : Expr} {es : List Expr} {fs : S → R (List D)} {x : Str} {p : Pos} {r : List V → Hp → VK → Prop} {o : List D → Option D} (hc : CallR X (.builtin id) r) (ho : OpAF X.K cl r o) (hm : X.mg x = none) (hv : bootBuiltins x = some (.builtin id)) (ha : DAB X cl E Γ (e :: es) fs) (hg : Gl X x := by rfl) (hn : x ≠ "__name__" := by decide) (hdb : (x == ("__debug__" : Str)) = false := by decide)
    (he : starEach (e :: es) X.env = (false, eval e X.env) :: starEach es X.env := by rfl) (hpl : (backTo pos (starEach es X.env)).any (·.1) = false := by rfl) : DF X cl E Γ (.Call (.Name x p) (e :: es) [] pos) (mOpA o fs) :=
  let ⟨_, h1, h2⟩ := ha; ⟨_, pe_callB hc hg hm hv h1 hn hdb he hpl, snf_cb ho h2⟩
theorem f_sortI {p : Pos} (hm : X.mg "sorted" = none) (h : DB X cl E Γ ea f) (hs : starEach [ea] X.env = (false, eval ea X.env) :: starEach [] X.env := by rfl) (hpl : (backTo pos (starEach [] X.env)).any (·.1) = false := by rfl) (hg : Gl X "sorted" := by rfl) : DF X cl E Γ (.Call (.Name "sorted" p) [ea] [] pos) (mOpA oSortI (mCons f mNil)) := f_callB cr_sortedS oaf_sortI hm (by decide +kernel) (ab_cons h ab_nil hs) hg (by decide) (by decide) hs hpl
end
end Dl

namespace Dl
open PySem PySem.Spec PyProof.Rows L2

/-! ### expressions that change owned things: x.pop() -/
section
variable (K : PySem.W.Frag) (cl : Nat → Addr) (E : XK)
def SndX (Γ : List Nat) (t : TE) (m : S → R (D × S)) : Prop := ∀ B0 H0 pn σ s B H (Q : VK), RelS K cl Γ B0 H0 pn σ s B H → Nb K cl E B0 H0 (m s) → (∀ d s' v B' H', m s = .ok (d, s') → Same B B' → RelS K cl Γ B0 H0 pn σ s' B' H' → Rep K cl B' v d → Q v H') → t σ H Q
def SndXA (Γ : List Nat) (t : TA) (m : S → R (List D × S)) : Prop := ∀ B0 H0 pn σ s B H (Q : List V → Hp → Prop), RelS K cl Γ B0 H0 pn σ s B H → Nb K cl E B0 H0 (m s) → (∀ ds s' vs B' H', m s = .ok (ds, s') → Same B B' → RelS K cl Γ B0 H0 pn σ s' B' H' → RepL K cl B' vs ds → Q vs H') → t σ H Q
end
structure DX (X : Cx) (cl : Nat → Addr) (E : XK) (Γ : List Nat) (ex : Expr) (m : S → R (D × S)) : Prop where
  ex : ∃ t, PE X ex t ∧ SndX X.K cl E Γ t m
structure DXA (X : Cx) (cl : Nat → Addr) (E : XK) (Γ : List Nat) (es : List Expr) (m : S → R (List D × S)) : Prop where
  ex : ∃ t, PA X es t ∧ SndXA X.K cl E Γ t m
section
variable {K : PySem.W.Frag} {cl : Nat → Addr} {E : XK} {Ω Γ Γ' Γ2 Γl : List Nat} {fr : Bool} {B H B' H' B0 H0 : Hp} {v : V} {d : D} {f g : S → R D}
def xOf (f : S → R D) (s : S) : R (D × S) := (f s).bind fun d => .ok (d, s)
theorem snx_of {te : TE} (h : SndE K cl E Γ te f) : SndX K cl E Γ te (xOf f) := fun B0 H0 pn σ s B H Q rel n q => by
  refine h B0 H0 pn σ s B H _ rel n.bind fun d v B1 H1 e1 p1 w1 => q d s v B1 H1 ?_ p1.b (rel.mono p1) w1
  show (f s).bind _ = _
  rw [e1]; rfl
def popL (ds : List D) : Option (D × List D) := (ds[ds.length - 1]?).bind fun d => some (d, ds.dropLast)
def xPopO (l : Nat) (s : S) : Option (Option D) → R (D × S)
  | some (some (.lst ds)) => (ofO (popL ds)).bind fun p => .ok (p.1, s.set l (some (.lst p.2)))
  | _ => .bad
def xPop (l : Nat) (s : S) : R (D × S) := xPopO l s s[l]?
theorem snx_pop {l : Nat} (hl : l ∈ Γ) : SndX K cl E Γ (tBM0 K "list" rPop (tVar l)) (xPop l) := fun B0 H0 pn σ s B H Q rel n q => by
  unfold xPop at n q
  cases es : (s[l]? : Option (Option D)) with
  | none => rw [es] at n; exact n.elim
  | some o =>
    cases o with
    | none => rw [es] at n; exact n.elim
    | some d0 =>
      cases d0 with
      | lst ds =>
        rw [es] at n q
        cases ep : popL ds with
        | none =>
          have n' : Nb K cl E B0 H0 ((ofO (popL ds)).bind fun p => R.ok (p.1, s.set l (some (D.lst p.2)))) := n
          rw [ep] at n'; exact n'.elim
        | some p =>
          obtain ⟨d, ds'⟩ := p
          obtain ⟨a, vs, ea, hn, ha, r⟩ := rel.lst hl es
          have ep' := ep
          unfold popL at ep'
          cases ed : ds[ds.length - 1]? with
          | none => rw [ed] at ep'; cases ep'
          | some d' =>
            rw [ed] at ep'
            cases ep'
            obtain ⟨v, hv, rv⟩ := r.get ed
            refine ⟨_, ea, .inl ⟨rfl, vs, .of ha⟩, a, vs, v, rfl, rfl, ha, by rw [r.length]; exact hv, ?_⟩
            refine q d _ v B _ ?_ (Same.refl _) (rel.putL hl es ea hn r.dropLast) rv
            show (ofO (popL ds)).bind _ = _
            rw [ep]; rfl
      | _ => rw [es] at n; exact n.elim
def xPopAt (l : Nat) (g : S → R D) (s : S) : R (D × S) := (ofO (match (s[l]? : Option (Option D)) with | some (some (.lst ds)) => some ds | _ => none)).bind fun ds => (g s).bind fun j => (ofO (popAt j ds)).bind fun p => .ok (p.1, s.set l (some (.lst p.2)))
theorem snx_popAt {ti : TE} {l : Nat} (hl : l ∈ Γ) (h : SndB K cl E Γ ti g) : SndX K cl E Γ (tBM K "list" rPopAt (tVar l) (tCons ti tNil)) (xPopAt l g) := fun B0 H0 pn σ s B H Q rel n q => by
  have n0 : Nb K cl E B0 H0 ((ofO (match (s[l]? : Option (Option D)) with | some (some (.lst ds)) => some ds | _ => none)).bind fun ds => (g s).bind fun j => (ofO (popAt j ds)).bind fun p => R.ok (p.1, s.set l (some (D.lst p.2)))) := n
  obtain ⟨ds, eds⟩ := ofO_nb n0.bind
  have es : (s[l]? : Option (Option D)) = some (some (.lst ds)) := by
    split at eds
    · rename_i h1; cases eds; exact h1
    · cases eds
  have n1 := n0.next (a := ds) (by rw [eds]; rfl)
  obtain ⟨a, vs, ea, hn, ha, r⟩ := rel.lst hl es
  refine ⟨_, ea, .inl ⟨rfl, vs, .of ha⟩, h B0 H0 pn σ s B H _ rel n1.bind fun j u B1 H1 e1 q1 w1 => ?_⟩
  have n2 := n1.next e1
  obtain ⟨p, ep⟩ := ofO_nb n2.bind
  obtain ⟨d, ds'⟩ := p
  have rel1 := rel.mono q1
  obtain ⟨a', vs', ea', hn', ha', r'⟩ := rel1.lst hl es
  rw [ea] at ea'
  cases ea'
  have eall : xPopAt l g s = .ok (d, s.set l (some (.lst ds'))) := by
    show (ofO _).bind _ = _
    rw [eds]; show (g s).bind _ = _; rw [e1]; show (ofO (popAt j ds)).bind _ = _; rw [ep]; rfl
  unfold popAt at ep
  split at ep
  · rename_i k
    split at ep
    · rename_i hk
      cases en : seqIndex? k ds.length with
      | none => rw [en] at ep; cases ep
      | some n =>
        rw [en] at ep
        have ep' : (ds[n]?).bind (fun d => some (d, ds.eraseIdx n)) = some (d, ds') := ep
        cases ed : ds[n]? with
        | none => rw [ed] at ep'; cases ep'
        | some d' =>
          rw [ed] at ep'
          cases ep'
          obtain ⟨v, hv, rv⟩ := r'.get ed
          exact ⟨a, vs', k, n, v, rfl, by rw [w1.int], ha', hk.1, hk.2, by rw [r'.length]; exact en, hv, q d _ v B1 _ eall q1.b (rel1.putL hl es ea hn' (r'.eraseIdx n)) rv⟩
    · cases ep
  · cases ep
def xaNil (s : S) : R (List D × S) := .ok ([], s)
def xaCons (f : S → R (D × S)) (g : S → R (List D × S)) (s : S) : R (List D × S) := (f s).bind fun p => (g p.2).bind fun r => .ok (p.1 :: r.1, r.2)
theorem snxa_nil : SndXA K cl E Γ tNil xaNil := fun B0 H0 pn σ s B H Q rel n q => q [] s [] B H rfl (Same.refl _) rel .nil
theorem snxa_cons {te : TE} {ta : TA} {f : S → R (D × S)} {g : S → R (List D × S)} (h1 : SndX K cl E Γ te f) (h2 : SndXA K cl E Γ ta g) : SndXA K cl E Γ (tCons te ta) (xaCons f g) := fun B0 H0 pn σ s B H Q rel n q => by
  refine h1 B0 H0 pn σ s B H _ rel n.bind fun d s1 v B1 H1 e1 b1 rel1 w1 => ?_
  have n1 := n.next e1
  refine h2 B0 H0 pn σ s1 B1 H1 _ rel1 n1.bind fun ds s2 vs B2 H2 e2 b2 rel2 w2 => ?_
  refine q (d :: ds) s2 (v :: vs) B2 H2 ?_ (b1.trans b2) rel2 (.cons (w1.mono b2) w2)
  show (f s).bind _ = _
  rw [e1]; show (g s1).bind _ = _; rw [e2]; rfl
def xTup (f : S → R (List D × S)) (s : S) : R (D × S) := (f s).bind fun p => (ofO (oTup p.1)).bind fun d => .ok (d, p.2)
theorem snx_tup {ta : TA} {f : S → R (List D × S)} (h : SndXA K cl E Γ ta f) : SndX K cl E Γ (tTup ta) (xTup f) := fun B0 H0 pn σ s B H Q rel n q => by
  refine h B0 H0 pn σ s B H _ rel n.bind fun ds s1 vs B1 H1 e1 b1 rel1 w1 => ?_
  have n1 := n.next e1
  obtain ⟨z, ez⟩ := ofO_nb n1.bind
  have eall : xTup f s = .ok (z, s1) := by
    show (f s).bind _ = _
    rw [e1]; show (ofO (oTup ds)).bind _ = _; rw [ez]; rfl
  unfold oTup at ez
  split at ez
  · rename_i hlim
    cases ez
    refine ⟨by rw [w1.length]; exact lim_sz hlim, fun p np => ?_⟩
    have st := Stp.new (o := .tup vs) rel1.same np
    exact q _ s1 (.ref p) _ _ eall (b1.trans st.b) (rel1.mono st) (.tup (.of upd_same) (w1.mono st.b))
  · cases ez
/-! statements of them -/
def mAsgX (f : S → R (D × S)) (g : D → S → Option S) (s : S) : Rs := toS (f s) fun p => oS (g p.1 p.2) .nx
theorem sns_asgX {te : TE} {g : TG} {f : S → R (D × S)} {mg : D → S → Option S} (h : SndX K cl E Γ te f) (hg : SndG K cl Γ g mg) : SndS K cl E fr Ω Γ Γ Γl (tAsg te g) (mAsgX f mg) := fun B0 H0 pn σ s B H W hΩ rel p => by
  refine h B0 H0 pn σ s B H _ rel p.nb fun d s1 v B1 H1 e1 b1 rel1 w1 => ?_
  obtain ⟨s', em, p3⟩ := (p.next e1).oS
  exact hg B0 H0 pn σ s1 B1 H1 v d s' _ rel1 w1 em fun σ' rel' => p3 σ' B1 H1 b1 rel'
def mDropX (f : S → R (D × S)) (s : S) : Rs := toS (f s) fun p => .nx p.2
theorem sns_dropX {te : TE} {f : S → R (D × S)} (h : SndX K cl E Γ te f) : SndS K cl E fr Ω Γ Γ Γl (tDrop te) (mDropX f) := fun B0 H0 pn σ s B H W hΩ rel p => by
  refine h B0 H0 pn σ s B H _ rel p.nb fun d s1 v B1 H1 e1 b1 rel1 w1 => ?_
  exact p.next e1 σ B1 H1 b1 rel1
def mAppX (i : Nat) (f : S → R (D × S)) (s : S) : Rs := oL i s fun _ => toS (f s) fun p => oL i p.2 fun ds => setL i p.2 (pushL p.1 ds)
theorem sns_appX {te : TE} {i : Nat} {f : S → R (D × S)} (hi : i ∈ Γ) (h : SndX K cl E Γ te f) : SndS K cl E fr Ω Γ Γ Γl (tDrop (tBM K "list" rAppend (tVar i) (tCons te tNil))) (mAppX i f) := fun B0 H0 pn σ s B H W hΩ rel p => by
  obtain ⟨ds0, es0, p1⟩ := p.oL
  obtain ⟨a, vs, ea, hn, ha, r⟩ := rel.lst hi es0
  refine ⟨_, ea, .inl ⟨rfl, vs, .of ha⟩, h B0 H0 pn σ s B H _ rel p1.nb fun d s1 v B1 H1 e1 b1 rel1 w1 => ?_⟩
  obtain ⟨ds, es, p2⟩ := (p1.next e1).oL
  obtain ⟨ds', e2, p3⟩ := p2.setL
  obtain ⟨a', vs', ea', hn', ha', r'⟩ := rel1.lst hi es
  rw [ea] at ea'
  cases ea'
  unfold pushL at e2
  split at e2
  · rename_i hl
    cases e2
    exact ⟨a, vs', v, rfl, rfl, ha', by rw [r'.length]; exact lim_lt hl, p3 σ B1 _ b1 (rel1.putL hi es ea hn' (r'.append (.cons w1 .nil)))⟩
  · cases e2
/-- x.reverse() -/
def mRevS (i : Nat) (s : S) : Rs := oL i s fun ds => setL i s (some ds.reverse)
theorem sns_rev {i : Nat} (hi : i ∈ Γ) : SndS K cl E fr Ω Γ Γ Γl (tDrop (tBM0 K "list" rReverse (tVar i))) (mRevS i) := fun B0 H0 pn σ s B H W hΩ rel p => by
  obtain ⟨ds, es, p1⟩ := p.oL
  obtain ⟨ds', e2, p3⟩ := p1.setL
  obtain ⟨a, vs, ea, hn, ha, r⟩ := rel.lst hi es
  cases e2
  exact ⟨_, ea, .inl ⟨rfl, vs, .of ha⟩, a, vs, rfl, rfl, ha, p3 σ B _ (Same.refl _) (rel.putL hi es ea hn r.reverse)⟩
/-- x.sort() of ints -/
def mSortS (i : Nat) (s : S) : Rs := oL i s fun ds => setL i s ((asInts ds).bind fun ns => some ((srtI ns).map D.int))
theorem sns_sort {i : Nat} (hi : i ∈ Γ) : SndS K cl E fr Ω Γ Γ Γl (tDrop (tBM0 K "list" rSortI (tVar i))) (mSortS i) := fun B0 H0 pn σ s B H W hΩ rel p => by
  obtain ⟨ds, es, p1⟩ := p.oL
  obtain ⟨ds', e2, p3⟩ := p1.setL
  obtain ⟨a, vs, ea, hn, ha, r⟩ := rel.lst hi es
  cases ei : asInts ds with
  | none => rw [ei] at e2; cases e2
  | some ns =>
    rw [ei] at e2; cases e2
    rw [asInts_eq ei] at r
    have hv := repL_ints r
    subst hv
    refine ⟨_, ea, .inl ⟨rfl, _, .of ha⟩, a, ns, rfl, rfl, ha, fun ns' h1 h2 => ?_⟩
    rw [srtI_uniq h1 h2]
    exact p3 σ B _ (Same.refl _) (rel.putL hi es ea hn ints_repL)
/-! ### methods of texts, one argument -/
def asStr : D → Option Str
  | .str x => some x
  | _ => none
theorem asStr_some {d : D} {x : Str} (h : asStr d = some x) : d = .str x := by
  cases d <;> simp [asStr] at h
  subst h; rfl
variable (K cl) in
def StrM (r : V → List V → Hp → VK → Prop) (o : Str → D → Option D) : Prop := ∀ B H a y e z (Q : VK), Same B H → Bw K cl B H y e → o a e = some z → (∀ v B' H', Stp B H B' H' → Rep K cl B' v z → Q v H') → r (.str a) [y] H Q
variable (K cl) in
def StrMF (r : V → List V → Hp → VK → Prop) (o : Str → D → Option D) : Prop := ∀ B H a y e z (Q : VK), Same B H → Bw K cl B H y e → o a e = some z → (∀ p B' H', Stp B H B' H' → Own1 K cl (Nw B' H) B' H' p z → Q (.ref p) H') → r (.str a) [y] H Q
def mStrM (o : Str → D → Option D) (f g : S → R D) (s : S) : R D := (f s).bind fun x => (ofO (asStr x)).bind fun a => (g s).bind fun y => ofO (o a y)
theorem snd_strM {r : V → List V → Hp → VK → Prop} {o : Str → D → Option D} {te ta : TE} (hr : StrM K cl r o) (h1 : SndB K cl E Γ te f) (h2 : SndB K cl E Γ ta g) : SndE K cl E Γ (tBM K "str" r te (tCons ta tNil)) (mStrM o f g) := fun B0 H0 pn σ s B H Q rel n q => by
  refine h1 B0 H0 pn σ s B H _ rel n.bind fun d x B1 H1 e1 p1 w1 => ?_
  have n1 := n.next e1
  obtain ⟨a, ea⟩ := ofO_nb n1.bind
  have n2 := n1.next (a := a) (by rw [ea]; rfl)
  have ed := asStr_some ea
  subst ed
  have ex := w1.str
  subst ex
  refine ⟨rfl, h2 B0 H0 pn σ s B1 H1 _ (rel.mono p1) n2.bind fun e y B2 H2 e2 p2 w2 => ?_⟩
  obtain ⟨z, ez⟩ := ofO_nb (n2.next e2)
  refine hr B2 H2 a y e z Q p2.i w2 ez fun v B3 H3 p3 w3 => q z v B3 H3 ?_ ((p1.trans p2).trans p3) w3
  show (f s).bind _ = _
  rw [e1]; show (g s).bind _ = _; rw [e2]; exact congrArg ofO ez
theorem snf_strM {r : V → List V → Hp → VK → Prop} {o : Str → D → Option D} {te ta : TE} (hr : StrMF K cl r o) (h1 : SndB K cl E Γ te f) (h2 : SndB K cl E Γ ta g) : SndF K cl E Γ (tBM K "str" r te (tCons ta tNil)) (mStrM o f g) := fun B0 H0 pn σ s B H Q rel n q => by
  refine h1 B0 H0 pn σ s B H _ rel n.bind fun d x B1 H1 e1 p1 w1 => ?_
  have n1 := n.next e1
  obtain ⟨a, ea⟩ := ofO_nb n1.bind
  have n2 := n1.next (a := a) (by rw [ea]; rfl)
  have ed := asStr_some ea
  subst ed
  have ex := w1.str
  subst ex
  refine ⟨rfl, h2 B0 H0 pn σ s B1 H1 _ (rel.mono p1) n2.bind fun e y B2 H2 e2 p2 w2 => ?_⟩
  obtain ⟨z, ez⟩ := ofO_nb (n2.next e2)
  refine hr B2 H2 a y e z Q p2.i w2 ez fun p B3 H3 p3 w3 => q z p B3 H3 ?_ ((p1.trans p2).trans p3) (w3.carry (Same.refl _) fun b o ff _ zz => ⟨zz, ff.1, (p1.trans p2).h.free ff.2⟩)
  show (f s).bind _ = _
  rw [e1]; show (g s).bind _ = _; rw [e2]; exact congrArg ofO ez
def asStrs : List D → Option (List Str)
  | [] => some []
  | .str i :: ds => (asStrs ds).bind fun ns => some (i :: ns)
  | _ :: _ => none
theorem asStrs_eq : ∀ {ds : List D} {ns : List Str}, asStrs ds = some ns → ds = ns.map D.str
  | [], ns, h => by cases h; rfl
  | .str i :: ds, ns, h => by
    have h' : (asStrs ds).bind (fun ns => some (i :: ns)) = some ns := h
    cases e : asStrs ds with
    | none => rw [e] at h'; cases h'
    | some ms => rw [e] at h'; cases h'; rw [asStrs_eq e]; rfl
theorem asStrs_map {ns : List Str} : asStrs (ns.map D.str) = some ns := by
  induction ns with
  | nil => rfl
  | cons n ns ih => show (asStrs (ns.map D.str)).bind _ = _; rw [ih]; rfl
theorem repL_strs {vs : List V} {ns : List Str} (h : RepL K cl B vs (ns.map D.str)) : vs = ns.map V.str := by
  induction ns generalizing vs with
  | nil => cases h; rfl
  | cons n ns ih =>
    cases h with
    | cons h r => cases h; rw [ih r]; rfl
theorem strs_repL {ns : List Str} : RepL K cl B (ns.map V.str) (ns.map D.str) := by
  induction ns with
  | nil => exact .nil
  | cons n ns ih => exact .cons (.str n) ih
def oJoin (a : Str) (d : D) : Option D := (asSeq d).bind fun ds => (asStrs ds).bind fun ys => if (ys.map (·.length)).sum + ys.length * a.length ≤ 16777216 then some (.str (Txt.join a ys)) else none
end
section
variable {X : Cx} {cl : Nat → Addr} {E : XK} {Ω Γ Γ' Γ2 Γl : List Nat} {fr : Bool} {B H B' H' B0 H0 : Hp} {v : V} {d : D} {f g : S → R D} {fx : S → R (D × S)} {fxs : S → R (List D × S)} {ea eb ex tg : Expr} {es : List Expr} {pos apos cpos p1 p2 : Pos}
theorem sm_join : StrM X.K cl (fun x xs H Q => ∃ a p, ∃ ys : List Str, x = .str a ∧ xs = [.ref p] ∧ (SqL X.K H p (ys.map V.str) ∨ SqT X.K H p (ys.map V.str)) ∧
    (ys.map (·.length)).sum + ys.length * a.length ≤ 16777216 ∧ Q (.str (Txt.join a ys)) H) oJoin := by
  intro B H a y e z Q sm w hz q
  unfold oJoin at hz
  cases es : asSeq e with
  | none => rw [es] at hz; cases hz
  | some ds =>
    rw [es] at hz
    have hz' : (asStrs ds).bind (fun ys => if (ys.map (·.length)).sum + ys.length * a.length ≤ 16777216 then some (D.str (Txt.join a ys)) else none) = some z := hz
    cases e2 : asStrs ds with
    | none => rw [e2] at hz'; cases hz'
    | some ys =>
      rw [e2] at hz'
      have hz2 : (if (ys.map (·.length)).sum + ys.length * a.length ≤ 16777216 then some (D.str (Txt.join a ys)) else none) = some z := hz'
      split at hz2
      · rename_i hl
        cases hz2
        obtain ⟨t, p, us, rfl, h1, r1⟩ := bw_seq w sm es
        rw [asStrs_eq e2] at r1
        rw [repL_strs r1] at h1
        refine ⟨a, p, ys, rfl, rfl, ?_, hl, q _ B H (Stp.refl sm) (.str _)⟩
        cases t with
        | false => exact .inl h1
        | true => exact .inr h1
      · cases hz2
theorem DE.x (h : DE X cl E Γ ex f) : DX X cl E Γ ex (xOf f) := let ⟨_, h1, h2⟩ := h; ⟨_, h1, snx_of h2⟩
theorem x_pop {x : Str} (l : Nat) (hl : l ∈ Γ := by decide) (hN : X.N[l]? = some x := by rfl) (hv : Vis X.env.scope x := by first | exact Or.inl rfl | exact Or.inr (Or.inl rfl) | exact Or.inr (Or.inr rfl)) (hd : (x == ("__debug__" : Str)) = false := by decide)
    (hcd : (x == ("__classdict__" : Str)) = false := by decide) (hbase : attributeBase (.Name x p1) "pop" X.env (eval (.Name x p1) X.env) = eval (.Name x p1) X.env := by rfl) (hline : (apos.endLine == cpos.line) = true := by rfl) :
    DX X cl E Γ (.Call (.Attribute (.Name x p1) "pop" apos) [] [] cpos) (xPop l) := ⟨_, pe_bm0 PySem.F.plainAttrs_list PySem.F.slot_list_pop PySem.F.type_list_pop mt_pop (pe_var hN hv hd hcd) hbase hline, snx_pop hl⟩
theorem x_popAt {x : Str} {j : Expr} (l : Nat) (h : DB X cl E Γ j g) (hl : l ∈ Γ := by decide) (hN : X.N[l]? = some x := by rfl) (hv : Vis X.env.scope x := by first | exact Or.inl rfl | exact Or.inr (Or.inl rfl) | exact Or.inr (Or.inr rfl)) (hd : (x == ("__debug__" : Str)) = false := by decide)
    (hcd : (x == ("__classdict__" : Str)) = false := by decide) (hbase : attributeBase (.Name x p1) "pop" X.env (eval (.Name x p1) X.env) = eval (.Name x p1) X.env := by rfl)
    (hfew : ((backTo cpos (starEach [j] X.env)).all (fun x => !x.1) && (backToKw cpos (keywordEach [] X.env)).all (fun x => x.1.isSome)
      && decide ([j].length + ([] : List Keyword).length + (if ([] : List Keyword).isEmpty then 0 else 1) < 30)) = true := by rfl)
    (hline : (apos.endLine == cpos.line) = true := by rfl) (hs : starEach [j] X.env = (false, eval j X.env) :: starEach [] X.env := by rfl) (hplain : (backTo cpos (starEach [] X.env)).any (·.1) = false := by rfl) :
    DX X cl E Γ (.Call (.Attribute (.Name x p1) "pop" apos) [j] [] cpos) (xPopAt l g) :=
  let ⟨_, h1, h2⟩ := h; ⟨_, pe_bm PySem.F.plainAttrs_list PySem.F.slot_list_pop PySem.F.type_list_pop mt_popAt (pe_var hN hv hd hcd) (pa_cons h1 pa_nil hs) hbase hfew hline hs hplain, snx_popAt hl h2⟩
theorem xa_nil : DXA X cl E Γ [] xaNil := ⟨_, pa_nil, snxa_nil⟩
theorem xa_cons (ha : DX X cl E Γ ex fx) (hr : DXA X cl E Γ es fxs) (hs : starEach (ex :: es) X.env = (false, eval ex X.env) :: starEach es X.env := by rfl) : DXA X cl E Γ (ex :: es) (xaCons fx fxs) :=
  let ⟨_, h1, h2⟩ := ha; let ⟨_, h3, h4⟩ := hr; ⟨_, pa_cons h1 h3 hs, snxa_cons h2 h4⟩
theorem x_tup {x1} (h : DXA X cl E Γ es fxs) : DX X cl E Γ (.Tuple es x1 pos) (xTup fxs) := let ⟨_, h1, h2⟩ := h; ⟨_, pe_tup h1, snx_tup h2⟩
theorem s_setX {x : Str} {pos' : Pos} (i : Nat) (hN : X.N.Nodup) (h : DX X cl E Γ ex fx) (hi : i ∉ Γ := by decide) (hx : X.N[i]? = some x := by rfl) (hl : Loc X.env.scope x := by first | exact Or.inl rfl | exact Or.inr rfl) (hs : swapsWith ex (some (.Name x pos')) pos.line X.env = pure false := by rfl) (hf : X.fn x = true ∨ X.env.scope.names.lookup x = some .local := by first | exact .inl rfl | exact .inr rfl | assumption) :
    DS X cl E fr Ω Γ Γ Γl (.Assign [.Name x pos'] ex pos) (mAsgX fx (mgName i)) := let ⟨_, h1, h2⟩ := h; ⟨_, ps_set hN hx hl h1 hs hf, sns_asgX h2 (sng_name hi)⟩
theorem s_exprX (h : DX X cl E Γ ex fx) (hsw : swapsWith ex none pos.line X.env = pure false := by rfl) : DS X cl E fr Ω Γ Γ Γl (.Expr ex pos) (mDropX fx) := let ⟨_, h1, h2⟩ := h; ⟨_, ps_expr h1 hsw, sns_dropX h2⟩
theorem s_appX {x : Str} (i : Nat) (h : DX X cl E Γ ex fx) (hi : i ∈ Γ := by decide) (hN : X.N[i]? = some x := by rfl) (hv : Vis X.env.scope x := by first | exact Or.inl rfl | exact Or.inr (Or.inl rfl) | exact Or.inr (Or.inr rfl)) (hd : (x == ("__debug__" : Str)) = false := by decide)
    (hcd : (x == ("__classdict__" : Str)) = false := by decide) (hbase : attributeBase (.Name x p1) "append" X.env (eval (.Name x p1) X.env) = eval (.Name x p1) X.env := by rfl)
    (hfew : ((backTo cpos (starEach [ex] X.env)).all (fun x => !x.1) && (backToKw cpos (keywordEach [] X.env)).all (fun x => x.1.isSome)
      && decide ([ex].length + ([] : List Keyword).length + (if ([] : List Keyword).isEmpty then 0 else 1) < 30)) = true := by rfl)
    (hline : (apos.endLine == cpos.line) = true := by rfl) (hs : starEach [ex] X.env = (false, eval ex X.env) :: starEach [] X.env := by rfl) (hplain : (backTo cpos (starEach [] X.env)).any (·.1) = false := by rfl)
    (hsw : swapsWith (.Call (.Attribute (.Name x p1) "append" apos) [ex] [] cpos) none pos.line X.env = pure false := by rfl) :
    DS X cl E fr Ω Γ Γ Γl (.Expr (.Call (.Attribute (.Name x p1) "append" apos) [ex] [] cpos) pos) (mAppX i fx) :=
  let ⟨_, h1, h2⟩ := h; ⟨_, ps_expr (pe_bm PySem.F.plainAttrs_list PySem.F.slot_list_append PySem.F.type_list_append mt_append (pe_var hN hv hd hcd) (pa_cons h1 pa_nil hs) hbase hfew hline hs hplain) hsw, sns_appX hi h2⟩
theorem s_rev {x : Str} (i : Nat) (hi : i ∈ Γ := by decide) (hN : X.N[i]? = some x := by rfl) (hv : Vis X.env.scope x := by first | exact Or.inl rfl | exact Or.inr (Or.inl rfl) | exact Or.inr (Or.inr rfl)) (hd : (x == ("__debug__" : Str)) = false := by decide)
    (hcd : (x == ("__classdict__" : Str)) = false := by decide) (hbase : attributeBase (.Name x p1) "reverse" X.env (eval (.Name x p1) X.env) = eval (.Name x p1) X.env := by rfl) (hline : (apos.endLine == cpos.line) = true := by rfl)
    (hsw : swapsWith (.Call (.Attribute (.Name x p1) "reverse" apos) [] [] cpos) none pos.line X.env = pure false := by rfl) :
    DS X cl E fr Ω Γ Γ Γl (.Expr (.Call (.Attribute (.Name x p1) "reverse" apos) [] [] cpos) pos) (mRevS i) := ⟨_, ps_expr (pe_bm0 PySem.F.plainAttrs_list PySem.F.slot_list_reverse PySem.F.type_list_reverse mt_reverse (pe_var hN hv hd hcd) hbase hline) hsw, sns_rev hi⟩
theorem s_sort {x : Str} (i : Nat) (hi : i ∈ Γ := by decide) (hN : X.N[i]? = some x := by rfl) (hv : Vis X.env.scope x := by first | exact Or.inl rfl | exact Or.inr (Or.inl rfl) | exact Or.inr (Or.inr rfl)) (hd : (x == ("__debug__" : Str)) = false := by decide)
    (hcd : (x == ("__classdict__" : Str)) = false := by decide) (hbase : attributeBase (.Name x p1) "sort" X.env (eval (.Name x p1) X.env) = eval (.Name x p1) X.env := by rfl) (hline : (apos.endLine == cpos.line) = true := by rfl)
    (hsw : swapsWith (.Call (.Attribute (.Name x p1) "sort" apos) [] [] cpos) none pos.line X.env = pure false := by rfl) :
    DS X cl E fr Ω Γ Γ Γl (.Expr (.Call (.Attribute (.Name x p1) "sort" apos) [] [] cpos) pos) (mSortS i) := ⟨_, ps_expr (pe_bm0 PySem.F.plainAttrs_list PySem.F.slot_list_sort PySem.F.type_list_sort mt_sortI (pe_var hN hv hd hcd) hbase hline) hsw, sns_sort hi⟩
theorem e_strM {r : V → List V → Hp → VK → Prop} {o : Str → D → Option D} {name : Str} {id : String} (slot : Slot "str" name id) (hty : typeOf (.builtin id) = pure (.type "method_descriptor")) (hm : MtR X id r) (hr : StrM X.K cl r o) (h : DB X cl E Γ ea f) (h' : DB X cl E Γ eb g)
    (hbase : attributeBase ea name X.env (eval ea X.env) = eval ea X.env := by rfl)
    (hfew : ((backTo cpos (starEach [eb] X.env)).all (fun x => !x.1) && (backToKw cpos (keywordEach [] X.env)).all (fun x => x.1.isSome)
      && decide ([eb].length + ([] : List Keyword).length + (if ([] : List Keyword).isEmpty then 0 else 1) < 30)) = true := by rfl)
    (hline : (apos.endLine == cpos.line) = true := by rfl) (hs : starEach [eb] X.env = (false, eval eb X.env) :: starEach [] X.env := by rfl) (hplain : (backTo cpos (starEach [] X.env)).any (·.1) = false := by rfl) :
    DE X cl E Γ (.Call (.Attribute ea name apos) [eb] [] cpos) (mStrM o f g) :=
  let ⟨_, h1, h2⟩ := h; let ⟨_, h3, h4⟩ := h'; ⟨_, pe_bm PySem.F.plainAttrs_str slot hty hm h1 (pa_cons h3 pa_nil hs) hbase hfew hline hs hplain, snd_strM hr h2 h4⟩
end
/-! ### a def without a promise: where a recursion starts -/
section
variable {P : Program} {w : World} {K : PySem.W.Frag} {mg : Str → Option Value} {base : Heap} {cl : Nat → Addr}
theorem fn_bad {x y qual : Str} {st : Stmt} {f : Addr} {fd : FuncData} {ps : List Str} {k : Nat} {fr : Bool} {CX : CXT} (F : Fun K y qual st f fd) (hm : mg x = some (.ref f)) (bd : Binds K fd ps []) : Fn P w K mg base cl CX k x fr (fun _ => .bad) :=
  ⟨f, fd, ps, hm, ⟨fun vs H Q E h => by obtain ⟨_, _, _, _, n, _⟩ := h; exact n.elim, fun A outer s H args us vs Q E _ _ _ _ h => by obtain ⟨_, _, _, _, n, _⟩ := h; exact n.elim⟩, F.2, bd⟩
end
end Dl

namespace Dl
open PySem PySem.Spec PyProof.Rows L2

/-! ### x[::-1], x a list or a tuple -/
section
variable {prog : Program} {w : World} {A : Around} {E : Value → Shared → Prop} {s : Shared}
theorem adjust_rev (n : Nat) : Builtin.Slice.sliceAdjust none none (-1) (n : Int) = ((n : Int) - 1, -1) := by
  unfold Builtin.Slice.sliceAdjust
  simp
theorem places_rev (n : Nat) : Builtin.Slice.slicePlaces ((n : Int) - 1) (-1) (-1) = n := by
  unfold Builtin.Slice.slicePlaces
  have h1 : ¬ ((-1 : Int) > 0) := by decide
  simp only [h1, if_false]
  by_cases h : (n : Int) - 1 > -1
  · rw [if_pos h]
    have e : ((n : Int) - 1 - -1 - 1) / (- -1) = (n : Int) - 1 := by
      rw [show (- -1 : Int) = 1 by decide, Int.ediv_one]
      omega
    rw [e]; omega
  · rw [if_neg h]; omega
theorem sliceApplied_rev {sl : Addr} {vs : Value} {n : Nat} {Q : Int × Int × Nat → Shared → Prop} (hs : s.heap.IsSliceOf sl .none .none vs) (ps : IsPart vs (some (-1))) (h : Q ((n : Int) - 1, -1, n) s) : wpAny (model prog w) A (Builtin.Slice.sliceApplied (.ref sl) (pure (n : Int))) Q E s := by
  obtain ⟨os, hos, hcs, hds⟩ := id hs
  unfold Builtin.Slice.sliceApplied Builtin.Slice.sliceFields
  refine wpAny_bind (wpAny_bind (wpAny_field hos hds (x := .none) rfl (wpAny_bind (wpAny_field hos hds (x := .none) rfl (wpAny_bind (wpAny_field hos hds (x := vs) rfl (wpAny_pure ?_)))))))
  refine wpAny_bind (HT.slicePart_ ps ?_)
  show wpAny _ _ (if ((-1 : Int) == 0) = true then _ else _) _ _ s
  rw [if_neg (by decide)]
  refine wpAny_bind (slicePart_none (wpAny_bind (slicePart_none (wpAny_bind (wpAny_pure ?_)))))
  show wpAny _ _ (match Builtin.Slice.sliceAdjust none none (-1) (n : Int) with | (lo, hi) => pure (lo, (-1 : Int), Builtin.Slice.slicePlaces lo hi (-1))) _ _ s
  rw [adjust_rev n]
  show wpAny _ _ (pure ((n : Int) - 1, (-1 : Int), Builtin.Slice.slicePlaces ((n : Int) - 1) (-1) (-1))) _ _ s
  rw [places_rev]
  exact wpAny_pure h
theorem fm_congr {α β : Type} {f g : α → Option β} : ∀ {l : List α}, (∀ a ∈ l, f a = g a) → l.filterMap f = l.filterMap g
  | [], _ => rfl
  | a :: l, h => by
    have e := h a List.mem_cons_self
    have r := fm_congr (l := l) fun b hb => h b (List.mem_cons_of_mem _ hb)
    rw [List.filterMap_cons, List.filterMap_cons, e, r]
theorem pick_rev (xs : Array Value) : ((List.range xs.size).filterMap fun (m : Nat) => xs[((xs.size : Int) - 1 + (m : Int) * (-1)).toNat]?).toArray = xs.toList.reverse.toArray := by
  have e : (List.range xs.size).filterMap (fun (m : Nat) => xs[((xs.size : Int) - 1 + (m : Int) * (-1)).toNat]?) = ((List.range xs.size).map fun k => xs.size - 1 - k).filterMap (xs[·]?) := by
    rw [List.filterMap_map]
    refine fm_congr fun k hk => ?_
    have := List.mem_range.mp hk
    have : ((xs.size : Int) - 1 + (k : Int) * (-1)).toNat = xs.size - 1 - k := by omega
    simp only [this, Function.comp]
  rw [e, PySem.W.krv_range, List.filterMap_reverse, PySem.W.krv_all]
theorem getItem_tuple_rev {t sl : Addr} {items : Array Value} {vs : Value} {Q : Value → Shared → Prop} (ht : IsTup s.heap t items) (hs : s.heap.IsSliceOf sl .none .none vs) (ps : IsPart vs (some (-1)))
    (h : Q (.ref s.heap.objs.size) { s with heap := s.heap.push { cls := .type "tuple", data := .seq items.toList.reverse.toArray } })
    (hsz : items.size ≤ sizeLine) : wpAny (model prog w) A (getItem (.ref t) (.ref sl)) Q E s := by
  have htake : sizeOk (.seq items.toList.reverse.toArray) := by
    show items.toList.reverse.toArray.size ≤ sizeLine
    rw [List.size_toArray, List.length_reverse, Array.length_toList]
    exact hsz
  obtain ⟨os, hos, hcs, hds⟩ := id hs
  have hTs : s.TypeIs (.ref sl) "slice" := ⟨os, hos, hcs⟩
  unfold getItem
  try with_reducible refine wpAny_holding ?_
  first | refine wpAny_bind (wpAny_pure ?_) | skip
  refine wpAny_bind (wpAny_sequenceKey ht.typeIs (by decide) ?_)
  refine wpAny_bind (wpAny_callSpecial?_slot (name := Str.ofString "__getitem__") ht.typeIs PyProof.Rows.slot_tuple_getitem
    (wpAny_call_entry PyProof.Rows.slot_tuple_getitem ht.typeIs entry_tuple_getitem ?_ (args_tuple_getitem _ _)))
  show wpAny _ _ (Builtin.Tuple.tupleItemsOf (.ref t) >>= _) _ _ s
  refine wpAny_bind (tupleItemsOf_ ht ?_)
  refine wpAny_bind (wpAny_typeOf hTs ?_)
  rw [if_pos (by decide)]
  refine wpAny_bind (sliceApplied_rev hs ps ?_)
  show wpAny _ _ (if ((((items.size : Nat) : Int) - 1) == 0 && (-1 : Int) == 1 && items.size == items.size) = true then _ else _) _ _ s
  have hno : ((((items.size : Nat) : Int) - 1) == 0 && (-1 : Int) == 1 && items.size == items.size) = false := by
    rw [show ((-1 : Int) == 1) = false from by decide, Bool.and_false, Bool.false_and]
  rw [if_neg (by rw [hno]; decide)]
  show wpAny _ _ (Builtin.Tuple.tupleExact ((List.range items.size).filterMap fun (m : Nat) => items[((items.size : Int) - 1 + (m : Int) * (-1)).toNat]?).toArray >>= _) _ _ s
  rw [pick_rev]
  first
    | exact wpAny_bind (m := Builtin.Tuple.tupleExact _) (wpAny_newObj_type (wpAny_pure ⟨_, rfl, wpAny_pure h⟩) htake)
    | exact wpAny_bind (m := Builtin.Tuple.tupleExact _) (wpAny_newObj_type (wpAny_bind (wpAny_pure (wpAny_pure ⟨_, rfl, wpAny_pure h⟩))) htake)
    | exact wpAny_bind (wpAny_bind (m := Builtin.Tuple.tupleExact _) (wpAny_newObj_type (wpAny_pure (wpAny_pure ⟨_, rfl, wpAny_pure h⟩)) htake))
    | exact wpAny_bind (wpAny_bind (m := Builtin.Tuple.tupleExact _) (wpAny_newObj_type (wpAny_pure ⟨_, rfl, wpAny_pure h⟩) htake))
end
/-- x[::-1], x a tuple -/
def tRevT (K : PySem.W.Frag) (te : TE) : TE := fun σ H Q => te σ H fun x H1 => ∃ a xs, x = .ref a ∧ SqT K H1 a xs ∧ ∀ p, H1 p = none → Q (.ref p) (upd H1 p (.tup xs.reverse))
theorem pe_revT {X : Cx} {e : Expr} {te : TE} {k : Nat} {p1 p2 p3 pos : Pos} (he : PE X e te) : PE X (.Subscript e (.Slice none none (some (.UnaryOp .USub (.Constant (.int 1) k p1) p2)) p3) pos) (tRevT X.K te) := by
  refine ⟨fun pins s σ H Q I h => ?_⟩
  refine Subscript_ (thn (he.run pins s σ H _ I h) fun v s1 ⟨x, H1, I1, r1, q1⟩ => ?_)
  obtain ⟨a, xs, ex, hx, q⟩ := q1
  subst ex
  cases r1
  have hst : PO X (some (.UnaryOp .USub (.Constant (.int 1) k p1) p2)) (tPart (tUn (rU fun i => .int (-i)) (tC (.int 1)))) := po_some (pe_un un_neg pe_int)
  refine wpAny_Slice (thn (po_none.run pins s1 σ H1 (fun o H2 => o = none ∧ H2 = H1) I1 ⟨rfl, rfl⟩) fun vl s2 ⟨l, H2, I2, pl, el, e2⟩ => ?_)
  subst el e2
  refine thn (po_none.run pins s2 σ H2 (fun o H3 => o = none ∧ H3 = H2) I2 ⟨rfl, rfl⟩) fun vu s3 ⟨u, H3, I3, pu, eu, e3⟩ => ?_
  subst eu e3
  refine thn (hst.run pins s3 σ H3 (fun o H4 => o = some (-1) ∧ H4 = H3) I3 ⟨1, rfl, -1, rfl, rfl, rfl⟩) fun vs s4 ⟨o, H4, I4, ps, eo, e4⟩ => ?_
  subst eo e4
  have I5 : L2.Inv X pins σ H4 { s4 with heap := s4.heap.push { cls := .type "slice", data := .fields #[vl, vu, vs] } } := I4.kept (t' := s4.toks) fun b ob q => Heap.get?_push_of_some _ q
  obtain ⟨its, r, ht, hz⟩ := I5.tuple hx
  have hlen := r.length
  have el : vl = .none := by cases pl; rfl
  have eu : vu = .none := by cases pu; rfl
  subst el eu
  show wpAny (model X.prog X.w) X.A (subscriptTail e (.Slice none none (some (.UnaryOp .USub (.Constant (.int 1) k p1) p2)) p3) (.ref a) (.ref s4.heap.objs.size)) (EP X pins σ Q) X.xe { s4 with heap := s4.heap.push { cls := .type "slice", data := .fields #[.none, .none, vs] } }
  refine tail_any (ops := [.ref a, .ref s4.heap.objs.size]) ht.typeIs (PyProof.Rows.slot_tuple_getitem.lookup) ?_ (by with_unfolding_all rfl)
  refine getItem_tuple_rev ht (Heap.IsSliceOf.new _ .none .none vs) ps ?_ (by rw [List.size_toArray]; omega)
  refine ⟨.ref _, _, I5.laid (t' := s4.toks) (o := .tup xs.reverse) (fun b ob q => Heap.get?_push_of_some _ q) (Nat.le_refl _) ?_, rfl, q _ (I5.hok.fresh (Nat.le_refl _))⟩
  exact ⟨by rw [List.length_reverse]; exact hz, _, r.reverse, IsTup.new _ _⟩
/-- either -/
def tRevA (K : PySem.W.Frag) (te : TE) : TE := fun σ H Q => te σ H fun x H1 => ∃ a xs, x = .ref a ∧ ((SqL K H1 a xs ∧ ∀ p, H1 p = none → Q (.ref p) (upd H1 p (.lst xs.reverse))) ∨ (SqT K H1 a xs ∧ ∀ p, H1 p = none → Q (.ref p) (upd H1 p (.tup xs.reverse))))
theorem pe_revA {X : Cx} {e : Expr} {te : TE} {k : Nat} {p1 p2 p3 pos : Pos} (he : PE X e te) : PE X (.Subscript e (.Slice none none (some (.UnaryOp .USub (.Constant (.int 1) k p1) p2)) p3) pos) (tRevA X.K te) := by
  refine ⟨fun pins s σ H Q I h => ?_⟩
  refine Subscript_ (thn (he.run pins s σ H _ I h) fun v s1 ⟨x, H1, I1, r1, q1⟩ => ?_)
  obtain ⟨a, xs, ex, q⟩ := q1
  subst ex
  cases r1
  have hst : PO X (some (.UnaryOp .USub (.Constant (.int 1) k p1) p2)) (tPart (tUn (rU fun i => .int (-i)) (tC (.int 1)))) := po_some (pe_un un_neg pe_int)
  refine wpAny_Slice (thn (po_none.run pins s1 σ H1 (fun o H2 => o = none ∧ H2 = H1) I1 ⟨rfl, rfl⟩) fun vl s2 ⟨l, H2, I2, pl, el, e2⟩ => ?_)
  subst el e2
  refine thn (po_none.run pins s2 σ H2 (fun o H3 => o = none ∧ H3 = H2) I2 ⟨rfl, rfl⟩) fun vu s3 ⟨u, H3, I3, pu, eu, e3⟩ => ?_
  subst eu e3
  refine thn (hst.run pins s3 σ H3 (fun o H4 => o = some (-1) ∧ H4 = H3) I3 ⟨1, rfl, -1, rfl, rfl, rfl⟩) fun vs s4 ⟨o, H4, I4, ps, eo, e4⟩ => ?_
  subst eo e4
  rcases q with ⟨hx, q⟩ | ⟨hx, q⟩
  · have I5 : L2.Inv X pins σ H4 { s4 with heap := s4.heap.push { cls := .type "slice", data := .fields #[vl, vu, vs] } } := I4.kept (t' := s4.toks) fun b ob q => Heap.get?_push_of_some _ q
    obtain ⟨its, r, ht, hz⟩ := I5.list hx
    have hlen := r.length
    show wpAny (model X.prog X.w) X.A (subscriptTail e (.Slice none none (some (.UnaryOp .USub (.Constant (.int 1) k p1) p2)) p3) (.ref a) (.ref s4.heap.objs.size)) (EP X pins σ Q) X.xe { s4 with heap := s4.heap.push { cls := .type "slice", data := .fields #[vl, vu, vs] } }
    refine tail_any (ops := [.ref a, .ref s4.heap.objs.size]) ht.isList.typeIs (PySem.slot_list_getitem.lookup) ?_ (by with_unfolding_all rfl)
    refine wpAny_getItem_list_slice ht.isList (Heap.IsSliceOf.new _ vl vu vs) pl pu ps (by decide) ?_ (by rw [List.size_toArray]; omega)
    rw [PySem.W.krv_pick]
    refine ⟨.ref _, _, I5.laid (t' := s4.toks) (o := .lst xs.reverse) (fun b ob q => Heap.get?_push_of_some _ q) (Nat.le_refl _) ?_, rfl, q _ (I5.hok.fresh (Nat.le_refl _))⟩
    exact ⟨by rw [List.length_reverse]; exact hz, _, 0, r.reverse, Heap.get?_push_size _ rfl⟩

  · have I5 : L2.Inv X pins σ H4 { s4 with heap := s4.heap.push { cls := .type "slice", data := .fields #[vl, vu, vs] } } := I4.kept (t' := s4.toks) fun b ob q => Heap.get?_push_of_some _ q
    obtain ⟨its, r, ht, hz⟩ := I5.tuple hx
    have hlen := r.length
    have el : vl = .none := by cases pl; rfl
    have eu : vu = .none := by cases pu; rfl
    subst el eu
    show wpAny (model X.prog X.w) X.A (subscriptTail e (.Slice none none (some (.UnaryOp .USub (.Constant (.int 1) k p1) p2)) p3) (.ref a) (.ref s4.heap.objs.size)) (EP X pins σ Q) X.xe { s4 with heap := s4.heap.push { cls := .type "slice", data := .fields #[.none, .none, vs] } }
    refine tail_any (ops := [.ref a, .ref s4.heap.objs.size]) ht.typeIs (PyProof.Rows.slot_tuple_getitem.lookup) ?_ (by with_unfolding_all rfl)
    refine getItem_tuple_rev ht (Heap.IsSliceOf.new _ .none .none vs) ps ?_ (by rw [List.size_toArray]; omega)
    refine ⟨.ref _, _, I5.laid (t' := s4.toks) (o := .tup xs.reverse) (fun b ob q => Heap.get?_push_of_some _ q) (Nat.le_refl _) ?_, rfl, q _ (I5.hok.fresh (Nat.le_refl _))⟩
    exact ⟨by rw [List.length_reverse]; exact hz, _, r.reverse, IsTup.new _ _⟩
section
variable {X : Cx} {cl : Nat → Addr} {E : XK} {Γ : List Nat} {f : S → R D} {ea : Expr} {pos p1 p2 p3 : Pos} {B H B0 H0 : Hp} {K : PySem.W.Frag}
def oRevL : D → Option D
  | .lst ds => some (.lst ds.reverse)
  | _ => none
def oRevT : D → Option D
  | .tup ds => some (.tup ds.reverse)
  | _ => none
theorem snf_revL {te : TE} (h : SndB K cl E Γ te f) : SndF K cl E Γ (tRevL K te) (mOp1 oRevL f) := fun B0 H0 pn σ s B H Q rel n q => by
  refine h B0 H0 pn σ s B H _ rel n.bind fun d x B1 H1 e1 p1 w1 => ?_
  obtain ⟨z, ez⟩ := ofO_nb (n.next e1)
  have eall : mOp1 oRevL f s = .ok z := by
    show (f s).bind _ = _
    rw [e1]; show ofO _ = _; rw [ez]; rfl
  unfold oRevL at ez
  split at ez
  · cases ez
    obtain ⟨a, vs, rfl, h1, r1⟩ := w1.lst p1.i
    exact ⟨a, vs, rfl, .of h1, fun p np => q _ p B1 _ eall (p1.trans (Stp.own p1.i np)) ⟨⟨p1.i.free np, p1.h.free np⟩, vs.reverse, upd_same, r1.reverse⟩⟩
  · cases ez
theorem snd_revT {te : TE} (h : SndE K cl E Γ te f) : SndE K cl E Γ (tRevT K te) (mOp1 oRevT f) := fun B0 H0 pn σ s B H Q rel n q => by
  refine h B0 H0 pn σ s B H _ rel n.bind fun d x B1 H1 e1 p1 w1 => ?_
  obtain ⟨z, ez⟩ := ofO_nb (n.next e1)
  have eall : mOp1 oRevT f s = .ok z := by
    show (f s).bind _ = _
    rw [e1]; show ofO _ = _; rw [ez]; rfl
  unfold oRevT at ez
  split at ez
  · cases ez
    cases w1 with
    | tup h1 r1 => exact ⟨_, _, rfl, same_t p1.i h1, fun p np => q _ (.ref p) (upd B1 p _) _ eall (p1.trans (Stp.new p1.i np)) (.tup (.of upd_same) ((r1.reverse).mono (same_new (p1.i.free np))))⟩
  · cases ez
def oRevA : D → Option D
  | .lst ds => some (.lst ds.reverse)
  | .tup ds => some (.tup ds.reverse)
  | _ => none
theorem snd_revA {te : TE} (h : SndE K cl E Γ te f) : SndE K cl E Γ (tRevA K te) (mOp1 oRevA f) := fun B0 H0 pn σ s B H Q rel n q => by
  refine h B0 H0 pn σ s B H _ rel n.bind fun d x B1 H1 e1 p1 w1 => ?_
  obtain ⟨z, ez⟩ := ofO_nb (n.next e1)
  have eall : mOp1 oRevA f s = .ok z := by
    show (f s).bind _ = _
    rw [e1]; show ofO _ = _; rw [ez]; rfl
  unfold oRevA at ez
  split at ez
  · cases ez
    cases w1 with
    | lst h1 r1 => exact ⟨_, _, rfl, .inl ⟨.of (p1.i _ _ h1), fun p np => q _ (.ref p) (upd B1 p _) _ eall (p1.trans (Stp.new p1.i np)) (.lst upd_same ((r1.reverse).mono (same_new (p1.i.free np))))⟩⟩
  · cases ez
    cases w1 with
    | tup h1 r1 => exact ⟨_, _, rfl, .inr ⟨same_t p1.i h1, fun p np => q _ (.ref p) (upd B1 p _) _ eall (p1.trans (Stp.new p1.i np)) (.tup (.of upd_same) ((r1.reverse).mono (same_new (p1.i.free np))))⟩⟩
  · cases ez
theorem e_revA {k : Nat} (h : DE X cl E Γ ea f) : DE X cl E Γ (.Subscript ea (.Slice none none (some (.UnaryOp .USub (.Constant (.int 1) k p1) p2)) p3) pos) (mOp1 oRevA f) := let ⟨_, h1, h2⟩ := h; ⟨_, pe_revA h1, snd_revA h2⟩
theorem f_revL {k : Nat} (h : DB X cl E Γ ea f) : DF X cl E Γ (.Subscript ea (.Slice none none (some (.UnaryOp .USub (.Constant (.int 1) k p1) p2)) p3) pos) (mOp1 oRevL f) := let ⟨_, h1, h2⟩ := h; ⟨_, pe_revL h1, snf_revL h2⟩
theorem e_revT {k : Nat} (h : DE X cl E Γ ea f) : DE X cl E Γ (.Subscript ea (.Slice none none (some (.UnaryOp .USub (.Constant (.int 1) k p1) p2)) p3) pos) (mOp1 oRevT f) := let ⟨_, h1, h2⟩ := h; ⟨_, pe_revT h1, snd_revT h2⟩
end
/-! ### a call that looks at owned things and tells a bool, an int, a text or None -/
def isSc : D → Bool
  | .non => true
  | .bl _ => true
  | .int _ => true
  | .str _ => true
  | _ => false
theorem rep_sc {K : PySem.W.Frag} {cl : Nat → Addr} {B B' : Hp} {v : V} {d : D} (h : Rep K cl B v d) (s : isSc d = true) : Rep K cl B' v d := by
  cases h with
  | non => exact .non
  | bl b => exact .bl b
  | int i => exact .int i
  | str x => exact .str x
  | _ => cases s
theorem Bw.rep {K : PySem.W.Frag} {cl : Nat → Addr} {B H : Hp} {v : V} {d : D} (h : Bw K cl B H v d) (sm : Same B H) : Rep K cl H v d := by
  rcases h with h | ⟨a, rfl, h⟩
  · exact h.mono sm
  · cases d with
    | lst ds => obtain ⟨_, vs, e, r⟩ := h; exact .lst e (r.mono sm)
    | dict ds =>
      obtain ⟨_, h⟩ := h
      rcases h with ⟨ks, e, r⟩ | ⟨ks, e, r⟩
      · exact .dK e (r.mono sm)
      · exact .dT e (r.mono sm)
    | obj c ds => obtain ⟨_, dx, fs, e, e2, _, r⟩ := h; exact .obj e e2 (r.mono sm)
    | _ => exact h.elim
theorem BwL.rep {K : PySem.W.Frag} {cl : Nat → Addr} {B H : Hp} {vs : List V} {ds : List D} (h : BwL K cl B H vs ds) (sm : Same B H) : RepL K cl H vs ds := by
  induction h with
  | nil => exact .nil
  | cons h _ ih => exact .cons (h.rep sm) ih
def mCallS (m : List D → R D) (fs : S → R (List D)) (s : S) : R D := (fs s).bind fun ds => (noExc (m ds)).bind fun d => if isSc d = true then .ok d else .bad
section
variable {X : Cx} {cl : Nat → Addr} {E : XK} {Γ : List Nat} {fs : S → R (List D)} {ea : Expr} {es : List Expr} {pos p : Pos} {CX : CXT} {k j : Nat} {x : Str} {m : List D → R D}
theorem snd_callS {K : PySem.W.Frag} {ta : TA} (h : SndAB K cl E Γ ta fs) : SndE K cl E Γ (tCall (spX K cl false m) [] E ta) (mCallS m fs) := fun B0 H0 pn σ s B H Q rel n q => by
  refine h B0 H0 pn σ s B H _ rel n.bind fun ds vs B1 H1 e1 p1 w1 => ?_
  show spX K cl false m (vs ++ []) H1 Q E
  rw [List.append_nil]
  have n1 := n.next e1
  obtain ⟨d, ed⟩ := n1.bind.noExc
  have n2 := n1.next (a := d) (by rw [ed]; rfl)
  refine ⟨H1, ds, Same.refl _, w1.rep p1.i, by rw [ed]; trivial, fun d' ed' => .inr ⟨rfl, fun v B' H' p' w' => ?_⟩⟩
  rw [ed] at ed'
  cases ed'
  split at n2
  · rename_i hs
    refine q d v B1 H' ?_ (p1.trans ⟨Same.refl _, p1.i.trans p'.h, p'.h, fun a h _ => h⟩) (rep_sc w' hs)
    show (fs s).bind _ = _
    rw [e1]; show (noExc (m ds)).bind _ = _; rw [ed]; show (if isSc d = true then _ else _) = _; rw [if_pos hs]
  · exact n2.elim
theorem e_callS (hF : Fn X.prog X.w X.K X.mg X.base cl CX k x false m) (hr : Room j X.A) (hk : k ≤ j) (hx : Passes CX X E) (ha : DAB X cl E Γ (ea :: es) fs) (hg : Gl X x := by rfl) (hdb : (x == ("__debug__" : Str)) = false := by decide)
    (he : starEach (ea :: es) X.env = (false, eval ea X.env) :: starEach es X.env := by rfl) (hpl : (backTo pos (starEach es X.env)).any (·.1) = false := by rfl) : DE X cl E Γ (.Call (.Name x p) (ea :: es) [] pos) (mCallS m fs) :=
  let ⟨_, _, _, h1, h2, h3, h4⟩ := hF; let ⟨_, h5, h6⟩ := ha; ⟨_, pe_call h2 (hr.mono hk) hg h1 h3 h4 .nil hx h5 hdb he hpl, snd_callS h6⟩
end
end Dl

namespace Dl
open PySem PySem.Spec PyProof.Rows L2
/-! ### mathematics: how mirrors are evaluated -/
theorem mSeq_nx {m n : S → Rs} {s s' : S} (h : m s = .nx s') : mSeq m n s = n s' := by unfold mSeq; rw [h]
theorem mSeq_ret {m n : S → Rs} {s : S} {d : D} (h : m s = .ret d) : mSeq m n s = .ret d := by unfold mSeq; rw [h]
theorem mAsg_ok {f : S → R D} {i : Nat} {s : S} {d : D} (h : f s = .ok d) : mAsg f (mgName i) s = .nx (s.set i (some d)) := by unfold mAsg; rw [h]; rfl
theorem mRet_ok {f : S → R D} {s : S} {d : D} (h : f s = .ok d) : mRet f s = .ret d := by unfold mRet; rw [h]; rfl
theorem mIfS_true {c : S → R Bool} {f g : S → Rs} {s : S} (h : c s = .ok true) : mIfS c f g s = f s := by unfold mIfS; rw [h]; rfl
theorem mIfS_false {c : S → R Bool} {f g : S → Rs} {s : S} (h : c s = .ok false) : mIfS c f g s = g s := by unfold mIfS; rw [h]; rfl
theorem mIfS_ok {c : S → R Bool} {f g : S → Rs} {s : S} {b : Bool} (h : c s = .ok b) : mIfS c f g s = if b then f s else g s := by unfold mIfS; rw [h]; rfl
theorem mOp_ok {o : D → D → Option D} {f g : S → R D} {s : S} {x y z : D} (h1 : f s = .ok x) (h2 : g s = .ok y) (h3 : o x y = some z) : mOp o f g s = .ok z := by
  unfold mOp; rw [h1, R.bind_ok', h2, R.bind_ok', h3]; rfl
theorem mOpA_ok {o : List D → Option D} {f : S → R (List D)} {s : S} {xs : List D} {z : D} (h1 : f s = .ok xs) (h3 : o xs = some z) : mOpA o f s = .ok z := by
  unfold mOpA; rw [h1, R.bind_ok', h3]; rfl
theorem mOp1_ok {o : D → Option D} {f : S → R D} {s : S} {x z : D} (h1 : f s = .ok x) (h3 : o x = some z) : mOp1 o f s = .ok z := by
  unfold mOp1; rw [h1, R.bind_ok', h3]; rfl
theorem mCons_ok {f : S → R D} {g : S → R (List D)} {s : S} {x : D} {xs : List D} (h1 : f s = .ok x) (h2 : g s = .ok xs) : mCons f g s = .ok (x :: xs) := by
  unfold mCons; rw [h1, R.bind_ok', h2, R.bind_ok']
theorem mTst_ok {f : S → R D} {s : S} {b : Bool} (h : f s = .ok (.bl b)) : mTst f s = .ok b := by unfold mTst; rw [h]; rfl
theorem mCall_ok {m : List D → R D} {f : S → R (List D)} {s : S} {xs : List D} {z : D} (h1 : f s = .ok xs) (h2 : m xs = .ok z) : mCall m f s = .ok z := by unfold mCall; rw [h1, R.bind_ok', h2]
theorem runM_ret {fr : Bool} {n N : Nat} {body : S → Rs} {ds : List D} {d : D} (hl : ds.length = n) (h : body (ds.map some ++ List.replicate (N - n) none) = .ret d) : runM fr n N body ds = .ok d := by unfold runM; rw [if_pos hl, h]
theorem mFor_ok {mi : S → R (List D)} {g : D → S → Option S} {body : S → Rs} {s : S} {ds : List D} (h : mi s = .ok ds) : mFor mi g body s = loopF g body ds s := by unfold mFor; rw [h]; rfl
theorem mIt_ok {o : List D → Option (List D)} {f : S → R (List D)} {s : S} {xs zs : List D} (h1 : f s = .ok xs) (h3 : o xs = some zs) : mIt o f s = .ok zs := by
  unfold mIt; rw [h1, R.bind_ok', h3]; rfl
theorem mSeqI_ok {f : S → R D} {s : S} {d : D} {zs : List D} (h1 : f s = .ok d) (h3 : oSeq d = some zs) : mSeqI f s = .ok zs := by
  unfold mSeqI; rw [h1, R.bind_ok', h3]; rfl
/-- a loop that runs through: P by the turn -/
theorem loopF_nx {g : D → S → Option S} {body : S → Rs} (P : Nat → S → Prop) : ∀ {ds : List D} {s : S} (k : Nat), P k s →
    (∀ i d s, ds[i]? = some d → P (k + i) s → ∃ s1 s2, g d s = some s1 ∧ (body s1 = .nx s2 ∨ body s1 = .ct s2) ∧ P (k + i + 1) s2) → ∃ s', loopF g body ds s = .nx s' ∧ P (k + ds.length) s'
  | [], s, k, h0, _ => ⟨s, rfl, h0⟩
  | d :: ds, s, k, h0, hs => by
    obtain ⟨s1, s2, h1, h2, h3⟩ := hs 0 d s rfl h0
    obtain ⟨s', e, p⟩ := loopF_nx (g := g) (body := body) P (ds := ds) (s := s2) (k + 1) h3 fun i d s e p => by
      have z := hs (i + 1) d s (by simpa using e) (by rw [show k + (i + 1) = k + 1 + i by omega]; exact p)
      rw [show k + (i + 1) + 1 = k + 1 + i + 1 by omega] at z
      exact z
    refine ⟨s', ?_, by rw [List.length_cons, show k + (ds.length + 1) = k + 1 + ds.length by omega]; exact p⟩
    show oS (g d s) (fun s1 => turnF (loopF g body ds) (body s1)) = _
    rw [h1]
    show turnF _ (body s1) = _
    rcases h2 with h2 | h2
    · rw [h2]; exact e
    · rw [h2]; exact e
/-- a comprehension without tests -/
theorem lcRun_map {g : D → S → Option S} {e : S → R D} {s : S} {F : D → D} : ∀ {ds : List D}, (∀ d ∈ ds, ∃ s1, g d s = some s1 ∧ e s1 = .ok (F d)) → lcRun g mYes e s ds = .ok (ds.map F)
  | [], _ => rfl
  | d :: ds, h => by
    obtain ⟨s1, h1, h2⟩ := h d List.mem_cons_self
    unfold lcRun
    rw [h1]
    show ((noExc (R.ok true)).bind fun b => if b then (noExc (e s1)).bind fun y => (lcRun g mYes e s ds).bind fun ys => .ok (y :: ys) else lcRun g mYes e s ds) = _
    show ((noExc (e s1)).bind fun y => (lcRun g mYes e s ds).bind fun ys => R.ok (y :: ys)) = _
    rw [h2, lcRun_map fun d hd => h d (List.mem_cons_of_mem _ hd)]
    rfl
theorem mLc_map {mi : S → R (List D)} {g : D → S → Option S} {e : S → R D} {vs : List Nat} {s : S} {ds : List D} (F : D → D) (h : mi s = .ok ds) (hl : ds.length ≤ LIM) (he : ∀ d ∈ ds, ∃ s1, g d (wipeD s vs) = some s1 ∧ e s1 = .ok (F d)) : mLc mi g mYes e vs s = .ok (.lst (ds.map F)) := by
  unfold mLc
  rw [h, R.bind_ok', lcRun_map he, R.bind_ok', oLst, if_pos (by rw [List.length_map]; exact hl)]
  rfl
theorem cMul_l {i j : Int} (h1 : -(2 ^ 64) < i) (h2 : i < 2 ^ 64) : CMul i j := .inl ⟨h1, h2⟩
theorem cMul_r {i j : Int} (h1 : -(2 ^ 64) < j) (h2 : j < 2 ^ 64) : CMul i j := .inr ⟨h1, h2⟩
theorem oMul_ok {i j : Int} (h : CMul i j) : oMul (.int i) (.int j) = some (.int (i * j)) := by unfold oMul; exact if_pos h
theorem oMod_ok {i j : Int} (h : 0 < j) : oMod (.int i) (.int j) = some (.int (i % j)) := by
  show (if j ≠ 0 then _ else _) = _
  rw [if_pos (by omega), Int.fmod_eq_emod_of_nonneg _ (by omega)]
theorem oFdiv_big {i j : Int} (h : 0 < j) (h2 : j < 2 ^ 512) : oFdiv (.int i) (.int j) = some (.int (i / j)) := by
  show (if CD i j then _ else _) = _
  rw [if_pos ⟨by omega, by omega⟩, Int.fdiv_eq_ediv_of_nonneg _ (by omega)]
theorem oFdiv_ok {i j : Int} (h : 0 < j) (h2 : j < 1073741824) : oFdiv (.int i) (.int j) = some (.int (i / j)) := oFdiv_big h (Int.lt_trans h2 (by decide))
theorem rgD_cast (n : Nat) : rgD 0 n = (List.range n).map fun k : Nat => D.int (k : Int) := by
  unfold rgD
  refine List.map_congr_left fun k _ => ?_
  rw [Int.zero_add]
theorem smallI_nat {i : Int} (h1 : -1000000000 ≤ i) (h2 : i ≤ 1000000000) : smallI i = true := by
  unfold smallI
  rw [Bool.and_eq_true]
  exact ⟨decide_eq_true (by omega), decide_eq_true (by omega)⟩
theorem oRg1_ok {i : Int} (h1 : 0 ≤ i) (h2 : i ≤ 1000000000) : oRg1 [.int i] = some (rgD 0 i.toNat) := by
  show (if smallI i = true then _ else _) = _
  rw [if_pos (smallI_nat (by omega) h2)]
theorem oRg2_ok {i j : Int} (h1 : -1000000000 ≤ i) (h2 : i ≤ 1000000000) (h3 : -1000000000 ≤ j) (h4 : j ≤ 1000000000) : oRg2 [.int i, .int j] = some (rgD i (j - i).toNat) := by
  show (if smallI i = true ∧ smallI j = true then _ else _) = _
  rw [if_pos ⟨smallI_nat h1 h2, smallI_nat h3 h4⟩]
theorem atI_ok {α : Type} {xs : List α} {i : Nat} {x : α} (h : xs[i]? = some x) : atI xs (i : Int) = some x := by
  have hl := (List.getElem?_eq_some_iff.mp h).1
  unfold atI ixN
  rw [if_pos (by omega), if_pos (by omega)]
  show xs[((i : Int)).toNat]? = some x
  rw [Int.toNat_natCast]
  exact h
/-- a comprehension, what each item gives told by a relation -/
theorem lcRun_ex {g : D → S → Option S} {e : S → R D} {s : S} {Pr : D → D → Prop} : ∀ {ds : List D}, (∀ d ∈ ds, ∃ s1 y, g d s = some s1 ∧ e s1 = .ok y ∧ Pr d y) → ∃ ys, lcRun g mYes e s ds = .ok ys ∧ Paired Pr ds ys
  | [], _ => ⟨[], rfl, .nil⟩
  | d :: ds, h => by
    obtain ⟨s1, y, h1, h2, h3⟩ := h d List.mem_cons_self
    obtain ⟨ys, e1, p⟩ := lcRun_ex (ds := ds) fun d hd => h d (List.mem_cons_of_mem _ hd)
    refine ⟨y :: ys, ?_, .cons h3 p⟩
    unfold lcRun
    rw [h1]
    show ((noExc (e s1)).bind fun y => (lcRun g mYes e s ds).bind fun ys => R.ok (y :: ys)) = _
    rw [h2, e1]
    rfl
theorem mLc_ex {mi : S → R (List D)} {g : D → S → Option S} {e : S → R D} {vs : List Nat} {s : S} {ds : List D} (Pr : D → D → Prop) (h : mi s = .ok ds) (hl : ds.length ≤ LIM) (he : ∀ d ∈ ds, ∃ s1 y, g d (wipeD s vs) = some s1 ∧ e s1 = .ok y ∧ Pr d y) : ∃ ys, mLc mi g mYes e vs s = .ok (.lst ys) ∧ Paired Pr ds ys := by
  obtain ⟨ys, e1, p⟩ := lcRun_ex he
  refine ⟨ys, ?_, p⟩
  unfold mLc
  rw [h, R.bind_ok', e1, R.bind_ok', oLst, if_pos (by rw [← Paired.length p]; exact hl)]
  rfl
theorem rgD_mem {lo : Int} {n : Nat} {d : D} (h : d ∈ rgD lo n) : ∃ i : Nat, i < n ∧ d = .int (lo + (i : Int)) := by
  obtain ⟨i, h1⟩ := List.getElem?_of_mem h
  exact ⟨i, rgD_get h1⟩
/-- the invariant of a loop, from turn 0 -/
theorem loopF_inv {g : D → S → Option S} {body : S → Rs} (P : Nat → S → Prop) {ds : List D} {s : S} (h0 : P 0 s) (hs : ∀ i d s, ds[i]? = some d → P i s → ∃ s1 s2, g d s = some s1 ∧ (body s1 = .nx s2 ∨ body s1 = .ct s2) ∧ P (i + 1) s2) : ∃ s', loopF g body ds s = .nx s' ∧ P ds.length s' := by
  have := loopF_nx (g := g) (body := body) P (ds := ds) (s := s) 0 h0 (by simpa using hs)
  simpa using this
/-- n! -/
def facI : Nat → Int
  | 0 => 1
  | n + 1 => facI n * (n + 1)
theorem facI_pos : ∀ n, 0 < facI n
  | 0 => by decide
  | n + 1 => Int.mul_pos (facI_pos n) (by omega)
end Dl

namespace Dl
open PySem PySem.Spec PyProof.Rows L2
/-! ### mirrors by simp -/
def seqR (r : Rs) (n : S → Rs) : Rs := match r with
  | .nx s => n s
  | r => r
@[simp] theorem seqR_nx (s : S) (n : S → Rs) : seqR (.nx s) n = n s := (rfl)
@[simp] theorem seqR_ret (d : D) (n : S → Rs) : seqR (.ret d) n = .ret d := (rfl)
@[simp] theorem seqR_brk (s : S) (n : S → Rs) : seqR (.brk s) n = .brk s := (rfl)
@[simp] theorem seqR_ct (s : S) (n : S → Rs) : seqR (.ct s) n = .ct s := (rfl)
@[simp] theorem seqR_bad (n : S → Rs) : seqR .bad n = .bad := (rfl)
@[simp] theorem seqR_ite (c : Prop) [Decidable c] (a b : Rs) (n : S → Rs) : seqR (if c then a else b) n = if c then seqR a n else seqR b n := by split <;> rfl
@[simp] theorem ev_seq (m n : S → Rs) (s : S) : mSeq m n s = seqR (m s) n := by unfold mSeq seqR; cases m s <;> rfl
@[simp] theorem turnF_nx (k : S → Rs) (s : S) : turnF k (.nx s) = k s := (rfl)
@[simp] theorem turnF_ct (k : S → Rs) (s : S) : turnF k (.ct s) = k s := (rfl)
@[simp] theorem turnF_brk (k : S → Rs) (s : S) : turnF k (.brk s) = .nx s := (rfl)
@[simp] theorem turnF_ret (k : S → Rs) (d : D) : turnF k (.ret d) = .ret d := (rfl)
@[simp] theorem turnF_ite (c : Prop) [Decidable c] (a b : Rs) (k : S → Rs) : turnF k (if c then a else b) = if c then turnF k a else turnF k b := by split <;> rfl
@[simp] theorem ev_asg (f : S → R D) (g : D → S → Option S) (s : S) : mAsg f g s = toS (f s) fun d => oS (g d s) .nx := (rfl)
@[simp] theorem ev_gname (i : Nat) (d : D) (s : S) : mgName i d s = some (s.set i (some d)) := (rfl)
@[simp] theorem ev_gnil (s : S) : mgNil [] s = some s := (rfl)
@[simp] theorem ev_gcons (g : D → S → Option S) (h : List D → S → Option S) (d : D) (ds : List D) (s : S) : mgCons g h (d :: ds) s = (g d s).bind fun s' => h ds s' := (rfl)
@[simp] theorem ev_gtup (g : List D → S → Option S) (n : Nat) (ds : List D) (s : S) : mgTup g n (.tup ds) s = if ds.length = n then g ds s else none := (rfl)
@[simp] theorem toS_ite {α : Type} (c : Prop) [Decidable c] (a b : R α) (f : α → Rs) : toS (if c then a else b) f = if c then toS a f else toS b f := by split <;> rfl
@[simp] theorem ofO_some {α : Type} (a : α) : ofO (some a) = .ok a := (rfl)
@[simp] theorem ofO_none {α : Type} : (ofO none : R α) = .bad := (rfl)
@[simp] theorem ev_op (o : D → D → Option D) (f g : S → R D) (s : S) : mOp o f g s = (f s).bind fun x => (g s).bind fun y => ofO (o x y) := (rfl)
@[simp] theorem ev_opA (o : List D → Option D) (f : S → R (List D)) (s : S) : mOpA o f s = (f s).bind fun x => ofO (o x) := (rfl)
@[simp] theorem ev_op1 (o : D → Option D) (f : S → R D) (s : S) : mOp1 o f s = (f s).bind fun x => ofO (o x) := (rfl)
@[simp] theorem ev_c (d : D) (s : S) : mC d s = .ok d := (rfl)
def ooR : Option (Option D) → R D
  | some (some d) => .ok d
  | _ => .bad
@[simp] theorem ooR_some (d : D) : ooR (some (some d)) = .ok d := (rfl)
@[simp] theorem ev_var (i : Nat) (s : S) : mVar i s = ooR s[i]? := by unfold mVar ooR; split <;> simp_all
@[simp] theorem ev_nil (s : S) : mNil s = .ok [] := (rfl)
@[simp] theorem ev_cons (f : S → R D) (g : S → R (List D)) (s : S) : mCons f g s = (f s).bind fun x => (g s).bind fun xs => .ok (x :: xs) := (rfl)
@[simp] theorem ev_tst (f : S → R D) (s : S) : mTst f s = (f s).bind fun x => ofO (asB x) := (rfl)
@[simp] theorem asB_bl (b : Bool) : asB (.bl b) = some b := (rfl)
@[simp] theorem asI_int (i : Int) : asI (.int i) = some i := (rfl)
@[simp] theorem ev_tup (f : S → R (List D)) (s : S) : mTup f s = (f s).bind fun ds => ofO (oTup ds) := (rfl)
@[simp] theorem ev_lst (f : S → R (List D)) (s : S) : mLst f s = (f s).bind fun ds => ofO (oLst ds) := (rfl)
@[simp] theorem ev_if (c : S → R Bool) (f g : S → Rs) (s : S) : mIfS c f g s = toS (c s) fun b => if b then f s else g s := (rfl)
@[simp] theorem ev_ife (c : S → R Bool) (f g : S → R D) (s : S) : mIf c f g s = (c s).bind fun b => if b then f s else g s := (rfl)
@[simp] theorem ev_ret (f : S → R D) (s : S) : mRet f s = toS (f s) .ret := (rfl)
@[simp] theorem ev_retN (s : S) : mRetN s = .ret .non := (rfl)
@[simp] theorem ev_nx (s : S) : mNx s = .nx s := (rfl)
@[simp] theorem ev_brk (s : S) : mBrk s = .brk s := (rfl)
@[simp] theorem ev_ct (s : S) : mCt s = .ct s := (rfl)
@[simp] theorem ev_drop (f : S → R D) (s : S) : mDrop f s = toS (f s) fun _ => .nx s := (rfl)
@[simp] theorem ev_for (mi : S → R (List D)) (g : D → S → Option S) (body : S → Rs) (s : S) : mFor mi g body s = toS (mi s) fun ds => loopF g body ds s := (rfl)
@[simp] theorem ev_it (o : List D → Option (List D)) (f : S → R (List D)) (s : S) : mIt o f s = (f s).bind fun ds => ofO (o ds) := (rfl)
@[simp] theorem ev_seqI (f : S → R D) (s : S) : mSeqI f s = (f s).bind fun d => ofO (oSeq d) := (rfl)
@[simp] theorem ev_call (m : List D → R D) (f : S → R (List D)) (s : S) : mCall m f s = (f s).bind m := (rfl)
@[simp] theorem ev_make (c : Nat) (m : List D → R (List (Str × D))) (f : S → R (List D)) (s : S) : mMake c m f s = (f s).bind fun ds => (m ds).bind fun fv => .ok (.obj c fv) := (rfl)
@[simp] theorem ev_and (f g : S → R Bool) (s : S) : mAnd f g s = (f s).bind fun b => if b then g s else .ok false := (rfl)
@[simp] theorem ev_or (f g : S → R Bool) (s : S) : mOr f g s = (f s).bind fun b => if b then .ok true else g s := (rfl)
@[simp] theorem ev_not (f : S → R Bool) (s : S) : mNot f s = (f s).bind fun b => .ok (!b) := (rfl)
@[simp] theorem ev_andV (f g : S → R D) (s : S) : mAndV f g s = (f s).bind fun x => (ofO (asB x)).bind fun b => if b then g s else .ok (.bl false) := (rfl)
@[simp] theorem ev_orV (f g : S → R D) (s : S) : mOrV f g s = (f s).bind fun x => (ofO (asB x)).bind fun b => if b then .ok (.bl true) else g s := (rfl)
@[simp] theorem ev_notV (f : S → R D) (s : S) : mNotV f s = (f s).bind fun x => (ofO (asB x)).bind fun b => .ok (.bl (!b)) := (rfl)
@[simp] theorem ev_lc (mi : S → R (List D)) (g : D → S → Option S) (t : S → R Bool) (e : S → R D) (vs : List Nat) (s : S) : mLc mi g t e vs s = (mi s).bind fun ds => (lcRun g t e (wipeD s vs) ds).bind fun ys => ofO (oLst ys) := (rfl)
@[simp] theorem ev_wipe0 (s : S) : wipeD s [] = s := (rfl)
@[simp] theorem ev_wipe1 (s : S) (v : Nat) (vs : List Nat) : wipeD s (v :: vs) = (wipeD s vs).set v none := (rfl)
@[simp] theorem ev_sl (f : S → R D) (l u : S → R (Option Int)) (s : S) : mSl f l u s = (f s).bind fun x => (l s).bind fun lo => (u s).bind fun hi => ofO (oSl x lo hi) := (rfl)
@[simp] theorem ev_no (s : S) : mNo s = .ok none := (rfl)
@[simp] theorem ev_part (f : S → R D) (s : S) : mPart f s = (f s).bind fun d => (ofO (asI d)).bind fun i => .ok (some i) := (rfl)
def ooL (x : Option (Option D)) (k : List D → Rs) : Rs := match x with
  | some (some (.lst ds)) => k ds
  | _ => .bad
@[simp] theorem ooL_lst (ds : List D) (k : List D → Rs) : ooL (some (some (.lst ds))) k = k ds := (rfl)
@[simp] theorem ev_oL (i : Nat) (s : S) (k : List D → Rs) : oL i s k = ooL s[i]? k := by unfold oL ooL; split <;> simp_all
@[simp] theorem ev_setL (i : Nat) (s : S) (ds : List D) : setL i s (some ds) = .nx (s.set i (some (.lst ds))) := (rfl)
@[simp] theorem ev_app (i : Nat) (f : S → R D) (s : S) : mApp i f s = oL i s fun ds => toS (f s) fun d => setL i s (pushL d ds) := (rfl)
@[simp] theorem ev_ext (i : Nat) (f : S → R D) (s : S) : mExt i f s = oL i s fun ds => toS (f s) fun d => setL i s (extL d ds) := (rfl)
@[simp] theorem ev_put (i : Nat) (g f : S → R D) (s : S) : mPut i g f s = toS (f s) fun d => oL i s fun ds => toS (g s) fun j => setL i s (putAt j d ds) := (rfl)
def ooO (x : Option (Option D)) (c : Nat) (k : List (Str × D) → Rs) : Rs := match x with
  | some (some (.obj c' ds)) => if c' = c then k ds else .bad
  | _ => .bad
@[simp] theorem ooO_obj (c c' : Nat) (ds : List (Str × D)) (k : List (Str × D) → Rs) : ooO (some (some (.obj c' ds))) c k = if c' = c then k ds else .bad := (rfl)
@[simp] theorem ev_oO (i c : Nat) (s : S) (k : List (Str × D) → Rs) : oO i c s k = ooO s[i]? c k := by unfold oO ooO; split <;> simp_all
@[simp] theorem ev_setF (i c : Nat) (fld : Str) (f : S → R D) (s : S) : mSetF i c fld f s = toS (f s) fun d => oO i c s fun ds => if ds.length < 100 then .nx (s.set i (some (.obj c (putD fld d ds)))) else .bad := (rfl)
@[simp] theorem ev_listRg (f : S → R D) (s : S) : mListRg f s = (f s).bind fun d => (ofO (asI d)).bind fun n => if rgOkB 0 n = true then .ok (.lst (rgD 0 n.toNat)) else .bad := (rfl)
@[simp] theorem ev_tupRg (f : S → R D) (s : S) : mTupRg f s = (f s).bind fun d => (ofO (asI d)).bind fun n => if rgOkB 0 n = true then .ok (.tup (rgD 0 n.toNat)) else .bad := (rfl)
/-! data -/
@[simp] theorem oAdd_int (i j : Int) : oAdd (.int i) (.int j) = some (.int (i + j)) := (rfl)
@[simp] theorem oSub_int (i j : Int) : oSub (.int i) (.int j) = some (.int (i - j)) := (rfl)
@[simp] theorem oAddI_int (i j : Int) : oAddI (.int i) (.int j) = some (.int (i + j)) := (rfl)
@[simp] theorem oLt_int (i j : Int) : oLt (.int i) (.int j) = some (.bl (decide (i < j))) := (rfl)
@[simp] theorem oLe_int (i j : Int) : oLe (.int i) (.int j) = some (.bl (decide (i ≤ j))) := (rfl)
@[simp] theorem oGt_int (i j : Int) : oGt (.int i) (.int j) = some (.bl (decide (j < i))) := (rfl)
@[simp] theorem oGe_int (i j : Int) : oGe (.int i) (.int j) = some (.bl (decide (j ≤ i))) := (rfl)
@[simp] theorem oInt_int (i : Int) : oInt [.int i] = some (.int i) := (rfl)
@[simp] theorem oLen_lst (xs : List D) : oLen [.lst xs] = some (.int xs.length) := (rfl)
@[simp] theorem oLen_tup (xs : List D) : oLen [.tup xs] = some (.int xs.length) := (rfl)
@[simp] theorem oLen_scr (ns : List Int) : oLen [.scr ns] = some (.int ns.length) := (rfl)
@[simp] theorem oList_lst (xs : List D) : oList [.lst xs] = some (.lst xs) := (rfl)
@[simp] theorem oList_tup (xs : List D) : oList [.tup xs] = some (.lst xs) := (rfl)
@[simp] theorem oTuple_lst (xs : List D) : oTuple [.lst xs] = some (.tup xs) := (rfl)
@[simp] theorem oTuple_tup (xs : List D) : oTuple [.tup xs] = some (.tup xs) := (rfl)
@[simp] theorem oMax2_int (i j : Int) : oMax2 [.int i, .int j] = some (.int (if j > i then j else i)) := (rfl)
@[simp] theorem oMin2_int (i j : Int) : oMin2 [.int i, .int j] = some (.int (if j < i then j else i)) := (rfl)
@[simp] theorem oIx_lst (xs : List D) (i : Int) : oIx (.lst xs) (.int i) = atI xs i := (rfl)
@[simp] theorem oIx_tup (xs : List D) (i : Int) : oIx (.tup xs) (.int i) = atI xs i := (rfl)
@[simp] theorem oSeq_lst (xs : List D) : oSeq (.lst xs) = some xs := (rfl)
@[simp] theorem oSeq_tup (xs : List D) : oSeq (.tup xs) = some xs := (rfl)
@[simp] theorem oEqB_int (i j : Int) : oEqB (.int i) (.int j) = some (i == j) := (rfl)
@[simp] theorem oEq_of (x y : D) : oEq x y = (oEqB x y).map .bl := by unfold oEq; cases oEqB x y <;> rfl
@[simp] theorem oNe_of (x y : D) : oNe x y = (oEqB x y).map fun b => .bl (!b) := by unfold oNe; cases oEqB x y <;> rfl
@[simp] theorem oIs_non : oIs .non .non = some (.bl true) := (rfl)
@[simp] theorem oIs_int (i : Int) : oIs (.int i) .non = some (.bl false) := (rfl)
@[simp] theorem oIs_str (i : Str) : oIs (.str i) .non = some (.bl false) := (rfl)
@[simp] theorem oIs_lst (i : List D) : oIs (.lst i) .non = some (.bl false) := (rfl)
@[simp] theorem oIs_tup (i : List D) : oIs (.tup i) .non = some (.bl false) := (rfl)
@[simp] theorem oIs_blN (i : Bool) : oIs (.bl i) .non = some (.bl false) := (rfl)
@[simp] theorem oIs_bl (a b : Bool) : oIs (.bl a) (.bl b) = some (.bl (a == b)) := (rfl)
@[simp] theorem oIsNot_of (x y : D) : oIsNot x y = (oIs x y).bind fun d => match d with | .bl b => some (.bl (!b)) | _ => none := (rfl)
@[simp] theorem oPow10 : oPow (.int 10) (.int 18) = some (.int 1000000000000000000) := by rfl
end Dl

namespace Dl
open PySem PySem.Spec PyProof.Rows L2
/-! ### mathematics: equality of data without bools -/
def plD : Nat → D → Bool
  | _, .non => true
  | _, .int _ => true
  | _, .str x => PyData.canLay0 (.str x)
  | n + 1, .lst ds => ds.all (plD n)
  | n + 1, .tup ds => ds.all (plD n)
  | _, _ => false
theorem toPs_of {P : PyData → Prop} {ds : List D} (h : ∀ d ∈ ds, ∃ p, toP d = some p ∧ P p) : ∃ ps, toPs ds = some ps ∧ ps.length = ds.length ∧ ∀ p ∈ ps, P p := by
  induction ds with
  | nil => exact ⟨[], rfl, rfl, by simp⟩
  | cons d ds ih =>
    obtain ⟨p, e, hp⟩ := h d List.mem_cons_self
    obtain ⟨ps, e2, e3, hps⟩ := ih fun d hd => h d (List.mem_cons_of_mem _ hd)
    refine ⟨p :: ps, ?_, by simp [e3], fun q hq => ?_⟩
    · show (toP d).bind _ = _
      rw [e]; show (toPs ds).bind _ = _; rw [e2]; rfl
    · rcases List.mem_cons.mp hq with rfl | hq
      · exact hp
      · exact hps q hq
theorem canLayAll_of : ∀ {ps : List PyData}, (∀ p ∈ ps, p.canLay0 = true) → PyData.canLayAll0 ps = true
  | [], _ => rfl
  | p :: ps, h => by
    show (PyData.canLay0 p && PyData.canLayAll0 ps) = true
    rw [h p List.mem_cons_self, canLayAll_of fun q hq => h q (List.mem_cons_of_mem _ hq)]; rfl
theorem depthAll_of {n : Nat} : ∀ {ps : List PyData}, (∀ p ∈ ps, p.depth ≤ n) → PyData.depthAll ps ≤ n
  | [], _ => Nat.zero_le _
  | p :: ps, h => by
    show max (PyData.depth p) (PyData.depthAll ps) ≤ n
    exact Nat.max_le.mpr ⟨h p List.mem_cons_self, depthAll_of fun q hq => h q (List.mem_cons_of_mem _ hq)⟩
theorem pl_toP : ∀ (n : Nat) (x : D), plD n x = true → ∃ p, toP x = some p ∧ p.canLay0 = true ∧ p.depth ≤ n
  | n, .non, _ => ⟨.none, rfl, rfl, Nat.zero_le _⟩
  | n, .int i, _ => ⟨.int i, rfl, rfl, Nat.zero_le _⟩
  | n, .str x, h => ⟨.str x, rfl, by cases n <;> exact h, Nat.zero_le _⟩
  | n + 1, .lst ds, h => by
    have h' : ds.all (plD n) = true := h
    obtain ⟨ps, e, _, hp⟩ := toPs_of (P := fun p => p.canLay0 = true ∧ p.depth ≤ n) fun d hd => pl_toP n d (List.all_eq_true.mp h' d hd)
    refine ⟨.list ps, by show (toPs ds).bind _ = _; rw [e]; rfl, canLayAll_of fun p q => (hp p q).1, ?_⟩
    show PyData.depthAll ps + 1 ≤ n + 1
    exact Nat.succ_le_succ (depthAll_of fun p q => (hp p q).2)
  | n + 1, .tup ds, h => by
    have h' : ds.all (plD n) = true := h
    obtain ⟨ps, e, _, hp⟩ := toPs_of (P := fun p => p.canLay0 = true ∧ p.depth ≤ n) fun d hd => pl_toP n d (List.all_eq_true.mp h' d hd)
    refine ⟨.tuple ps, by show (toPs ds).bind _ = _; rw [e]; rfl, canLayAll_of fun p q => (hp p q).1, ?_⟩
    show PyData.depthAll ps + 1 ≤ n + 1
    exact Nat.succ_le_succ (depthAll_of fun p q => (hp p q).2)
  | 0, .lst _, h => nomatch h
  | 0, .tup _, h => nomatch h
  | 0, .bl _, h => nomatch h
  | _ + 1, .bl _, h => nomatch h
  | 0, .dict _, h => nomatch h
  | _ + 1, .dict _, h => nomatch h
  | 0, .obj _ _, h => nomatch h
  | _ + 1, .obj _ _, h => nomatch h
  | 0, .scr _, h => nomatch h
  | _ + 1, .scr _, h => nomatch h
theorem toP_lst {ds : List D} {p : PyData} (h : toP (.lst ds) = some p) : ∃ ps, toPs ds = some ps ∧ p = .list ps := by
  have h' : (toPs ds).bind (fun ps => some (PyData.list ps)) = some p := h
  cases e : toPs ds with
  | none => rw [e] at h'; cases h'
  | some ps => rw [e] at h'; cases h'; exact ⟨ps, rfl, rfl⟩
theorem toP_tup {ds : List D} {p : PyData} (h : toP (.tup ds) = some p) : ∃ ps, toPs ds = some ps ∧ p = .tuple ps := by
  have h' : (toPs ds).bind (fun ps => some (PyData.tuple ps)) = some p := h
  cases e : toPs ds with
  | none => rw [e] at h'; cases h'
  | some ps => rw [e] at h'; cases h'; exact ⟨ps, rfl, rfl⟩
theorem toPs_cons {d : D} {ds : List D} {qs : List PyData} (h : toPs (d :: ds) = some qs) : ∃ p ps, toP d = some p ∧ toPs ds = some ps ∧ qs = p :: ps := by
  have h' : (toP d).bind (fun p => (toPs ds).bind fun ps => some (p :: ps)) = some qs := h
  cases e : toP d with
  | none => rw [e] at h'; cases h'
  | some p =>
    rw [e] at h'
    have h2 : (toPs ds).bind (fun ps => some (p :: ps)) = some qs := h'
    cases e2 : toPs ds with
    | none => rw [e2] at h2; cases h2
    | some ps => rw [e2] at h2; cases h2; exact ⟨p, ps, rfl, rfl, rfl⟩
theorem eqvAll_pl {n : Nat} (ih : ∀ (x y : D) (p q : PyData), plD n x = true → plD n y = true → toP x = some p → toP y = some q → (PyData.eqv p q = true ↔ x = y)) :
    ∀ (xs ys : List D) (ps qs : List PyData), xs.all (plD n) = true → ys.all (plD n) = true → toPs xs = some ps → toPs ys = some qs → (PyData.eqvAll ps qs = true ↔ xs = ys)
  | [], [], ps, qs, _, _, h1, h2 => by cases h1; cases h2; simp [PyData.eqvAll]
  | [], y :: ys, ps, qs, _, _, h1, h2 => by
    obtain ⟨p, qs', _, _, rfl⟩ := toPs_cons h2
    cases h1
    simp [PyData.eqvAll]
  | x :: xs, [], ps, qs, _, _, h1, h2 => by
    obtain ⟨p, qs', _, _, rfl⟩ := toPs_cons h1
    cases h2
    simp [PyData.eqvAll]
  | x :: xs, y :: ys, ps, qs, h3, h4, h1, h2 => by
    obtain ⟨p, ps', e1, e2, rfl⟩ := toPs_cons h1
    obtain ⟨q, qs', e3, e4, rfl⟩ := toPs_cons h2
    rw [List.all_cons, Bool.and_eq_true] at h3 h4
    have k1 := ih x y p q h3.1 h4.1 e1 e3
    have k2 := eqvAll_pl ih xs ys ps' qs' h3.2 h4.2 e2 e4
    rw [PyData.eqvAll, Bool.and_eq_true, k1, k2, List.cons.injEq]
theorem pl_eqv : ∀ (n : Nat) (x y : D) (p q : PyData), plD n x = true → plD n y = true → toP x = some p → toP y = some q → (PyData.eqv p q = true ↔ x = y) := by
  intro n
  induction n with
  | zero =>
    intro x y p q h1 h2 e1 e2
    cases x <;> first | (simp [plD] at h1; done) | skip
    all_goals cases y <;> first | (simp [plD] at h2; done) | skip
    all_goals
      cases e1
      cases e2
      simp [PyData.eqv]
  | succ n ih =>
    intro x y p q h1 h2 e1 e2
    cases x <;> first | (simp [plD] at h1; done) | skip
    all_goals cases y <;> first | (simp [plD] at h2; done) | skip
    all_goals first
      | (obtain ⟨ps, f1, rfl⟩ := toP_lst e1
         obtain ⟨qs, f2, rfl⟩ := toP_lst e2
         have := eqvAll_pl ih _ _ ps qs h1 h2 f1 f2
         rw [PyData.eqv, this]
         simp
         done)
      | (obtain ⟨ps, f1, rfl⟩ := toP_tup e1
         obtain ⟨qs, f2, rfl⟩ := toP_tup e2
         have := eqvAll_pl ih _ _ ps qs h1 h2 f1 f2
         rw [PyData.eqv, this]
         simp
         done)
      | (obtain ⟨ps, f1, rfl⟩ := toP_lst e1
         obtain ⟨qs, f2, rfl⟩ := toP_tup e2
         simp [PyData.eqv]
         done)
      | (obtain ⟨ps, f1, rfl⟩ := toP_tup e1
         obtain ⟨qs, f2, rfl⟩ := toP_lst e2
         simp [PyData.eqv]
         done)
      | (obtain ⟨ps, f1, rfl⟩ := toP_lst e1
         cases e2
         simp [PyData.eqv]
         done)
      | (obtain ⟨ps, f1, rfl⟩ := toP_tup e1
         cases e2
         simp [PyData.eqv]
         done)
      | (obtain ⟨ps, f1, rfl⟩ := toP_lst e2
         cases e1
         simp [PyData.eqv]
         done)
      | (obtain ⟨ps, f1, rfl⟩ := toP_tup e2
         cases e1
         simp [PyData.eqv]
         done)
      | (cases e1
         cases e2
         simp [PyData.eqv]
         done)
theorem oEqB_pl {x y : D} (h1 : plD 60 x = true) (h2 : plD 60 y = true) : ∃ b, oEqB x y = some b ∧ (b = true ↔ x = y) := by
  obtain ⟨p, e1, c1, d1⟩ := pl_toP 60 x h1
  obtain ⟨q, e2, c2, d2⟩ := pl_toP 60 y h2
  refine ⟨PyData.eqv p q, ?_, pl_eqv 60 x y p q h1 h2 e1 e2⟩
  have s1 : SeqAt.shaped p = true := by unfold SeqAt.shaped; rw [c1]; exact decide_eq_true (by omega)
  have s2 : SeqAt.shaped q = true := by unfold SeqAt.shaped; rw [c2]; exact decide_eq_true (by omega)
  unfold oEqB
  rw [e1]; show (toP y).bind _ = _; rw [e2]; show (if _ then _ else _) = _
  rw [if_pos ⟨s1, s2⟩]
theorem oEq_pl {x y : D} (h1 : plD 60 x = true) (h2 : plD 60 y = true) : ∃ b, oEq x y = some (.bl b) ∧ oNe x y = some (.bl (!b)) ∧ (b = true ↔ x = y) := by
  obtain ⟨b, e, h⟩ := oEqB_pl h1 h2
  refine ⟨b, ?_, ?_, h⟩
  · unfold oEq; rw [e]; rfl
  · unfold oNe; rw [e]; rfl
theorem oEq_same {x : D} (h1 : plD 60 x = true) : oEq x x = some (.bl true) ∧ oNe x x = some (.bl false) := by
  obtain ⟨b, e, e2, h⟩ := oEq_pl h1 h1
  have : b = true := h.mpr rfl
  subst this
  exact ⟨e, e2⟩
theorem pl_ints {n : Nat} (ns : List Int) : (ns.map D.int).all (plD n) = true := by
  rw [List.all_eq_true]
  intro d hd
  obtain ⟨i, _, rfl⟩ := List.mem_map.mp hd
  cases n <;> rfl
theorem pl_lstI {ns : List Int} : plD 60 (.lst (ns.map D.int)) = true := pl_ints ns
theorem pl_tupI {ns : List Int} : plD 60 (.tup (ns.map D.int)) = true := pl_ints ns
end Dl

namespace Dl
open PySem PySem.Spec PyProof.Rows L2
/-! ### mathematics: lists of numbers -/
def nI (ns : List Nat) : List Int := ns.map fun k : Nat => (k : Int)
def nD (ns : List Nat) : List D := (nI ns).map D.int
@[simp] theorem nD_length (ns : List Nat) : (nD ns).length = ns.length := by simp [nD, nI]
theorem nD_get {ns : List Nat} {i k : Nat} (h : ns[i]? = some k) : (nD ns)[i]? = some (.int k) := by
  simp [nD, nI, h]
theorem nD_get' {ns : List Nat} {i : Nat} {d : D} (h : (nD ns)[i]? = some d) : ∃ k : Nat, ns[i]? = some k ∧ d = .int k := by
  simp only [nD, nI, List.getElem?_map] at h
  cases e : ns[i]? with
  | none => rw [e] at h; cases h
  | some k => rw [e] at h; cases h; exact ⟨k, rfl, rfl⟩
theorem nD_append (ns ms : List Nat) : nD (ns ++ ms) = nD ns ++ nD ms := by simp [nD, nI]
theorem map_erase {α β : Type} (f : α → β) : ∀ (xs : List α) (i : Nat), (xs.eraseIdx i).map f = (xs.map f).eraseIdx i
  | [], _ => rfl
  | _ :: _, 0 => rfl
  | x :: xs, i + 1 => congrArg (f x :: ·) (map_erase f xs i)
theorem nD_erase (ns : List Nat) (i : Nat) : nD (ns.eraseIdx i) = (nD ns).eraseIdx i := by unfold nD nI; rw [map_erase, map_erase]
theorem erase_perm {α : Type} : ∀ {xs : List α} {i : Nat} {x : α}, xs[i]? = some x → (x :: xs.eraseIdx i).Perm xs
  | [], _, _, h => by cases h
  | y :: xs, 0, x, h => by cases h; exact .refl _
  | y :: xs, i + 1, x, h => ((List.Perm.swap y x _).trans ((erase_perm (xs := xs) (i := i) (by simpa using h)).cons y))
theorem nodup_inj {α : Type} {xs : List α} (h : xs.Nodup) {i j : Nat} {x : α} (e : xs[i]? = some x) (e2 : xs[j]? = some x) : i = j := by
  obtain ⟨h1, e⟩ := List.getElem?_eq_some_iff.mp e
  obtain ⟨h2, e2⟩ := List.getElem?_eq_some_iff.mp e2
  have q := List.pairwise_iff_getElem.mp h
  rcases Nat.lt_trichotomy i j with hh | hh | hh
  · exact absurd (e.trans e2.symm) (q i j h1 h2 hh)
  · exact hh
  · exact absurd (e2.trans e.symm) (q j i h2 h1 hh)
theorem nD_set (ns : List Nat) (i k : Nat) : (nD ns).set i (.int (k : Int)) = nD (ns.set i k) := by simp [nD, nI, List.map_set]
theorem rgD_nD (n : Nat) : rgD 0 n = nD (List.range n) := by
  rw [rgD_cast]; simp [nD, nI, List.map_map, Function.comp_def]
theorem seqIndex_nat {i len : Nat} (h : i < len) : seqIndex? (i : Int) len = some i := by
  rw [seqIndex_of (by omega) (by omega), Int.toNat_natCast]
theorem popAt_nat {ds : List D} {i : Nat} {d : D} (hl : ds.length ≤ LIM) (h : ds[i]? = some d) : popAt (.int (i : Int)) ds = some (d, ds.eraseIdx i) := by
  have hi := (List.getElem?_eq_some_iff.mp h).1
  have hL : LIM = 1000000 := rfl
  unfold popAt
  simp only
  rw [if_pos (by omega), seqIndex_nat hi, Option.bind_some, h, Option.bind_some]
theorem pushL_ok {d : D} {ds : List D} (h : ds.length < LIM) : pushL d ds = some (ds ++ [d]) := if_pos h
theorem ixN_nat {n i : Nat} (h : i < n) : ixN n (i : Int) = some i := by
  unfold ixN
  rw [if_pos (by omega), if_pos (by omega), Int.toNat_natCast]
theorem putAt_nat {ds : List D} {i : Nat} {d : D} (h : i < ds.length) : putAt (.int (i : Int)) d ds = some (ds.set i d) := by
  show (ixN ds.length (i : Int)).bind _ = _
  rw [ixN_nat h]; rfl
@[simp] theorem oEnum1_lst (ds : List D) : oEnum1 [.lst ds] = some (enD ds) := (rfl)
@[simp] theorem oEnum1_tup (ds : List D) : oEnum1 [.tup ds] = some (enD ds) := (rfl)
theorem enD_length (ds : List D) : (enD ds).length = ds.length := by simp [enD]
theorem enD_get {ds : List D} {i : Nat} {d : D} (h : (enD ds)[i]? = some d) : ∃ x, ds[i]? = some x ∧ d = .tup [.int i, x] := by
  unfold enD at h
  rw [List.getElem?_map] at h
  by_cases hi : i < ds.length
  · rw [List.getElem?_range hi] at h
    cases h
    exact ⟨ds[i], List.getElem?_eq_getElem hi, by show D.tup [D.int i, ds.getD i D.non] = _; rw [List.getD_eq_getElem?_getD, List.getElem?_eq_getElem hi]; rfl⟩
  · rw [List.getElem?_eq_none (by simpa using hi)] at h; cases h
theorem rgOk_nat {n : Nat} (h : n ≤ 1000) : rgOkB 0 (n : Int) = true := by
  unfold rgOkB
  have hL : LIM = 1000000 := rfl
  simp only [Bool.and_eq_true, decide_eq_true_eq]
  omega
theorem oSortI_lst (ns : List Int) : oSortI [.lst (ns.map D.int)] = some (.lst ((srtI ns).map D.int)) := by
  show (asInts (ns.map D.int)).bind _ = _
  rw [asInts_map]; rfl
theorem oSortI_tup (ns : List Int) : oSortI [.tup (ns.map D.int)] = some (.lst ((srtI ns).map D.int)) := by
  show (asInts (ns.map D.int)).bind _ = _
  rw [asInts_map]; rfl
theorem oAll1_ok (bs : List Bool) : oAll1 [.lst (bs.map D.bl)] = some (.bl (bs.all id)) := by
  show (asBls (bs.map D.bl)).bind _ = _
  rw [asBls_map]; rfl
theorem oAny1_ok (bs : List Bool) : oAny1 [.lst (bs.map D.bl)] = some (.bl (bs.any id)) := by
  show (asBls (bs.map D.bl)).bind _ = _
  rw [asBls_map]; rfl
theorem oSum1_ok (ns : List Int) : oSum1 [.lst (ns.map D.int)] = some (.int ns.sum) := by
  show (asInts (ns.map D.int)).bind _ = _
  rw [asInts_map]; rfl
theorem oRg1_nat {n : Nat} (h : n ≤ 1000000000) : oRg1 [.int (n : Int)] = some (rgD 0 n) := by
  rw [oRg1_ok (by omega) (by omega), Int.toNat_natCast]
@[simp] theorem ev_appPop (i l : Nat) (g : S → R D) (s : S) : mAppPop i l g s = oL i s fun ds => oL l s fun es => toS (g s) fun j => match popAt j es with
  | some (d, es') => match pushL d ds with
    | some ds' => .nx ((s.set l (some (.lst es'))).set i (some (.lst ds')))
    | none => .bad
  | none => .bad := (rfl)
@[simp] theorem oIsi_tup (ds : List D) : oIsi "tuple" (.tup ds) = some (.bl true) := (rfl)
end Dl

namespace Dl
open PySem PySem.Spec PyProof.Rows L2
/-! ### mathematics: texts -/
/-- signs of a text: below n -/
def GoodS (n : Nat) (x : Str) : Prop := (∀ c ∈ x.cps.toList, c < 1114112) ∧ x.length ≤ n
theorem GoodS.lay {n : Nat} {x : Str} (h : GoodS n x) : PyData.canLay0 (.str x) = true := by
  show x.cps.all (· < 0x110000) = true
  rw [← Array.all_toList, List.all_eq_true]
  intro c hc
  exact decide_eq_true (h.1 c hc)
theorem GoodS.mono {n m : Nat} {x : Str} (h : GoodS n x) (hm : n ≤ m) : GoodS m x := ⟨h.1, Nat.le_trans h.2 hm⟩
theorem cps_append (x y : Str) : (x ++ y).cps.toList = x.cps.toList ++ y.cps.toList := by
  show (x.cps ++ y.cps).toList = _
  simp
theorem len_cps (x : Str) : x.length = x.cps.toList.length := by
  show x.cps.size = _
  simp
theorem GoodS.append {n m : Nat} {x y : Str} (h : GoodS n x) (h' : GoodS m y) : GoodS (n + m) (x ++ y) := by
  refine ⟨fun c hc => ?_, ?_⟩
  · rw [cps_append] at hc
    rcases List.mem_append.mp hc with hc | hc
    · exact h.1 c hc
    · exact h'.1 c hc
  · have h1 := h.2
    have h2 := h'.2
    rw [len_cps] at *
    rw [cps_append, List.length_append]
    omega
/-- and not empty -/
def GS (n : Nat) (x : Str) : Prop := GoodS n x ∧ 0 < x.length
theorem GS.mono {n m : Nat} {x : Str} (h : GS n x) (hm : n ≤ m) : GS m x := ⟨h.1.mono hm, h.2⟩
theorem len_append (x y : Str) : (x ++ y).length = x.length + y.length := by
  rw [len_cps, cps_append, List.length_append, ← len_cps, ← len_cps]
theorem GS.app {n m : Nat} {x y : Str} (h : GS n x) (h' : GoodS m y) : GS (n + m) (x ++ y) := ⟨h.1.append h', by rw [len_append]; have := h.2; omega⟩
theorem GS.app' {n m : Nat} {x y : Str} (h : GoodS n x) (h' : GS m y) : GS (n + m) (x ++ y) := ⟨h.append h'.1, by rw [len_append]; have := h'.2; omega⟩
theorem GoodS.cut {n : Nat} {x : Str} (h : GoodS n x) (lo hi : Option Int) : GoodS n (cutS x lo hi) := by
  unfold cutS
  refine ⟨fun c hc => h.1 c ?_, ?_⟩
  · have hc' : c ∈ (x.cps.toList.drop (HT.sIx x.length 0 lo)).take (HT.sIx x.length x.length hi - HT.sIx x.length 0 lo) := by simpa using hc
    have h2 := List.mem_of_mem_take hc'
    have h3 := List.mem_of_mem_drop h2
    exact h3
  · rw [len_cps]
    have h2 := h.2
    rw [len_cps] at h2
    simp only [List.toList_toArray, List.length_take, List.length_drop]
    omega
theorem oAdd_str {n m : Nat} {x y : Str} (h : GoodS n x) (h' : GoodS m y) (hl : n + m ≤ 1000000) : oAdd (.str x) (.str y) = some (.str (x ++ y)) := by
  have h1 := h.2
  have h2 := h'.2
  exact if_pos (show x.length + y.length ≤ 1000000 by omega)
theorem strIx_ok {n : Nat} {z : Str} (hz : GoodS n z) (hn : n ≤ 1000000) {i : Nat} (h : i < z.cps.toList.length) : ∃ x, oIx (.str z) (.int (i : Int)) = some (.str x) ∧ GoodS 1 x ∧ 0 < x.length := by
  refine ⟨⟨#[z.cps.toList[i]]⟩, ?_, ⟨fun c hc => ?_, Nat.le_refl 1⟩, Nat.zero_lt_one⟩
  · show (if z.length ≤ 1000000 then _ else _) = _
    rw [if_pos (Nat.le_trans hz.2 hn), atI_ok (List.getElem?_eq_getElem h)]
    rfl
  · have : c = z.cps.toList[i] := by simpa using hc
    rw [this]
    exact hz.1 _ (List.getElem_mem _)
@[simp] theorem oSl_lst (xs : List D) (lo hi : Option Int) : oSl (.lst xs) lo hi = some (.lst (cutL xs lo hi)) := (rfl)
@[simp] theorem oSl_tup (xs : List D) (lo hi : Option Int) : oSl (.tup xs) lo hi = some (.tup (cutL xs lo hi)) := (rfl)
theorem oSl_str {n : Nat} {z : Str} (hz : GoodS n z) (hn : n ≤ 1000000) (lo hi : Option Int) : oSl (.str z) lo hi = some (.str (cutS z lo hi)) := if_pos (show z.length ≤ 1000000 from Nat.le_trans hz.2 hn)
theorem oLen_str {n : Nat} {z : Str} (hz : GoodS n z) (hn : n ≤ 1000000) : oLen [.str z] = some (.int z.length) := if_pos (show z.length ≤ 1000000 from Nat.le_trans hz.2 hn)
theorem glued_good {n : Nat} : ∀ {ys : List Str}, (∀ y ∈ ys, GoodS n y) → ∀ c ∈ (Txt.join "" ys).cps.toList, c < 1114112 := by
  intro ys h c hc
  have fold : ∀ (ys : List Str) (acc : Array Nat), (∀ y ∈ ys, GoodS n y) → (∀ c ∈ acc.toList, c < 1114112) → ∀ c ∈ (ys.foldl (fun acc p => acc ++ ("" : Str).cps ++ p.cps) acc).toList, c < 1114112 := by
    intro ys
    induction ys with
    | nil => intro acc _ h; exact h
    | cons y ys ih =>
      intro acc hy ha
      refine ih _ (fun z hz => hy z (List.mem_cons_of_mem _ hz)) fun c hc => ?_
      have e : (acc ++ ("" : Str).cps ++ y.cps).toList = acc.toList ++ ("" : Str).cps.toList ++ y.cps.toList := by simp
      rw [e] at hc
      rcases List.mem_append.mp hc with hc | hc
      · rcases List.mem_append.mp hc with hc | hc
        · exact ha c hc
        · exact nomatch hc
      · exact (hy y List.mem_cons_self).1 c hc
  cases ys with
  | nil => exact nomatch hc
  | cons y ys => exact fold ys y.cps (fun z hz => h z (List.mem_cons_of_mem _ hz)) (h y List.mem_cons_self).1 c hc
theorem sum_le {α : Type} (f : α → Nat) (n : Nat) : ∀ {ys : List α}, (∀ y ∈ ys, f y ≤ n) → (ys.map f).sum ≤ ys.length * n
  | [], _ => Nat.zero_le _
  | y :: ys, h => by
    have := h y List.mem_cons_self
    have := sum_le f n (ys := ys) fun z hz => h z (List.mem_cons_of_mem _ hz)
    simp only [List.map_cons, List.sum_cons, List.length_cons, Nat.succ_mul]
    omega
theorem join_ok {n : Nat} {ys : List Str} (h : ∀ y ∈ ys, GoodS n y) (hl : ys.length * n ≤ 1000000) : oJoin "" (.lst (ys.map D.str)) = some (.str (Txt.join "" ys)) ∧ GoodS (ys.length * n) (Txt.join "" ys) := by
  have hs := sum_le (fun y : Str => y.length) n (ys := ys) fun y hy => (h y hy).2
  have h0 : ("" : Str).length = 0 := rfl
  refine ⟨?_, glued_good h, ?_⟩
  · show (asStrs (ys.map D.str)).bind _ = _
    rw [asStrs_map]
    show (if (ys.map (·.length)).sum + ys.length * ("" : Str).length ≤ 16777216 then _ else _) = _
    rw [if_pos (by rw [h0]; omega)]
  · have := StrLaws.join_length_le "" ys
    rw [h0] at this
    show (Builtin.Str.glued "" ys).length ≤ _
    rw [StrLaws.glued_eq_join]
    omega
theorem oEqB_str {x y : Str} (h : PyData.canLay0 (.str x) = true) (h' : PyData.canLay0 (.str y) = true) : oEqB (.str x) (.str y) = some (x == y) := by
  unfold oEqB
  show (if SeqAt.shaped (.str x) = true ∧ SeqAt.shaped (.str y) = true then some (PyData.eqv (.str x) (.str y)) else none) = _
  have s : ∀ z : Str, PyData.canLay0 (.str z) = true → SeqAt.shaped (.str z) = true := fun z hz => by
    unfold SeqAt.shaped
    rw [hz]; rfl
  rw [if_pos ⟨s x h, s y h'⟩]
  rfl
theorem oInB_pl {x : D} {ys : List D} (h : plD 59 x = true) (h' : ys.all (plD 59) = true) : ∃ b, oInB x (.lst ys) = some b ∧ (b = true ↔ x ∈ ys) := by
  obtain ⟨p, e1, c1, d1⟩ := pl_toP 59 x h
  obtain ⟨ps, e2, el, hp⟩ := toPs_of (P := fun p => p.canLay0 = true ∧ p.depth ≤ 59) fun d hd => pl_toP 59 d (List.all_eq_true.mp h' d hd)
  clear el
  refine ⟨ps.any fun z => PyData.eqv z p, ?_, ?_⟩
  · show ((toP x).bind fun p => (toPs ys).bind fun qs => if SeqAt.shaped p = true ∧ SeqAt.shaped (.list qs) = true then some (qs.any fun z => PyData.eqv z p) else none) = _
    rw [e1, Option.bind_some, e2, Option.bind_some, if_pos]
    refine ⟨?_, ?_⟩
    · unfold SeqAt.shaped; rw [c1]; exact decide_eq_true (by omega)
    · unfold SeqAt.shaped
      rw [show PyData.canLay0 (.list ps) = true from canLayAll_of fun p hq => (hp p hq).1]
      refine decide_eq_true ?_
      show PyData.depthAll ps + 1 ≤ 64
      have := depthAll_of (ps := ps) fun p hq => (hp p hq).2
      omega
  · clear hp
    induction ys generalizing ps with
    | nil => cases e2; simp
    | cons y ys ih =>
      obtain ⟨q, qs, f1, f2, rfl⟩ := toPs_cons e2
      rw [List.all_cons, Bool.and_eq_true] at h'
      have k1 := pl_eqv 59 y x q p h'.1 h f1 e1
      have k2 := ih h'.2 qs f2
      rw [List.any_cons, Bool.or_eq_true, k1, k2, List.mem_cons]
      exact ⟨fun z => z.imp Eq.symm id, fun z => z.imp Eq.symm id⟩
end Dl

namespace Dl
open PySem PySem.Spec PyProof.Rows L2
/-! ### mirrors that change owned things, by simp -/
@[simp] theorem ev_xOf (f : S → R D) (s : S) : xOf f s = (f s).bind fun d => .ok (d, s) := (rfl)
@[simp] theorem ev_xPop (l : Nat) (s : S) : xPop l s = xPopO l s s[l]? := (rfl)
@[simp] theorem xPopO_lst (l : Nat) (s : S) (ds : List D) : xPopO l s (some (some (.lst ds))) = (ofO (popL ds)).bind fun p => .ok (p.1, s.set l (some (.lst p.2))) := (rfl)
@[simp] theorem ev_xaNil (s : S) : xaNil s = .ok ([], s) := (rfl)
@[simp] theorem ev_xaCons (f : S → R (D × S)) (g : S → R (List D × S)) (s : S) : xaCons f g s = (f s).bind fun p => (g p.2).bind fun r => .ok (p.1 :: r.1, r.2) := (rfl)
@[simp] theorem ev_xTup (f : S → R (List D × S)) (s : S) : xTup f s = (f s).bind fun p => (ofO (oTup p.1)).bind fun d => .ok (d, p.2) := (rfl)
@[simp] theorem ev_asgX (f : S → R (D × S)) (g : D → S → Option S) (s : S) : mAsgX f g s = toS (f s) fun p => oS (g p.1 p.2) .nx := (rfl)
@[simp] theorem ev_dropX (f : S → R (D × S)) (s : S) : mDropX f s = toS (f s) fun p => .nx p.2 := (rfl)
@[simp] theorem ev_appX (i : Nat) (f : S → R (D × S)) (s : S) : mAppX i f s = oL i s fun _ => toS (f s) fun p => oL i p.2 fun ds => setL i p.2 (pushL p.1 ds) := (rfl)
@[simp] theorem ev_revS (i : Nat) (s : S) : mRevS i s = oL i s fun ds => setL i s (some ds.reverse) := (rfl)
@[simp] theorem ev_strM (o : Str → D → Option D) (f g : S → R D) (s : S) : mStrM o f g s = (f s).bind fun x => (ofO (asStr x)).bind fun a => (g s).bind fun y => ofO (o a y) := (rfl)
@[simp] theorem asStr_str (x : Str) : asStr (.str x) = some x := (rfl)
@[simp] theorem oRevA_lst (ds : List D) : oRevA (.lst ds) = some (.lst ds.reverse) := (rfl)
@[simp] theorem oRevA_tup (ds : List D) : oRevA (.tup ds) = some (.tup ds.reverse) := (rfl)
@[simp] theorem ev_callS (m : List D → R D) (fs : S → R (List D)) (s : S) : mCallS m fs s = (fs s).bind fun ds => (noExc (m ds)).bind fun d => if isSc d = true then .ok d else .bad := (rfl)
@[simp] theorem noExc_ok' {α : Type} (a : α) : noExc (.ok a) = .ok a := (rfl)
@[simp] theorem isSc_bl (b : Bool) : isSc (.bl b) = true := (rfl)
theorem popL_snoc (ts : List D) (t : D) : popL (ts ++ [t]) = some (t, ts) := by
  unfold popL
  rw [show (ts ++ [t]).length - 1 = ts.length by simp, List.getElem?_append_right (Nat.le_refl _), Nat.sub_self]
  show some (t, (ts ++ [t]).dropLast) = _
  rw [List.dropLast_concat]
theorem snoc_of {α : Type} {xs : List α} (h : xs ≠ []) : ∃ ys y, xs = ys ++ [y] := ⟨_, _, (List.dropLast_concat_getLast h).symm⟩
end Dl

namespace Mi
open Dl PySem
def l_law_offered_1 : S → Rs :=
  mApp 2 (mTup (mCons (mOp oIx (mVar 0) (mVar 3)) (mCons (mOp oAdd (mC (.int 1)) (mOp oMod (mOpA oInt (mCons (mOp oAdd (mVar 1) (mVar 3)) mNil)) (mC (.int 3)))) (mCons (mOp oIx (mLst (mCons (mC (.int 2)) (mCons (mC (.int 3)) (mCons (mOp oPow (mC (.int 10)) (mC (.int 9))) (mNil))))) (mOp oMod (mOpA oInt (mCons (mOp oAdd (mOp oFdiv (mVar 1) (mC (.int 3))) (mVar 3)) mNil)) (mC (.int 3)))) (mNil)))))
def b_law_offered : S → Rs :=
  mSeq (mAsg (mLst (mNil)) (mgName 2))
    (mSeq (mFor (mIt oRg1 (mCons (mOpA oLen (mCons (mVar 0) mNil)) (mNil))) (mgName 3) l_law_offered_1)
    (mRet (mVar 2)))
def m_law_offered : List D → R D := runM false 2 4 b_law_offered
def l_law_digits_1 : S → Rs :=
  mIfS (mTst (mOp oGe (mVar 0) (mOp oPow (mC (.int 10)) (mC (.int 18)))))
      (mSeq (mApp 3 (mOp oMod (mOpA oInt (mCons (mVar 4) mNil)) (mVar 1)))
    (mAsg (mOp oFdiv (mVar 4) (mVar 1)) (mgName 4)))
      (mSeq (mAsg (mOp oMod (mOpA oInt (mCons (mOp oAdd (mOp oAdd (mOp oMul (mVar 0) (mC (.int 40503))) (mOp oMul (mVar 5) (mC (.int 90121)))) (mC (.int 77))) mNil)) (mC (.int 2147483647))) (mgName 6))
    (mSeq (mAsg (mOp oMod (mOpA oInt (mCons (mOp oAdd (mOp oAdd (mOp oMul (mVar 6) (mVar 6)) (mOp oMul (mC (.int 11)) (mVar 6))) (mOp oMul (mC (.int 3)) (mVar 5))) mNil)) (mC (.int 2147483629))) (mgName 6))
    (mApp 3 (mOp oMod (mOpA oInt (mCons (mOp oFdiv (mVar 6) (mC (.int 37))) mNil)) (mVar 1)))))
def b_law_digits : S → Rs :=
  mSeq (mAsg (mLst (mNil)) (mgName 3))
    (mSeq (mAsg (mVar 0) (mgName 4))
    (mSeq (mFor (mIt oRg1 (mCons (mVar 2) (mNil))) (mgName 5) l_law_digits_1)
    (mRet (mVar 3))))
def m_law_digits : List D → R D := runM false 3 7 b_law_digits
def l_law_atom_1 : S → Rs :=
  mSeq (mAsg (mOp oMod (mOpA oInt (mCons (mVar 5) mNil)) (mOpA oLen (mCons (mVar 6) mNil))) (mgName 9))
    (mSeq (mAsg (mOp oFdiv (mVar 5) (mOpA oLen (mCons (mVar 6) mNil))) (mgName 5))
    (mAppPop 7 6 (mVar 9)))
def b_law_atom : S → Rs :=
  mSeq (mAsg (mLc (mSeqI (mVar 2)) (mgName 4) (mTst (mOp oLe (mOp oIx (mVar 4) (mC (.int 1))) (mVar 1))) (mVar 4) [4]) (mgName 3))
    (mSeq (mIfS (mTst (mOp oEq (mOpA oLen (mCons (mVar 3) mNil)) (mC (.int 0))))
      (mRet (mTup (mCons (mC (.str "true")) (mNil))))
      (mNx))
    (mSeq (mAsg (mOp oIx (mVar 3) (mOp oMod (mOpA oInt (mCons (mVar 0) mNil)) (mOpA oLen (mCons (mVar 3) mNil)))) (mgName 4))
    (mSeq (mAsg (mOp oFdiv (mOpA oInt (mCons (mVar 0) mNil)) (mOpA oLen (mCons (mVar 3) mNil))) (mgName 5))
    (mSeq (mAsg (mListRg (mVar 1)) (mgName 6))
    (mSeq (mAsg (mLst (mNil)) (mgName 7))
    (mSeq (mFor (mIt oRg1 (mCons (mOp oIx (mVar 4) (mC (.int 1))) (mNil))) (mgName 8) l_law_atom_1)
    (mSeq (mIfS (mTst (mOp oGt (mOp oMod (mOpA oInt (mCons (mVar 5) mNil)) (mC (.int 4))) (mC (.int 0))))
      (mRet (mTup (mCons (mC (.str "is")) (mCons (mOp oIx (mVar 4) (mC (.int 0))) (mCons (mOpA oTuple (mCons (mVar 7) mNil)) (mCons (mOp oMod (mOpA oInt (mCons (mOp oFdiv (mVar 5) (mC (.int 4))) mNil)) (mOpA oMin2 (mCons (mOp oAdd (mOp oIx (mVar 4) (mC (.int 2))) (mC (.int 1))) (mCons (mOp oPow (mC (.int 10)) (mC (.int 9))) mNil)))) (mNil)))))))
      (mNx))
    (mRet (mTup (mCons (mC (.str "is")) (mCons (mOp oIx (mVar 4) (mC (.int 0))) (mCons (mOpA oTuple (mCons (mVar 7) mNil)) (mCons (mOp oMod (mOpA oInt (mCons (mOp oFdiv (mVar 5) (mC (.int 4))) mNil)) (mOp oPow (mC (.int 10)) (mC (.int 9)))) (mNil))))))))))))))
def m_law_atom : List D → R D := runM false 3 10 b_law_atom
def l_law_formula_1 : S → Rs :=
  mSeq (mAsg (mOp oMod (mOpA oInt (mCons (mOp oIx (mVar 4) (mOp oAdd (mC (.int 1)) (mVar 6))) mNil)) (mC (.int 12))) (mgName 7))
    (mSeq (mAsg (mOp oFdiv (mOpA oInt (mCons (mOp oIx (mVar 4) (mOp oAdd (mC (.int 1)) (mVar 6))) mNil)) (mC (.int 12))) (mgName 8))
    (mIfS (mTst (mOp oEq (mVar 7) (mC (.int 5))))
      (mApp 5 (mTup (mCons (mOp oIx (mLst (mCons (mC (.str "true")) (mCons (mC (.str "false")) (mNil)))) (mOp oMod (mOpA oInt (mCons (mVar 8) mNil)) (mC (.int 2)))) (mNil))))
      (mIfS (mOr (mTst (mOp oLt (mVar 7) (mC (.int 5)))) (mOr (mTst (mOp oEq (mOpA oLen (mCons (mVar 5) mNil)) (mC (.int 0)))) (mAnd (mTst (mOp oGt (mVar 7) (mC (.int 7)))) (mTst (mOp oEq (mOpA oLen (mCons (mVar 5) mNil)) (mC (.int 1)))))))
      (mApp 5 (mCall m_law_atom (mCons (mVar 8) (mCons (mVar 1) (mCons (mVar 2) (mNil))))))
      (mIfS (mTst (mOp oLt (mVar 7) (mC (.int 8))))
      (mAppX 5 (xTup (xaCons (xOf (mC (.str "not"))) (xaCons (xPop 5) (xaNil)))))
      (mSeq (mAsgX (xPop 5) (mgName 9))
    (mAppX 5 (xTup (xaCons (xOf (mOp oIx (mLst (mCons (mC (.str "and")) (mCons (mC (.str "or")) (mCons (mC (.str "implies")) (mCons (mC (.str "same")) (mNil)))))) (mOp oSub (mVar 7) (mC (.int 8))))) (xaCons (xPop 5) (xaCons (xOf (mVar 9)) (xaNil)))))))))))
def l_law_formula_2 : S → Rs :=
  mIfS (mTst (mOp oGt (mOpA oLen (mCons (mVar 5) mNil)) (mC (.int 1))))
      (mSeq (mAsgX (xPop 5) (mgName 9))
    (mSeq (mAppX 5 (xTup (xaCons (xOf (mOp oIx (mLst (mCons (mC (.str "and")) (mCons (mC (.str "or")) (mCons (mC (.str "implies")) (mCons (mC (.str "same")) (mNil)))))) (mOp oMod (mOpA oInt (mCons (mVar 8) mNil)) (mC (.int 4))))) (xaCons (xPop 5) (xaCons (xOf (mVar 9)) (xaNil))))))
    (mAsg (mOp oFdiv (mVar 8) (mC (.int 4))) (mgName 8))))
      (mNx)
def b_law_formula : S → Rs :=
  mSeq (mAsg (mCall m_law_digits (mCons (mVar 0) (mCons (mOp oMul (mC (.int 12)) (mOp oPow (mC (.int 10)) (mC (.int 14)))) (mCons (mOp oAdd (mVar 3) (mC (.int 1))) (mNil))))) (mgName 4))
    (mSeq (mAsg (mLst (mNil)) (mgName 5))
    (mSeq (mFor (mIt oRg1 (mCons (mOp oAdd (mC (.int 1)) (mOp oMod (mOpA oInt (mCons (mOp oIx (mVar 4) (mC (.int 0))) mNil)) (mVar 3))) (mNil))) (mgName 6) l_law_formula_1)
    (mSeq (mAsg (mOp oFdiv (mOpA oInt (mCons (mOp oIx (mVar 4) (mC (.int 0))) mNil)) (mVar 3)) (mgName 8))
    (mSeq (mFor (mIt oRg1 (mCons (mVar 3) (mNil))) (mgName 6) l_law_formula_2)
    (mRet (mOp oIx (mVar 5) (mC (.int 0))))))))
def m_law_formula : List D → R D := runM false 4 10 b_law_formula
def l_law_atoms_1 : S → Rs :=
  mApp 2 (mVar 5)
def l_law_atoms_2 : S → Rs :=
  mIfS (mTst (mOp oGt (mOpA oLen (mCons (mVar 2) mNil)) (mC (.int 0))))
      (mSeq (mAsgX (xPop 2) (mgName 4))
    (mIfS (mTst (mOp oEq (mOp oIx (mVar 4) (mC (.int 0))) (mC (.str "is"))))
      (mApp 1 (mVar 4))
      (mFor (mSeqI (mOp1 oRevA (mSl (mVar 4) (mPart (mC (.int 1))) (mNo)))) (mgName 5) l_law_atoms_1)))
      (mNx)
def b_law_atoms : S → Rs :=
  mSeq (mAsg (mLst (mNil)) (mgName 1))
    (mSeq (mAsg (mLst (mCons (mVar 0) (mNil))) (mgName 2))
    (mSeq (mFor (mIt oRg1 (mCons (mC (.int 600)) (mNil))) (mgName 3) l_law_atoms_2)
    (mRet (mVar 1))))
def m_law_atoms : List D → R D := runM false 1 6 b_law_atoms
def l_atoms_of_1 (r_atoms_of : List D → R D) : S → Rs :=
  mExt 1 (mCall r_atoms_of (mCons (mVar 2) (mNil)))
def b_atoms_of (r_atoms_of : List D → R D) : S → Rs :=
  mSeq (mIfS (mTst (mOp oEq (mOp oIx (mVar 0) (mC (.int 0))) (mC (.str "is"))))
      (mRet (mLst (mCons (mVar 0) (mNil))))
      (mNx))
    (mSeq (mAsg (mLst (mNil)) (mgName 1))
    (mSeq (mFor (mSeqI (mSl (mVar 0) (mPart (mC (.int 1))) (mNo))) (mgName 2) (l_atoms_of_1 r_atoms_of))
    (mRet (mVar 1))))
def m_atoms_of : Nat → List D → R D
  | 0 => fun _ => .bad
  | n + 1 => runM true 1 3 (b_atoms_of (m_atoms_of n))
def b_law_equal (r_law_equal : List D → R D) : S → Rs :=
  mSeq (mIfS (mOr (mTst (mOp1 (oIsi "list") (mVar 1))) (mTst (mOp1 (oIsi "tuple") (mVar 1))))
      (mSeq (mIfS (mAnd (mTst (mOp1 (oIsi "list") (mVar 1))) (mNot (mTst (mOp1 (oIsi "list") (mVar 0)))))
      (mRet (mC (.bl false)))
      (mNx))
    (mSeq (mIfS (mAnd (mTst (mOp1 (oIsi "tuple") (mVar 1))) (mNot (mTst (mOp1 (oIsi "tuple") (mVar 0)))))
      (mRet (mC (.bl false)))
      (mNx))
    (mSeq (mIfS (mTst (mOp oNe (mOpA oLen (mCons (mVar 0) mNil)) (mOpA oLen (mCons (mVar 1) mNil))))
      (mRet (mC (.bl false)))
      (mNx))
    (mRet (mOpA oAll1 (mCons (mLc (mIt oRg1 (mCons (mOpA oLen (mCons (mVar 1) mNil)) (mNil))) (mgName 2) (mYes) (mCall r_law_equal (mCons (mOp oIx (mVar 0) (mVar 2)) (mCons (mOp oIx (mVar 1) (mVar 2)) (mNil)))) [2]) mNil))))))
      (mNx))
    (mSeq (mIfS (mTst (mOp1 (oIsi "bool") (mVar 1)))
      (mRet (mAndV (mOp1 (oIsi "bool") (mVar 0)) (mOp oEq (mVar 0) (mVar 1))))
      (mNx))
    (mSeq (mIfS (mTst (mOp1 (oIsi "int") (mVar 1)))
      (mRet (mAndV (mOp1 (oIsi "int") (mVar 0)) (mAndV (mNotV (mOp1 (oIsi "bool") (mVar 0))) (mOp oEq (mVar 0) (mVar 1)))))
      (mNx))
    (mRet (mAndV (mOp1 (oIsi "str") (mVar 0)) (mOp oEq (mVar 0) (mVar 1))))))
def m_law_equal : Nat → List D → R D
  | 0 => fun _ => .bad
  | n + 1 => runM false 2 3 (b_law_equal (m_law_equal n))
def l_law_names_1 : S → Rs :=
  mIfS (mOr (mTst (mOp oIn (mVar 10) (mVar 6))) (mTst (mOp oIn (mVar 10) (mVar 2))))
      (mAsg (mOp oAdd (mVar 10) (mC (.str "_"))) (mgName 10))
      (mNx)
def l_law_names_2 : S → Rs :=
  mSeq (mAsg (mSl (mVar 5) (mPart (mOp oMul (mC (.int 8)) (mVar 7))) (mPart (mOp oAdd (mOp oMul (mC (.int 8)) (mVar 7)) (mC (.int 8))))) (mgName 8))
    (mSeq (mAsg (mOp oMod (mOpA oInt (mCons (mOp oFdiv (mOp oIx (mVar 8) (mC (.int 0))) (mC (.int 182))) mNil)) (mC (.int 3))) (mgName 9))
    (mSeq (mAsg (mOp oAdd (mOp oIx (mVar 3) (mOp oMod (mOpA oInt (mCons (mOp oIx (mVar 8) (mC (.int 0))) mNil)) (mC (.int 26)))) (mStrM oJoin (mC (.str "")) (mLc (mIt oRg1 (mCons (mOp oMod (mOpA oInt (mCons (mOp oFdiv (mOp oIx (mVar 8) (mC (.int 0))) (mC (.int 26))) mNil)) (mC (.int 7))) (mNil))) (mgName 13) (mYes) (mOp oIx (mVar 4) (mOp oMod (mOpA oInt (mCons (mOp oIx (mVar 8) (mOp oAdd (mC (.int 1)) (mVar 13))) mNil)) (mC (.int 63)))) [13]))) (mgName 10))
    (mSeq (mIfS (mAnd (mTst (mOp oEq (mVar 9) (mC (.int 1)))) (mTst (mOp oGt (mVar 7) (mC (.int 0)))))
      (mSeq (mAsg (mOp oMod (mOpA oInt (mCons (mOp oIx (mVar 8) (mC (.int 1))) mNil)) (mOpA oLen (mCons (mOp oIx (mVar 6) (mOp oSub (mVar 7) (mC (.int 1)))) mNil))) (mgName 11))
    (mSeq (mAsg (mOp oIx (mVar 4) (mOp oMod (mOpA oInt (mCons (mOp oIx (mVar 8) (mC (.int 2))) mNil)) (mC (.int 63)))) (mgName 12))
    (mSeq (mIfS (mTst (mOp oEq (mVar 11) (mC (.int 0))))
      (mAsg (mOp oIx (mVar 3) (mOp oMod (mOpA oInt (mCons (mOp oIx (mVar 8) (mC (.int 2))) mNil)) (mC (.int 26)))) (mgName 12))
      (mNx))
    (mAsg (mOp oAdd (mOp oAdd (mSl (mOp oIx (mVar 6) (mOp oSub (mVar 7) (mC (.int 1)))) (mNo) (mPart (mVar 11))) (mVar 12)) (mSl (mOp oIx (mVar 6) (mOp oSub (mVar 7) (mC (.int 1)))) (mPart (mOp oAdd (mVar 11) (mC (.int 1)))) (mNo))) (mgName 10)))))
      (mNx))
    (mSeq (mIfS (mAnd (mTst (mOp oEq (mVar 9) (mC (.int 2)))) (mTst (mOp oGt (mVar 7) (mC (.int 0)))))
      (mAsg (mOp oAdd (mOp oIx (mVar 6) (mOp oSub (mVar 7) (mC (.int 1)))) (mOp oIx (mVar 4) (mOp oMod (mOpA oInt (mCons (mOp oIx (mVar 8) (mC (.int 1))) mNil)) (mC (.int 63))))) (mgName 10))
      (mNx))
    (mSeq (mIfS (mAnd (mTst (mOp oEq (mVar 9) (mC (.int 2)))) (mTst (mOp oEq (mVar 7) (mC (.int 0)))))
      (mAsg (mOp oAdd (mOp oIx (mVar 2) (mOp oMod (mOpA oInt (mCons (mOp oIx (mVar 8) (mC (.int 1))) mNil)) (mC (.int 9)))) (mOp oIx (mVar 4) (mOp oMod (mOpA oInt (mCons (mOp oIx (mVar 8) (mC (.int 2))) mNil)) (mC (.int 63))))) (mgName 10))
      (mNx))
    (mSeq (mFor (mIt oRg1 (mCons (mOp oAdd (mVar 1) (mC (.int 1))) (mNil))) (mgName 13) l_law_names_1)
    (mApp 6 (mVar 10))))))))
def b_law_names : S → Rs :=
  mSeq (mAsg (mLst (mCons (mC (.str "all")) (mCons (mC (.str "true")) (mCons (mC (.str "false")) (mCons (mC (.str "not")) (mCons (mC (.str "and")) (mCons (mC (.str "or")) (mCons (mC (.str "relation")) (mCons (mC (.str "values")) (mCons (mC (.str "symmetric")) (mNil))))))))))) (mgName 2))
    (mSeq (mAsg (mC (.str "abcdefghijklmnopqrstuvwxyz")) (mgName 3))
    (mSeq (mAsg (mOp oAdd (mOp oAdd (mVar 3) (mC (.str "ABCDEFGHIJKLMNOPQRSTUVWXYZ"))) (mC (.str "0123456789_"))) (mgName 4))
    (mSeq (mAsg (mCall m_law_digits (mCons (mVar 0) (mCons (mC (.int 3276)) (mCons (mOp oMul (mC (.int 8)) (mVar 1)) (mNil))))) (mgName 5))
    (mSeq (mAsg (mLst (mNil)) (mgName 6))
    (mSeq (mFor (mIt oRg1 (mCons (mVar 1) (mNil))) (mgName 7) l_law_names_2)
    (mRet (mVar 6)))))))
def m_law_names : List D → R D := runM false 2 14 b_law_names
def b_law_cell : S → Rs :=
  mSeq (mIfS (mTst (mOp oLt (mVar 1) (mOpA oLen (mCons (mVar 0) mNil))))
      (mRet (mOp oIx (mVar 0) (mVar 1)))
      (mNx))
    (mSeq (mIfS (mTst (mOp oEq (mOpA oLen (mCons (mVar 0) mNil)) (mC (.int 0))))
      (mRet (mOp oMul (mVar 1) (mC (.int 1009))))
      (mNx))
    (mRet (mOp oAdd (mOp oMul (mOp oIx (mVar 0) (mOp oMod (mOpA oInt (mCons (mVar 1) mNil)) (mOpA oLen (mCons (mVar 0) mNil)))) (mC (.int 31))) (mOp oMul (mVar 1) (mC (.int 1009))))))
def m_law_cell : List D → R D := runM false 2 2 b_law_cell
def l_law_1 : S → Rs :=
  mSeq (mAsg (mOp oFdiv (mVar 4) (mC (.int 4))) (mgName 4))
    (mAsg (mTup (mCons (mOp oIx (mLst (mCons (mC (.str "and")) (mCons (mC (.str "or")) (mCons (mC (.str "implies")) (mCons (mC (.str "same")) (mNil)))))) (mOp oMod (mOpA oInt (mCons (mVar 4) mNil)) (mC (.int 4)))) (mCons (mVar 3) (mCons (mVar 3) (mNil))))) (mgName 3))
def b_law : S → Rs :=
  mSeq (mAsg (mCall m_law_offered (mCons (mCall m_law_names (mCons (mCall m_law_cell (mCons (mVar 0) (mCons (mC (.int 0)) (mNil)))) (mCons (mC (.int 3)) (mNil)))) (mCons (mCall m_law_cell (mCons (mVar 0) (mCons (mC (.int 1)) (mNil)))) (mNil)))) (mgName 1))
    (mSeq (mAsg (mOp oAdd (mC (.int 1)) (mOp oMod (mOpA oInt (mCons (mCall m_law_cell (mCons (mVar 0) (mCons (mC (.int 2)) (mNil)))) mNil)) (mC (.int 4)))) (mgName 2))
    (mSeq (mAsg (mCall m_law_formula (mCons (mCall m_law_cell (mCons (mVar 0) (mCons (mC (.int 3)) (mNil)))) (mCons (mVar 2) (mCons (mVar 1) (mCons (mC (.int 30)) (mNil)))))) (mgName 3))
    (mSeq (mAsg (mOp oFdiv (mOpA oInt (mCons (mCall m_law_cell (mCons (mVar 0) (mCons (mC (.int 2)) (mNil)))) mNil)) (mC (.int 4))) (mgName 4))
    (mSeq (mFor (mIt oRg1 (mCons (mOp oMod (mOpA oInt (mCons (mVar 4) mNil)) (mC (.int 4))) (mNil))) (mgName 5) l_law_1)
    (mSeq (mAsg (mCall m_law_atoms (mCons (mVar 3) (mNil))) (mgName 6))
    (mSeq (mAsg (mCall (m_atoms_of 60) (mCons (mVar 3) (mNil))) (mgName 7))
    (mSeq (mIfS (mNot (mTst (mCallS (m_law_equal 60) (mCons (mVar 7) (mCons (mVar 6) (mNil))))))
      (mRet (mC (.bl false)))
      (mNx))
    (mSeq (mRevS 7)
    (mSeq (mApp 7 (mTup (mCons (mC (.str "true")) (mNil))))
    (mRet (mCall (m_law_equal 60) (mCons (mCall (m_atoms_of 60) (mCons (mVar 3) (mNil))) (mCons (mVar 6) (mNil))))))))))))))
def m_law : List D → R D := runM false 1 8 b_law
end Mi

namespace Mi
open Dl PySem L2
theorem cell_ok (ns : List Int) (hns : ns.length ≤ 63) (k : Nat) : ∃ c : Int, m_law_cell [.scr ns, .int k] = .ok (.int c) := by
  rcases Nat.lt_or_ge k ns.length with h | h
  · refine ⟨ns[k], runM_ret rfl ?_⟩
    have e : oIx (.scr ns) (.int (k : Int)) = some (.int ns[k]) := by
      show (atI ns (k : Int)).bind _ = _
      rw [atI_ok (List.getElem?_eq_getElem h)]; rfl
    simp [b_law_cell, h, e]
  · by_cases h0 : ns.length = 0
    · have e1 : oMul (.int (k : Int)) (.int 1009) = some (.int (k * 1009)) := oMul_ok (cMul_r (by decide) (by decide))
      refine ⟨k * 1009, runM_ret rfl ?_⟩
      have h0' : ns = [] := List.length_eq_zero_iff.mp h0
      subst h0'
      have hk : ¬ ((k : Int) < 0) := by omega
      simp [b_law_cell, e1, hk]
    · have p0 : (0 : Int) < (ns.length : Int) := by omega
      obtain ⟨j, hj, hj2⟩ : ∃ j : Nat, oMod (.int (k : Int)) (.int (ns.length : Int)) = some (.int (j : Int)) ∧ j < ns.length := by
        refine ⟨((k : Int) % (ns.length : Int)).toNat, ?_, ?_⟩
        · rw [oMod_ok p0, Int.toNat_of_nonneg (Int.emod_nonneg _ (by omega))]
        · have := Int.emod_lt_of_pos (k : Int) p0
          have := Int.emod_nonneg (k : Int) (show (ns.length : Int) ≠ 0 by omega)
          omega
      have e : oIx (.scr ns) (.int (j : Int)) = some (.int ns[j]) := by
        show (atI ns (j : Int)).bind _ = _
        rw [atI_ok (List.getElem?_eq_getElem hj2)]; rfl
      have e1 : oMul (.int (k : Int)) (.int 1009) = some (.int (k * 1009)) := oMul_ok (cMul_r (by decide) (by decide))
      have e2 : oMul (.int ns[j]) (.int 31) = some (.int (ns[j] * 31)) := oMul_ok (cMul_r (by decide) (by decide))
      refine ⟨ns[j] * 31 + k * 1009, runM_ret rfl ?_⟩
      have h0' : ns ≠ [] := fun z => h0 (by rw [z]; rfl)
      simp [b_law_cell, Nat.not_lt.mpr h, h0', hj, e, e1, e2]
theorem digits_turn {c many n : Int} (hm : 0 < many) (hm2 : many < 2 ^ 512) (i : Nat) (hi : i < 1000) {xs : List Int} {r : Int} {b : Option D} (hl : xs.length = i) (hx : ∀ x ∈ xs, 0 ≤ x ∧ x < many) :
    ∃ (xs' : List Int) (r' : Int) (b' : Option D), l_law_digits_1 [some (.int c), some (.int many), some (.int n), some (.lst (xs.map D.int)), some (.int r), some (.int i), b] = .nx [some (.int c), some (.int many), some (.int n), some (.lst (xs'.map D.int)), some (.int r'), some (.int i), b'] ∧ xs'.length = i + 1 ∧ ∀ x ∈ xs', 0 ≤ x ∧ x < many := by
  have push : ∀ x : Int, pushL (.int x) (xs.map D.int) = some ((xs ++ [x]).map D.int) := fun x => by
    unfold pushL
    rw [if_pos (by rw [List.length_map, hl]; exact Nat.lt_of_lt_of_le hi (by decide)), List.map_append]
    rfl
  have ok : ∀ z : Int, ∀ x ∈ xs ++ [z % many], 0 ≤ x ∧ x < many := fun z x h => by
    rcases List.mem_append.mp h with h | h
    · exact hx x h
    · rw [List.mem_singleton.mp h]
      exact ⟨Int.emod_nonneg _ (by omega), Int.emod_lt_of_pos _ hm⟩
  have len : ∀ z : Int, (xs ++ [z]).length = i + 1 := fun z => by rw [List.length_append, hl]; rfl
  rcases Int.lt_or_le c 1000000000000000000 with hc' | hc
  rotate_left 1
  · refine ⟨xs ++ [r % many], r / many, b, ?_, len _, ok _⟩
    simp [l_law_digits_1, hc, oMod_ok hm, oFdiv_big hm hm2, push]
  · have hc := Int.not_le.mpr hc'
    have h1 : oMul (.int c) (.int 40503) = some (.int (c * 40503)) := oMul_ok (cMul_r (by decide) (by decide))
    have h2 : oMul (.int (i : Int)) (.int 90121) = some (.int (i * 90121)) := oMul_ok (cMul_r (by decide) (by decide))
    obtain ⟨m, h5, m0, m1⟩ : ∃ m : Int, oMod (.int (c * 40503 + i * 90121 + 77)) (.int 2147483647) = some (.int m) ∧ 0 ≤ m ∧ m < 2147483647 := ⟨_, oMod_ok (by decide), Int.emod_nonneg _ (by decide), Int.emod_lt_of_pos _ (by decide)⟩
    have h3 : oMul (.int m) (.int m) = some (.int (m * m)) := oMul_ok (cMul_r (by omega) (by omega))
    have h4 : oMul (.int 11) (.int m) = some (.int (11 * m)) := oMul_ok (cMul_l (by decide) (by decide))
    have h4' : oMul (.int 3) (.int (i : Int)) = some (.int (3 * i)) := oMul_ok (cMul_l (by decide) (by decide))
    obtain ⟨k, h6⟩ : ∃ k : Int, oMod (.int (m * m + 11 * m + 3 * i)) (.int 2147483629) = some (.int k) := ⟨_, oMod_ok (by decide)⟩
    obtain ⟨z, h7⟩ : ∃ z : Int, oFdiv (.int k) (.int 37) = some (.int z) := ⟨_, oFdiv_ok (by decide) (by decide)⟩
    refine ⟨xs ++ [z % many], r, some (.int k), ?_, len _, ok _⟩
    simp [l_law_digits_1, hc, h1, h2, h3, h4, h4', h5, h6, h7, oMod_ok hm, push]
/-- the digits of a cell -/
theorem digits_ok {c many n : Int} (hm : 0 < many) (hm2 : many < 2 ^ 512) (hn : 0 ≤ n) (hn2 : n ≤ 1000) :
    ∃ xs : List Int, m_law_digits [.int c, .int many, .int n] = .ok (.lst (xs.map D.int)) ∧ xs.length = n.toNat ∧ ∀ x ∈ xs, 0 ≤ x ∧ x < many := by
  obtain ⟨s', e, xs, r, a, b, rfl, hl, hx⟩ := loopF_inv (g := mgName 5) (body := l_law_digits_1) (ds := rgD 0 n.toNat) (s := [some (.int c), some (.int many), some (.int n), some (.lst []), some (.int c), none, none]) (fun (i : Nat) (s : S) => ∃ (xs : List Int) (r : Int) (a b : Option D), s = [some (.int c), some (.int many), some (.int n), some (.lst (xs.map D.int)), some (.int r), a, b] ∧ xs.length = i ∧ ∀ x ∈ xs, 0 ≤ x ∧ x < many) ⟨[], c, none, none, rfl, rfl, by simp⟩ (by
    rintro i d s hd ⟨xs, r, a, b, rfl, hl, hx⟩
    obtain ⟨hi, rfl⟩ := rgD_get hd
    rw [Int.zero_add]
    obtain ⟨xs', r', b', e, hl', hx'⟩ := digits_turn (c := c) (n := n) (b := b) (r := r) hm hm2 i (by omega) hl hx
    exact ⟨_, _, rfl, .inl e, xs', r', _, b', rfl, hl', hx'⟩)
  refine ⟨xs, runM_ret rfl ?_, by rw [hl, rgD_length], hx⟩
  simp [b_law_digits, oRg1_ok hn (show n ≤ 1000000000 by omega), oLst, e]
/-- an index below a bound, from a digit -/
theorem mod_nat (x : Int) (n : Nat) (h : 0 < n) : ∃ j : Nat, oMod (.int x) (.int (n : Int)) = some (.int (j : Int)) ∧ j < n := by
  have p0 : (0 : Int) < (n : Int) := by omega
  refine ⟨(x % (n : Int)).toNat, ?_, ?_⟩
  · rw [oMod_ok p0, Int.toNat_of_nonneg (Int.emod_nonneg _ (by omega))]
  · have := Int.emod_lt_of_pos x p0
    have := Int.emod_nonneg x (show (n : Int) ≠ 0 by omega)
    omega
theorem mod_lit (x m : Int) (n : Nat) (e : m = (n : Int)) (h : 0 < n) : ∃ j : Nat, oMod (.int x) (.int m) = some (.int (j : Int)) ∧ j < n := by
  subst e
  exact mod_nat x n h
theorem fdiv_ex (x : Int) (j : Int) (h : 0 < j) (h2 : j < 2 ^ 512) : ∃ z : Int, oFdiv (.int x) (.int j) = some (.int z) := ⟨_, oFdiv_big h h2⟩
end Mi

namespace Mi
open Dl PySem L2
def small : Str := "abcdefghijklmnopqrstuvwxyz"
def inner : Str := small ++ ("ABCDEFGHIJKLMNOPQRSTUVWXYZ" : Str) ++ ("0123456789_" : Str)
theorem good_of {x : Str} {n : Nat} (h : (x.cps.toList.all (fun c => decide (c < 1114112)) && decide (x.length ≤ n)) = true) : GoodS n x := by
  rw [Bool.and_eq_true, List.all_eq_true] at h
  exact ⟨fun c hc => of_decide_eq_true (h.1 c hc), of_decide_eq_true h.2⟩
theorem small_good : GoodS 26 small := good_of (by decide +kernel)
theorem inner_good : GoodS 63 inner := good_of (by decide +kernel)
theorem small_len : small.cps.toList.length = 26 := by decide +kernel
theorem inner_len : inner.cps.toList.length = 63 := by decide +kernel
def words : List Str := ["all", "true", "false", "not", "and", "or", "relation", "values", "symmetric"]
theorem words_good : ∀ x ∈ words, GoodS 9 x := by
  intro x hx
  simp only [words, List.mem_cons, List.not_mem_nil, or_false] at hx
  rcases hx with rfl | rfl | rfl | rfl | rfl | rfl | rfl | rfl | rfl <;> exact good_of (by decide +kernel)
theorem pl_str {x : Str} {n k : Nat} (h : GoodS n x) : plD k (.str x) = true := by
  cases k <;> exact h.lay
theorem pl_strs {xs : List Str} {n k : Nat} (h : ∀ x ∈ xs, GoodS n x) : (xs.map D.str).all (plD k) = true := by
  rw [List.all_eq_true]
  intro d hd
  obtain ⟨x, hx, rfl⟩ := List.mem_map.mp hd
  exact pl_str (h x hx)
theorem in_strs {x : Str} {xs : List Str} {n m : Nat} (h : GoodS n x) (h' : ∀ y ∈ xs, GoodS m y) : ∃ b, oIn (.str x) (.lst (xs.map D.str)) = some (.bl b) := by
  obtain ⟨b, e, _⟩ := oInB_pl (pl_str h) (pl_strs h')
  exact ⟨b, by unfold oIn; rw [e]; rfl⟩
theorem row_cut {xs : List Int} {k : Nat} (h : 8 * k + 8 ≤ xs.length) : ∃ rs : List Int, cutL (xs.map D.int) (some (8 * (k : Int))) (some (8 * (k : Int) + 8)) = rs.map D.int ∧ rs.length = 8 := by
  refine ⟨(xs.drop (8 * k)).take 8, ?_, by rw [List.length_take, List.length_drop]; omega⟩
  unfold cutL
  have e1 : HT.sIx (xs.map D.int).length 0 (some (8 * (k : Int))) = 8 * k := by
    unfold HT.sIx
    rw [List.length_map]
    simp only
    rw [if_neg (by omega)]
    omega
  have e2 : HT.sIx (xs.map D.int).length (xs.map D.int).length (some (8 * (k : Int) + 8)) = 8 * k + 8 := by
    unfold HT.sIx
    rw [List.length_map]
    simp only
    rw [if_neg (by omega)]
    omega
  rw [e1, e2, show 8 * k + 8 - 8 * k = 8 by omega, List.map_take, List.map_drop]
theorem at_row {rs : List Int} {i : Nat} (h : i < rs.length) : atI (rs.map D.int) (i : Int) = some (.int rs[i]) := atI_ok (by rw [List.getElem?_map, List.getElem?_eq_getElem h]; rfl)
theorem paired_strs {ds ys : List D} {n : Nat} (h : Paired (fun _ y => ∃ x : Str, y = D.str x ∧ GoodS n x) ds ys) : ∃ xs : List Str, ys = xs.map D.str ∧ xs.length = ds.length ∧ ∀ x ∈ xs, GoodS n x := by
  induction h with
  | nil => exact ⟨[], rfl, rfl, by simp⟩
  | cons h _ ih =>
    obtain ⟨x, rfl, hx⟩ := h
    obtain ⟨xs, rfl, hl, hxs⟩ := ih
    exact ⟨x :: xs, rfl, by simp [hl], fun z hz => by
      rcases List.mem_cons.mp hz with rfl | hz
      · exact hx
      · exact hxs z hz⟩
/-- the underscores -/
theorem names_1 {c : Int} {dg : D} {names : List Str} {k row way at' mid : Option D} {n B : Nat} {x : Str} (hx : GS B x) (hB : B + 4 ≤ 1000000) (hn : ∀ y ∈ names, GoodS n y) (j0 : Option D) :
    ∃ (x' : Str) (j' : Option D), loopF (mgName 13) l_law_names_1 (rgD 0 4) [some (.int c), some (.int 3), some (.lst (words.map D.str)), some (.str small), some (.str inner), some dg, some (.lst (names.map D.str)), k, row, way, some (.str x), at', mid, j0]
      = .nx [some (.int c), some (.int 3), some (.lst (words.map D.str)), some (.str small), some (.str inner), some dg, some (.lst (names.map D.str)), k, row, way, some (.str x'), at', mid, j'] ∧ GS (B + 4) x' := by
  obtain ⟨s', e, x', j', rfl, hx'⟩ := loopF_inv (g := mgName 13) (body := l_law_names_1) (ds := rgD 0 4) (s := [some (.int c), some (.int 3), some (.lst (words.map D.str)), some (.str small), some (.str inner), some dg, some (.lst (names.map D.str)), k, row, way, some (.str x), at', mid, j0])
    (fun i s => ∃ (x' : Str) (j' : Option D), s = [some (.int c), some (.int 3), some (.lst (words.map D.str)), some (.str small), some (.str inner), some dg, some (.lst (names.map D.str)), k, row, way, some (.str x'), at', mid, j'] ∧ GS (B + i) x') ⟨x, j0, rfl, hx⟩ (by
    rintro i d s hd ⟨x', j', rfl, hx'⟩
    obtain ⟨hi, rfl⟩ := rgD_get hd
    obtain ⟨b1, h1⟩ := in_strs hx'.1 hn
    obtain ⟨b2, h2⟩ := in_strs hx'.1 words_good
    have u1 : GoodS 1 "_" := good_of (by decide +kernel)
    have h3 : oAdd (.str x') (.str "_") = some (.str (x' ++ "_")) := oAdd_str hx'.1 u1 (by omega)
    have g3 : GS (B + (i + 1)) (x' ++ ("_" : Str)) := (hx'.app u1).mono (by omega)
    cases b1 with
    | true => exact ⟨_, _, rfl, .inl (by simp [l_law_names_1, h1, h3]; rfl), _, _, rfl, g3⟩
    | false =>
      cases b2 with
      | true => exact ⟨_, _, rfl, .inl (by simp [l_law_names_1, h1, h2, h3]; rfl), _, _, rfl, g3⟩
      | false => exact ⟨_, _, rfl, .inl (by simp [l_law_names_1, h1, h2]; rfl), _, _, rfl, hx'.mono (by omega)⟩)
  exact ⟨x', j', e, hx'⟩
end Mi

namespace Mi
open Dl PySem L2
/-- the three ways of a name -/
theorem names_turn {c : Int} {xs : List Int} {names : List Str} {k : Nat} (hk : k < 3) (hxs : xs.length = 24) (hl : names.length = k) {B : Nat} (hB : 14 ≤ B) (hB2 : B ≤ 1000) (hn : ∀ y ∈ names, GS B y) (r w x a m j : Option D) :
    ∃ (y : Str) (r' w' x' a' m' j' : Option D), l_law_names_2 [some (.int c), some (.int 3), some (.lst (words.map D.str)), some (.str small), some (.str inner), some (.lst (xs.map D.int)), some (.lst (names.map D.str)), some (.int k), r, w, x, a, m, j]
      = .nx [some (.int c), some (.int 3), some (.lst (words.map D.str)), some (.str small), some (.str inner), some (.lst (xs.map D.int)), some (.lst ((names ++ [y]).map D.str)), some (.int k), r', w', x', a', m', j'] ∧ GS (3 * B) y := by
  obtain ⟨rs, e1, l1⟩ := row_cut (xs := xs) (k := k) (by omega)
  have m8 : oMul (.int 8) (.int (k : Int)) = some (.int (8 * k)) := oMul_ok (cMul_l (by decide) (by decide))
  have r0 : atI (rs.map D.int) 0 = some (.int rs[0]) := at_row (i := 0) (by omega)
  have r1 : atI (rs.map D.int) 1 = some (.int rs[1]) := at_row (i := 1) (by omega)
  have r2 : atI (rs.map D.int) 2 = some (.int rs[2]) := at_row (i := 2) (by omega)
  obtain ⟨z1, d1⟩ := fdiv_ex rs[0] 182 (by decide) (by decide)
  obtain ⟨way, d2, way3⟩ := mod_lit z1 3 3 rfl (by decide)
  obtain ⟨i0, d3, i0l⟩ := mod_lit rs[0] 26 26 rfl (by decide)
  obtain ⟨s0, d4, g0⟩ := strIx_ok small_good (by decide) (i := i0) (by rw [small_len]; exact i0l)
  obtain ⟨z2, d5⟩ := fdiv_ex rs[0] 26 (by decide) (by decide)
  obtain ⟨n7, d6, n7l⟩ := mod_lit z2 7 7 rfl (by decide)
  obtain ⟨i1, d7, i1l⟩ := mod_lit rs[1] 63 63 rfl (by decide)
  obtain ⟨s1, d8, g1⟩ := strIx_ok inner_good (by decide) (i := i1) (by rw [inner_len]; exact i1l)
  obtain ⟨i2, d9, i2l⟩ := mod_lit rs[2] 63 63 rfl (by decide)
  obtain ⟨s2, d10, g2⟩ := strIx_ok inner_good (by decide) (i := i2) (by rw [inner_len]; exact i2l)
  obtain ⟨i3, d11, i3l⟩ := mod_lit rs[2] 26 26 rfl (by decide)
  obtain ⟨s3, d12, g3⟩ := strIx_ok small_good (by decide) (i := i3) (by rw [small_len]; exact i3l)
  obtain ⟨i4, d13, i4l⟩ := mod_lit rs[1] 9 9 rfl (by decide)
  have w9 : words.length = 9 := rfl
  have d14 : atI (words.map D.str) (i4 : Int) = some (.str words[i4]) := atI_ok (by rw [List.getElem?_map, List.getElem?_eq_getElem (by omega)]; rfl)
  have gw := words_good words[i4] (List.getElem_mem _)
  have gw0 : 0 < words[i4].length := by
    have : ∀ x ∈ words, 0 < x.length := by decide +kernel
    exact this _ (List.getElem_mem _)
  -- the letters behind the first
  obtain ⟨ys, e2, p2⟩ := mLc_ex (mi := mIt oRg1 (mCons (mOp oMod (mOpA oInt (mCons (mOp oFdiv (mOp oIx (mVar 8) (mC (.int 0))) (mC (.int 26))) mNil)) (mC (.int 7))) (mNil))) (g := mgName 13) (vs := [13]) (e := mOp oIx (mVar 4) (mOp oMod (mOpA oInt (mCons (mOp oIx (mVar 8) (mOp oAdd (mC (.int 1)) (mVar 13))) mNil)) (mC (.int 63))))
    (s := [some (.int c), some (.int 3), some (.lst (words.map D.str)), some (.str small), some (.str inner), some (.lst (xs.map D.int)), some (.lst (names.map D.str)), some (.int k), some (.lst (rs.map D.int)), some (.int way), x, a, m, j]) (ds := rgD 0 n7) (fun _ y => ∃ x : Str, y = D.str x ∧ GoodS 1 x) (by simp [r0, d5, d6, oRg1_nat (show n7 ≤ 1000000000 by omega)]) (by rw [rgD_length]; exact Nat.le_trans (Nat.le_of_lt n7l) (by decide)) (by
      intro d hd
      obtain ⟨i, hi, rfl⟩ := rgD_mem hd
      rw [Int.zero_add]
      have f1 : atI (rs.map D.int) (1 + (i : Int)) = some (.int rs[1 + i]) := by
        have := at_row (rs := rs) (i := 1 + i) (by omega)
        rw [show ((1 + i : Nat) : Int) = 1 + (i : Int) by omega] at this
        exact this
      obtain ⟨q, f2, ql⟩ := mod_lit rs[1 + i] 63 63 rfl (by decide)
      obtain ⟨u, f3, gu⟩ := strIx_ok inner_good (by decide) (i := q) (by rw [inner_len]; exact ql)
      have f2' := f2
      exact ⟨_, .str u, rfl, by simp [f1, f2', f3], u, rfl, gu.1⟩)
  obtain ⟨us, rfl, lus, gus⟩ := paired_strs p2
  rw [rgD_length] at lus
  obtain ⟨j1, gj⟩ := join_ok (n := 1) (ys := us) gus (by omega)
  have a1 : oAdd (.str s0) (.str (Txt.join "" us)) = some (.str (s0 ++ Txt.join "" us)) := oAdd_str g0.1 gj (by omega)
  have gx0 : GS (B) (s0 ++ Txt.join "" us) := (GS.app g0 gj).mono (by omega)
  generalize s0 ++ Txt.join "" us = x0 at a1 gx0
  -- the name by its way
  obtain ⟨x1, a', m', hx1, gx1⟩ : ∃ (x1 : Str) (a' m' : Option D), (mSeq (mIfS (mAnd (mTst (mOp oEq (mVar 9) (mC (.int 1)))) (mTst (mOp oGt (mVar 7) (mC (.int 0)))))
      (mSeq (mAsg (mOp oMod (mOpA oInt (mCons (mOp oIx (mVar 8) (mC (.int 1))) mNil)) (mOpA oLen (mCons (mOp oIx (mVar 6) (mOp oSub (mVar 7) (mC (.int 1)))) mNil))) (mgName 11))
    (mSeq (mAsg (mOp oIx (mVar 4) (mOp oMod (mOpA oInt (mCons (mOp oIx (mVar 8) (mC (.int 2))) mNil)) (mC (.int 63)))) (mgName 12))
    (mSeq (mIfS (mTst (mOp oEq (mVar 11) (mC (.int 0))))
      (mAsg (mOp oIx (mVar 3) (mOp oMod (mOpA oInt (mCons (mOp oIx (mVar 8) (mC (.int 2))) mNil)) (mC (.int 26)))) (mgName 12))
      (mNx))
    (mAsg (mOp oAdd (mOp oAdd (mSl (mOp oIx (mVar 6) (mOp oSub (mVar 7) (mC (.int 1)))) (mNo) (mPart (mVar 11))) (mVar 12)) (mSl (mOp oIx (mVar 6) (mOp oSub (mVar 7) (mC (.int 1)))) (mPart (mOp oAdd (mVar 11) (mC (.int 1)))) (mNo))) (mgName 10)))))
      (mNx))
    (mSeq (mIfS (mAnd (mTst (mOp oEq (mVar 9) (mC (.int 2)))) (mTst (mOp oGt (mVar 7) (mC (.int 0)))))
      (mAsg (mOp oAdd (mOp oIx (mVar 6) (mOp oSub (mVar 7) (mC (.int 1)))) (mOp oIx (mVar 4) (mOp oMod (mOpA oInt (mCons (mOp oIx (mVar 8) (mC (.int 1))) mNil)) (mC (.int 63))))) (mgName 10))
      (mNx))
    (mIfS (mAnd (mTst (mOp oEq (mVar 9) (mC (.int 2)))) (mTst (mOp oEq (mVar 7) (mC (.int 0)))))
      (mAsg (mOp oAdd (mOp oIx (mVar 2) (mOp oMod (mOpA oInt (mCons (mOp oIx (mVar 8) (mC (.int 1))) mNil)) (mC (.int 9)))) (mOp oIx (mVar 4) (mOp oMod (mOpA oInt (mCons (mOp oIx (mVar 8) (mC (.int 2))) mNil)) (mC (.int 63))))) (mgName 10))
      (mNx)))) [some (.int c), some (.int 3), some (.lst (words.map D.str)), some (.str small), some (.str inner), some (.lst (xs.map D.int)), some (.lst (names.map D.str)), some (.int k), some (.lst (rs.map D.int)), some (.int way), some (.str x0), a, m, j]
      = .nx [some (.int c), some (.int 3), some (.lst (words.map D.str)), some (.str small), some (.str inner), some (.lst (xs.map D.int)), some (.lst (names.map D.str)), some (.int k), some (.lst (rs.map D.int)), some (.int way), some (.str x1), a', m', j] ∧ GS (2 * B + 1) x1 := by
    rcases Nat.eq_zero_or_pos k with k0 | k0
    · subst k0
      by_cases hw : (way : Int) = 2
      · have h1 : oAdd (.str words[i4]) (.str s2) = some (.str (words[i4] ++ s2)) := oAdd_str gw g2.1 (by omega)
        exact ⟨words[i4] ++ s2, a, m, by simp [hw, r1, r2, d13, d14, d9, d10, h1], (GS.app ⟨gw, gw0⟩ g2.1).mono (by omega)⟩
      · exact ⟨x0, a, m, by simp [hw], gx0.mono (by omega)⟩
    · obtain ⟨pv, hpv, gpv⟩ : ∃ pv, names[k - 1]? = some pv ∧ GS B pv := ⟨names[k - 1], List.getElem?_eq_getElem (by omega), hn _ (List.getElem_mem _)⟩
      have f1 : atI (names.map D.str) ((k : Int) - 1) = some (.str pv) := by
        rw [show ((k : Int) - 1) = ((k - 1 : Nat) : Int) by omega]
        exact atI_ok (by rw [List.getElem?_map, hpv]; rfl)
      have kp : 0 < (k : Int) := by omega
      have kz : ¬ ((k : Int) = 0) := by omega
      by_cases hw : (way : Int) = 1
      · obtain ⟨q, f2, ql⟩ := mod_nat rs[1] pv.length gpv.2
        have f3 : oLen [.str pv] = some (.int pv.length) := oLen_str gpv.1 (by omega)
        have t1 : oSl (.str pv) none (some (q : Int)) = some (.str (cutS pv none (some (q : Int)))) := oSl_str gpv.1 (by omega) _ _
        have t2 : oSl (.str pv) (some ((q : Int) + 1)) none = some (.str (cutS pv (some ((q : Int) + 1)) none)) := oSl_str gpv.1 (by omega) _ _
        have c1 := gpv.1.cut none (some (q : Int))
        have c2 := gpv.1.cut (some ((q : Int) + 1)) none
        by_cases hq : q = 0
        · subst hq
          have u1 : oSl (.str pv) none (some 0) = some (.str (cutS pv none (some 0))) := oSl_str gpv.1 (by omega) _ _
          have u2 : oSl (.str pv) (some 1) none = some (.str (cutS pv (some 1) none)) := oSl_str gpv.1 (by omega) _ _
          have v1 := gpv.1.cut none (some 0)
          have v2 := gpv.1.cut (some 1) none
          have t3 := oAdd_str v1 g3.1 (by omega)
          have t4 := oAdd_str (GS.app' v1 g3).1 v2 (by omega)
          refine ⟨_, some (.int 0), some (.str s3), ?_, (GS.app (GS.app' v1 g3) v2).mono (by omega)⟩
          simp [hw, k0, f1, f3, r1, f2, r2, d9, d10, d11, d12, u1, u2, t3, t4]
        · have t3 := oAdd_str c1 g2.1 (by omega)
          have t4 := oAdd_str (GS.app' c1 g2).1 c2 (by omega)
          refine ⟨_, some (.int q), some (.str s2), ?_, (GS.app (GS.app' c1 g2) c2).mono (by omega)⟩
          simp [hw, k0, f1, f3, r1, f2, r2, d9, d10, d11, d12, hq, t1, t2, t3, t4]
      · by_cases hw2 : (way : Int) = 2
        · have t3 := oAdd_str gpv.1 g1.1 (by omega)
          refine ⟨_, a, m, ?_, (GS.app gpv g1.1).mono (by omega)⟩
          simp [hw2, k0, Nat.pos_iff_ne_zero.mp k0, f1, r1, d7, d8, t3]
        · exact ⟨x0, a, m, by simp [hw, hw2], gx0.mono (by omega)⟩
  obtain ⟨x2, j2, hx2, gx2⟩ := names_1 (c := c) (dg := .lst (xs.map D.int)) (k := some (.int k)) (row := some (.lst (rs.map D.int))) (way := some (.int way)) (at' := a') (mid := m') gx1 (by omega) (fun y hy => (hn y hy).1) j
  have hp : pushL (.str x2) (names.map D.str) = some ((names ++ [x2]).map D.str) := by
    rw [pushL_ok (by rw [List.length_map, hl]; exact Nat.lt_of_lt_of_le hk (by decide)), List.map_append]; rfl
  refine ⟨x2, some (.lst (rs.map D.int)), some (.int way), some (.str x2), a', m', j2, ?_, gx2.mono (by omega)⟩
  unfold l_law_names_2
  refine (mSeq_nx (s' := [some (.int c), some (.int 3), some (.lst (words.map D.str)), some (.str small), some (.str inner), some (.lst (xs.map D.int)), some (.lst (names.map D.str)), some (.int k), some (.lst (rs.map D.int)), w, x, a, m, j]) (by simp [m8, e1])).trans ?_
  refine (mSeq_nx (s' := [some (.int c), some (.int 3), some (.lst (words.map D.str)), some (.str small), some (.str inner), some (.lst (xs.map D.int)), some (.lst (names.map D.str)), some (.int k), some (.lst (rs.map D.int)), some (.int way), x, a, m, j]) (by simp [r0, d1, d2])).trans ?_
  refine (mSeq_nx (s' := [some (.int c), some (.int 3), some (.lst (words.map D.str)), some (.str small), some (.str inner), some (.lst (xs.map D.int)), some (.lst (names.map D.str)), some (.int k), some (.lst (rs.map D.int)), some (.int way), some (.str x0), a, m, j]) ?_).trans ?_
  · refine mAsg_ok (mOp_ok (x := .str s0) (y := .str (Txt.join "" us)) (by simp [r0, d3, d4]) ?_ a1)
    unfold mStrM
    rw [e2]
    exact congrArg ofO j1
  have hseq : ∀ (p q r t u v : S → Rs) (s s1 s2 : S), (mSeq p (mSeq q r)) s = .nx s1 → t s1 = .nx s2 → mSeq p (mSeq q (mSeq r (mSeq t u))) s = u s2 := by
    intro p q r t u v s s1 s2 h1 h2
    unfold mSeq at h1 ⊢
    cases ep : p s with
    | nx sp =>
      rw [ep] at h1
      simp only at h1 ⊢
      cases eq : q sp with
      | nx sq =>
        rw [eq] at h1
        simp only at h1 ⊢
        rw [h1]
        simp only
        rw [h2]
      | _ => rw [eq] at h1; cases h1
    | _ => rw [ep] at h1; cases h1
  refine (hseq _ _ _ _ _ mNx _ _ _ hx1 (?_ : _ = Rs.nx [some (.int c), some (.int 3), some (.lst (words.map D.str)), some (.str small), some (.str inner), some (.lst (xs.map D.int)), some (.lst (names.map D.str)), some (.int k), some (.lst (rs.map D.int)), some (.int way), some (.str x2), a', m', j2])).trans ?_
  · have e4 : oRg1 [.int 4] = some (rgD 0 4) := oRg1_nat (n := 4) (by decide)
    show mFor _ _ _ _ = _
    rw [mFor_ok (ds := rgD 0 4) (by simp [e4])]
    exact hx2
  · simp [hp]
end Mi

namespace Mi
open Dl PySem L2
theorem names_ok (c : Int) : ∃ names : List Str, m_law_names [.int c, .int 3] = .ok (.lst (names.map D.str)) ∧ names.length = 3 ∧ ∀ y ∈ names, GS 1000 y := by
  obtain ⟨xs, hd, hl, hx⟩ := digits_ok (c := c) (many := 3276) (n := 24) (by decide) (by decide) (by decide) (by decide)
  have hl' : xs.length = 24 := hl
  obtain ⟨s', e, names, k, r, w, x, a, m, j, rfl, h1, h2⟩ := loopF_inv (g := mgName 7) (body := l_law_names_2) (ds := rgD 0 3) (s := [some (.int c), some (.int 3), some (.lst (words.map D.str)), some (.str small), some (.str inner), some (.lst (xs.map D.int)), some (.lst []), none, none, none, none, none, none, none])
    (fun i s => ∃ (names : List Str) (k r w x a m j : Option D), s = [some (.int c), some (.int 3), some (.lst (words.map D.str)), some (.str small), some (.str inner), some (.lst (xs.map D.int)), some (.lst (names.map D.str)), k, r, w, x, a, m, j] ∧ names.length = i ∧ ∀ y ∈ names, GS (14 * 3 ^ i) y) ⟨[], none, none, none, none, none, none, none, rfl, rfl, by simp⟩ (by
    rintro i d s hd ⟨names, k, r, w, x, a, m, j, rfl, h1, h2⟩
    obtain ⟨hi, rfl⟩ := rgD_get hd
    rw [Int.zero_add]
    have b1 : 14 ≤ 14 * 3 ^ i ∧ 14 * 3 ^ i ≤ 1000 := by
      have : i = 0 ∨ i = 1 ∨ i = 2 := by omega
      rcases this with rfl | rfl | rfl <;> decide
    obtain ⟨y, r', w', x', a', m', j', e, gy⟩ := names_turn (c := c) hi hl' h1 b1.1 b1.2 h2 r w x a m j
    refine ⟨_, _, rfl, .inl e, names ++ [y], _, r', w', x', a', m', j', rfl, by simp [h1], fun z hz => ?_⟩
    have b2 : 14 * 3 ^ (i + 1) = 3 * (14 * 3 ^ i) := by rw [Nat.pow_succ]; omega
    rw [b2]
    rcases List.mem_append.mp hz with hz | hz
    · exact (h2 z hz).mono (by omega)
    · rw [List.mem_singleton.mp hz]; exact gy)
  refine ⟨names, runM_ret rfl ?_, h1, fun y hy => (h2 y hy).mono (by rw [rgD_length]; decide)⟩
  have L9 : 9 ≤ LIM := by decide
  have a1 : oAdd (.str "abcdefghijklmnopqrstuvwxyz") (.str "ABCDEFGHIJKLMNOPQRSTUVWXYZ") = some (.str (small ++ "ABCDEFGHIJKLMNOPQRSTUVWXYZ")) := oAdd_str (n := 26) (m := 26) small_good (good_of (by decide +kernel)) (by decide)
  have a2 : oAdd (.str (small ++ "ABCDEFGHIJKLMNOPQRSTUVWXYZ")) (.str "0123456789_") = some (.str inner) := oAdd_str (n := 52) (m := 11) (good_of (by decide +kernel)) (good_of (by decide +kernel)) (by decide)
  have m24 : oMul (.int 8) (.int 3) = some (.int 24) := oMul_ok (cMul_l (by decide) (by decide))
  show b_law_names [some (.int c), some (.int 3), none, none, none, none, none, none, none, none, none, none, none, none] = _
  unfold b_law_names
  refine (mSeq_nx (s' := [some (.int c), some (.int 3), some (.lst (words.map D.str)), none, none, none, none, none, none, none, none, none, none, none]) (by simp [oLst, L9, words])).trans ?_
  refine (mSeq_nx (s' := [some (.int c), some (.int 3), some (.lst (words.map D.str)), some (.str small), none, none, none, none, none, none, none, none, none, none]) (by simp [small])).trans ?_
  refine (mSeq_nx (s' := [some (.int c), some (.int 3), some (.lst (words.map D.str)), some (.str small), some (.str inner), none, none, none, none, none, none, none, none, none]) ?_).trans ?_
  · refine mAsg_ok (mOp_ok (x := .str (small ++ "ABCDEFGHIJKLMNOPQRSTUVWXYZ")) (y := .str "0123456789_") (mOp_ok (x := .str small) (y := .str "ABCDEFGHIJKLMNOPQRSTUVWXYZ") (by simp) rfl a1) rfl a2)
  refine (mSeq_nx (s' := [some (.int c), some (.int 3), some (.lst (words.map D.str)), some (.str small), some (.str inner), some (.lst (xs.map D.int)), none, none, none, none, none, none, none, none]) (by simp [m24, hd])).trans ?_
  refine (mSeq_nx (s' := [some (.int c), some (.int 3), some (.lst (words.map D.str)), some (.str small), some (.str inner), some (.lst (xs.map D.int)), some (.lst []), none, none, none, none, none, none, none]) (by simp [oLst])).trans ?_
  refine (mSeq_nx (s' := [some (.int c), some (.int 3), some (.lst (words.map D.str)), some (.str small), some (.str inner), some (.lst (xs.map D.int)), some (.lst (names.map D.str)), k, r, w, x, a, m, j]) ?_).trans rfl
  rw [mFor_ok (ds := rgD 0 3) (by simp [show oRg1 [.int 3] = some (rgD 0 3) from oRg1_nat (n := 3) (by decide)])]
  exact e
/-- a relation that is offered -/
def Off (d : D) : Prop := ∃ (x : Str) (ar v : Nat), d = .tup [.str x, .int (ar : Int), .int (v : Int)] ∧ GS 1000 x ∧ 1 ≤ ar ∧ ar ≤ 3 ∧ 2 ≤ v
theorem offered_ok {names : List Str} (hl : names.length = 3) (hn : ∀ y ∈ names, GS 1000 y) (c : Int) : ∃ ds : List D, m_law_offered [.lst (names.map D.str), .int c] = .ok (.lst ds) ∧ ds.length = 3 ∧ ∀ d ∈ ds, Off d := by
  obtain ⟨s', e, ds, a, rfl, h1, h2⟩ := loopF_inv (g := mgName 3) (body := l_law_offered_1) (ds := rgD 0 3) (s := [some (.lst (names.map D.str)), some (.int c), some (.lst []), none])
    (fun i s => ∃ (ds : List D) (a : Option D), s = [some (.lst (names.map D.str)), some (.int c), some (.lst ds), a] ∧ ds.length = i ∧ ∀ d ∈ ds, Off d) ⟨[], none, rfl, rfl, by simp⟩ (by
    rintro i d s hd ⟨ds, a, rfl, h1, h2⟩
    obtain ⟨hi, rfl⟩ := rgD_get hd
    rw [Int.zero_add]
    have hi' : i < names.length := by omega
    have f1 : atI (names.map D.str) (i : Int) = some (.str names[i]) := atI_ok (by rw [List.getElem?_map, List.getElem?_eq_getElem hi']; rfl)
    obtain ⟨q, f2, ql⟩ := mod_lit (c + (i : Int)) 3 3 rfl (by decide)
    obtain ⟨z, f3⟩ := fdiv_ex c 3 (by decide) (by decide)
    obtain ⟨q2, f4, ql2⟩ := mod_lit (z + (i : Int)) 3 3 rfl (by decide)
    have f5 : ∃ v : Nat, atI [D.int 2, .int 3, .int 1000000000] (q2 : Int) = some (.int (v : Int)) ∧ 2 ≤ v := by
      have : q2 = 0 ∨ q2 = 1 ∨ q2 = 2 := by omega
      rcases this with rfl | rfl | rfl
      · exact ⟨2, rfl, by decide⟩
      · exact ⟨3, rfl, by decide⟩
      · exact ⟨1000000000, rfl, by decide⟩
    obtain ⟨v, f5, hv⟩ := f5
    have f6 : oPow (.int 10) (.int 9) = some (.int 1000000000) := by rfl
    have L3 : 3 ≤ LIM := by decide
    have f7 : pushL (.tup [.str names[i], .int (1 + (q : Int)), .int (v : Int)]) ds = some (ds ++ [.tup [.str names[i], .int (1 + (q : Int)), .int (v : Int)]]) := pushL_ok (by rw [h1]; exact Nat.lt_of_lt_of_le hi (by decide))
    refine ⟨_, _, rfl, .inl (by simp [l_law_offered_1, f1, f2, f3, f4, f5, f6, oTup, oLst, L3, f7]; exact ⟨rfl, rfl⟩), _, _, rfl, by simp [h1], fun d hd => ?_⟩
    rcases List.mem_append.mp hd with hd | hd
    · exact h2 d hd
    · rw [List.mem_singleton.mp hd]
      exact ⟨names[i], 1 + q, v, by rw [show ((1 + q : Nat) : Int) = 1 + (q : Int) by omega], hn _ (List.getElem_mem _), by omega, by omega, hv⟩)
  refine ⟨ds, runM_ret rfl ?_, h1, h2⟩
  simp [b_law_offered, oLst, hl, show oRg1 [.int 3] = some (rgD 0 3) from oRg1_nat (n := 3) (by decide), e]
end Mi

namespace Mi
open Dl PySem L2
theorem lcRun_some {g : D → S → Option S} {t : S → R Bool} {e : S → R D} {s : S} {Pr : D → D → Prop} : ∀ {ds : List D}, (∀ d ∈ ds, ∃ s1 b, g d s = some s1 ∧ t s1 = .ok b ∧ (b = true → ∃ y, e s1 = .ok y ∧ Pr d y)) → ∃ ys, lcRun g t e s ds = .ok ys ∧ ys.length ≤ ds.length ∧ ∀ y ∈ ys, ∃ d ∈ ds, Pr d y
  | [], _ => ⟨[], rfl, Nat.le_refl _, by simp⟩
  | d :: ds, h => by
    obtain ⟨s1, b, h1, h2, h3⟩ := h d List.mem_cons_self
    obtain ⟨ys, e1, hl, p⟩ := lcRun_some (ds := ds) fun d hd => h d (List.mem_cons_of_mem _ hd)
    cases b with
    | true =>
      obtain ⟨y, h4, h5⟩ := h3 rfl
      refine ⟨y :: ys, ?_, Nat.succ_le_succ hl, fun z hz => ?_⟩
      · unfold lcRun
        rw [h1]
        show ((noExc (t s1)).bind fun b => if b then (noExc (e s1)).bind fun y => (lcRun g t e s ds).bind fun ys => R.ok (y :: ys) else lcRun g t e s ds) = _
        rw [h2]
        show ((noExc (e s1)).bind fun y => (lcRun g t e s ds).bind fun ys => R.ok (y :: ys)) = _
        rw [h4, e1]
        rfl
      · rcases List.mem_cons.mp hz with rfl | hz
        · exact ⟨d, List.mem_cons_self, h5⟩
        · obtain ⟨d', hd', q⟩ := p z hz
          exact ⟨d', List.mem_cons_of_mem _ hd', q⟩
    | false =>
      refine ⟨ys, ?_, Nat.le_succ_of_le hl, fun z hz => ?_⟩
      · unfold lcRun
        rw [h1]
        show ((noExc (t s1)).bind fun b => if b then (noExc (e s1)).bind fun y => (lcRun g t e s ds).bind fun ys => R.ok (y :: ys) else lcRun g t e s ds) = _
        rw [h2]
        exact e1
      · obtain ⟨d', hd', q⟩ := p z hz
        exact ⟨d', List.mem_cons_of_mem _ hd', q⟩
theorem mLc_some {mi : S → R (List D)} {g : D → S → Option S} {t : S → R Bool} {e : S → R D} {vs : List Nat} {s : S} {ds : List D} (Pr : D → D → Prop) (h : mi s = .ok ds) (hl : ds.length ≤ LIM) (he : ∀ d ∈ ds, ∃ s1 b, g d (wipeD s vs) = some s1 ∧ t s1 = .ok b ∧ (b = true → ∃ y, e s1 = .ok y ∧ Pr d y)) :
    ∃ ys, mLc mi g t e vs s = .ok (.lst ys) ∧ ys.length ≤ ds.length ∧ ∀ y ∈ ys, ∃ d ∈ ds, Pr d y := by
  obtain ⟨ys, e1, hl2, p⟩ := lcRun_some he
  refine ⟨ys, ?_, hl2, p⟩
  unfold mLc
  rw [h, R.bind_ok', e1, R.bind_ok', oLst, if_pos (Nat.le_trans hl2 hl)]
  rfl
/-- a formula of depth d, of weight w, its atoms -/
inductive Tr : Nat → Nat → D → List D → Prop
  | tru (d : Nat) (x : Str) (h : GoodS 10 x) (hn : x ≠ "is") : Tr (d + 1) 1 (.tup [.str x]) []
  | is (d : Nat) (name : Str) (h : GS 1000 name) (vs : List Nat) (hv : vs.length ≤ 3) (v : Int) : Tr (d + 1) 1 (.tup [.str "is", .str name, .tup (nD vs), .int v]) [.tup [.str "is", .str name, .tup (nD vs), .int v]]
  | not {d w : Nat} {t : D} {as : List D} : Tr d w t as → Tr (d + 1) (w + 1) (.tup [.str "not", t]) as
  | bin {d w w' : Nat} {t u : D} {as bs : List D} (x : Str) (h : GoodS 10 x) (hn : x ≠ "is") : Tr d w t as → Tr d w' u bs → Tr (d + 1) (w + w') (.tup [.str x, t, u]) (as ++ bs)
theorem Tr.mono {d w : Nat} {t : D} {as : List D} (h : Tr d w t as) : ∀ {d' : Nat}, d ≤ d' → Tr d' w t as := by
  induction h with
  | tru d x h hn => intro d' hd; obtain ⟨e, rfl⟩ : ∃ e, d' = e + 1 := ⟨d' - 1, by omega⟩; exact .tru e x h hn
  | is d name h vs hv v => intro d' hd; obtain ⟨e, rfl⟩ : ∃ e, d' = e + 1 := ⟨d' - 1, by omega⟩; exact .is e name h vs hv v
  | not _ ih => intro d' hd; obtain ⟨e, rfl⟩ : ∃ e, d' = e + 1 := ⟨d' - 1, by omega⟩; exact .not (ih (by omega))
  | bin x h hn _ _ ih ih2 => intro d' hd; obtain ⟨e, rfl⟩ : ∃ e, d' = e + 1 := ⟨d' - 1, by omega⟩; exact .bin x h hn (ih (by omega)) (ih2 (by omega))
theorem Tr.pos {d w : Nat} {t : D} {as : List D} (h : Tr d w t as) : 0 < w ∧ as.length ≤ w := by
  induction h with
  | tru d x h hn => exact ⟨by decide, Nat.zero_le _⟩
  | is d name h vs hv v => exact ⟨by decide, Nat.le_refl _⟩
  | not _ ih => exact ⟨by omega, by omega⟩
  | bin x h hn _ _ ih ih2 => exact ⟨by omega, by rw [List.length_append]; omega⟩
theorem Tr.not' {w : Nat} {t : D} {as : List D} (h : Tr w w t as) : Tr (w + 1) (w + 1) (.tup [.str "not", t]) as := .not h
theorem Tr.bin' {w w' : Nat} {t u : D} {as bs : List D} {x : Str} (hx : GoodS 10 x) (hn : x ≠ "is") (h : Tr w w t as) (h' : Tr w' w' u bs) : Tr (w + w') (w + w') (.tup [.str x, t, u]) (as ++ bs) := by
  have p1 := h.pos.1
  have p2 := h'.pos.1
  exact (Tr.bin x hx hn (h.mono (Nat.le_max_left w w')) (h'.mono (Nat.le_max_right w w'))).mono (by omega)
theorem atom_ok (r : Int) {count : Nat} (hc : count ≤ 4) {ds : List D} (hl : ds.length ≤ 3) (ho : ∀ d ∈ ds, Off d) : ∃ t as, m_law_atom [.int r, .int count, .lst ds] = .ok t ∧ Tr 1 1 t as := by
  have L1 : 1 ≤ LIM := by decide
  have L4 : 4 ≤ LIM := by decide
  obtain ⟨fs, e1, l1, h1⟩ := mLc_some (mi := mSeqI (mVar 2)) (g := mgName 4) (t := mTst (mOp oLe (mOp oIx (mVar 4) (mC (.int 1))) (mVar 1))) (e := mVar 4) (vs := [4]) (s := [some (.int r), some (.int count), some (.lst ds), none, none, none, none, none, none, none]) (ds := ds)
    (fun d y => y = d ∧ ∃ (x : Str) (ar v : Nat), d = .tup [.str x, .int (ar : Int), .int (v : Int)] ∧ GS 1000 x ∧ ar ≤ 3 ∧ ar ≤ count) (by simp) (Nat.le_trans hl (by decide)) (by
    intro d hd
    obtain ⟨x, ar, v, rfl, g, a1, a2, hv⟩ := ho d hd
    have f1 : atI [D.str x, .int (ar : Int), .int (v : Int)] 1 = some (.int (ar : Int)) := rfl
    refine ⟨_, decide (ar ≤ count), rfl, by simp [f1], fun hb => ⟨_, by simp, rfl, x, ar, v, rfl, g, a2, of_decide_eq_true hb⟩⟩)
  by_cases h0 : fs.length = 0
  · have g : GoodS 10 "true" := good_of (by decide +kernel)
    refine ⟨.tup [.str "true"], [], runM_ret rfl ?_, .tru 0 "true" g (by decide +kernel)⟩
    show b_law_atom [some (.int r), some (.int count), some (.lst ds), none, none, none, none, none, none, none] = _
    unfold b_law_atom
    refine (mSeq_nx (mAsg_ok e1)).trans ?_
    have h0' : fs = [] := List.length_eq_zero_iff.mp h0
    subst h0'
    simp [oTup, L1]
  · obtain ⟨q, d1, ql⟩ := mod_nat r fs.length (by omega)
    obtain ⟨dd, hdd, efs, x, ar, v, edd, g, ha3, hac⟩ := h1 fs[q] (List.getElem_mem _)
    have f0 : atI fs (q : Int) = some (.tup [.str x, .int (ar : Int), .int (v : Int)]) := by
      rw [atI_ok (List.getElem?_eq_getElem ql), efs, edd]
    obtain ⟨z, d2⟩ : ∃ z : Int, oFdiv (.int r) (.int (fs.length : Int)) = some (.int z) := ⟨_, oFdiv_ok (by omega) (by omega)⟩
    have hL : LIM = 1000000 := rfl
    obtain ⟨s', e2, z', vars, ch, a, b, rfl, h2, h3⟩ := loopF_inv (g := mgName 8) (body := l_law_atom_1) (ds := rgD 0 ar) (s := [some (.int r), some (.int count), some (.lst ds), some (.lst fs), some (.tup [.str x, .int (ar : Int), .int (v : Int)]), some (.int z), some (.lst (rgD 0 count)), some (.lst []), none, none])
      (fun i s => ∃ (z : Int) (vars ch : List Nat) (a b : Option D), s = [some (.int r), some (.int count), some (.lst ds), some (.lst fs), some (.tup [.str x, .int (ar : Int), .int (v : Int)]), some (.int z), some (.lst (nD vars)), some (.lst (nD ch)), a, b] ∧ vars.length + i = count ∧ ch.length = i) ⟨z, List.range count, [], none, none, by rw [rgD_nD]; rfl, by simp, rfl⟩ (by
      rintro i d s hd ⟨z, vars, ch, a, b, rfl, h2, h3⟩
      obtain ⟨hi, rfl⟩ := rgD_get hd
      rw [Int.zero_add]
      obtain ⟨j, k1, jl⟩ := mod_nat z vars.length (by omega)
      obtain ⟨z2, k2⟩ : ∃ z2 : Int, oFdiv (.int z) (.int (vars.length : Int)) = some (.int z2) := ⟨_, oFdiv_ok (by omega) (by omega)⟩
      have hg : vars[j]? = some vars[j] := List.getElem?_eq_getElem jl
      have k3 : popAt (.int (j : Int)) (nD vars) = some (.int (vars[j] : Int), nD (vars.eraseIdx j)) := by
        rw [popAt_nat (by simp; omega) (nD_get hg), nD_erase]
      have k4 : pushL (.int (vars[j] : Int)) (nD ch) = some (nD (ch ++ [vars[j]])) := by
        rw [pushL_ok (by simp; omega), nD_append]; rfl
      refine ⟨_, _, rfl, .inl ?_, z2, vars.eraseIdx j, ch ++ [vars[j]], some (.int (i : Int)), some (.int (j : Int)), rfl, ?_, by simp; omega⟩
      · simp [l_law_atom_1, k1, k2, k3, k4]
      rw [List.length_eraseIdx, if_pos jl]
      omega)
    rw [rgD_length] at h2 h3
    obtain ⟨z4, k5⟩ : ∃ z4 : Int, oFdiv (.int z') (.int 4) = some (.int z4) := ⟨_, oFdiv_ok (by decide) (by decide)⟩
    obtain ⟨q4, k6, q4l⟩ := mod_lit z' 4 4 rfl (by decide)
    have k7 : oPow (.int 10) (.int 9) = some (.int 1000000000) := by rfl
    obtain ⟨u1, k8⟩ : ∃ u1 : Int, oMod (.int z4) (.int 1000000000) = some (.int u1) := ⟨_, oMod_ok (by decide)⟩
    have hmin : ∀ y : Int, y = (if (1000000000 : Int) < (v : Int) + 1 then 1000000000 else (v : Int) + 1) → ∃ u : Int, oMod (.int z4) (.int y) = some (.int u) := fun y hy => ⟨_, oMod_ok (by rw [hy]; split <;> omega)⟩
    obtain ⟨u2, k9⟩ := hmin _ rfl
    have e0 : b_law_atom [some (.int r), some (.int count), some (.lst ds), none, none, none, none, none, none, none] = .ret (.tup [.str "is", .str x, .tup (nD ch), .int (if 0 < q4 then u2 else u1)]) := by
      unfold b_law_atom
      have hne : ¬ ((fs.length : Int) = 0) := by omega
      have f1 : atI [D.str x, .int (ar : Int), .int (v : Int)] 1 = some (.int (ar : Int)) := rfl
      have f2 : atI [D.str x, .int (ar : Int), .int (v : Int)] 0 = some (.str x) := rfl
      have f3 : atI [D.str x, .int (ar : Int), .int (v : Int)] 2 = some (.int (v : Int)) := rfl
      have hfne : fs ≠ [] := fun z => h0 (by rw [z]; rfl)
      refine (mSeq_nx (mAsg_ok e1)).trans ?_
      refine (mSeq_nx (s' := [some (.int r), some (.int count), some (.lst ds), some (.lst fs), none, none, none, none, none, none]) (by simp [hfne])).trans ?_
      refine (mSeq_nx (s' := [some (.int r), some (.int count), some (.lst ds), some (.lst fs), some (.tup [.str x, .int (ar : Int), .int (v : Int)]), none, none, none, none, none]) (by simp [d1, f0])).trans ?_
      refine (mSeq_nx (s' := [some (.int r), some (.int count), some (.lst ds), some (.lst fs), some (.tup [.str x, .int (ar : Int), .int (v : Int)]), some (.int z), none, none, none, none]) (by simp [d2])).trans ?_
      refine (mSeq_nx (s' := [some (.int r), some (.int count), some (.lst ds), some (.lst fs), some (.tup [.str x, .int (ar : Int), .int (v : Int)]), some (.int z), some (.lst (rgD 0 count)), none, none, none]) (by simp [rgOk_nat (show count ≤ 1000 by omega)])).trans ?_
      refine (mSeq_nx (s' := [some (.int r), some (.int count), some (.lst ds), some (.lst fs), some (.tup [.str x, .int (ar : Int), .int (v : Int)]), some (.int z), some (.lst (rgD 0 count)), some (.lst []), none, none]) (by simp [oLst])).trans ?_
      refine (mSeq_nx (s' := [some (.int r), some (.int count), some (.lst ds), some (.lst fs), some (.tup [.str x, .int (ar : Int), .int (v : Int)]), some (.int z'), some (.lst (nD vars)), some (.lst (nD ch)), a, b]) (by rw [mFor_ok (ds := rgD 0 ar) (by simp [f1, oRg1_nat (show ar ≤ 1000000000 by omega)])]; exact e2)).trans ?_
      by_cases hq : 0 < q4
      · simp [k5, k6, k7, k9, f2, f3, hq, oTup, L4]
      · have hq' : q4 = 0 := by omega
        subst hq'
        simp [k5, k6, k7, k8, f2, f3, oTup, L4]
    exact ⟨_, _, runM_ret rfl e0, .is 0 x g ch (by omega) _⟩
end Mi

namespace Mi
open Dl PySem L2
/-- trees, the weight of all -/
inductive Fo : Nat → List D → Prop
  | nil : Fo 0 []
  | snoc {w w' : Nat} {ts : List D} {t : D} {as : List D} : Fo w ts → Tr w' w' t as → Fo (w + w') (ts ++ [t])
theorem Fo.last {w : Nat} {ts : List D} {t : D} (h : Fo w (ts ++ [t])) : ∃ w1 w2 as, w = w1 + w2 ∧ Fo w1 ts ∧ Tr w2 w2 t as := by
  generalize e : ts ++ [t] = l at h
  cases h with
  | nil => simp at e
  | snoc h1 h2 =>
    obtain ⟨e1, e2⟩ := List.append_inj' e rfl
    cases e2
    subst e1
    exact ⟨_, _, _, rfl, h1, h2⟩
theorem Fo.nil0 {w : Nat} {l : List D} (h : Fo w l) (e : l = []) : w = 0 := by
  cases h with
  | nil => rfl
  | snoc _ _ => simp at e
theorem Fo.len {w : Nat} {ts : List D} (h : Fo w ts) : ts.length ≤ w := by
  induction h with
  | nil => exact Nat.le_refl _
  | snoc _ h2 ih => rw [List.length_append]; have := h2.pos.1; simp; omega
def ops : List D := [.str "and", .str "or", .str "implies", .str "same"]
theorem ops_ok (i : Nat) (h : i < 4) : ∃ x : Str, atI ops (i : Int) = some (.str x) ∧ GoodS 10 x ∧ x ≠ "is" := by
  have : i = 0 ∨ i = 1 ∨ i = 2 ∨ i = 3 := by omega
  rcases this with rfl | rfl | rfl | rfl
  · exact ⟨"and", rfl, good_of (by decide +kernel), by decide +kernel⟩
  · exact ⟨"or", rfl, good_of (by decide +kernel), by decide +kernel⟩
  · exact ⟨"implies", rfl, good_of (by decide +kernel), by decide +kernel⟩
  · exact ⟨"same", rfl, good_of (by decide +kernel), by decide +kernel⟩
theorem push_ok {d : D} {ds : List D} {n : Nat} (h : ds.length ≤ n) (hn : n ≤ 1000) : pushL d ds = some (ds ++ [d]) := pushL_ok (Nat.lt_of_le_of_lt h (Nat.lt_of_le_of_lt hn (by decide)))
/-- a step of the first loop -/
theorem formula_1 {c : Int} {count : Nat} (hc : count ≤ 4) {off : List D} (hl : off.length ≤ 3) (ho : ∀ d ∈ off, Off d) {xs : List Int} (hx : xs.length = 31) {i : Nat} (hi : i < 30) {ts : List D} {w : Nat} (hf : Fo w ts) (hw : w ≤ i) (a b e : Option D) :
    ∃ (ts' : List D) (w' : Nat) (a' b' e' : Option D), l_law_formula_1 [some (.int c), some (.int count), some (.lst off), some (.int 30), some (.lst (xs.map D.int)), some (.lst ts), some (.int i), a, b, e] = .nx [some (.int c), some (.int count), some (.lst off), some (.int 30), some (.lst (xs.map D.int)), some (.lst ts'), some (.int i), a', b', e'] ∧ Fo w' ts' ∧ w' ≤ i + 1 ∧ ts' ≠ [] := by
  have L1 : 1 ≤ LIM := by decide
  have L2' : 2 ≤ LIM := by decide
  have L3 : 3 ≤ LIM := by decide
  have L4 : 4 ≤ LIM := by decide
  have f1 : atI (xs.map D.int) (1 + (i : Int)) = some (.int xs[1 + i]) := by
    have := at_row (rs := xs) (i := 1 + i) (by omega)
    rw [show ((1 + i : Nat) : Int) = 1 + (i : Int) by omega] at this
    exact this
  generalize xs[1 + i] = x at f1
  obtain ⟨ch, f2, chl⟩ := mod_lit x 12 12 rfl (by decide)
  obtain ⟨z, f3⟩ := fdiv_ex x 12 (by decide) (by decide +kernel)
  have hlen := hf.len
  by_cases h5 : ch = 5
  · subst h5
    obtain ⟨q, f4, ql⟩ := mod_lit z 2 2 rfl (by decide)
    obtain ⟨y, f5, gy, ny⟩ : ∃ y : Str, atI [D.str "true", .str "false"] (q : Int) = some (.str y) ∧ GoodS 10 y ∧ y ≠ "is" := by
      have : q = 0 ∨ q = 1 := by omega
      rcases this with rfl | rfl
      · exact ⟨"true", rfl, good_of (by decide +kernel), by decide +kernel⟩
      · exact ⟨"false", rfl, good_of (by decide +kernel), by decide +kernel⟩
    have f6 : pushL (.tup [.str y]) ts = some (ts ++ [.tup [.str y]]) := push_ok (n := 30) (by omega) (by decide)
    exact ⟨_, _, some (.int 5), some (.int z), e, by simp [l_law_formula_1, f1, f2, f3, f4, f5, f6, oTup, oLst, L1, L2'], .snoc hf (.tru 0 y gy ny), by omega, by simp⟩
  · by_cases ha : ch < 5 ∨ ts.length = 0 ∨ (7 < ch ∧ ts.length = 1)
    · obtain ⟨t, as, g1, g2⟩ := atom_ok z hc hl ho
      have f6 : pushL t ts = some (ts ++ [t]) := push_ok (n := 30) (by omega) (by decide)
      refine ⟨_, _, some (.int ch), some (.int z), e, ?_, .snoc hf g2, by omega, by simp⟩
      have h5' : ¬ ((ch : Int) = 5) := by omega
      by_cases h1 : ch < 5
      · simp [l_law_formula_1, f1, f2, f3, h5', show (ch : Int) < 5 by omega, g1, f6]
      · have h1' : ¬ ((ch : Int) < 5) := by omega
        rcases ha with h | h | h
        · exact absurd h h1
        · have h0 : ts = [] := List.length_eq_zero_iff.mp h
          subst h0
          simp [l_law_formula_1, f1, f2, f3, h5', h1', g1, f6]
        · simp [l_law_formula_1, f1, f2, f3, h5', h1', h.2, show (7 : Int) < (ch : Int) by omega, g1, f6]
    · have h5' : ¬ ((ch : Int) = 5) := by omega
      have h1' : ¬ ((ch : Int) < 5) := by omega
      have hne : ts ≠ [] := fun z => ha (.inr (.inl (by rw [z]; rfl)))
      have hne0 : ¬ (ts.length = 0) := fun z => ha (.inr (.inl z))
      by_cases h8 : ch < 8
      · obtain ⟨us, t, rfl⟩ := snoc_of hne
        obtain ⟨w1, w2, as, rfl, k1, k2⟩ := hf.last
        have f5 := popL_snoc us t
        have f6 : pushL (.tup [.str "not", t]) us = some (us ++ [.tup [.str "not", t]]) := push_ok (n := 30) (by simp at hlen; omega) (by decide)
        have h7 : ¬ ((7 : Int) < (ch : Int)) := by omega
        exact ⟨_, _, some (.int ch), some (.int z), e, by simp [l_law_formula_1, f1, f2, f3, h5', h1', h7, show (ch : Int) < 8 by omega, show ¬ ((us.length : Int) + 1 = 0) by omega, f5, oTup, L2', f6], .snoc k1 k2.not', by omega, by simp⟩
      · have h8' : ¬ ((ch : Int) < 8) := by omega
        have hlen1 : ¬ (ts.length = 1) := fun z => ha (.inr (.inr ⟨by omega, z⟩))
        obtain ⟨us, u, rfl⟩ := snoc_of hne
        obtain ⟨w1, w2, bs, rfl, k1, k2⟩ := hf.last
        have hne2 : us ≠ [] := fun z => hlen1 (by rw [z]; rfl)
        obtain ⟨vs, t, rfl⟩ := snoc_of hne2
        obtain ⟨w3, w4, as, rfl, k3, k4⟩ := k1.last
        obtain ⟨y, f4, gy, ny⟩ := ops_ok (ch - 8) (by omega)
        have f4' : atI ops ((ch : Int) - 8) = some (.str y) := by
          rw [show ((ch : Int) - 8) = ((ch - 8 : Nat) : Int) by omega]; exact f4
        have f5 := popL_snoc (vs ++ [t]) u
        have f5' := popL_snoc vs t
        have f6 : pushL (.tup [.str y, t, u]) vs = some (vs ++ [.tup [.str y, t, u]]) := push_ok (n := 30) (by simp at hlen; omega) (by decide)
        have f7 : ¬ ((vs.length : Int) + 1 + 1 = 0) := by omega
        have f8 : ¬ ((vs.length : Int) + 1 + 1 = 1) := by omega
        refine ⟨_, _, some (.int ch), some (.int z), some u, ?_, .snoc k3 (Tr.bin' gy ny k4 k2), by omega, by simp⟩
        unfold ops at f4'
        unfold l_law_formula_1
        refine (mSeq_nx (s' := [some (.int c), some (.int count), some (.lst off), some (.int 30), some (.lst (xs.map D.int)), some (.lst (vs ++ [t] ++ [u])), some (.int i), some (.int ch), b, e]) (by simp [f1, f2])).trans ?_
        refine (mSeq_nx (s' := [some (.int c), some (.int count), some (.lst off), some (.int 30), some (.lst (xs.map D.int)), some (.lst (vs ++ [t] ++ [u])), some (.int i), some (.int ch), some (.int z), e]) (by simp [f1, f3])).trans ?_
        refine (mIfS_false (by simp [h5'])).trans ?_
        refine (mIfS_false (by simp [h1', show ¬ ((vs.length : Int) + 2 = 0) by omega, show ((vs.length : Int) + 2 == 1) = false from beq_false_of_ne (by omega)])).trans ?_
        refine (mIfS_false (by simp [h8'])).trans ?_
        refine (mSeq_nx (s' := [some (.int c), some (.int count), some (.lst off), some (.int 30), some (.lst (xs.map D.int)), some (.lst (vs ++ [t])), some (.int i), some (.int ch), some (.int z), some u]) ?_).trans ?_
        · show mAsgX (xPop 5) (mgName 9) _ = _
          rw [ev_asgX, ev_xPop]
          show toS (xPopO 5 _ (some (some (.lst (vs ++ [t] ++ [u]))))) _ = _
          rw [xPopO_lst, f5]
          rfl
        · simp [f4', f5', oLst, L4, oTup, L3, f6]
/-- a step of the second loop -/
theorem formula_2 {c : Int} {count : Nat} {off : List D} {xs : List Int} {i : Option D} {ts : List D} {w : Nat} (hf : Fo w ts) (hw : w ≤ 30) (hne : ts ≠ []) (a : Option D) (r : Int) (e : Option D) :
    ∃ (ts' : List D) (r' : Int) (e' : Option D), l_law_formula_2 [some (.int c), some (.int count), some (.lst off), some (.int 30), some (.lst (xs.map D.int)), some (.lst ts), i, a, some (.int r), e] = .nx [some (.int c), some (.int count), some (.lst off), some (.int 30), some (.lst (xs.map D.int)), some (.lst ts'), i, a, some (.int r'), e'] ∧ Fo w ts' ∧ ts' ≠ [] ∧ (ts'.length + 1 = ts.length ∨ (ts'.length = 1 ∧ ts.length = 1)) := by
  have L3 : 3 ≤ LIM := by decide
  have L4 : 4 ≤ LIM := by decide
  have hlen := hf.len
  have hpos : ts.length ≠ 0 := fun z => hne (List.length_eq_zero_iff.mp z)
  by_cases h1 : 1 < ts.length
  · obtain ⟨us, u, rfl⟩ := snoc_of hne
    obtain ⟨w1, w2, bs, rfl, k1, k2⟩ := hf.last
    have hne2 : us ≠ [] := fun z => by rw [z] at h1; simp at h1
    obtain ⟨vs, t, rfl⟩ := snoc_of hne2
    obtain ⟨w3, w4, as, rfl, k3, k4⟩ := k1.last
    obtain ⟨q, f2, ql⟩ := mod_lit r 4 4 rfl (by decide)
    obtain ⟨z, f3⟩ := fdiv_ex r 4 (by decide) (by decide +kernel)
    obtain ⟨y, f4, gy, ny⟩ := ops_ok q ql
    have f5 := popL_snoc (vs ++ [t]) u
    have f5' := popL_snoc vs t
    have f6 : pushL (.tup [.str y, t, u]) vs = some (vs ++ [.tup [.str y, t, u]]) := push_ok (n := 30) (by simp at hlen; omega) (by decide)
    refine ⟨_, z, some u, ?_, by rw [Nat.add_assoc]; exact .snoc k3 (Tr.bin' gy ny k4 k2), by simp, .inl (by simp)⟩
    unfold ops at f4
    unfold l_law_formula_2
    refine (mIfS_true (by simp; omega)).trans ?_
    refine (mSeq_nx (s' := [some (.int c), some (.int count), some (.lst off), some (.int 30), some (.lst (xs.map D.int)), some (.lst (vs ++ [t])), i, a, some (.int r), some u]) ?_).trans ?_
    · show mAsgX (xPop 5) (mgName 9) _ = _
      rw [ev_asgX, ev_xPop]
      show toS (xPopO 5 _ (some (some (.lst (vs ++ [t] ++ [u]))))) _ = _
      rw [xPopO_lst, f5]
      rfl
    · simp [f2, f3, f4, f5', oLst, L4, oTup, L3, f6]
  · refine ⟨ts, r, e, ?_, hf, hne, .inr ⟨by omega, by omega⟩⟩
    have h1' : ¬ (1 < (ts.length : Int)) := by omega
    simp [l_law_formula_2, h1']
theorem formula_ok (c : Int) {count : Nat} (hc : count ≤ 4) {off : List D} (hl : off.length ≤ 3) (ho : ∀ d ∈ off, Off d) : ∃ t w as, m_law_formula [.int c, .int count, .lst off, .int 30] = .ok t ∧ Tr w w t as ∧ w ≤ 30 := by
  obtain ⟨xs, hd, hxl, hx⟩ := digits_ok (c := c) (many := 1200000000000000) (n := 31) (by decide) (by decide +kernel) (by decide) (by decide)
  have hxl' : xs.length = 31 := hxl
  have r0 : atI (xs.map D.int) 0 = some (.int xs[0]) := at_row (i := 0) (by omega)
  obtain ⟨n, d1, nl⟩ := mod_lit xs[0] 30 30 rfl (by decide)
  obtain ⟨z, d2⟩ := fdiv_ex xs[0] 30 (by decide) (by decide +kernel)
  obtain ⟨s', e1, ts, w, k, a, b, e, rfl, h1, h2, h3⟩ := loopF_inv (g := mgName 6) (body := l_law_formula_1) (ds := rgD 0 (n + 1)) (s := [some (.int c), some (.int count), some (.lst off), some (.int 30), some (.lst (xs.map D.int)), some (.lst []), none, none, none, none])
    (fun i s => ∃ (ts : List D) (w : Nat) (k a b e : Option D), s = [some (.int c), some (.int count), some (.lst off), some (.int 30), some (.lst (xs.map D.int)), some (.lst ts), k, a, b, e] ∧ Fo w ts ∧ w ≤ i ∧ (0 < i → ts ≠ [])) ⟨[], 0, none, none, none, none, rfl, .nil, Nat.le_refl _, fun h => absurd h (Nat.lt_irrefl _)⟩ (by
    rintro i d s hd ⟨ts, w, k, a, b, e, rfl, h1, h2, h3⟩
    obtain ⟨hi, rfl⟩ := rgD_get hd
    rw [Int.zero_add]
    obtain ⟨ts', w', a', b', e', q1, q2, q3, q4⟩ := formula_1 (c := c) hc hl ho hxl' (i := i) (by omega) h1 h2 a b e
    exact ⟨_, _, rfl, .inl q1, ts', w', _, a', b', e', rfl, q2, q3, fun _ => q4⟩)
  rw [rgD_length] at h2 h3
  have h3' := h3 (by omega)
  obtain ⟨s', e2, ts2, r, k2, e', rfl, h4, h5, h6⟩ := loopF_inv (g := mgName 6) (body := l_law_formula_2) (ds := rgD 0 30) (s := [some (.int c), some (.int count), some (.lst off), some (.int 30), some (.lst (xs.map D.int)), some (.lst ts), k, a, some (.int z), e])
    (fun i s => ∃ (ts : List D) (r : Int) (k e : Option D), s = [some (.int c), some (.int count), some (.lst off), some (.int 30), some (.lst (xs.map D.int)), some (.lst ts), k, a, some (.int r), e] ∧ Fo w ts ∧ ts ≠ [] ∧ (ts.length + i ≤ 30 ∨ ts.length = 1)) ⟨ts, z, k, e, rfl, h1, h3', .inl (by have := h1.len; omega)⟩ (by
    rintro i d s hd ⟨ts, r, k, e, rfl, h4, h5, h6⟩
    obtain ⟨hi, rfl⟩ := rgD_get hd
    rw [Int.zero_add]
    obtain ⟨ts', r', e', q1, q2, q3, q4⟩ := formula_2 (c := c) (count := count) (off := off) (xs := xs) (i := some (.int i)) h4 (by omega) h5 a r e
    exact ⟨_, _, rfl, .inl q1, ts', r', _, e', rfl, q2, q3, by omega⟩)
  rw [rgD_length] at h6
  obtain ⟨us, t, rfl⟩ := snoc_of h5
  have hus : us = [] := by
    rw [List.length_append] at h6
    exact List.length_eq_zero_iff.mp (by have h7 : [t].length = 1 := rfl
                                         omega)
  subst hus
  obtain ⟨w1, w2, as, rfl, k1, k3⟩ := h4.last
  have hw1 : w1 = 0 := k1.nil0 rfl
  have g0 : atI [t] 0 = some t := rfl
  refine ⟨t, w2, as, runM_ret rfl ?_, k3, by omega⟩
  have m1 : oPow (.int 10) (.int 14) = some (.int 100000000000000) := by rfl
  have m2 : oMul (.int 12) (.int 100000000000000) = some (.int 1200000000000000) := oMul_ok (cMul_l (by decide) (by decide))
  show b_law_formula [some (.int c), some (.int count), some (.lst off), some (.int 30), none, none, none, none, none, none] = _
  unfold b_law_formula
  refine (mSeq_nx (s' := [some (.int c), some (.int count), some (.lst off), some (.int 30), some (.lst (xs.map D.int)), none, none, none, none, none]) (by simp [m1, m2, hd])).trans ?_
  refine (mSeq_nx (s' := [some (.int c), some (.int count), some (.lst off), some (.int 30), some (.lst (xs.map D.int)), some (.lst []), none, none, none, none]) (by simp [oLst])).trans ?_
  refine (mSeq_nx (s' := [some (.int c), some (.int count), some (.lst off), some (.int 30), some (.lst (xs.map D.int)), some (.lst ts), k, a, b, e]) ?_).trans ?_
  · have q : oRg1 [.int (1 + (n : Int))] = some (rgD 0 (n + 1)) := by
      rw [show (1 + (n : Int)) = ((n + 1 : Nat) : Int) by omega]
      exact oRg1_nat (by omega)
    rw [mFor_ok (ds := rgD 0 (n + 1)) (by simp [r0, d1, q])]
    exact e1
  refine (mSeq_nx (s' := [some (.int c), some (.int count), some (.lst off), some (.int 30), some (.lst (xs.map D.int)), some (.lst ts), k, a, some (.int z), e]) (by simp [r0, d2])).trans ?_
  refine (mSeq_nx (s' := [some (.int c), some (.int count), some (.lst off), some (.int 30), some (.lst (xs.map D.int)), some (.lst [t]), k2, a, some (.int r), e']) ?_).trans ?_
  · rw [mFor_ok (ds := rgD 0 30) (by simp [show oRg1 [.int 30] = some (rgD 0 30) from oRg1_nat (n := 30) (by decide)])]
    exact e2
  · simp [g0]
end Mi

namespace Mi
open Dl PySem L2
theorem loopF_cons (g : D → S → Option S) (body : S → Rs) (d : D) (ds : List D) (s : S) : loopF g body (d :: ds) s = oS (g d s) fun s1 => turnF (loopF g body ds) (body s1) := (rfl)
theorem loopF_nil (g : D → S → Option S) (body : S → Rs) (s : S) : loopF g body [] s = .nx s := (rfl)
theorem is_good : GoodS 10 "is" := good_of (by decide +kernel)
theorem eq_is {x : Str} (h : GoodS 10 x) (hn : x ≠ "is") : oEqB (.str x) (.str "is") = some false := by
  rw [oEqB_str h.lay is_good.lay, beq_false_of_ne hn]
theorem eq_is' : oEqB (.str "is") (.str "is") = some true := by
  rw [oEqB_str is_good.lay is_good.lay, beq_self_eq_true]
theorem extL_ok {as ds : List D} (h : ds.length + as.length ≤ 1000) : extL (.lst as) ds = some (ds ++ as) := if_pos (Nat.le_trans h (by decide))
theorem not_good : GoodS 10 "not" := good_of (by decide +kernel)
theorem not_is : ("not" : Str) ≠ "is" := by decide +kernel
theorem atoms_ok {d w : Nat} {t : D} {as : List D} (h : Tr d w t as) : w ≤ 1000 → ∀ n, d ≤ n → m_atoms_of n [t] = .ok (.lst as) := by
  have L1 : 1 ≤ LIM := by decide
  induction h with
  | tru d x h hn =>
    intro hw n hd
    obtain ⟨m, rfl⟩ : ∃ m, n = m + 1 := ⟨n - 1, by omega⟩
    refine runM_ret rfl ?_
    have f0 : atI [D.str x] 0 = some (.str x) := rfl
    have f1 : cutL [D.str x] (some 1) none = [] := rfl
    simp [b_atoms_of, f0, f1, eq_is h hn, oLst, loopF_nil]
  | is d name h vs hv v =>
    intro hw n hd
    obtain ⟨m, rfl⟩ : ∃ m, n = m + 1 := ⟨n - 1, by omega⟩
    refine runM_ret rfl ?_
    have f0 : atI [D.str "is", .str name, .tup (nD vs), .int v] 0 = some (.str "is") := rfl
    simp [b_atoms_of, f0, eq_is', oLst, L1]
  | not h1 ih =>
    rename_i d w t as
    intro hw n hd
    obtain ⟨m, rfl⟩ : ∃ m, n = m + 1 := ⟨n - 1, by omega⟩
    have k := ih (by omega) m (by omega)
    have p := h1.pos
    refine runM_ret rfl ?_
    have f0 : atI [D.str "not", t] 0 = some (.str "not") := rfl
    have f1 : cutL [D.str "not", t] (some 1) none = [t] := rfl
    have f2 : extL (.lst as) [] = some as := extL_ok (by simp; omega)
    simp [b_atoms_of, f0, f1, eq_is not_good not_is, oLst, loopF_nil, loopF_cons, l_atoms_of_1, k, f2]
  | bin x h hn h1 h2 ih ih2 =>
    rename_i d w w' t u as bs
    intro hw n hd
    obtain ⟨m, rfl⟩ : ∃ m, n = m + 1 := ⟨n - 1, by omega⟩
    have k := ih (by omega) m (by omega)
    have k2 := ih2 (by omega) m (by omega)
    have p := h1.pos
    have p2 := h2.pos
    refine runM_ret rfl ?_
    have f0 : atI [D.str x, t, u] 0 = some (.str x) := rfl
    have f1 : cutL [D.str x, t, u] (some 1) none = [t, u] := rfl
    have f2 : extL (.lst as) [] = some as := extL_ok (by simp; omega)
    have f3 : extL (.lst bs) as = some (as ++ bs) := extL_ok (by omega)
    simp [b_atoms_of, f0, f1, eq_is h hn, oLst, loopF_nil, loopF_cons, l_atoms_of_1, k, k2, f2, f3]
/-- the trees that are left, from the bottom; their atoms from the top -/
inductive Lf : Nat → List D → List D → Prop
  | nil : Lf 0 [] []
  | snoc {c d w : Nat} {ts bs as : List D} {t : D} : Lf c ts bs → Tr d w t as → Lf (c + (2 * w - 1)) (ts ++ [t]) (as ++ bs)
theorem Lf.last {c : Nat} {ts bs : List D} {t : D} (h : Lf c (ts ++ [t]) bs) : ∃ c' d w as bs', c = c' + (2 * w - 1) ∧ bs = as ++ bs' ∧ Lf c' ts bs' ∧ Tr d w t as := by
  generalize e : ts ++ [t] = l at h
  cases h with
  | nil => simp at e
  | snoc h1 h2 =>
    obtain ⟨e1, e2⟩ := List.append_inj' e rfl
    cases e2
    subst e1
    exact ⟨_, _, _, _, _, rfl, rfl, h1, h2⟩
theorem Lf.len {c : Nat} {ts bs : List D} (h : Lf c ts bs) : ts.length ≤ c := by
  induction h with
  | nil => exact Nat.le_refl _
  | snoc _ h2 ih => rw [List.length_append]; have := h2.pos.1; simp; omega
theorem Lf.nil0 {c : Nat} {ts bs : List D} (h : Lf c ts bs) (e : ts = []) : bs = [] := by
  cases h with
  | nil => rfl
  | snoc _ _ => simp at e
theorem Lf.nil1 {c : Nat} {ts bs : List D} (h : Lf c ts bs) (e : ts = []) : c = 0 := by
  cases h with
  | nil => rfl
  | snoc _ _ => simp at e
theorem latoms_1 {f : D} {acc ts bs : List D} {c : Nat} (h : Lf c ts bs) (hc : c ≤ 600) (hl : acc.length + bs.length ≤ 900) (k a b : Option D) :
    ∃ (acc' ts' bs' : List D) (c' : Nat) (a' b' : Option D), l_law_atoms_2 [some f, some (.lst acc), some (.lst ts), k, a, b] = .nx [some f, some (.lst acc'), some (.lst ts'), k, a', b'] ∧ Lf c' ts' bs' ∧ acc' ++ bs' = acc ++ bs ∧ (c' + 1 ≤ c ∨ ts' = [] ∧ c' ≤ c) := by
  by_cases h0 : ts = []
  · subst h0
    exact ⟨acc, [], bs, c, a, b, by simp [l_law_atoms_2], h, rfl, .inr ⟨rfl, Nat.le_refl _⟩⟩
  · obtain ⟨us, t, rfl⟩ := snoc_of h0
    have hlen := h.len
    obtain ⟨c', d, w, as, bs', rfl, rfl, k1, k2⟩ := h.last
    have f5 := popL_snoc us t
    have hus : us.length ≤ 600 := by simp at hlen; omega
    have hpush : ∀ (x : D) (n : Nat), pushL x us = some (us ++ [x]) := fun x n => push_ok (n := 600) hus (by decide)
    have hg : (0 : Int) < (us.length : Int) + 1 := by omega
    rw [List.length_append] at hl
    cases k2 with
    | tru d x hx hn =>
      have f0 : atI [D.str x] 0 = some (.str x) := rfl
      have f1 : cutL [D.str x] (some 1) none = [] := rfl
      exact ⟨acc, us, bs', c', some (.tup [.str x]), b, by simp [l_law_atoms_2, hg, f5, f0, f1, eq_is hx hn, loopF_nil], k1, rfl, .inl (by omega)⟩
    | is d name hname vs hv v =>
      have f0 : atI [D.str "is", .str name, .tup (nD vs), .int v] 0 = some (.str "is") := rfl
      have f6 : pushL (.tup [.str "is", .str name, .tup (nD vs), .int v]) acc = some (acc ++ [.tup [.str "is", .str name, .tup (nD vs), .int v]]) := push_ok (n := 900) (by omega) (by decide)
      exact ⟨_, us, bs', c', some (.tup [.str "is", .str name, .tup (nD vs), .int v]), b, by simp [l_law_atoms_2, hg, f5, f0, eq_is', f6]; rfl, k1, by simp, .inl (by omega)⟩
    | not h1 =>
      rename_i w t'
      have p := h1.pos.1
      have f0 : atI [D.str "not", t'] 0 = some (.str "not") := rfl
      have f1 : cutL [D.str "not", t'] (some 1) none = [t'] := rfl
      exact ⟨acc, us ++ [t'], _, _, some (.tup [.str "not", t']), some t', by simp [l_law_atoms_2, hg, f5, f0, f1, eq_is not_good not_is, loopF_nil, loopF_cons, l_law_atoms_1, hpush _ 0], .snoc k1 h1, rfl, .inl (by omega)⟩
    | bin x hx hn h1 h2 =>
      rename_i w1 w2 t' u' as1 as2
      have p := h1.pos.1
      have p2 := h2.pos.1
      have f0 : atI [D.str x, t', u'] 0 = some (.str x) := rfl
      have f1 : cutL [D.str x, t', u'] (some 1) none = [t', u'] := rfl
      have f6 : pushL t' (us ++ [u']) = some (us ++ [u'] ++ [t']) := push_ok (n := 700) (by simp; omega) (by decide)
      refine ⟨acc, us ++ [u'] ++ [t'], _, _, some (.tup [.str x, t', u']), some t', ?_, .snoc (.snoc k1 h2) h1, by simp, .inl (by omega)⟩
      simp [l_law_atoms_2, hg, f5, f0, f1, eq_is hx hn, loopF_nil, loopF_cons, l_law_atoms_1, hpush u' 0]
      simp at f6
      simp [f6, loopF_nil]
theorem latoms_ok {d w : Nat} {t : D} {as : List D} (h : Tr d w t as) (hw : w ≤ 300) : m_law_atoms [t] = .ok (.lst as) := by
  have p := h.pos
  have L1 : 1 ≤ LIM := by decide
  obtain ⟨s', e, acc, ts, bs, c, k, a, b, rfl, h1, h2, h3⟩ := loopF_inv (g := mgName 3) (body := l_law_atoms_2) (ds := rgD 0 600) (s := [some t, some (.lst []), some (.lst [t]), none, none, none])
    (fun i s => ∃ (acc ts bs : List D) (c : Nat) (k a b : Option D), s = [some t, some (.lst acc), some (.lst ts), k, a, b] ∧ Lf c ts bs ∧ acc ++ bs = as ∧ (c + i ≤ 600 ∨ ts = [] ∧ c ≤ 600)) ⟨[], [t], as, 2 * w - 1, none, none, none, rfl, by
      have := Lf.snoc .nil h
      simpa using this, rfl, .inl (by omega)⟩ (by
    rintro i d s hd ⟨acc, ts, bs, c, k, a, b, rfl, h1, h2, h3⟩
    obtain ⟨hi, rfl⟩ := rgD_get hd
    rw [Int.zero_add]
    have hl : acc.length + bs.length ≤ 900 := by rw [← List.length_append, h2]; omega
    obtain ⟨acc', ts', bs', c', a', b', q1, q2, q3, q4⟩ := latoms_1 (f := t) h1 (by omega) hl (some (.int i)) a b
    refine ⟨_, _, rfl, .inl q1, acc', ts', bs', c', _, a', b', rfl, q2, q3.trans h2, ?_⟩
    rcases q4 with q4 | ⟨q4, q5⟩
    · rcases h3 with h3 | ⟨h3, h4⟩
      · exact .inl (by omega)
      · subst h3
        have := h1.nil0 rfl
        have := h1.nil1 rfl
        exfalso; omega
    · exact .inr ⟨q4, by omega⟩)
  have hts : ts = [] := by
    rw [rgD_length] at h3
    rcases h3 with h3 | h3
    · have := h1.len
      exact List.length_eq_zero_iff.mp (by omega)
    · exact h3.1
  have hbs := h1.nil0 hts
  subst hbs
  rw [List.append_nil] at h2
  subst h2
  refine runM_ret rfl ?_
  simp [b_law_atoms, oLst, L1, show oRg1 [.int 600] = some (rgD 0 600) from oRg1_nat (n := 600) (by decide), e]
end Mi

namespace Mi
open Dl PySem L2
/-- data that _law_equal tells alike -/
inductive Pe : Nat → D → Prop
  | int (n : Nat) (i : Int) : Pe (n + 1) (.int i)
  | str (n : Nat) (x : Str) (h : PyData.canLay0 (.str x) = true) : Pe (n + 1) (.str x)
  | tup (n : Nat) (ds : List D) (h : ∀ d ∈ ds, Pe n d) (hl : ds.length ≤ 1000) : Pe (n + 1) (.tup ds)
  | lst (n : Nat) (ds : List D) (h : ∀ d ∈ ds, Pe n d) (hl : ds.length ≤ 1000) : Pe (n + 1) (.lst ds)
@[simp] theorem isi_ll (ds : List D) : oIsi "list" (.lst ds) = some (.bl true) := (rfl)
@[simp] theorem isi_lt (ds : List D) : oIsi "list" (.tup ds) = some (.bl false) := (rfl)
@[simp] theorem isi_tl (ds : List D) : oIsi "tuple" (.lst ds) = some (.bl false) := (rfl)
@[simp] theorem isi_li (i : Int) : oIsi "list" (.int i) = some (.bl false) := (rfl)
@[simp] theorem isi_ti (i : Int) : oIsi "tuple" (.int i) = some (.bl false) := (rfl)
@[simp] theorem isi_bi (i : Int) : oIsi "bool" (.int i) = some (.bl false) := (rfl)
@[simp] theorem isi_ii (i : Int) : oIsi "int" (.int i) = some (.bl true) := (rfl)
@[simp] theorem isi_ls (i : Str) : oIsi "list" (.str i) = some (.bl false) := (rfl)
@[simp] theorem isi_ts (i : Str) : oIsi "tuple" (.str i) = some (.bl false) := (rfl)
@[simp] theorem isi_bs (i : Str) : oIsi "bool" (.str i) = some (.bl false) := (rfl)
@[simp] theorem isi_is (i : Str) : oIsi "int" (.str i) = some (.bl false) := (rfl)
@[simp] theorem isi_ss (i : Str) : oIsi "str" (.str i) = some (.bl true) := (rfl)
theorem bls_all (n : Nat) : oAll1 [.lst ((rgD 0 n).map fun _ => D.bl true)] = some (.bl true) := by
  have h : ((rgD 0 n).map fun _ => D.bl true) = (List.replicate n true).map D.bl := by
    rw [List.map_replicate]
    refine List.ext_getElem? fun i => ?_
    rw [List.getElem?_map, List.getElem?_replicate]
    by_cases hi : i < n
    · rw [if_pos hi, List.getElem?_eq_getElem (by rw [rgD_length]; exact hi)]; rfl
    · rw [if_neg hi, List.getElem?_eq_none (by rw [rgD_length]; omega)]; rfl
  rw [h, oAll1_ok]
  simp
theorem equal_ok {n : Nat} {x : D} (h : Pe n x) : m_law_equal n [x, x] = .ok (.bl true) := by
  induction h with
  | int n i =>
    refine runM_ret rfl ?_
    simp [b_law_equal]
  | str n x h =>
    refine runM_ret rfl ?_
    have e := oEqB_str h h
    simp [b_law_equal, e]
  | tup n ds h hl ih =>
    refine runM_ret rfl ?_
    have e := mLc_map (mi := mIt oRg1 (mCons (mOpA oLen (mCons (mVar 1) mNil)) mNil)) (g := mgName 2) (e := mCall (m_law_equal n) (mCons (mOp oIx (mVar 0) (mVar 2)) (mCons (mOp oIx (mVar 1) (mVar 2)) (mNil)))) (vs := [2]) (s := [some (.tup ds), some (.tup ds), none]) (ds := rgD 0 ds.length) (fun _ => D.bl true) (by simp [oRg1_nat (show ds.length ≤ 1000000000 by omega)]) (by rw [rgD_length]; exact Nat.le_trans hl (by decide)) (by
      intro d hd
      obtain ⟨i, hi, rfl⟩ := rgD_mem hd
      rw [Int.zero_add]
      have f1 : atI ds (i : Int) = some ds[i] := atI_ok (List.getElem?_eq_getElem hi)
      exact ⟨_, rfl, by simp [f1, ih ds[i] (List.getElem_mem _)]⟩)
    have e2 := mRet_ok (mOpA_ok (mCons_ok (g := mNil) e rfl) (bls_all ds.length))
    show b_law_equal _ [some (.tup ds), some (.tup ds), none] = _
    unfold b_law_equal
    refine mSeq_ret ?_
    refine (mIfS_true (by simp)).trans ?_
    refine (mSeq_nx (s' := [some (.tup ds), some (.tup ds), none]) (by simp)).trans ?_
    refine (mSeq_nx (s' := [some (.tup ds), some (.tup ds), none]) (by simp)).trans ?_
    refine (mSeq_nx (s' := [some (.tup ds), some (.tup ds), none]) (by simp)).trans ?_
    exact e2
  | lst n ds h hl ih =>
    refine runM_ret rfl ?_
    have e := mLc_map (mi := mIt oRg1 (mCons (mOpA oLen (mCons (mVar 1) mNil)) mNil)) (g := mgName 2) (e := mCall (m_law_equal n) (mCons (mOp oIx (mVar 0) (mVar 2)) (mCons (mOp oIx (mVar 1) (mVar 2)) (mNil)))) (vs := [2]) (s := [some (.lst ds), some (.lst ds), none]) (ds := rgD 0 ds.length) (fun _ => D.bl true) (by simp [oRg1_nat (show ds.length ≤ 1000000000 by omega)]) (by rw [rgD_length]; exact Nat.le_trans hl (by decide)) (by
      intro d hd
      obtain ⟨i, hi, rfl⟩ := rgD_mem hd
      rw [Int.zero_add]
      have f1 : atI ds (i : Int) = some ds[i] := atI_ok (List.getElem?_eq_getElem hi)
      exact ⟨_, rfl, by simp [f1, ih ds[i] (List.getElem_mem _)]⟩)
    have e2 := mRet_ok (mOpA_ok (mCons_ok (g := mNil) e rfl) (bls_all ds.length))
    show b_law_equal _ [some (.lst ds), some (.lst ds), none] = _
    unfold b_law_equal
    refine mSeq_ret ?_
    refine (mIfS_true (by simp)).trans ?_
    refine (mSeq_nx (s' := [some (.lst ds), some (.lst ds), none]) (by simp)).trans ?_
    refine (mSeq_nx (s' := [some (.lst ds), some (.lst ds), none]) (by simp)).trans ?_
    refine (mSeq_nx (s' := [some (.lst ds), some (.lst ds), none]) (by simp)).trans ?_
    exact e2
theorem Tr.pe {d w : Nat} {t : D} {as : List D} (h : Tr d w t as) : ∀ a ∈ as, Pe 59 a := by
  induction h with
  | tru d x h hn => intro a ha; cases ha
  | is d name h vs hv v =>
    intro a ha
    rw [List.mem_singleton.mp ha]
    refine .tup 58 _ (fun e he => ?_) (by show 4 ≤ 1000; decide)
    simp only [List.mem_cons, List.not_mem_nil, or_false] at he
    rcases he with rfl | rfl | rfl | rfl
    · exact .str 57 _ is_good.lay
    · exact .str 57 _ h.1.lay
    · refine .tup 57 _ (fun e he => ?_) (by rw [nD_length]; omega)
      obtain ⟨i, hi⟩ := List.getElem?_of_mem he
      obtain ⟨k, _, rfl⟩ := nD_get' hi
      exact .int 56 _
    · exact .int 57 _
  | not _ ih => exact ih
  | bin x h hn _ _ ih ih2 =>
    intro a ha
    rcases List.mem_append.mp ha with ha | ha
    · exact ih a ha
    · exact ih2 a ha
theorem law_true (ns : List Int) (hns : ns.length ≤ 63) : m_law [.scr ns] = .ok (.bl true) := by
  obtain ⟨c0, hc0⟩ : ∃ c : Int, m_law_cell [.scr ns, .int 0] = .ok (.int c) := cell_ok ns hns 0
  obtain ⟨c1, hc1⟩ : ∃ c : Int, m_law_cell [.scr ns, .int 1] = .ok (.int c) := cell_ok ns hns 1
  obtain ⟨c2, hc2⟩ : ∃ c : Int, m_law_cell [.scr ns, .int 2] = .ok (.int c) := cell_ok ns hns 2
  obtain ⟨c3, hc3⟩ : ∃ c : Int, m_law_cell [.scr ns, .int 3] = .ok (.int c) := cell_ok ns hns 3
  obtain ⟨names, h1, h2, h3⟩ := names_ok c0
  obtain ⟨off, h4, h5, h6⟩ := offered_ok h2 h3 c1
  obtain ⟨q, h7, ql⟩ := mod_lit c2 4 4 rfl (by decide)
  obtain ⟨t, w, as, h8, h9, h10⟩ := formula_ok c3 (count := 1 + q) (by omega) (by omega) h6
  have h8' : m_law_formula [.int c3, .int (1 + (q : Int)), .lst off, .int 30] = .ok t := by
    rw [show (1 + (q : Int)) = ((1 + q : Nat) : Int) by omega]; exact h8
  obtain ⟨z, h11⟩ := fdiv_ex c2 4 (by decide) (by decide +kernel)
  obtain ⟨m, h12, ml⟩ := mod_lit z 4 4 rfl (by decide)
  have L1 : 1 ≤ LIM := by decide
  have L3 : 3 ≤ LIM := by decide
  have L4 : 4 ≤ LIM := by decide
  obtain ⟨s', e1, t', z', as', a, rfl, g1⟩ := loopF_inv (g := mgName 5) (body := l_law_1) (ds := rgD 0 m) (s := [some (.scr ns), some (.lst off), some (.int (1 + (q : Int))), some t, some (.int z), none, none, none])
    (fun i s => ∃ (t : D) (z : Int) (as : List D) (a : Option D), s = [some (.scr ns), some (.lst off), some (.int (1 + (q : Int))), some t, some (.int z), a, none, none] ∧ Tr (30 + i) (w * 2 ^ i) t as) ⟨t, z, as, none, rfl, by simpa using h9.mono h10⟩ (by
    rintro i d s hd ⟨t, z, as, a, rfl, g1⟩
    obtain ⟨hi, rfl⟩ := rgD_get hd
    rw [Int.zero_add]
    obtain ⟨z2, k1⟩ := fdiv_ex z 4 (by decide) (by decide +kernel)
    obtain ⟨j, k2, jl⟩ := mod_lit z2 4 4 rfl (by decide)
    obtain ⟨y, k3, gy, ny⟩ := ops_ok j jl
    unfold ops at k3
    refine ⟨_, _, rfl, .inl ?_, .tup [.str y, t, t], z2, as ++ as, some (.int (i : Int)), rfl, ?_⟩
    · simp [l_law_1, k1, k2, k3, oLst, oTup, L3, L4]
    · rw [Nat.pow_succ, show w * (2 ^ i * 2) = w * 2 ^ i + w * 2 ^ i by rw [← Nat.mul_assoc]; omega]
      exact .bin y gy ny g1 g1)
  rw [rgD_length] at g1
  have hw : w * 2 ^ m ≤ 240 := by
    have : 2 ^ m ≤ 8 := by
      have : m = 0 ∨ m = 1 ∨ m = 2 ∨ m = 3 := by omega
      rcases this with rfl | rfl | rfl | rfl <;> decide
    calc w * 2 ^ m ≤ 30 * 8 := Nat.mul_le_mul h10 this
      _ = 240 := rfl
  have p := g1.pos
  have k1 := latoms_ok g1 (by omega)
  have k2 := atoms_ok g1 (by omega) 60 (by omega)
  have k3 : m_law_equal 60 [.lst as', .lst as'] = .ok (.bl true) := equal_ok (.lst 59 as' g1.pe (by omega))
  have f6 : pushL (.tup [.str "true"]) as'.reverse = some (as'.reverse ++ [.tup [.str "true"]]) := push_ok (n := 300) (by rw [List.length_reverse]; omega) (by decide)
  refine runM_ret rfl ?_
  show b_law [some (.scr ns), none, none, none, none, none, none, none] = _
  unfold b_law
  refine (mSeq_nx (s' := [some (.scr ns), some (.lst off), none, none, none, none, none, none]) (by simp [hc0, h1, hc1, h4])).trans ?_
  refine (mSeq_nx (s' := [some (.scr ns), some (.lst off), some (.int (1 + (q : Int))), none, none, none, none, none]) (by simp [hc2, h7])).trans ?_
  refine (mSeq_nx (s' := [some (.scr ns), some (.lst off), some (.int (1 + (q : Int))), some t, none, none, none, none]) (by simp [hc3, h8'])).trans ?_
  refine (mSeq_nx (s' := [some (.scr ns), some (.lst off), some (.int (1 + (q : Int))), some t, some (.int z), none, none, none]) (by simp [hc2, h11])).trans ?_
  refine (mSeq_nx (s' := [some (.scr ns), some (.lst off), some (.int (1 + (q : Int))), some t', some (.int z'), a, none, none]) ?_).trans ?_
  · rw [mFor_ok (ds := rgD 0 m) (by simp [h12, oRg1_nat (show m ≤ 1000000000 by omega)])]
    exact e1
  refine (mSeq_nx (s' := [some (.scr ns), some (.lst off), some (.int (1 + (q : Int))), some t', some (.int z'), a, some (.lst as'), none]) (by simp [k1])).trans ?_
  refine (mSeq_nx (s' := [some (.scr ns), some (.lst off), some (.int (1 + (q : Int))), some t', some (.int z'), a, some (.lst as'), some (.lst as')]) (by simp [k2])).trans ?_
  refine (mSeq_nx (s' := [some (.scr ns), some (.lst off), some (.int (1 + (q : Int))), some t', some (.int z'), a, some (.lst as'), some (.lst as')]) (by simp [k3])).trans ?_
  simp [f6, oTup, L1, k2, k3]
end Mi

namespace Mi
open Dl PySem PySem.Spec PyProof.Rows L2
def topS (i : Nat) : Stmt := PySem.Challenge.pw_oneofeach_k07_atoms_of_a_formula.main.body.getD i (.Pass ⟨0, 0, 0, 0⟩)
abbrev s_law_offered : Stmt := topS 7
abbrev s_law_digits : Stmt := topS 4
abbrev s_law_atom : Stmt := topS 8
abbrev s_law_formula : Stmt := topS 9
abbrev s_law_atoms : Stmt := topS 10
abbrev s_atoms_of : Stmt := topS 1
abbrev s_law_equal : Stmt := topS 5
abbrev s_law_names : Stmt := topS 6
abbrev s_law_cell : Stmt := topS 3
abbrev s_law : Stmt := topS 11
section
variable {P : Program} {w : World} {K : PySem.W.Frag} {mg : Str → Option Value} {base : Heap} {cl : Nat → Addr}
theorem sc_law_offered : FnScope ["_law_names_here", "_law_cell_here", "_law_offered_here", "_law_k"] ["_law_names_here", "_law_cell_here"] (defScope s_law_offered) := ⟨rfl, rfl, rfl, by decide +kernel, rfl, by decide +kernel, by decide +kernel⟩
theorem ok_law_offered {f : Addr} {fd : FuncData} (F : Fun K "_law_offered" "_law_offered" s_law_offered f fd) (hm : mg "_law_offered" = some (.ref f)) (bd : Binds K fd ["_law_names_here", "_law_cell_here"] []) (m_int : mg "int" = none) (m_len : mg "len" = none) (m_range : mg "range" = none) :
    Fn P w K mg base cl CX0 1 "_law_offered" false m_law_offered :=
  fn_mk (Γ' := []) F sc_law_offered hm bd fun cdv A outer s H E hr => have nd := sc_law_offered.nd; (ss_cons (s_own 2 nd (f_lst (a_nil)))
    (ss_cons (s_for PassesOwn.never (i_rg1 m_range ((e_len m_len (b_var 0)).b)) (g_name 3 nd)
      (ss_one (s_app 2 (e_tup (a_cons (e_ix (b_var 0) (b_var 3)) (a_cons (e_add ((e_int).b) ((e_mod ((e_intc m_int ((e_add (b_var 1) (b_var 3)).b)).b) ((e_int).b)).b)) (a_cons (e_ix (((f_lst (a_cons (e_int) (a_cons (e_int) (a_cons (e_pow ((e_int).b) ((e_int).b)) (a_nil))))).e).b) ((e_mod ((e_intc m_int ((e_add ((e_fdiv (b_var 1) ((e_int).b)).b) (b_var 3)).b)).b) ((e_int).b)).b)) (a_nil))))))))
    (ss_frz 2 (ss_one (s_ret (e_var 2))))) : DSs _ _ _ _ _ _ _ _ _ b_law_offered)
theorem sc_law_digits : FnScope ["_law_cell_here", "_law_many", "_law_count", "_law_digits_here", "_law_rest", "_law_k", "_law_mixed"] ["_law_cell_here", "_law_many", "_law_count"] (defScope s_law_digits) := ⟨rfl, rfl, rfl, by decide +kernel, rfl, by decide +kernel, by decide +kernel⟩
theorem ok_law_digits {f : Addr} {fd : FuncData} (F : Fun K "_law_digits" "_law_digits" s_law_digits f fd) (hm : mg "_law_digits" = some (.ref f)) (bd : Binds K fd ["_law_cell_here", "_law_many", "_law_count"] []) (m_int : mg "int" = none) (m_range : mg "range" = none) :
    Fn P w K mg base cl CX0 1 "_law_digits" false m_law_digits :=
  fn_mk (Γ' := []) F sc_law_digits hm bd fun cdv A outer s H E hr => have nd := sc_law_digits.nd; (ss_cons (s_own 3 nd (f_lst (a_nil)))
    (ss_cons (s_set 4 nd (e_var 0))
    (ss_cons (s_for PassesOwn.never (i_rg1 m_range (b_var 2)) (g_name 5 nd)
      (ss_one (s_if (t_ge (b_var 0) ((e_pow ((e_int).b) ((e_int).b)).b))
      (ss_cons (s_app 3 (e_mod ((e_intc m_int (b_var 4)).b) (b_var 1)))
    (ss_one (s_set 4 nd (e_fdiv (b_var 4) (b_var 1)))))
      (ss_cons (s_set 6 nd (e_mod ((e_intc m_int ((e_add ((e_add ((e_mul (b_var 0) ((e_int).b)).b) ((e_mul (b_var 5) ((e_int).b)).b)).b) ((e_int).b)).b)).b) ((e_int).b)))
    (ss_cons (s_set 6 nd (e_mod ((e_intc m_int ((e_add ((e_add ((e_mul (b_var 6) (b_var 6)).b) ((e_mul ((e_int).b) (b_var 6)).b)).b) ((e_mul ((e_int).b) (b_var 5)).b)).b)).b) ((e_int).b)))
    (ss_one (s_app 3 (e_mod ((e_intc m_int ((e_fdiv (b_var 6) ((e_int).b)).b)).b) (b_var 1)))))))))
    (ss_frz 3 (ss_one (s_ret (e_var 3)))))) : DSs _ _ _ _ _ _ _ _ _ b_law_digits)
theorem sc_law_atom : FnScope ["_law_digit", "_law_count", "_law_relations", "_law_fitting", "_law_relation", "_law_rest", "_law_variables", "_law_chosen", "_law_k", "_law_at"] ["_law_digit", "_law_count", "_law_relations"] (defScope s_law_atom) := ⟨rfl, rfl, rfl, by decide +kernel, rfl, by decide +kernel, by decide +kernel⟩
theorem ok_law_atom {f : Addr} {fd : FuncData} (F : Fun K "_law_atom" "_law_atom" s_law_atom f fd) (hm : mg "_law_atom" = some (.ref f)) (bd : Binds K fd ["_law_digit", "_law_count", "_law_relations"] []) (m_len : mg "len" = none) (m_int : mg "int" = none) (m_list : mg "list" = none) (m_range : mg "range" = none) (m_min : mg "min" = none) (m_tuple : mg "tuple" = none) :
    Fn P w K mg base cl CX0 1 "_law_atom" false m_law_atom :=
  fn_mk (Γ' := []) F sc_law_atom hm bd fun cdv A outer s H E hr => have nd := sc_law_atom.nd; (ss_cons (s_setLc [("_law_relation", 4)] 3 nd (i_any (e_var 2)) (fun _ => gv_name 4 nd) (fun _ => ts_one (t_le ((e_ix (b_var 4) ((e_int).b)).b) (b_var 1))) (fun _ => e_var 4) (by first | (show blkC ["_law_digit", "_law_count", "_law_relations", "_law_fitting", "_law_relation", "_law_rest", "_law_variables", "_law_chosen", "_law_k", "_law_at"] (defScope s_law_atom) _ _ = true; decide +kernel) | (show blkC ["_law_digit", "_law_count", "_law_relations", "_law_fitting", "_law_relation", "_law_rest", "_law_variables", "_law_chosen", "_law_k", "_law_at"] (relS _ (defScope s_law_atom)) _ _ = true; decide +kernel) | (show blkC ["_law_digit", "_law_count", "_law_relations", "_law_fitting", "_law_relation", "_law_rest", "_law_variables", "_law_chosen", "_law_k", "_law_at"] (relS _ (relS _ (defScope s_law_atom))) _ _ = true; decide +kernel)) (sw_true rfl rfl rfl (by decide +kernel)))
    (ss_cons (s_if (t_eq hr ((e_len m_len (b_var 3)).b) ((e_int).b))
      (ss_one (s_ret (e_tup (a_cons (e_str) (a_nil)))))
      (ss_nil))
    (ss_cons (s_set 4 nd (e_ix (b_var 3) ((e_mod ((e_intc m_int (b_var 0)).b) ((e_len m_len (b_var 3)).b)).b)))
    (ss_cons (s_set 5 nd (e_fdiv ((e_intc m_int (b_var 0)).b) ((e_len m_len (b_var 3)).b)))
    (ss_cons (s_own 6 nd (f_listRg m_list m_range (b_var 1)))
    (ss_cons (s_own 7 nd (f_lst (a_nil)))
    (ss_cons (s_for PassesOwn.never (i_rg1 m_range ((e_ix (b_var 4) ((e_int).b)).b)) (g_name 8 nd)
      (ss_cons (s_set 9 nd (e_mod ((e_intc m_int (b_var 5)).b) ((e_len m_len (b_var 6)).b)))
    (ss_cons (s_set 5 nd (e_fdiv (b_var 5) ((e_len m_len (b_var 6)).b)))
    (ss_one (s_appPop 7 6 (b_var 9))))))
    (ss_cons (s_if (t_gt ((e_mod ((e_intc m_int (b_var 5)).b) ((e_int).b)).b) ((e_int).b))
      (ss_one (s_ret (e_tup (a_cons (e_str) (a_cons (e_ix (b_var 4) ((e_int).b)) (a_cons (e_tuple m_tuple (b_var 7)) (a_cons (e_mod ((e_intc m_int ((e_fdiv (b_var 5) ((e_int).b)).b)).b) ((e_min2 m_min ((e_add ((e_ix (b_var 4) ((e_int).b)).b) ((e_int).b)).b) ((e_pow ((e_int).b) ((e_int).b)).b)).b)) (a_nil))))))))
      (ss_nil))
    (ss_one (s_ret (e_tup (a_cons (e_str) (a_cons (e_ix (b_var 4) ((e_int).b)) (a_cons (e_tuple m_tuple (b_var 7)) (a_cons (e_mod ((e_intc m_int ((e_fdiv (b_var 5) ((e_int).b)).b)).b) ((e_pow ((e_int).b) ((e_int).b)).b)) (a_nil))))))))))))))) : DSs _ _ _ _ _ _ _ _ _ b_law_atom)
theorem sc_law_formula : FnScope ["_law_cell_here", "_law_count", "_law_relations", "_law_most", "_law_digits_here", "_law_trees", "_law_k", "_law_choice", "_law_rest", "_law_second"] ["_law_cell_here", "_law_count", "_law_relations", "_law_most"] (defScope s_law_formula) := ⟨rfl, rfl, rfl, by decide +kernel, rfl, by decide +kernel, by decide +kernel⟩
theorem ok_law_formula {f : Addr} {fd : FuncData} (F : Fun K "_law_formula" "_law_formula" s_law_formula f fd) (hm : mg "_law_formula" = some (.ref f)) (bd : Binds K fd ["_law_cell_here", "_law_count", "_law_relations", "_law_most"] []) (m_int : mg "int" = none) (m_len : mg "len" = none) (m_range : mg "range" = none) (h_law_digits : Fn P w K mg base cl CX0 1 "_law_digits" false m_law_digits) (h_law_atom : Fn P w K mg base cl CX0 1 "_law_atom" false m_law_atom) :
    Fn P w K mg base cl CX0 2 "_law_formula" false m_law_formula :=
  fn_mk (Γ' := []) F sc_law_formula hm bd fun cdv A outer s H E hr => have nd := sc_law_formula.nd; (ss_cons (s_set 4 nd (e_call h_law_digits hr (by decide) pass0 (a_cons (e_var 0) (a_cons (e_mul ((e_int).b) ((e_pow ((e_int).b) ((e_int).b)).b)) (a_cons (e_add (b_var 3) ((e_int).b)) (a_nil))))))
    (ss_cons (s_own 5 nd (f_lst (a_nil)))
    (ss_cons (s_for PassesOwn.never (i_rg1 m_range ((e_add ((e_int).b) ((e_mod ((e_intc m_int ((e_ix (b_var 4) ((e_int).b)).b)).b) (b_var 3)).b)).b)) (g_name 6 nd)
      (ss_cons (s_set 7 nd (e_mod ((e_intc m_int ((e_ix (b_var 4) ((e_add ((e_int).b) (b_var 6)).b)).b)).b) ((e_int).b)))
    (ss_cons (s_set 8 nd (e_fdiv ((e_intc m_int ((e_ix (b_var 4) ((e_add ((e_int).b) (b_var 6)).b)).b)).b) ((e_int).b)))
    (ss_one (s_if (t_eq hr (b_var 7) ((e_int).b))
      (ss_one (s_app 5 (e_tup (a_cons (e_ix (((f_lst (a_cons (e_str) (a_cons (e_str) (a_nil)))).e).b) ((e_mod ((e_intc m_int (b_var 8)).b) ((e_int).b)).b)) (a_nil)))))
      (ss_one (s_if ((t_or (t_lt (b_var 7) ((e_int).b)) (t_or (t_eq hr ((e_len m_len (b_var 5)).b) ((e_int).b)) (t_or1 ((t_and (t_gt (b_var 7) ((e_int).b)) (t_and1 (t_eq hr ((e_len m_len (b_var 5)).b) ((e_int).b)))).t)))).t)
      (ss_one (s_app 5 (e_call h_law_atom hr (by decide) pass0 (a_cons (e_var 8) (a_cons (e_var 1) (a_cons (e_var 2) (a_nil)))))))
      (ss_one (s_if (t_lt (b_var 7) ((e_int).b))
      (ss_one (s_appX 5 (x_tup (xa_cons ((e_str).x) (xa_cons (x_pop 5) (xa_nil))))))
      (ss_cons (s_setX 9 nd (x_pop 5))
    (ss_one (s_appX 5 (x_tup (xa_cons ((e_ix (((f_lst (a_cons (e_str) (a_cons (e_str) (a_cons (e_str) (a_cons (e_str) (a_nil)))))).e).b) ((e_sub (b_var 7) ((e_int).b)).b)).x) (xa_cons (x_pop 5) (xa_cons ((e_var 9).x) (xa_nil)))))))))))))))))
    (ss_cons (s_set 8 nd (e_fdiv ((e_intc m_int ((e_ix (b_var 4) ((e_int).b)).b)).b) (b_var 3)))
    (ss_cons (s_for PassesOwn.never (i_rg1 m_range (b_var 3)) (g_name 6 nd)
      (ss_one (s_if (t_gt ((e_len m_len (b_var 5)).b) ((e_int).b))
      (ss_cons (s_setX 9 nd (x_pop 5))
    (ss_cons (s_appX 5 (x_tup (xa_cons ((e_ix (((f_lst (a_cons (e_str) (a_cons (e_str) (a_cons (e_str) (a_cons (e_str) (a_nil)))))).e).b) ((e_mod ((e_intc m_int (b_var 8)).b) ((e_int).b)).b)).x) (xa_cons (x_pop 5) (xa_cons ((e_var 9).x) (xa_nil))))))
    (ss_one (s_set 8 nd (e_fdiv (b_var 8) ((e_int).b))))))
      (ss_nil))))
    (ss_one (s_ret (e_ix (b_var 5) ((e_int).b)))))))) : DSs _ _ _ _ _ _ _ _ _ b_law_formula)
theorem sc_law_atoms : FnScope ["_law_formula_here", "_law_atoms_here", "_law_left", "_law_k", "_law_tree", "_law_inner"] ["_law_formula_here"] (defScope s_law_atoms) := ⟨rfl, rfl, rfl, by decide +kernel, rfl, by decide +kernel, by decide +kernel⟩
theorem ok_law_atoms {f : Addr} {fd : FuncData} (F : Fun K "_law_atoms" "_law_atoms" s_law_atoms f fd) (hm : mg "_law_atoms" = some (.ref f)) (bd : Binds K fd ["_law_formula_here"] []) (m_len : mg "len" = none) (m_range : mg "range" = none) :
    Fn P w K mg base cl CX0 1 "_law_atoms" false m_law_atoms :=
  fn_mk (Γ' := []) F sc_law_atoms hm bd fun cdv A outer s H E hr => have nd := sc_law_atoms.nd; (ss_cons (s_own 1 nd (f_lst (a_nil)))
    (ss_cons (s_own 2 nd (f_lst (a_cons (e_var 0) (a_nil))))
    (ss_cons (s_for PassesOwn.never (i_rg1 m_range ((e_int).b)) (g_name 3 nd)
      (ss_one (s_if (t_gt ((e_len m_len (b_var 2)).b) ((e_int).b))
      (ss_cons (s_setX 4 nd (x_pop 2))
    (ss_one (s_if (t_eq hr ((e_ix (b_var 4) ((e_int).b)).b) ((e_str).b))
      (ss_one (s_app 1 (e_var 4)))
      (ss_one (s_for PassesOwn.never (i_any (e_revA (e_slice (b_var 4) (o_some (e_int)) (o_no)))) (g_name 5 nd)
      (ss_one (s_app 2 (e_var 5))))))))
      (ss_nil))))
    (ss_frz 1 (ss_one (s_ret (e_var 1)))))) : DSs _ _ _ _ _ _ _ _ _ b_law_atoms)
theorem sc_atoms_of : FnScope ["formula", "atoms", "inner"] ["formula"] (defScope s_atoms_of) := ⟨rfl, rfl, rfl, by decide +kernel, rfl, by decide +kernel, by decide +kernel⟩
theorem okr_atoms_of {f_atoms_of : Addr} {fd_atoms_of : FuncData} (F_atoms_of : Fun K "atoms_of" "atoms_of" s_atoms_of f_atoms_of fd_atoms_of) (hm_atoms_of : mg "atoms_of" = some (.ref f_atoms_of)) (bd_atoms_of : Binds K fd_atoms_of ["formula"] [])  : ∀ n : Nat, Fn P w K mg base cl CX0 (0 + n) "atoms_of" true (m_atoms_of n)
  | 0 => fn_bad F_atoms_of hm_atoms_of bd_atoms_of
  | n + 1 =>
    let h_atoms_of := okr_atoms_of F_atoms_of hm_atoms_of bd_atoms_of  n
    fn_mk (Γ' := []) F_atoms_of sc_atoms_of hm_atoms_of bd_atoms_of fun cdv A outer s H E hr => have nd := sc_atoms_of.nd; (ss_cons (s_if (t_eq hr ((e_ix (b_var 0) ((e_int).b)).b) ((e_str).b))
      (ss_one (s_retF (f_lst (a_cons (e_var 0) (a_nil)))))
      (ss_nil))
    (ss_cons (s_own 1 nd (f_lst (a_nil)))
    (ss_cons (s_for PassesOwn.never (i_any (e_slice (b_var 0) (o_some (e_int)) (o_no))) (g_name 2 nd)
      (ss_one (s_ext 1 (((f_call h_atoms_of hr (by first | exact Nat.le_refl _ | exact Nat.le_trans (by decide) (Nat.le_add_right _ _)) pass0 (a_cons (e_var 2) (a_nil))).e).b))))
    (ss_one (s_retO 1)))) : DSs _ _ _ _ _ _ _ _ _ (b_atoms_of (m_atoms_of n)))
theorem sc_law_equal : FnScope ["_law_actual", "_law_expected", "_law_k"] ["_law_actual", "_law_expected"] (defScope s_law_equal) := ⟨rfl, rfl, rfl, by decide +kernel, rfl, by decide +kernel, by decide +kernel⟩
theorem okr_law_equal {f_law_equal : Addr} {fd_law_equal : FuncData} (F_law_equal : Fun K "_law_equal" "_law_equal" s_law_equal f_law_equal fd_law_equal) (hm_law_equal : mg "_law_equal" = some (.ref f_law_equal)) (bd_law_equal : Binds K fd_law_equal ["_law_actual", "_law_expected"] []) (m_list : mg "list" = none) (m_isinstance : mg "isinstance" = none) (m_tuple : mg "tuple" = none) (m_len : mg "len" = none) (m_range : mg "range" = none) (m_all : mg "all" = none) (m_bool : mg "bool" = none) (m_int : mg "int" = none) (m_str : mg "str" = none) : ∀ n : Nat, Fn P w K mg base cl CX0 (0 + n) "_law_equal" false (m_law_equal n)
  | 0 => fn_bad F_law_equal hm_law_equal bd_law_equal
  | n + 1 =>
    let h_law_equal := okr_law_equal F_law_equal hm_law_equal bd_law_equal m_list m_isinstance m_tuple m_len m_range m_all m_bool m_int m_str n
    fn_mk (Γ' := []) F_law_equal sc_law_equal hm_law_equal bd_law_equal fun cdv A outer s H E hr => have nd := sc_law_equal.nd; (ss_cons (s_if ((t_or (t_val (e_isi (T := "list") m_isinstance m_list (by decide +kernel) (b_var 1))) (t_or1 (t_val (e_isi (T := "tuple") m_isinstance m_tuple (by decide +kernel) (b_var 1))))).t)
      (ss_cons (s_if ((t_and (t_val (e_isi (T := "list") m_isinstance m_list (by decide +kernel) (b_var 1))) (t_and1 (t_not (t_val (e_isi (T := "list") m_isinstance m_list (by decide +kernel) (b_var 0)))))).t)
      (ss_one (s_ret (e_bl)))
      (ss_nil))
    (ss_cons (s_if ((t_and (t_val (e_isi (T := "tuple") m_isinstance m_tuple (by decide +kernel) (b_var 1))) (t_and1 (t_not (t_val (e_isi (T := "tuple") m_isinstance m_tuple (by decide +kernel) (b_var 0)))))).t)
      (ss_one (s_ret (e_bl)))
      (ss_nil))
    (ss_cons (s_if (t_ne hr ((e_len m_len (b_var 0)).b) ((e_len m_len (b_var 1)).b))
      (ss_one (s_ret (e_bl)))
      (ss_nil))
    (ss_one (s_ret (e_all1 m_all (((f_lc [("_law_k", 2)] nd (i_rg1 m_range ((e_len m_len (b_var 1)).b)) (fun _ => gv_name 2 nd) (fun _ => ts_nil) (fun _ => e_call h_law_equal hr (by first | exact Nat.le_refl _ | exact Nat.le_trans (by decide) (Nat.le_add_right _ _)) pass0 (a_cons (e_ix (b_var 0) (b_var 2)) (a_cons (e_ix (b_var 1) (b_var 2)) (a_nil)))) (by first | (show blkC ["_law_actual", "_law_expected", "_law_k"] (defScope s_law_equal) _ _ = true; decide +kernel) | (show blkC ["_law_actual", "_law_expected", "_law_k"] (relS _ (defScope s_law_equal)) _ _ = true; decide +kernel) | (show blkC ["_law_actual", "_law_expected", "_law_k"] (relS _ (relS _ (defScope s_law_equal))) _ _ = true; decide +kernel))).e).b)))))))
      (ss_nil))
    (ss_cons (s_if (t_val (e_isi (T := "bool") m_isinstance m_bool (by decide +kernel) (b_var 1)))
      (ss_one (s_ret (e_and (e_isi (T := "bool") m_isinstance m_bool (by decide +kernel) (b_var 0)) (e_one (e_eq hr (b_var 0) (b_var 1))))))
      (ss_nil))
    (ss_cons (s_if (t_val (e_isi (T := "int") m_isinstance m_int (by decide +kernel) (b_var 1)))
      (ss_one (s_ret (e_and (e_isi (T := "int") m_isinstance m_int (by decide +kernel) (b_var 0)) (e_and (e_not (e_isi (T := "bool") m_isinstance m_bool (by decide +kernel) (b_var 0))) (e_one (e_eq hr (b_var 0) (b_var 1)))))))
      (ss_nil))
    (ss_one (s_ret (e_and (e_isi (T := "str") m_isinstance m_str (by decide +kernel) (b_var 0)) (e_one (e_eq hr (b_var 0) (b_var 1)))))))) : DSs _ _ _ _ _ _ _ _ _ (b_law_equal (m_law_equal n)))
theorem sc_law_names : FnScope ["_law_cell_here", "_law_count", "_law_words", "_law_small", "_law_inner", "_law_digits_here", "_law_names_here", "_law_k", "_law_row", "_law_way", "_law_name", "_law_at", "_law_middle", "_law_j"] ["_law_cell_here", "_law_count"] (defScope s_law_names) := ⟨rfl, rfl, rfl, by decide +kernel, rfl, by decide +kernel, by decide +kernel⟩
theorem ok_law_names {f : Addr} {fd : FuncData} (F : Fun K "_law_names" "_law_names" s_law_names f fd) (hm : mg "_law_names" = some (.ref f)) (bd : Binds K fd ["_law_cell_here", "_law_count"] []) (m_int : mg "int" = none) (m_range : mg "range" = none) (m_len : mg "len" = none) (h_law_digits : Fn P w K mg base cl CX0 1 "_law_digits" false m_law_digits) :
    Fn P w K mg base cl CX0 2 "_law_names" false m_law_names :=
  fn_mk (Γ' := []) F sc_law_names hm bd fun cdv A outer s H E hr => have nd := sc_law_names.nd; (ss_cons (s_set 2 nd ((f_lst (a_cons (e_str) (a_cons (e_str) (a_cons (e_str) (a_cons (e_str) (a_cons (e_str) (a_cons (e_str) (a_cons (e_str) (a_cons (e_str) (a_cons (e_str) (a_nil))))))))))).e))
    (ss_cons (s_set 3 nd (e_str))
    (ss_cons (s_set 4 nd (e_add ((e_add (b_var 3) ((e_str).b)).b) ((e_str).b)))
    (ss_cons (s_set 5 nd (e_call h_law_digits hr (by decide) pass0 (a_cons (e_var 0) (a_cons (e_int) (a_cons (e_mul ((e_int).b) (b_var 1)) (a_nil))))))
    (ss_cons (s_own 6 nd (f_lst (a_nil)))
    (ss_cons (s_for PassesOwn.never (i_rg1 m_range (b_var 1)) (g_name 7 nd)
      (ss_cons (s_set 8 nd (e_slice (b_var 5) (o_some (e_mul ((e_int).b) (b_var 7))) (o_some (e_add ((e_mul ((e_int).b) (b_var 7)).b) ((e_int).b)))))
    (ss_cons (s_set 9 nd (e_mod ((e_intc m_int ((e_fdiv ((e_ix (b_var 8) ((e_int).b)).b) ((e_int).b)).b)).b) ((e_int).b)))
    (ss_cons (s_set 10 nd (e_add ((e_ix (b_var 3) ((e_mod ((e_intc m_int ((e_ix (b_var 8) ((e_int).b)).b)).b) ((e_int).b)).b)).b) ((e_strM PySem.F.slot_str_join PySem.F.type_str_join mt_join sm_join ((e_str).b) (((f_lc [("_law_j", 13)] nd (i_rg1 m_range ((e_mod ((e_intc m_int ((e_fdiv ((e_ix (b_var 8) ((e_int).b)).b) ((e_int).b)).b)).b) ((e_int).b)).b)) (fun _ => gv_name 13 nd) (fun _ => ts_nil) (fun _ => e_ix (b_var 4) ((e_mod ((e_intc m_int ((e_ix (b_var 8) ((e_add ((e_int).b) (b_var 13)).b)).b)).b) ((e_int).b)).b)) (by first | (show blkC ["_law_cell_here", "_law_count", "_law_words", "_law_small", "_law_inner", "_law_digits_here", "_law_names_here", "_law_k", "_law_row", "_law_way", "_law_name", "_law_at", "_law_middle", "_law_j"] (defScope s_law_names) _ _ = true; decide +kernel) | (show blkC ["_law_cell_here", "_law_count", "_law_words", "_law_small", "_law_inner", "_law_digits_here", "_law_names_here", "_law_k", "_law_row", "_law_way", "_law_name", "_law_at", "_law_middle", "_law_j"] (relS _ (defScope s_law_names)) _ _ = true; decide +kernel) | (show blkC ["_law_cell_here", "_law_count", "_law_words", "_law_small", "_law_inner", "_law_digits_here", "_law_names_here", "_law_k", "_law_row", "_law_way", "_law_name", "_law_at", "_law_middle", "_law_j"] (relS _ (relS _ (defScope s_law_names))) _ _ = true; decide +kernel))).e).b)).b)))
    (ss_cons (s_if ((t_and (t_eq hr (b_var 9) ((e_int).b)) (t_and1 (t_gt (b_var 7) ((e_int).b)))).t)
      (ss_cons (s_set 11 nd (e_mod ((e_intc m_int ((e_ix (b_var 8) ((e_int).b)).b)).b) ((e_len m_len ((e_ix (b_var 6) ((e_sub (b_var 7) ((e_int).b)).b)).b)).b)))
    (ss_cons (s_set 12 nd (e_ix (b_var 4) ((e_mod ((e_intc m_int ((e_ix (b_var 8) ((e_int).b)).b)).b) ((e_int).b)).b)))
    (ss_cons (s_if (t_eq hr (b_var 11) ((e_int).b))
      (ss_one (s_set 12 nd (e_ix (b_var 3) ((e_mod ((e_intc m_int ((e_ix (b_var 8) ((e_int).b)).b)).b) ((e_int).b)).b))))
      (ss_nil))
    (ss_one (s_set 10 nd (e_add ((e_add ((e_slice ((e_ix (b_var 6) ((e_sub (b_var 7) ((e_int).b)).b)).b) (o_no) (o_some (e_var 11))).b) (b_var 12)).b) ((e_slice ((e_ix (b_var 6) ((e_sub (b_var 7) ((e_int).b)).b)).b) (o_some (e_add (b_var 11) ((e_int).b))) (o_no)).b)))))))
      (ss_nil))
    (ss_cons (s_if ((t_and (t_eq hr (b_var 9) ((e_int).b)) (t_and1 (t_gt (b_var 7) ((e_int).b)))).t)
      (ss_one (s_set 10 nd (e_add ((e_ix (b_var 6) ((e_sub (b_var 7) ((e_int).b)).b)).b) ((e_ix (b_var 4) ((e_mod ((e_intc m_int ((e_ix (b_var 8) ((e_int).b)).b)).b) ((e_int).b)).b)).b))))
      (ss_nil))
    (ss_cons (s_if ((t_and (t_eq hr (b_var 9) ((e_int).b)) (t_and1 (t_eq hr (b_var 7) ((e_int).b)))).t)
      (ss_one (s_set 10 nd (e_add ((e_ix (b_var 2) ((e_mod ((e_intc m_int ((e_ix (b_var 8) ((e_int).b)).b)).b) ((e_int).b)).b)).b) ((e_ix (b_var 4) ((e_mod ((e_intc m_int ((e_ix (b_var 8) ((e_int).b)).b)).b) ((e_int).b)).b)).b))))
      (ss_nil))
    (ss_cons (s_for PassesOwn.never (i_rg1 m_range ((e_add (b_var 1) ((e_int).b)).b)) (g_name 13 nd)
      (ss_one (s_if ((t_or (t_in hr (b_var 10) (b_var 6)) (t_or1 (t_in hr (b_var 10) (b_var 2)))).t)
      (ss_one (s_set 10 nd (e_add (b_var 10) ((e_str).b))))
      (ss_nil))))
    (ss_one (s_app 6 (e_var 10)))))))))))
    (ss_frz 6 (ss_one (s_ret (e_var 6))))))))) : DSs _ _ _ _ _ _ _ _ _ b_law_names)
theorem sc_law_cell : FnScope ["_law_script", "_law_k"] ["_law_script", "_law_k"] (defScope s_law_cell) := ⟨rfl, rfl, rfl, by decide +kernel, rfl, by decide +kernel, by decide +kernel⟩
theorem ok_law_cell {f : Addr} {fd : FuncData} (F : Fun K "_law_cell" "_law_cell" s_law_cell f fd) (hm : mg "_law_cell" = some (.ref f)) (bd : Binds K fd ["_law_script", "_law_k"] []) (m_len : mg "len" = none) (m_int : mg "int" = none) :
    Fn P w K mg base cl CX0 1 "_law_cell" false m_law_cell :=
  fn_mk (Γ' := []) F sc_law_cell hm bd fun cdv A outer s H E hr => have nd := sc_law_cell.nd; (ss_cons (s_if (t_lt (b_var 1) ((e_len m_len (b_var 0)).b))
      (ss_one (s_ret (e_ix (b_var 0) (b_var 1))))
      (ss_nil))
    (ss_cons (s_if (t_eq hr ((e_len m_len (b_var 0)).b) ((e_int).b))
      (ss_one (s_ret (e_mul (b_var 1) ((e_int).b))))
      (ss_nil))
    (ss_one (s_ret (e_add ((e_mul ((e_ix (b_var 0) ((e_mod ((e_intc m_int (b_var 1)).b) ((e_len m_len (b_var 0)).b)).b)).b) ((e_int).b)).b) ((e_mul (b_var 1) ((e_int).b)).b))))) : DSs _ _ _ _ _ _ _ _ _ b_law_cell)
theorem sc_law : FnScope ["_law_script", "_law_offered_here", "_law_count", "_law_formula_here", "_law_rest", "_law_k", "_law_expected", "_law_actual"] ["_law_script"] (defScope s_law) := ⟨rfl, rfl, rfl, by decide +kernel, rfl, by decide +kernel, by decide +kernel⟩
theorem ok_law_ok {f : Addr} {fd : FuncData} (F : Fun K "law" "law" s_law f fd) (m_int : mg "int" = none) (m_range : mg "range" = none) (h_law_offered : Fn P w K mg base cl CX0 1 "_law_offered" false m_law_offered) (h_law_cell : Fn P w K mg base cl CX0 1 "_law_cell" false m_law_cell) (h_law_names : Fn P w K mg base cl CX0 2 "_law_names" false m_law_names) (h_law_formula : Fn P w K mg base cl CX0 2 "_law_formula" false m_law_formula) (h_law_atoms : Fn P w K mg base cl CX0 1 "_law_atoms" false m_law_atoms) (h_atoms_of : Fn P w K mg base cl CX0 60 "atoms_of" true (m_atoms_of 60)) (h_law_equal : Fn P w K mg base cl CX0 60 "_law_equal" false (m_law_equal 60)) :
    FnOk P w K mg base CX0 61 f fd ["_law_script"] (spX K cl false m_law) :=
  fn_ok (Γ' := []) F sc_law fun cdv A outer s H E hr => have nd := sc_law.nd; (ss_cons (s_set 1 nd (e_call h_law_offered hr (by decide) pass0 (a_cons (e_call h_law_names hr (by decide) pass0 (a_cons (e_call h_law_cell hr (by decide) pass0 (a_cons (e_var 0) (a_cons (e_int) (a_nil)))) (a_cons (e_int) (a_nil)))) (a_cons (e_call h_law_cell hr (by decide) pass0 (a_cons (e_var 0) (a_cons (e_int) (a_nil)))) (a_nil)))))
    (ss_cons (s_set 2 nd (e_add ((e_int).b) ((e_mod ((e_intc m_int ((e_call h_law_cell hr (by decide) pass0 (a_cons (e_var 0) (a_cons (e_int) (a_nil)))).b)).b) ((e_int).b)).b)))
    (ss_cons (s_set 3 nd (e_call h_law_formula hr (by decide) pass0 (a_cons (e_call h_law_cell hr (by decide) pass0 (a_cons (e_var 0) (a_cons (e_int) (a_nil)))) (a_cons (e_var 2) (a_cons (e_var 1) (a_cons (e_int) (a_nil)))))))
    (ss_cons (s_set 4 nd (e_fdiv ((e_intc m_int ((e_call h_law_cell hr (by decide) pass0 (a_cons (e_var 0) (a_cons (e_int) (a_nil)))).b)).b) ((e_int).b)))
    (ss_cons (s_for PassesOwn.never (i_rg1 m_range ((e_mod ((e_intc m_int (b_var 4)).b) ((e_int).b)).b)) (g_name 5 nd)
      (ss_cons (s_set 4 nd (e_fdiv (b_var 4) ((e_int).b)))
    (ss_one (s_set 3 nd (e_tup (a_cons (e_ix (((f_lst (a_cons (e_str) (a_cons (e_str) (a_cons (e_str) (a_cons (e_str) (a_nil)))))).e).b) ((e_mod ((e_intc m_int (b_var 4)).b) ((e_int).b)).b)) (a_cons (e_var 3) (a_cons (e_var 3) (a_nil)))))))))
    (ss_cons (s_set 6 nd (e_call h_law_atoms hr (by decide) pass0 (a_cons (e_var 3) (a_nil))))
    (ss_cons (s_own 7 nd (f_call h_atoms_of hr (by decide) pass0 (a_cons (e_var 3) (a_nil))))
    (ss_cons (s_if (t_not (t_val (e_callS h_law_equal hr (by decide) pass0 (ab_cons (b_var 7) (ab_cons (b_var 6) (ab_nil))))))
      (ss_one (s_ret (e_bl)))
      (ss_nil))
    (ss_cons (s_rev 7)
    (ss_cons (s_app 7 (e_tup (a_cons (e_str) (a_nil))))
    (ss_one (s_ret (e_call h_law_equal hr (by decide) pass0 (a_cons ((f_call h_atoms_of hr (by decide) pass0 (a_cons (e_var 3) (a_nil))).e) (a_cons (e_var 6) (a_nil))))))))))))))) : DSs _ _ _ _ _ _ _ _ _ b_law)
end
end Mi

namespace Mi
open Dl PySem PySem.Spec PyProof.Rows L2
theorem all_mk {l : PySem.W.OpenLaw} {w : World} {K : PySem.W.Frag} {h : Heap} {mg : Str → Option Value} {fa f1 f2 f3 f4 f5 f6 f7 f8 f9 f10 : Addr} (X : K.In h) (G : h.Ns mainGlobals mg) (hfa : mg "law" = some (.ref fa))
    {od1 an1 od2 an2 od3 an3 od4 an4 od5 an5 od6 an6 od7 an7 od8 an8 od9 an9 od10 an10 : Option Addr} {sl1 sl2 sl3 sl4 sl5 sl6 sl7 sl8 sl9 sl10 : Array (Option Value)} {oc1 kV1 dc1 pm1 cd1 ct1 oc2 kV2 dc2 pm2 cd2 ct2 oc3 kV3 dc3 pm3 cd3 ct3 oc4 kV4 dc4 pm4 cd4 ct4 oc5 kV5 dc5 pm5 cd5 ct5 oc6 kV6 dc6 pm6 cd6 ct6 oc7 kV7 dc7 pm7 cd7 ct7 oc8 kV8 dc8 pm8 cd8 ct8 oc9 kV9 dc9 pm9 cd9 ct9 oc10 kV10 dc10 pm10 cd10 ct10 : Value}
    (a1 : PySem.W.nsIn K mainGlobals "_law_offered" = some (some (.ref f1)))
    (l1 : K.lookup f1 = some ⟨oc1, od1, .func (PySem.W.fnOf "_law_offered" "_law_offered" (defArgs s_law_offered) (defBody s_law_offered) (defScope s_law_offered) .none kV1 dc1 pm1 an1 cd1 ct1), sl1⟩) (c1 : PySem.W.codeIn K cd1 "_law_offered" = true) (k1 : PySem.W.keepIn K (.ref f1) = true)
    (a2 : PySem.W.nsIn K mainGlobals "_law_digits" = some (some (.ref f2)))
    (l2 : K.lookup f2 = some ⟨oc2, od2, .func (PySem.W.fnOf "_law_digits" "_law_digits" (defArgs s_law_digits) (defBody s_law_digits) (defScope s_law_digits) .none kV2 dc2 pm2 an2 cd2 ct2), sl2⟩) (c2 : PySem.W.codeIn K cd2 "_law_digits" = true) (k2 : PySem.W.keepIn K (.ref f2) = true)
    (a3 : PySem.W.nsIn K mainGlobals "_law_atom" = some (some (.ref f3)))
    (l3 : K.lookup f3 = some ⟨oc3, od3, .func (PySem.W.fnOf "_law_atom" "_law_atom" (defArgs s_law_atom) (defBody s_law_atom) (defScope s_law_atom) .none kV3 dc3 pm3 an3 cd3 ct3), sl3⟩) (c3 : PySem.W.codeIn K cd3 "_law_atom" = true) (k3 : PySem.W.keepIn K (.ref f3) = true)
    (a4 : PySem.W.nsIn K mainGlobals "_law_formula" = some (some (.ref f4)))
    (l4 : K.lookup f4 = some ⟨oc4, od4, .func (PySem.W.fnOf "_law_formula" "_law_formula" (defArgs s_law_formula) (defBody s_law_formula) (defScope s_law_formula) .none kV4 dc4 pm4 an4 cd4 ct4), sl4⟩) (c4 : PySem.W.codeIn K cd4 "_law_formula" = true) (k4 : PySem.W.keepIn K (.ref f4) = true)
    (a5 : PySem.W.nsIn K mainGlobals "_law_atoms" = some (some (.ref f5)))
    (l5 : K.lookup f5 = some ⟨oc5, od5, .func (PySem.W.fnOf "_law_atoms" "_law_atoms" (defArgs s_law_atoms) (defBody s_law_atoms) (defScope s_law_atoms) .none kV5 dc5 pm5 an5 cd5 ct5), sl5⟩) (c5 : PySem.W.codeIn K cd5 "_law_atoms" = true) (k5 : PySem.W.keepIn K (.ref f5) = true)
    (a6 : PySem.W.nsIn K mainGlobals "atoms_of" = some (some (.ref f6)))
    (l6 : K.lookup f6 = some ⟨oc6, od6, .func (PySem.W.fnOf "atoms_of" "atoms_of" (defArgs s_atoms_of) (defBody s_atoms_of) (defScope s_atoms_of) .none kV6 dc6 pm6 an6 cd6 ct6), sl6⟩) (c6 : PySem.W.codeIn K cd6 "atoms_of" = true) (k6 : PySem.W.keepIn K (.ref f6) = true)
    (a7 : PySem.W.nsIn K mainGlobals "_law_equal" = some (some (.ref f7)))
    (l7 : K.lookup f7 = some ⟨oc7, od7, .func (PySem.W.fnOf "_law_equal" "_law_equal" (defArgs s_law_equal) (defBody s_law_equal) (defScope s_law_equal) .none kV7 dc7 pm7 an7 cd7 ct7), sl7⟩) (c7 : PySem.W.codeIn K cd7 "_law_equal" = true) (k7 : PySem.W.keepIn K (.ref f7) = true)
    (a8 : PySem.W.nsIn K mainGlobals "_law_names" = some (some (.ref f8)))
    (l8 : K.lookup f8 = some ⟨oc8, od8, .func (PySem.W.fnOf "_law_names" "_law_names" (defArgs s_law_names) (defBody s_law_names) (defScope s_law_names) .none kV8 dc8 pm8 an8 cd8 ct8), sl8⟩) (c8 : PySem.W.codeIn K cd8 "_law_names" = true) (k8 : PySem.W.keepIn K (.ref f8) = true)
    (a9 : PySem.W.nsIn K mainGlobals "_law_cell" = some (some (.ref f9)))
    (l9 : K.lookup f9 = some ⟨oc9, od9, .func (PySem.W.fnOf "_law_cell" "_law_cell" (defArgs s_law_cell) (defBody s_law_cell) (defScope s_law_cell) .none kV9 dc9 pm9 an9 cd9 ct9), sl9⟩) (c9 : PySem.W.codeIn K cd9 "_law_cell" = true) (k9 : PySem.W.keepIn K (.ref f9) = true)
    (a10 : PySem.W.nsIn K mainGlobals "law" = some (some (.ref f10)))
    (l10 : K.lookup f10 = some ⟨oc10, od10, .func (PySem.W.fnOf "law" "law" (defArgs s_law) (defBody s_law) (defScope s_law) .none kV10 dc10 pm10 an10 cd10 ct10), sl10⟩) (c10 : PySem.W.codeIn K cd10 "law" = true) (k10 : PySem.W.keepIn K (.ref f10) = true)
    (z_all : PySem.W.nsIn K mainGlobals "all" = some none)
    (z_bool : PySem.W.nsIn K mainGlobals "bool" = some none)
    (z_int : PySem.W.nsIn K mainGlobals "int" = some none)
    (z_isinstance : PySem.W.nsIn K mainGlobals "isinstance" = some none)
    (z_len : PySem.W.nsIn K mainGlobals "len" = some none)
    (z_list : PySem.W.nsIn K mainGlobals "list" = some none)
    (z_min : PySem.W.nsIn K mainGlobals "min" = some none)
    (z_range : PySem.W.nsIn K mainGlobals "range" = some none)
    (z_str : PySem.W.nsIn K mainGlobals "str" = some none)
    (z_tuple : PySem.W.nsIn K mainGlobals "tuple" = some none) :
    ∃ fd : FuncData, (∀ (s : Shared) (v : Value), BindsTo s fd ⟨[v], []⟩ [("_law_script", v)]) ∧ ∀ base : Heap, K.In base → base.Ns mainGlobals mg → FnOk l.prog w K mg base CX0 61 fa fd ["_law_script"] (spLaw K) := by
  have e := hfa.symm.trans (PySem.W.mg_of X G a10)
  cases e
  have F1 := fun_mk (st := s_law_offered) l1 c1 k1
  have b1 := F1.binds (ps := ["_law_names_here", "_law_cell_here"]) fun _ _ _ _ _ _ us hl => match us, hl with | [_, _], _ => rfl
  have F2 := fun_mk (st := s_law_digits) l2 c2 k2
  have b2 := F2.binds (ps := ["_law_cell_here", "_law_many", "_law_count"]) fun _ _ _ _ _ _ us hl => match us, hl with | [_, _, _], _ => rfl
  have F3 := fun_mk (st := s_law_atom) l3 c3 k3
  have b3 := F3.binds (ps := ["_law_digit", "_law_count", "_law_relations"]) fun _ _ _ _ _ _ us hl => match us, hl with | [_, _, _], _ => rfl
  have F4 := fun_mk (st := s_law_formula) l4 c4 k4
  have b4 := F4.binds (ps := ["_law_cell_here", "_law_count", "_law_relations", "_law_most"]) fun _ _ _ _ _ _ us hl => match us, hl with | [_, _, _, _], _ => rfl
  have F5 := fun_mk (st := s_law_atoms) l5 c5 k5
  have b5 := F5.binds (ps := ["_law_formula_here"]) fun _ _ _ _ _ _ us hl => match us, hl with | [_], _ => rfl
  have F6 := fun_mk (st := s_atoms_of) l6 c6 k6
  have b6 := F6.binds (ps := ["formula"]) fun _ _ _ _ _ _ us hl => match us, hl with | [_], _ => rfl
  have F7 := fun_mk (st := s_law_equal) l7 c7 k7
  have b7 := F7.binds (ps := ["_law_actual", "_law_expected"]) fun _ _ _ _ _ _ us hl => match us, hl with | [_, _], _ => rfl
  have F8 := fun_mk (st := s_law_names) l8 c8 k8
  have b8 := F8.binds (ps := ["_law_cell_here", "_law_count"]) fun _ _ _ _ _ _ us hl => match us, hl with | [_, _], _ => rfl
  have F9 := fun_mk (st := s_law_cell) l9 c9 k9
  have b9 := F9.binds (ps := ["_law_script", "_law_k"]) fun _ _ _ _ _ _ us hl => match us, hl with | [_, _], _ => rfl
  have F10 := fun_mk (st := s_law) l10 c10 k10
  have b10 := F10.binds (ps := ["_law_script"]) fun _ _ _ _ _ _ us hl => match us, hl with | [_], _ => rfl
  have m_all := PySem.W.mg_none_of X G z_all
  have m_bool := PySem.W.mg_none_of X G z_bool
  have m_int := PySem.W.mg_none_of X G z_int
  have m_isinstance := PySem.W.mg_none_of X G z_isinstance
  have m_len := PySem.W.mg_none_of X G z_len
  have m_list := PySem.W.mg_none_of X G z_list
  have m_min := PySem.W.mg_none_of X G z_min
  have m_range := PySem.W.mg_none_of X G z_range
  have m_str := PySem.W.mg_none_of X G z_str
  have m_tuple := PySem.W.mg_none_of X G z_tuple
  let cl : Nat → Addr := fun n => match n with  | _ => 0
  refine ⟨PySem.W.fnOf "law" "law" (defArgs s_law) (defBody s_law) (defScope s_law) .none kV10 dc10 pm10 an10 cd10 ct10, fun s v => .of_eq rfl, fun base _ _ => ?_⟩
  have h_law_offered := ok_law_offered (P := l.prog) (w := w) (base := base) (cl := cl) F1 (PySem.W.mg_of X G a1) b1 m_int m_len m_range  
  have h_law_digits := ok_law_digits (P := l.prog) (w := w) (base := base) (cl := cl) F2 (PySem.W.mg_of X G a2) b2 m_int m_range  
  have h_law_atom := ok_law_atom (P := l.prog) (w := w) (base := base) (cl := cl) F3 (PySem.W.mg_of X G a3) b3 m_len m_int m_list m_range m_min m_tuple  
  have h_law_formula := ok_law_formula (P := l.prog) (w := w) (base := base) (cl := cl) F4 (PySem.W.mg_of X G a4) b4 m_int m_len m_range  h_law_digits h_law_atom
  have h_law_atoms := ok_law_atoms (P := l.prog) (w := w) (base := base) (cl := cl) F5 (PySem.W.mg_of X G a5) b5 m_len m_range  
  have hr_atoms_of := okr_atoms_of (P := l.prog) (w := w) (base := base) (cl := cl) F6 (PySem.W.mg_of X G a6) b6    60
  have h_atoms_of := hr_atoms_of
  have hr_law_equal := okr_law_equal (P := l.prog) (w := w) (base := base) (cl := cl) F7 (PySem.W.mg_of X G a7) b7 m_list m_isinstance m_tuple m_len m_range m_all m_bool m_int m_str   60
  have h_law_equal := hr_law_equal
  have h_law_names := ok_law_names (P := l.prog) (w := w) (base := base) (cl := cl) F8 (PySem.W.mg_of X G a8) b8 m_int m_range m_len  h_law_digits
  have h_law_cell := ok_law_cell (P := l.prog) (w := w) (base := base) (cl := cl) F9 (PySem.W.mg_of X G a9) b9 m_len m_int  
  have G := ok_law_ok (P := l.prog) (w := w) (base := base) (cl := cl) F10 m_int m_range  h_law_offered h_law_cell h_law_names h_law_formula h_law_atoms h_atoms_of h_law_equal
  exact G.imp (law_imp law_true)
end Mi
open PySem PySem.W PyProof.Rows
set_option maxRecDepth 100000 in
set_option maxHeartbeats 0 in
theorem PySem.Challenge.cw_oneofeach_k07_atoms_of_a_formula_holds : PySem.Challenge.rw_oneofeach_k07_atoms_of_a_formula.Holds := by
  w_on; o_law; k_head; (case hw => w_witness2)
  k_fill
  refine L2.walk_of (l := PySem.Challenge.rw_oneofeach_k07_atoms_of_a_formula) (n := 63) (k := 61) (x := "_law_script") (CX := fun _ => L2.CX0) (sp := fun w => Dl.spLaw _) rfl (by decide) rfl ⟨rfl, by decide, by decide⟩ (fun w h Y => PySem.W.kIn_of Y) ?F (fun _ _ a ns hl _ hS => ⟨a, ns, rfl, hS, hl, fun _ => rfl⟩) (fun _ _ _ _ _ h => h)
  case F =>
    intro w mg fa h KX G hmg
    refine' Mi.all_mk KX G hmg ?a1 ?l1 ?c1 ?k1 ?a2 ?l2 ?c2 ?k2 ?a3 ?l3 ?c3 ?k3 ?a4 ?l4 ?c4 ?k4 ?a5 ?l5 ?c5 ?k5 ?a6 ?l6 ?c6 ?k6 ?a7 ?l7 ?c7 ?k7 ?a8 ?l8 ?c8 ?k8 ?a9 ?l9 ?c9 ?k9 ?a10 ?l10 ?c10 ?k10 ?z_all ?z_bool ?z_int ?z_isinstance ?z_len ?z_list ?z_min ?z_range ?z_str ?z_tuple
    (case a1 => k_is); (case l1 => k_is); (case c1 => k_is); (case k1 => k_is); (case a2 => k_is); (case l2 => k_is); (case c2 => k_is); (case k2 => k_is)
    (case a3 => k_is); (case l3 => k_is); (case c3 => k_is); (case k3 => k_is); (case a4 => k_is); (case l4 => k_is); (case c4 => k_is); (case k4 => k_is)
    (case a5 => k_is); (case l5 => k_is); (case c5 => k_is); (case k5 => k_is); (case a6 => k_is); (case l6 => k_is); (case c6 => k_is); (case k6 => k_is)
    (case a7 => k_is); (case l7 => k_is); (case c7 => k_is); (case k7 => k_is); (case a8 => k_is); (case l8 => k_is); (case c8 => k_is); (case k8 => k_is)
    (case a9 => k_is); (case l9 => k_is); (case c9 => k_is); (case k9 => k_is); (case a10 => k_is); (case l10 => k_is); (case c10 => k_is); (case k10 => k_is)
    (case z_all => k_is); (case z_bool => k_is); (case z_int => k_is); (case z_isinstance => k_is); (case z_len => k_is); (case z_list => k_is); (case z_min => k_is); (case z_range => k_is)
    (case z_str => k_is); (case z_tuple => k_is)
