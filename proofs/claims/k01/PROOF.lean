import PyProof.Rows.All
import Wide.All
import OpenK.AllK
import Wide.FinOn
import HandS.ForMost
import HandS.Exc
import HandS.Defaults
import HandS.Wide
import HandS.CallSlots
import HandS.WordsExc
import HandS.Style
import HandS.NoneIn
import HandS.TupAny
import HandS.IsInst
import KE.KStateDown
import HandS.Head0
import HandS.Head1
import HandS.Head2
import HandS.HeadEnd
import HandS.HeadHook1
import HandS.HeadHook2
import Lean
import PySem.Challenge.RW_hueshade_k01_sides_of_places
set_option Elab.async false
set_option linter.all false
set_option maxRecDepth 100000
set_option autoImplicit false
/-! F1: data trees, ownership marks, how a value stands for a tree in a heap. -/
namespace Hx
open PySem PySem.Spec L2
open PyProof.Rows hiding St

inductive Kd
  | tup | lst | frl | dik (ks : List Key) | dit (ks : List (List Key)) | ins (c : Nat)
  deriving DecidableEq
inductive D
  | non | bl (b : Bool) | int (i : Int) | str (s : Str) | fnv (k : Nat) | ref (i : Nat) | con (k : Kd) (ds : List D)
  deriving Inhabited
/-- z: shared, never changed again. c f: owned, its items are f. t, o: of a tuple, of an instance by place -/
inductive Fr
  | z | c (f : Fr) | t (fs : List Fr) | o (fs : List Fr)
  deriving Inhabited
abbrev Fp := Addr → Nat
structure Sg where
  K : PySem.W.Frag
  cls : Nat → Addr
  fld : Nat → List Str
  fn : Nat → V
abbrev Env := List (Option (Fr × D))
abbrev Store := List (Fr × D)

def Scal (G : Sg) : V → D → Prop
  | .non, .non => True
  | .bl a, .bl b => a = b
  | .int a, .int b => a = b
  | .str a, .str b => a = b
  | x, .fnv k => x = G.fn k
  | _, _ => False
/-- the object of a container -/
def IsO (G : Sg) : Kd → List V → HO → Prop
  | .tup, vs, o => o = .tup vs
  | .lst, vs, o => o = .lst vs
  | .frl, vs, o => ∃ ob, o = .frz ob (.lst vs)
  | .dik ks, vs, o => o = .dK (ks.zip vs) ∧ ks.length = vs.length
  | .dit ks, vs, o => o = .dT (ks.zip vs) ∧ ks.length = vs.length
  | .ins c, vs, o => ∃ dx, o = .ins (G.cls c) dx ((G.fld c).zip vs) ∧ vs.length ≤ (G.fld c).length
/-- a dict may be locked while a loop walks it -/
def Rdk (H : Hp) (p : Addr) : Kd → HO → Prop
  | .dik _, o => Rd H p o
  | .dit _, o => Rd H p o
  | _, o => H p = some o
def isDct : HO → Bool
  | .dK _ => true
  | .dT _ => true
  | .frz _ (.dK _) => true
  | .frz _ (.dT _) => true
  | _ => false
def Shr (G : Sg) (Fz : Addr → Prop) (H : Hp) (p : Addr) (k : Kd) (vs : List V) : Prop :=
  match k with
  | .tup => SqT G.K H p vs
  | .frl => (Fz p ∧ Rd H p (.lst vs)) ∨ (SqL G.K (fun _ => none) p vs)
  | k => Fz p ∧ ∃ o, Rdk H p k o ∧ IsO G k vs o
def Own (G : Sg) (H : Hp) (p : Addr) (k : Kd) (vs : List V) : Prop := (k ≠ .tup ∧ k ≠ .frl) ∧ ∃ o, H p = some o ∧ IsO G k vs o
def zs (n : Nat) : List Fr := List.replicate n .z

mutual
inductive Rep (G : Sg) (Fz : Addr → Prop) (am : List Addr) (H : Hp) : Fr → V → D → Fp → Prop
  | sc {v d n} : Scal G v d → (∀ q, n q = 0) → Rep G Fz am H .z v d n
  | rf {i p n} : am[i]? = some p → (∀ q, n q = 0) → Rep G Fz am H .z (.ref p) (.ref i) n
  | zz {p k vs ds n} : Shr G Fz H p k vs → Reps G Fz am H (zs ds.length) vs ds n → (∀ q, n q = 0) → Rep G Fz am H .z (.ref p) (.con k ds) n
  | tp {p vs ds fs n} : SqT G.K H p vs → Reps G Fz am H fs vs ds n → Rep G Fz am H (.t fs) (.ref p) (.con .tup ds) n
  | cc {p k vs ds f n m} : Own G H p k vs → Reps G Fz am H (List.replicate ds.length f) vs ds m → (∀ q, n q = m q + if q = p then 1 else 0) → Rep G Fz am H (.c f) (.ref p) (.con k ds) n
  | oo {p c vs ds fs n m} : Own G H p (.ins c) vs → Reps G Fz am H fs vs ds m → (∀ q, n q = m q + if q = p then 1 else 0) → Rep G Fz am H (.o fs) (.ref p) (.con (.ins c) ds) n
inductive Reps (G : Sg) (Fz : Addr → Prop) (am : List Addr) (H : Hp) : List Fr → List V → List D → Fp → Prop
  | nil {n} : (∀ q, n q = 0) → Reps G Fz am H [] [] [] n
  | cons {f v d fs vs ds n1 n2 n} : Rep G Fz am H f v d n1 → Reps G Fz am H fs vs ds n2 → (∀ q, n q = n1 q + n2 q) → Reps G Fz am H (f :: fs) (v :: vs) (d :: ds) n
end

section
variable {G : Sg} {Fz Fz' : Addr → Prop} {am am' : List Addr} {H H' : Hp}

/-- the shared part stays -/
structure Ext (Fz : Addr → Prop) (am : List Addr) (H : Hp) (Fz' : Addr → Prop) (am' : List Addr) (H' : Hp) : Prop where
  fz : ∀ p, Fz p → Fz' p
  cl : ∀ (i : Nat) (p : Addr), am[i]? = some p → am'[i]? = some p
  rd : ∀ p u, Fz p → Rd H p u → Rd H' p u
  st : ∀ p u, Fz p → H p = some u → isDct u = false → H' p = some u
  tp : ∀ p xs, Rd H p (.tup xs) → Rd H' p (.tup xs)
theorem Ext.refl : Ext Fz am H Fz am H := ⟨fun _ h => h, fun _ _ h => h, fun _ _ _ h => h, fun _ _ _ h _ => h, fun _ _ h => h⟩
theorem Ext.trans {Fz2 : Addr → Prop} {am2 : List Addr} {H2 : Hp} (a : Ext Fz am H Fz' am' H') (b : Ext Fz' am' H' Fz2 am2 H2) : Ext Fz am H Fz2 am2 H2 :=
  ⟨fun p h => b.fz p (a.fz p h), fun i p h => b.cl i p (a.cl i p h), fun p u h1 h2 => b.rd p u (a.fz p h1) (a.rd p u h1 h2), fun p u h1 h2 h3 => b.st p u (a.fz p h1) (a.st p u h1 h2 h3) h3, fun p xs h => b.tp p xs (a.tp p xs h)⟩
theorem Ext.sqt (E : Ext Fz am H Fz' am' H') {K : PySem.W.Frag} {p : Addr} {vs : List V} (h : SqT K H p vs) : SqT K H' p vs := h.imp (E.tp _ _) fun x => x
theorem Ext.shr (E : Ext Fz am H Fz' am' H') {p : Addr} {k : Kd} {vs : List V} (h : Shr G Fz H p k vs) : Shr G Fz' H' p k vs := by
  cases k with
  | tup => exact E.sqt h
  | dik ks => obtain ⟨h1, o, h2, h3⟩ := h; exact ⟨E.fz _ h1, o, E.rd _ _ h1 h2, h3⟩
  | dit ks => obtain ⟨h1, o, h2, h3⟩ := h; exact ⟨E.fz _ h1, o, E.rd _ _ h1 h2, h3⟩
  | lst => obtain ⟨h1, o, h2, h3⟩ := h; exact ⟨E.fz _ h1, o, E.st _ _ h1 h2 (by cases h3; rfl), h3⟩
  | frl => exact h.imp (fun ⟨h1, h2⟩ => ⟨E.fz _ h1, E.rd _ _ h1 h2⟩) id
  | ins c => obtain ⟨h1, o, h2, h3⟩ := h; exact ⟨E.fz _ h1, o, E.st _ _ h1 h2 (by obtain ⟨dx, e, _⟩ := h3; subst e; rfl), h3⟩

mutual
theorem Rep.ext {f : Fr} {v : V} {d : D} {n : Fp} (E : Ext Fz am H Fz' am' H') (r : Rep G Fz am H f v d n) (k : ∀ p o, 0 < n p → H p = some o → H' p = some o) : Rep G Fz' am' H' f v d n :=
  match r with
  | .sc h1 h2 => .sc h1 h2
  | .rf h1 h2 => .rf (E.cl _ _ h1) h2
  | .zz h1 h2 h3 => .zz (E.shr h1) (Reps.ext E h2 k) h3
  | .tp h1 h2 => .tp (E.sqt h1) (Reps.ext E h2 k)
  | .cc ⟨t, o, h1, h2⟩ h3 h4 => .cc ⟨t, o, k _ _ (by rw [h4]; simp) h1, h2⟩ (Reps.ext E h3 fun p o hp => k p o (by rw [h4]; omega)) h4
  | .oo ⟨t, o, h1, h2⟩ h3 h4 => .oo ⟨t, o, k _ _ (by rw [h4]; simp) h1, h2⟩ (Reps.ext E h3 fun p o hp => k p o (by rw [h4]; omega)) h4
theorem Reps.ext {fs : List Fr} {vs : List V} {ds : List D} {n : Fp} (E : Ext Fz am H Fz' am' H') (r : Reps G Fz am H fs vs ds n) (k : ∀ p o, 0 < n p → H p = some o → H' p = some o) : Reps G Fz' am' H' fs vs ds n :=
  match r with
  | .nil h => .nil h
  | .cons h1 h2 h3 => .cons (Rep.ext E h1 fun p o hp => k p o (by rw [h3]; omega)) (Reps.ext E h2 fun p o hp => k p o (by rw [h3]; omega)) h3
end

/-- footprints by value -/
theorem Rep.fp {f : Fr} {v : V} {d : D} {n m : Fp} (r : Rep G Fz am H f v d n) (h : ∀ q, n q = m q) : Rep G Fz am H f v d m := by
  have e : n = m := funext h
  exact e ▸ r
theorem Reps.fp {f : List Fr} {v : List V} {d : List D} {n m : Fp} (r : Reps G Fz am H f v d n) (h : ∀ q, n q = m q) : Reps G Fz am H f v d m := by
  have e : n = m := funext h
  exact e ▸ r

theorem Rep.z0 {v : V} {d : D} {n : Fp} (r : Rep G Fz am H .z v d n) : ∀ q, n q = 0 := by
  cases r with
  | sc _ h => exact h
  | rf _ h => exact h
  | zz _ _ h => exact h
theorem Reps.z0 : ∀ {k : Nat} {vs : List V} {ds : List D} {n : Fp}, Reps G Fz am H (zs k) vs ds n → ∀ q, n q = 0
  | 0, _, _, _, r => by
    cases r with
    | nil h => exact h
  | k + 1, _, _, _, r => by
    have e : zs (k + 1) = .z :: zs k := List.replicate_succ
    rw [e] at r
    cases r with
    | cons h1 h2 h3 => intro q; rw [h3, h1.z0, Reps.z0 h2]
theorem Reps.len {fs : List Fr} {vs : List V} {ds : List D} {n : Fp} (r : Reps G Fz am H fs vs ds n) : fs.length = ds.length ∧ vs.length = ds.length := by
  match r with
  | .nil _ => exact ⟨rfl, rfl⟩
  | .cons _ h _ => have := h.len; exact ⟨congrArg Nat.succ this.1, congrArg Nat.succ this.2⟩

/-- an owned address stands -/
theorem own_there {p0 p : Addr} {k : Kd} {vs : List V} {m : Nat} (h1 : Own G H p0 k vs) (ih : 0 < m → ∃ o, H p = some o) (hp : 0 < m + if p = p0 then 1 else 0) : ∃ o, H p = some o := by
  by_cases e : p = p0
  · subst e
    obtain ⟨_, o, h, _⟩ := h1
    exact ⟨o, h⟩
  · simp [e] at hp
    exact ih hp
mutual
theorem Rep.there {f : Fr} {v : V} {d : D} {n : Fp} (r : Rep G Fz am H f v d n) (p : Addr) (hp : 0 < n p) : ∃ o, H p = some o :=
  match r with
  | .sc _ h => by rw [h] at hp; omega
  | .rf _ h => by rw [h] at hp; omega
  | .zz _ _ h => by rw [h] at hp; omega
  | .tp _ h => Reps.there h p hp
  | .cc h1 h2 h3 => own_there h1 (Reps.there h2 p) (h3 p ▸ hp)
  | .oo h1 h2 h3 => own_there h1 (Reps.there h2 p) (h3 p ▸ hp)
theorem Reps.there {fs : List Fr} {vs : List V} {ds : List D} {n : Fp} (r : Reps G Fz am H fs vs ds n) (p : Addr) (hp : 0 < n p) : ∃ o, H p = some o :=
  match r with
  | .nil h => by rw [h] at hp; omega
  | .cons (n1 := n1) h1 h2 h3 => if e : 0 < n1 p then Rep.there h1 p e else Reps.there h2 p (by rw [h3] at hp; omega)
end
/-- an owned address holds no tuple, is not the dict of an instance -/
def OwnK : HO → Prop
  | .lst _ => True
  | .dK _ => True
  | .dT _ => True
  | .ins _ _ _ => True
  | _ => False
theorem own_kind {p0 p : Addr} {k : Kd} {vs : List V} {m : Nat} (h1 : Own G H p0 k vs) (ih : 0 < m → ∃ o, H p = some o ∧ OwnK o) (hp : 0 < m + if p = p0 then 1 else 0) : ∃ o, H p = some o ∧ OwnK o := by
  by_cases e : p = p0
  · subst e
    obtain ⟨t, o, h, i⟩ := h1
    refine ⟨o, h, ?_⟩
    cases k with
    | tup => exact absurd rfl t.1
    | frl => exact absurd rfl t.2
    | lst => cases i; trivial
    | dik ks => obtain ⟨e, _⟩ := i; subst e; trivial
    | dit ks => obtain ⟨e, _⟩ := i; subst e; trivial
    | ins c => obtain ⟨dx, e, _⟩ := i; subst e; trivial
  · simp [e] at hp
    exact ih hp
mutual
theorem Rep.kind {f : Fr} {v : V} {d : D} {n : Fp} (r : Rep G Fz am H f v d n) (p : Addr) (hp : 0 < n p) : ∃ o, H p = some o ∧ OwnK o :=
  match r with
  | .sc _ h => by rw [h] at hp; omega
  | .rf _ h => by rw [h] at hp; omega
  | .zz _ _ h => by rw [h] at hp; omega
  | .tp _ h => Reps.kind h p hp
  | .cc h1 h2 h3 => own_kind h1 (Reps.kind h2 p) (h3 p ▸ hp)
  | .oo h1 h2 h3 => own_kind h1 (Reps.kind h2 p) (h3 p ▸ hp)
theorem Reps.kind {fs : List Fr} {vs : List V} {ds : List D} {n : Fp} (r : Reps G Fz am H fs vs ds n) (p : Addr) (hp : 0 < n p) : ∃ o, H p = some o ∧ OwnK o :=
  match r with
  | .nil h => by rw [h] at hp; omega
  | .cons (n1 := n1) h1 h2 h3 => if e : 0 < n1 p then Rep.kind h1 p e else Reps.kind h2 p (by rw [h3] at hp; omega)
end
/-! ### owned things become shared -/
def Fro (Fz : Addr → Prop) (n : Fp) : Addr → Prop := fun p => Fz p ∨ 0 < n p
theorem own_shr {p0 : Addr} {k : Kd} {vs : List V} (h1 : Own G H p0 k vs) (hz : Fz p0) : Shr G Fz H p0 k vs := by
  obtain ⟨t, o, h, i⟩ := h1
  cases k with
  | tup => exact absurd rfl t.1
  | frl => exact absurd rfl t.2
  | dik ks => exact ⟨hz, o, .inl h, i⟩
  | dit ks => exact ⟨hz, o, .inl h, i⟩
  | _ => exact ⟨hz, o, h, i⟩
theorem Reps.zlen {vs : List V} {ds : List D} {n : Fp} {k : Nat} (h : Reps G Fz am H (zs k) vs ds n) : Reps G Fz am H (zs ds.length) vs ds n := by
  have e : k = ds.length := by have := h.len.1; simpa [zs] using this
  rw [← e]; exact h
mutual
theorem Rep.frz {f : Fr} {v : V} {d : D} {n : Fp} (r : Rep G Fz am H f v d n) (hz : ∀ p, Fz p → Fz' p) (hn : ∀ p, 0 < n p → Fz' p) : Rep G Fz' am H .z v d (fun _ => 0) :=
  match r with
  | .sc h1 _ => .sc h1 fun _ => rfl
  | .rf h1 _ => .rf h1 fun _ => rfl
  | .zz h1 h2 h3 => .zz (Ext.shr (am := am) (am' := am) ⟨hz, fun _ _ h => h, fun _ _ _ h => h, fun _ _ _ h _ => h, fun _ _ h => h⟩ h1) (Reps.frz h2 hz fun p hp => hn p (by rw [h3]; rw [h2.z0] at hp; omega)) fun _ => rfl
  | .tp h1 h2 => .zz (k := .tup) h1 (Reps.frz h2 hz hn) fun _ => rfl
  | .cc h1 h2 h3 => .zz (own_shr h1 (hn _ (by rw [h3]; simp))) (Reps.frz h2 hz fun p hp => hn p (by rw [h3]; omega)) fun _ => rfl
  | .oo h1 h2 h3 => .zz (own_shr h1 (hn _ (by rw [h3]; simp))) (Reps.frz h2 hz fun p hp => hn p (by rw [h3]; omega)) fun _ => rfl
theorem Reps.frz {fs : List Fr} {vs : List V} {ds : List D} {n : Fp} (r : Reps G Fz am H fs vs ds n) (hz : ∀ p, Fz p → Fz' p) (hn : ∀ p, 0 < n p → Fz' p) : Reps G Fz' am H (zs ds.length) vs ds (fun _ => 0) :=
  match r with
  | .nil _ => .nil fun _ => rfl
  | .cons h1 h2 h3 => .cons (Rep.frz h1 hz fun p hp => hn p (by rw [h3]; omega)) (Reps.frz h2 hz fun p hp => hn p (by rw [h3]; omega)) fun _ => rfl
end
end
end Hx

set_option Elab.async false
set_option linter.all false
set_option maxRecDepth 100000
set_option autoImplicit false
/-! F2: the state relation. -/
namespace Hx
open PySem PySem.Spec L2
open PyProof.Rows hiding St

/-- what can be read of a value whose items are shared -/
def RdO (G : Sg) (H : Hp) (p : Addr) (k : Kd) (vs : List V) : Prop :=
  match k with
  | .tup => SqT G.K H p vs
  | .frl => SqL G.K H p vs
  | k => ∃ o, Rdk H p k o ∧ IsO G k vs o
def View (G : Sg) (Fz : Addr → Prop) (am : List Addr) (H : Hp) (v : V) : D → Prop
  | .con k ds => ∃ p vs, v = .ref p ∧ RdO G H p k vs ∧ Reps G Fz am H (zs ds.length) vs ds (fun _ => 0)
  | .ref i => ∃ p, v = .ref p ∧ am[i]? = some p
  | d => Scal G v d
def Fr.isz : Fr → Bool
  | .z => true
  | _ => false
def Fr.flat : Fr → Bool
  | .z => true
  | .c f => f.isz
  | .t fs => fs.all Fr.isz
  | .o fs => fs.all Fr.isz
theorem Fr.isz_eq {f : Fr} (h : f.isz = true) : f = .z := by cases f <;> first | rfl | cases h
theorem all_isz : ∀ {fs : List Fr}, fs.all Fr.isz = true → fs = zs fs.length
  | [], _ => rfl
  | f :: fs, h => by
    simp only [List.all_cons, Bool.and_eq_true] at h
    rw [Fr.isz_eq h.1]
    show Fr.z :: fs = zs (fs.length + 1)
    rw [show zs (fs.length + 1) = Fr.z :: zs fs.length from List.replicate_succ, ← all_isz h.2]
section
variable {G : Sg} {Fz Fz' : Addr → Prop} {am am' : List Addr} {H H' : Hp}
theorem Reps.toz {vs : List V} {ds : List D} {k : Nat} {n : Fp} (h : Reps G Fz am H (zs k) vs ds n) : Reps G Fz am H (zs ds.length) vs ds (fun _ => 0) := h.zlen.fp h.z0
theorem Rep.view {f : Fr} {v : V} {d : D} {n : Fp} (r : Rep G Fz am H f v d n) (hf : f.flat = true) : View G Fz am H v d := by
  cases r with
  | sc h1 h2 =>
    cases d with
    | ref i => cases v <;> exact h1.elim
    | con k ds => cases v <;> exact h1.elim
    | _ => exact h1
  | rf h1 h2 => exact ⟨_, rfl, h1⟩
  | @zz p k vs ds n h1 h2 h3 =>
    refine ⟨p, vs, rfl, ?_, h2.toz⟩
    cases k with
    | tup => exact h1
    | frl =>
      rcases h1 with ⟨_, h⟩ | (h | ⟨_, h⟩) | h
      · exact .inl h
      · cases h
      · cases h
      · exact .inr h
    | _ => exact h1.2
  | @tp p vs ds fs n h1 h2 =>
    refine ⟨p, vs, rfl, h1, ?_⟩
    have e := all_isz (fs := fs) hf
    rw [e] at h2
    exact h2.toz
  | @cc p k vs ds f n m h1 h2 h3 =>
    have e : f = .z := Fr.isz_eq hf
    subst e
    obtain ⟨t, o, h4, h5⟩ := h1
    refine ⟨p, vs, rfl, ?_, h2.toz⟩
    cases k with
    | tup => exact absurd rfl t.1
    | frl => exact absurd rfl t.2
    | dik ks => exact ⟨o, .inl h4, h5⟩
    | dit ks => exact ⟨o, .inl h4, h5⟩
    | _ => exact ⟨o, h4, h5⟩
  | @oo p c vs ds fs n m h1 h2 h3 =>
    obtain ⟨t, o, h4, h5⟩ := h1
    have e := all_isz (fs := fs) hf
    rw [e] at h2
    exact ⟨p, vs, rfl, ⟨o, h4, h5⟩, h2.toz⟩
end

/-- the frame's slots -/
inductive EnvR (G : Sg) (Fz : Addr → Prop) (am : List Addr) (H : Hp) : Env → St → Fp → Prop
  | nil {n} : (∀ q, n q = 0) → EnvR G Fz am H [] [] n
  | som {f d v env σ n1 n2 n} : Rep G Fz am H f v d n1 → EnvR G Fz am H env σ n2 → (∀ q, n q = n1 q + n2 q) → EnvR G Fz am H (some (f, d) :: env) (some v :: σ) n
  | non {x env σ n} : EnvR G Fz am H env σ n → EnvR G Fz am H (none :: env) (x :: σ) n
/-- a value under way; bor: it is (part of) what a slot holds -/
structure Tm where
  v : V
  f : Fr
  d : D
  bor : Bool := false
inductive TmR (G : Sg) (Fz : Addr → Prop) (am : List Addr) (H : Hp) (ne : Fp) : List Tm → Fp → Prop
  | nil {n} : (∀ q, n q = 0) → TmR G Fz am H ne [] n
  | own {f v d T n1 n2 n} : Rep G Fz am H f v d n1 → TmR G Fz am H ne T n2 → (∀ q, n q = n1 q + n2 q) → TmR G Fz am H ne (⟨v, f, d, false⟩ :: T) n
  | bor {f v d T n1 n} : Rep G Fz am H f v d n1 → (∀ q, n1 q ≤ ne q) → TmR G Fz am H ne T n → TmR G Fz am H ne (⟨v, f, d, true⟩ :: T) n
def StoR (G : Sg) (Fz : Addr → Prop) (am : List Addr) (H : Hp) (st : Store) (n : Fp) : Prop := Reps G Fz am H (st.map (·.1)) (am.map V.ref) (st.map (·.2)) n
/-- the ground of a frame: the heap at its entry, what it may change, what was shared, the cells -/
structure Gd where
  H0 : Hp
  A0 : Addr → Prop
  F0 : Addr → Prop
  am0 : List Addr
structure Rel0 (g : Gd) (Fz : Addr → Prop) (am : List Addr) (H : Hp) (tot : Fp) : Prop where
  n1 : ∀ p, tot p ≤ 1
  nz : ∀ p, 0 < tot p → ¬ Fz p
  th : ∀ p, 0 < tot p → ∃ o, H p = some o ∧ OwnK o
  zt : ∀ p, Fz p → ∃ o, H p = some o
  k : ∀ p o, g.H0 p = some o → ¬ g.A0 p → H p = some o
  f : ∀ p, 0 < tot p → g.A0 p ∨ g.H0 p = none
  z0 : ∀ p, g.F0 p → Fz p
  z1 : ∀ p, Fz p → g.F0 p ∨ g.A0 p ∨ g.H0 p = none
  a : ∀ (i : Nat) p, g.am0[i]? = some p → am[i]? = some p
/-- the state relation; B: what more is said of the shared part -/
def RlB (G : Sg) (g : Gd) (env : Env) (st : Store) (T : List Tm) (σ : St) (H : Hp) (B : (Addr → Prop) → List Addr → Prop) : Prop :=
  ∃ Fz am ne nt ns, EnvR G Fz am H env σ ne ∧ TmR G Fz am H ne T nt ∧ StoR G Fz am H st ns ∧ Rel0 g Fz am H (fun p => ne p + nt p + ns p) ∧ B Fz am
def Rl (G : Sg) (g : Gd) (env : Env) (st : Store) (T : List Tm) (σ : St) (H : Hp) : Prop := RlB G g env st T σ H fun _ _ => True

section
variable {G : Sg} {g : Gd} {Fz Fz' : Addr → Prop} {am am' : List Addr} {H H' : Hp} {env : Env} {st st' : Store} {T T' : List Tm} {σ : St} {ne nt ns n : Fp}

theorem EnvR.ext (E : Ext Fz am H Fz' am' H') (r : EnvR G Fz am H env σ n) (k : ∀ p o, 0 < n p → H p = some o → H' p = some o) : EnvR G Fz' am' H' env σ n := by
  induction r with
  | nil h => exact .nil h
  | som h1 h2 h3 ih => exact .som (h1.ext E fun p o hp => k p o (by rw [h3]; omega)) (ih fun p o hp => k p o (by rw [h3]; omega)) h3
  | non h ih => exact .non (ih k)
theorem TmR.ext (E : Ext Fz am H Fz' am' H') (r : TmR G Fz am H ne T n) (k : ∀ p o, 0 < n p → H p = some o → H' p = some o) (ke : ∀ p o, 0 < ne p → H p = some o → H' p = some o) : TmR G Fz' am' H' ne T n := by
  induction r with
  | nil h => exact .nil h
  | own h1 h2 h3 ih => exact .own (h1.ext E fun p o hp => k p o (by rw [h3]; omega)) (ih fun p o hp => k p o (by rw [h3]; omega)) h3
  | bor h1 h2 h3 ih => exact .bor (h1.ext E fun p o hp => ke p o (by have := h2 p; omega)) h2 (ih k)
theorem EnvR.len (r : EnvR G Fz am H env σ n) : env.length = σ.length := by
  induction r with
  | nil => rfl
  | som _ _ _ ih => simp [ih]
  | non _ ih => simp [ih]
theorem EnvR.get (r : EnvR G Fz am H env σ n) : ∀ {i : Nat} {f : Fr} {d : D}, env[i]? = some (some (f, d)) → ∃ v m, σ[i]? = some (some v) ∧ Rep G Fz am H f v d m ∧ ∀ q, m q ≤ n q := by
  induction r with
  | nil h => intro i f d e; simp at e
  | @som f' d' v env σ n1 n2 n h1 h2 h3 ih =>
    intro i f d e
    cases i with
    | zero =>
      simp at e
      obtain ⟨rfl, rfl⟩ := e
      exact ⟨v, n1, by simp, h1, fun q => by rw [h3]; omega⟩
    | succ i =>
      obtain ⟨v, m, e1, e2, e3⟩ := ih (i := i) (f := f) (d := d) (by simpa using e)
      exact ⟨v, m, by simpa using e1, e2, fun q => by rw [h3]; have := e3 q; omega⟩
  | @non x env σ n h ih =>
    intro i f d e
    cases i with
    | zero => simp at e
    | succ i =>
      obtain ⟨v, m, e1, e2, e3⟩ := ih (i := i) (f := f) (d := d) (by simpa using e)
      exact ⟨v, m, by simpa using e1, e2, e3⟩
/-- a slot is stored; what it held goes -/
theorem EnvR.set {f : Fr} {v : V} {d : D} {m : Fp} (h : Rep G Fz am H f v d m) (r : EnvR G Fz am H env σ n) : ∀ (i : Nat), ∃ n', EnvR G Fz am H (env.set i (some (f, d))) (σ.set i (some v)) n' ∧ ∀ q, n' q ≤ n q + m q := by
  induction r with
  | nil h0 => intro i; exact ⟨_, .nil h0, fun q => by omega⟩
  | @som f' d' v' env σ n1 n2 n h1 h2 h3 ih =>
    intro i
    cases i with
    | zero => exact ⟨_, .som h h2 (n := fun q => m q + n2 q) fun _ => rfl, fun q => by rw [h3]; omega⟩
    | succ i =>
      obtain ⟨n', e1, e2⟩ := ih i
      exact ⟨_, .som h1 e1 (n := fun q => n1 q + n' q) fun _ => rfl, fun q => by rw [h3]; have := e2 q; omega⟩
  | @non x env σ n h2 ih =>
    intro i
    cases i with
    | zero => exact ⟨_, .som h h2 (n := fun q => m q + n q) fun _ => rfl, fun q => by omega⟩
    | succ i =>
      obtain ⟨n', e1, e2⟩ := ih i
      exact ⟨n', .non e1, e2⟩
/-- a slot is forgotten -/
theorem EnvR.kill (r : EnvR G Fz am H env σ n) : ∀ (i : Nat) (y : St) , y.length = σ.length → (∀ j, j ≠ i → y[j]? = σ[j]?) → ∃ n', EnvR G Fz am H (env.set i none) y n' ∧ ∀ q, n' q ≤ n q := by
  induction r with
  | nil h0 =>
    intro i y hy _
    have e : y = [] := List.length_eq_zero_iff.mp hy
    subst e
    exact ⟨_, .nil h0, fun q => Nat.le_refl _⟩
  | @som f' d' v' env σ n1 n2 n h1 h2 h3 ih =>
    intro i y hy hs
    cases y with
    | nil => simp at hy
    | cons y0 y =>
      cases i with
      | zero =>
        have e : y = σ := by
          apply List.ext_getElem?
          intro j
          have := hs (j + 1) (by omega)
          simpa using this
        subst e
        exact ⟨n2, .non h2, fun q => by rw [h3]; omega⟩
      | succ i =>
        have e0 : y0 = some v' := by
          have := hs 0 (by omega)
          simpa using this
        subst e0
        obtain ⟨n', e1, e2⟩ := ih i y (by simpa using hy) fun j hj => by
          have := hs (j + 1) (by omega)
          simpa using this
        exact ⟨_, .som h1 e1 (n := fun q => n1 q + n' q) fun _ => rfl, fun q => by rw [h3]; have := e2 q; omega⟩
  | @non x env σ n h2 ih =>
    intro i y hy hs
    cases y with
    | nil => simp at hy
    | cons y0 y =>
      cases i with
      | zero =>
        have e : y = σ := by
          apply List.ext_getElem?
          intro j
          have := hs (j + 1) (by omega)
          simpa using this
        subst e
        exact ⟨n, .non h2, fun q => Nat.le_refl _⟩
      | succ i =>
        obtain ⟨n', e1, e2⟩ := ih i y (by simpa using hy) fun j hj => by
          have := hs (j + 1) (by omega)
          simpa using this
        exact ⟨n', .non e1, e2⟩
/-- freezing a slot -/
theorem EnvR.frz (r : EnvR G Fz am H env σ n) : ∀ {i : Nat} {f : Fr} {d : D}, env[i]? = some (some (f, d)) → ∃ m n' : Fp, (∀ q, n q = m q + n' q) ∧
    ∀ Fz', (∀ p, Fz p → Fz' p) → (∀ p, 0 < m p → Fz' p) → EnvR G Fz' am H (env.set i (some (.z, d))) σ n' := by
  have up : ∀ {env : Env} {σ : St} {n : Fp} (Fz' : Addr → Prop), (∀ p, Fz p → Fz' p) → EnvR G Fz am H env σ n → EnvR G Fz' am H env σ n := fun Fz' hz r => r.ext ⟨hz, fun _ _ h => h, fun _ _ _ h => h, fun _ _ _ h _ => h, fun _ _ h => h⟩ fun _ _ _ h => h
  induction r with
  | nil h => intro i f d e; simp at e
  | @som f' d' v env σ n1 n2 n h1 h2 h3 ih =>
    intro i f d e
    cases i with
    | zero =>
      simp at e
      obtain ⟨rfl, rfl⟩ := e
      exact ⟨n1, n2, h3, fun Fz' hz hm => .som (h1.frz hz hm) (up Fz' hz h2) (n := n2) fun q => by simp⟩
    | succ i =>
      obtain ⟨m, n', e1, e2⟩ := ih (i := i) (f := f) (d := d) (by simpa using e)
      exact ⟨m, fun q => n1 q + n' q, fun q => by rw [h3, e1]; show _ = m q + (n1 q + n' q); omega, fun Fz' hz hm => .som (h1.ext ⟨hz, fun _ _ h => h, fun _ _ _ h => h, fun _ _ _ h _ => h, fun _ _ h => h⟩ fun _ _ _ h => h) (e2 Fz' hz hm) fun _ => rfl⟩
  | @non x env σ n h ih =>
    intro i f d e
    cases i with
    | zero => simp at e
    | succ i =>
      obtain ⟨m, n', e1, e2⟩ := ih (i := i) (f := f) (d := d) (by simpa using e)
      exact ⟨m, n', e1, fun Fz' hz hm => .non (e2 Fz' hz hm)⟩
/-- taking a slot's value out -/
theorem EnvR.take (r : EnvR G Fz am H env σ n) : ∀ {i : Nat} {f : Fr} {d : D}, env[i]? = some (some (f, d)) → ∃ (v : V) (m n' : Fp), σ[i]? = some (some v) ∧ Rep G Fz am H f v d m ∧ (∀ q, n q = m q + n' q) ∧ EnvR G Fz am H (env.set i none) σ n' := by
  induction r with
  | nil h => intro i f d e; simp at e
  | @som f' d' v env σ n1 n2 n h1 h2 h3 ih =>
    intro i f d e
    cases i with
    | zero =>
      simp at e
      obtain ⟨rfl, rfl⟩ := e
      exact ⟨v, n1, n2, by simp, h1, h3, .non h2⟩
    | succ i =>
      obtain ⟨v, m, n', e0, e1, e2, e3⟩ := ih (i := i) (f := f) (d := d) (by simpa using e)
      exact ⟨v, m, fun q => n1 q + n' q, by simpa using e0, e1, fun q => by rw [h3, e2]; show _ = m q + (n1 q + n' q); omega, .som h1 e3 fun _ => rfl⟩
  | @non x env σ n h ih =>
    intro i f d e
    cases i with
    | zero => simp at e
    | succ i =>
      obtain ⟨v, m, n', e0, e1, e2, e3⟩ := ih (i := i) (f := f) (d := d) (by simpa using e)
      exact ⟨v, m, n', by simpa using e0, e1, e2, .non e3⟩

/-- the total may shrink -/
theorem Rel0.less {t t' : Fp} (r : Rel0 g Fz am H t) (h : ∀ q, t' q ≤ t q) : Rel0 g Fz am H t' :=
  ⟨fun p => Nat.le_trans (h p) (r.n1 p), fun p hp => r.nz p (Nat.lt_of_lt_of_le hp (h p)), fun p hp => r.th p (Nat.lt_of_lt_of_le hp (h p)), r.zt, r.k, fun p hp => r.f p (Nat.lt_of_lt_of_le hp (h p)), r.z0, r.z1, r.a⟩
/-- part of it is shared from now on -/
theorem Rel0.froz {t t' m : Fp} (r : Rel0 g Fz am H t) (h : ∀ q, t q = m q + t' q) : Rel0 g (Fro Fz m) am H t' :=
  ⟨fun p => by have := r.n1 p; rw [h] at this; omega, fun p hp z => by
    rcases z with z | z
    · exact r.nz p (by rw [h]; omega) z
    · have := r.n1 p; rw [h] at this; omega, fun p hp => r.th p (by rw [h]; omega), fun p z => by
    rcases z with z | z
    · exact r.zt p z
    · obtain ⟨o, e, _⟩ := r.th p (by rw [h]; omega)
      exact ⟨o, e⟩, r.k, fun p hp => r.f p (by rw [h]; omega), fun p z => .inl (r.z0 p z), fun p z => by
    rcases z with z | z
    · exact r.z1 p z
    · exact .inr (r.f p (by rw [h]; omega)), r.a⟩
/-- the heap grows by new objects, some of them owned -/
theorem Rel0.grow {t t' m : Fp} (r : Rel0 g Fz am H t) (s : Same H H') (hm : ∀ p, 0 < m p → m p = 1 ∧ H p = none ∧ ∃ o, H' p = some o ∧ OwnK o) (h : ∀ q, t' q = m q + t q) : Rel0 g Fz am H' t' := by
  have key : ∀ p, 0 < m p → t p = 0 := fun p hp => by
    cases e : t p with
    | zero => rfl
    | succ k =>
      obtain ⟨o, e2, _⟩ := r.th p (by omega)
      rw [(hm p hp).2.1] at e2
      cases e2
  refine ⟨fun p => ?_, fun p hp z => ?_, fun p hp => ?_, fun p z => ?_, fun p o e na => s _ _ (r.k p o e na), fun p hp => ?_, r.z0, r.z1, r.a⟩
  · rw [h]
    by_cases e : 0 < m p
    · rw [key p e, (hm p e).1]
      omega
    · have := r.n1 p; omega
  · rw [h] at hp
    by_cases e : 0 < m p
    · obtain ⟨o, e2⟩ := r.zt p z
      rw [(hm p e).2.1] at e2
      cases e2
    · exact r.nz p (by omega) z
  · rw [h] at hp
    by_cases e : 0 < m p
    · exact (hm p e).2.2
    · obtain ⟨o, e2, e3⟩ := r.th p (by omega)
      exact ⟨o, s _ _ e2, e3⟩
  · obtain ⟨o, e⟩ := r.zt p z
    exact ⟨o, s _ _ e⟩
  · rw [h] at hp
    by_cases e : 0 < m p
    · cases e2 : g.H0 p with
      | none => exact .inr rfl
      | some o =>
        by_cases na : g.A0 p
        · exact .inl na
        · have := r.k p o e2 na
          rw [(hm p e).2.1] at this
          cases this
    · exact r.f p (by omega)
theorem Ext.same (s : Same H H') (hz : ∀ p, Fz p → Fz' p) : Ext Fz am H Fz' am H' := ⟨hz, fun _ _ h => h, fun p u _ h => h.imp (s _ _) fun ⟨o, q⟩ => ⟨o, s _ _ q⟩, fun p u _ h _ => s _ _ h, fun p xs h => h.imp (s _ _) fun ⟨o, q⟩ => ⟨o, s _ _ q⟩⟩
theorem Ext.shared (hz : ∀ p, Fz p → Fz' p) : Ext Fz am H Fz' am H := Ext.same (Same.refl H) hz
end
end Hx

set_option Elab.async false
set_option linter.all false
set_option maxRecDepth 100000
set_option autoImplicit false
/-! F3: the judgement of an expression; lists of arguments; operators. -/
namespace Hx
open PySem PySem.Spec L2
open PyProof.Rows hiding St

inductive Res
  | ok (f : Fr) (b : Bool) (d : D) (st : Store) | exc (c : Nat) (ds : List D) (st : Store) | stuck
inductive ResL
  | ok (ts : List (Fr × Bool × D)) (st : Store) | exc (c : Nat) (ds : List D) (st : Store) | stuck
inductive ResB
  | ok (b : Bool) (st : Store) | exc (c : Nat) (ds : List D) (st : Store) | stuck
abbrev Den := Env → Store → Res
abbrev DenL := Env → Store → ResL
abbrev DenB := Env → Store → ResB

structure Sx where
  P : Program
  w : World
  mg : Str → Option Value
  base : Heap
  G : Sg
  N : List Str
  sc : Scope
  k : Nat
  fnA : Bool
structure Stx (S : Sx) (X : Cx) : Prop where
  pr : X.prog = S.P
  w : X.w = S.w
  mg : X.mg = S.mg
  base : X.base = S.base
  K : X.K = S.G.K
  N : X.N = S.N
  sc : X.env.scope = S.sc
  nd : X.N.Nodup
  calm : X.calm = true
  room : Room S.k X.A
  po : PassesOwn (model X.prog X.w) X.A X.env X.xe
  fn : S.fnA = true → ∀ x, X.fn x = true

/-- what an exception's fields are -/
def ExcB (G : Sg) (H : Hp) (c : Nat) (ds : List D) (cls : Value) (dx : Option Addr) : (Addr → Prop) → List Addr → Prop := fun Fz am =>
  ∃ p fs vs, cls = .ref (G.cls c) ∧ dx = some p ∧ H p = some (.xd fs) ∧ Reps G Fz am H (zs ds.length) vs ds (fun _ => 0) ∧
    ∀ (i : Nat) (x : Str), (G.fld c)[i]? = some x → ∀ v, vs[i]? = some v → fs.lookup x = some v
section
variable (G : Sg) (g : Gd) (env : Env) (T : List Tm) (σ : St) (W : WX)
def ExcP (c : Nat) (ds : List D) (st : Store) : Prop := ∀ cls dx H', RlB G g env st [] σ H' (ExcB G H' c ds cls dx) → W cls dx σ H'
def PostE (Q : VK) : Res → Prop
  | .ok f b d st => ∀ v H', Rl G g env st (⟨v, f, d, b⟩ :: T) σ H' → Q v H'
  | .exc c ds st => ExcP G g env σ W c ds st
  | .stuck => False
def mkT : List V → List (Fr × Bool × D) → List Tm
  | v :: vs, (f, b, d) :: ts => ⟨v, f, d, b⟩ :: mkT vs ts
  | _, _ => []
def PostL (Q : List V → Hp → Prop) : ResL → Prop
  | .ok ts st => ∀ vs H', vs.length = ts.length → Rl G g env st (mkT vs ts ++ T) σ H' → Q vs H'
  | .exc c ds st => ExcP G g env σ W c ds st
  | .stuck => False
def PostB (Q : Bool → Hp → Prop) : ResB → Prop
  | .ok b st => ∀ H', Rl G g env st T σ H' → Q b H'
  | .exc c ds st => ExcP G g env σ W c ds st
  | .stuck => False
end
def noBor (T : List Tm) : Prop := ∀ a ∈ T, a.bor = false
def DE (S : Sx) (e : Expr) (den : Den) : Prop := ∀ W : WX, ∃ t : TE, (∀ X, Stx S X → Takes X W → PE X e t) ∧
  ∀ g env st T σ H Q, noBor T → Rl S.G g env st T σ H → PostE S.G g env T σ W Q (den env st) → t σ H Q
def DA (S : Sx) (es : List Expr) (den : DenL) : Prop := ∀ W : WX, ∃ t : TA, (∀ X, Stx S X → Takes X W → PA X es t) ∧
  ∀ g env st T σ H Q, noBor T → Rl S.G g env st T σ H → PostL S.G g env T σ W Q (den env st) → t σ H Q
def DT (S : Sx) (e : Expr) (den : DenB) : Prop := ∀ W : WX, ∃ t : TT, (∀ X, Stx S X → Takes X W → PT X e t) ∧
  ∀ g env st T σ H Q, noBor T → Rl S.G g env st T σ H → PostB S.G g env T σ W Q (den env st) → t σ H Q

/-! ### the relation: temporaries -/
section
variable {G : Sg} {g : Gd} {env : Env} {st st' : Store} {T T' : List Tm} {σ : St} {H H' : Hp} {B B' : (Addr → Prop) → List Addr → Prop}
theorem TmR.drop {Fz : Addr → Prop} {am : List Addr} {ne nt : Fp} {a : Tm} (r : TmR G Fz am H ne (a :: T) nt) : ∃ nt', TmR G Fz am H ne T nt' ∧ ∀ q, nt' q ≤ nt q := by
  cases r with
  | own h1 h2 h3 => exact ⟨_, h2, fun q => by rw [h3]; omega⟩
  | bor h1 h2 h3 => exact ⟨_, h3, fun q => Nat.le_refl _⟩
theorem TmR.tail {Fz : Addr → Prop} {am : List Addr} {ne nt : Fp} : ∀ {l : List Tm}, TmR G Fz am H ne (l ++ T) nt → ∃ nt', TmR G Fz am H ne T nt' ∧ ∀ q, nt' q ≤ nt q
  | [], r => ⟨_, r, fun _ => Nat.le_refl _⟩
  | a :: l, r => by
    obtain ⟨n1, r1, l1⟩ := r.drop
    obtain ⟨n2, r2, l2⟩ := TmR.tail r1
    exact ⟨n2, r2, fun q => Nat.le_trans (l2 q) (l1 q)⟩
theorem TmR.mid {Fz : Addr → Prop} {am : List Addr} {ne nt : Fp} {a : Tm} : ∀ {l : List Tm}, TmR G Fz am H ne (l ++ a :: T) nt → TmR G Fz am H ne (a :: (l ++ T)) nt
  | [], r => r
  | b :: l, r => by
    cases r with
    | own h1 h2 h3 =>
      cases TmR.mid h2 with
      | own k1 k2 k3 => exact .own k1 (.own h1 k2 fun _ => rfl) fun q => by rw [h3, k3]; omega
      | bor k1 k2 k3 => exact .bor k1 k2 (.own h1 k3 h3)
    | bor h1 h2 h3 =>
      cases TmR.mid h3 with
      | own k1 k2 k3 => exact .own k1 (.bor h1 h2 k2) k3
      | bor k1 k2 k3 => exact .bor k1 k2 (.bor h1 h2 k3)
theorem RlB.tail {l : List Tm} (r : RlB G g env st (l ++ T) σ H B) : RlB G g env st T σ H B := by
  obtain ⟨Fz, am, ne, nt, ns, h1, h2, h3, h4, h5⟩ := r
  obtain ⟨nt', k1, k2⟩ := h2.tail
  exact ⟨Fz, am, ne, nt', ns, h1, k1, h3, h4.less fun q => by have := k2 q; omega, h5⟩
theorem RlB.drop {a : Tm} (r : RlB G g env st (a :: T) σ H B) : RlB G g env st T σ H B := RlB.tail (l := [a]) r
theorem RlB.notmp (r : RlB G g env st T σ H B) : RlB G g env st [] σ H B := RlB.tail (l := T) (by rw [List.append_nil]; exact r)
theorem RlB.mid {l : List Tm} {a : Tm} (r : RlB G g env st (l ++ a :: T) σ H B) : RlB G g env st (a :: (l ++ T)) σ H B := by
  obtain ⟨Fz, am, ne, nt, ns, h1, h2, h3, h4, h5⟩ := r
  exact ⟨Fz, am, ne, nt, ns, h1, h2.mid, h3, h4, h5⟩
theorem RlB.imp (r : RlB G g env st T σ H B) (h : ∀ Fz am, B Fz am → B' Fz am) : RlB G g env st T σ H B' := by
  obtain ⟨Fz, am, ne, nt, ns, h1, h2, h3, h4, h5⟩ := r
  exact ⟨Fz, am, ne, nt, ns, h1, h2, h3, h4, h _ _ h5⟩
theorem RlB.rl (r : RlB G g env st T σ H B) : Rl G g env st T σ H := RlB.imp r fun _ _ _ => trivial
/-- a scalar comes -/
theorem Rl.scal {v : V} {d : D} (r : Rl G g env st T σ H) (h : Scal G v d) : Rl G g env st (⟨v, .z, d, false⟩ :: T) σ H := by
  obtain ⟨Fz, am, ne, nt, ns, h1, h2, h3, h4, h5⟩ := r
  exact ⟨Fz, am, ne, nt, ns, h1, .own (.sc h fun _ => rfl) h2 (n1 := fun _ => 0) fun q => by simp, h3, h4, h5⟩
theorem Rl.pushz {i : Nat} {d : D} (r : Rl G g env st T σ H) (e : env[i]? = some (some (.z, d))) : ∃ v, σ[i]? = some (some v) ∧ Rl G g env st (⟨v, .z, d, false⟩ :: T) σ H := by
  obtain ⟨Fz, am, ne, nt, ns, h1, h2, h3, h4, h5⟩ := r
  obtain ⟨v, m, e1, e2, e3⟩ := h1.get e
  exact ⟨v, e1, Fz, am, ne, nt, ns, h1, .own (e2.fp e2.z0) h2 (n1 := fun _ => 0) fun q => by simp, h3, h4, h5⟩
theorem Rl.pushb {i : Nat} {f : Fr} {d : D} (r : Rl G g env st T σ H) (e : env[i]? = some (some (f, d))) : ∃ v, σ[i]? = some (some v) ∧ Rl G g env st (⟨v, f, d, true⟩ :: T) σ H := by
  obtain ⟨Fz, am, ne, nt, ns, h1, h2, h3, h4, h5⟩ := r
  obtain ⟨v, m, e1, e2, e3⟩ := h1.get e
  exact ⟨v, e1, Fz, am, ne, nt, ns, h1, .bor e2 e3 h2, h3, h4, h5⟩
/-- an owned value under way is shared from now on -/
theorem Rl.frz {v : V} {f : Fr} {d : D} (r : Rl G g env st (⟨v, f, d, false⟩ :: T) σ H) : Rl G g env st (⟨v, .z, d, false⟩ :: T) σ H := by
  obtain ⟨Fz, am, ne, nt, ns, h1, h2, h3, h4, h5⟩ := r
  cases h2 with
  | @own _ _ _ _ n1 n2 _ k1 k2 k3 =>
    have E : Ext Fz am H (Fro Fz n1) am H := Ext.shared fun p z => .inl z
    exact ⟨Fro Fz n1, am, ne, n2, ns, h1.ext E fun _ _ _ h => h, .own (k1.frz (fun p z => .inl z) fun p z => .inr z) (k2.ext E (fun _ _ _ h => h) fun _ _ _ h => h) (n1 := fun _ => 0) (fun q => by simp), Reps.ext E h3 fun _ _ _ h => h, h4.froz fun q => by rw [k3]; omega, trivial⟩
end

/-! ### pure operations upon read values -/
abbrev Vws (G : Sg) (Fz : Addr → Prop) (am : List Addr) (H : Hp) : List V → List D → Prop := Paired (View G Fz am H)
abbrev Op := List D → Option (Fr × D)
/-- new owned things -/
def Newp (H H' : Hp) (n : Fp) : Prop := ∀ p, 0 < n p → n p = 1 ∧ H p = none ∧ ∃ o, H' p = some o ∧ OwnK o
def VOp (G : Sg) (r : List V → Hp → VK → Prop) (op : Op) : Prop := ∀ Fz am H vs ds f d Q, Vws G Fz am H vs ds → op ds = some (f, d) →
  (∀ v H' n, Same H H' → Newp H H' n → Rep G Fz am H' f v d n → Q v H') → r vs H Q
theorem VOp.imp {G : Sg} {r r' : List V → Hp → VK → Prop} {op : Op} (h : VOp G r op) (k : ∀ vs H Q, r vs H Q → r' vs H Q) : VOp G r' op := fun Fz am H vs ds f d Q h1 h2 h3 => k _ _ _ (h Fz am H vs ds f d Q h1 h2 h3)
/-- by the first that tells -/
@[simp] def orOp (a b : Op) : Op := fun ds => match a ds with
  | some r => some r
  | none => b ds
theorem VOp.or {G : Sg} {r r' : List V → Hp → VK → Prop} {a b : Op} (h : VOp G r a) (h' : VOp G r' b) : VOp G (fun vs H Q => r vs H Q ∨ r' vs H Q) (orOp a b) := fun Fz am H vs ds f d Q h1 h2 h3 => by
  unfold orOp at h2
  cases e : a ds with
  | some x =>
    rw [e] at h2
    cases h2
    exact .inl (h Fz am H vs ds f d Q h1 e h3)
  | none =>
    rw [e] at h2
    exact .inr (h' Fz am H vs ds f d Q h1 h2 h3)
theorem VOp.or1 {G : Sg} {r : List V → Hp → VK → Prop} {a b : Op} (h : VOp G r a) (h' : VOp G r b) : VOp G r (orOp a b) := (VOp.or h h').imp fun _ _ _ z => z.elim id id
theorem same_refl (H : Hp) : Same H H := fun _ _ h => h
theorem newp0 {H H' : Hp} : Newp H H' (fun _ => 0) := fun p hp => absurd hp (Nat.lt_irrefl 0)
/-- an operation whose answer is a scalar -/
theorem VOp.scalar {G : Sg} {r : List V → Hp → VK → Prop} {op : List D → Option D} (h : ∀ Fz am H vs ds d Q, Vws G Fz am H vs ds → op ds = some d → (∀ v, Scal G v d → Q v H) → r vs H Q) : VOp G r (fun ds => (op ds).map fun d => (.z, d)) := fun Fz am H vs ds f d Q h1 h2 h3 => by
  obtain ⟨d', e, e2⟩ := Option.map_eq_some_iff.mp h2
  cases e2
  exact h Fz am H vs ds d Q h1 e fun v hv => h3 v H (fun _ => 0) (same_refl H) newp0 (.sc hv fun _ => rfl)

@[simp] def flats (ts : List (Fr × Bool × D)) : Bool := ts.all fun t => t.1.flat
/-- a cell is looked into -/
def lk (st : Store) : D → D
  | .ref i => match st[i]? with
    | some (f, d) => bif f.flat then d else .ref i
    | none => .ref i
  | d => d
@[simp] def dOp (op : Op) (as : DenL) : Den := fun env st => match as env st with
  | .ok ts st' => bif flats ts then (match op (ts.map fun t => lk st' t.2.2) with
    | some (f, d) => .ok f false d st'
    | none => .stuck) else .stuck
  | .exc c ds st' => .exc c ds st'
  | .stuck => .stuck
section
variable {G : Sg} {g : Gd} {env : Env} {st st' : Store} {T T' : List Tm} {σ : St} {H H' : Hp}
theorem TmR.views {Fz : Addr → Prop} {am : List Addr} {ne nt : Fp} : ∀ {vs : List V} {ts : List (Fr × Bool × D)}, vs.length = ts.length → flats ts = true → TmR G Fz am H ne (mkT vs ts ++ T) nt → Vws G Fz am H vs (ts.map fun t => t.2.2)
  | [], [], _, _, _ => .nil
  | v :: vs, (f, b, d) :: ts, hl, hf, r => by
    simp only [flats, List.all_cons, Bool.and_eq_true] at hf
    cases b with
    | false =>
      cases r with
      | own h1 h2 h3 => exact .cons (h1.view hf.1) (TmR.views (by simpa using hl) hf.2 h2)
    | true =>
      cases r with
      | bor h1 h2 h3 => exact .cons (h1.view hf.1) (TmR.views (by simpa using hl) hf.2 h3)
theorem Reps.at {Fz : Addr → Prop} {am : List Addr} : ∀ {fs : List Fr} {vs : List V} {ds : List D} {n : Fp} {i : Nat} {f : Fr} {d : D}, Reps G Fz am H fs vs ds n → fs[i]? = some f → ds[i]? = some d → ∃ v m, vs[i]? = some v ∧ Rep G Fz am H f v d m ∧ ∀ q, m q ≤ n q
  | [], _, _, _, i, f, d, r, e1, e2 => by simp at e1
  | f0 :: fs, _, _, _, i, f, d, r, e1, e2 => by
    cases r with
    | cons h1 h2 h3 =>
      cases i with
      | zero =>
        simp at e1 e2
        subst e1 e2
        exact ⟨_, _, by simp, h1, fun q => by rw [h3]; omega⟩
      | succ i =>
        obtain ⟨v, m, a, b, c⟩ := Reps.at (i := i) (f := f) (d := d) h2 (by simpa using e1) (by simpa using e2)
        exact ⟨v, m, by simpa using a, b, fun q => by rw [h3]; have := c q; omega⟩
theorem StoR.at {Fz : Addr → Prop} {am : List Addr} {n : Fp} (r : StoR G Fz am H st n) {i : Nat} {f : Fr} {d : D} (e : st[i]? = some (f, d)) : ∃ p m, am[i]? = some p ∧ Rep G Fz am H f (.ref p) d m ∧ ∀ q, m q ≤ n q := by
  obtain ⟨v, m, a, b, c⟩ := Reps.at r (i := i) (f := f) (d := d) (by simp [e]) (by simp [e])
  rw [List.getElem?_map] at a
  obtain ⟨p, a1, a2⟩ := Option.map_eq_some_iff.mp a
  subst a2
  exact ⟨p, m, a1, b, c⟩
theorem Vws.lk {Fz : Addr → Prop} {am : List Addr} {n : Fp} (r : StoR G Fz am H st n) : ∀ {vs : List V} {ds : List D}, Vws G Fz am H vs ds → Vws G Fz am H vs (ds.map (lk st))
  | _, _, .nil => .nil
  | _, d :: _, .cons h t => .cons (by
    cases d with
    | ref i =>
      unfold Hx.lk
      dsimp only
      cases e : st[i]? with
      | none => exact h
      | some x =>
        obtain ⟨f, d⟩ := x
        dsimp only
        cases ef : f.flat with
        | false => exact h
        | true =>
          obtain ⟨p, m, a, b, _⟩ := r.at e
          obtain ⟨p', e1, e2⟩ := h
          rw [a] at e2
          cases e2
          rw [e1]
          exact b.view ef
    | _ => exact h) (Vws.lk r t)
theorem Rl.op {r : List V → Hp → VK → Prop} {op : Op} {vs : List V} {ts : List (Fr × Bool × D)} {f : Fr} {d : D} {Q : VK} (hv : VOp G r op) (R : Rl G g env st (mkT vs ts ++ T) σ H) (hl : vs.length = ts.length) (hf : flats ts = true)
    (e : op (ts.map fun t => lk st t.2.2) = some (f, d)) (hq : ∀ v H', Rl G g env st (⟨v, f, d, false⟩ :: T) σ H' → Q v H') : r vs H Q := by
  obtain ⟨Fz, am, ne, nt, ns, h1, h2, h3, h4, h5⟩ := R
  have vw := Vws.lk h3 (h2.views hl hf)
  rw [List.map_map] at vw
  refine hv Fz am H vs _ f d Q vw e fun v H' n s nn rep => hq v H' ?_
  obtain ⟨nt', k1, k2⟩ := h2.tail
  have E : Ext Fz am H Fz am H' := Ext.same s fun _ h => h
  have h4' : Rel0 g Fz am H (fun p => ne p + nt' p + ns p) := h4.less fun q => by have := k2 q; omega
  exact ⟨Fz, am, ne, fun q => n q + nt' q, ns, h1.ext E fun p o _ h => s _ _ h, .own rep (k1.ext E (fun p o _ h => s _ _ h) fun p o _ h => s _ _ h) fun _ => rfl, Reps.ext E h3 fun p o _ h => s _ _ h, h4'.grow s nn fun q => by show ne q + (n q + nt' q) + ns q = _; omega, trivial⟩
/-- one argument -/
theorem post1 {r : List V → Hp → VK → Prop} {op : Op} {W : WX} {Q : VK} {f : Fr} {b : Bool} {d : D} (hv : VOp G r op)
    (h : PostE G g env T σ W Q (dOp op (fun _ st => .ok [(f, b, d)] st) env st)) : ∀ v H', Rl G g env st (⟨v, f, d, b⟩ :: T) σ H' → r [v] H' Q := fun v H' R => by
  unfold dOp at h
  dsimp only at h
  cases hf : flats [(f, b, d)] with
  | false => rw [hf] at h; exact h.elim
  | true =>
    rw [hf] at h
    simp only [cond_true] at h
    cases e : op ([(f, b, d)].map fun t => lk st t.2.2) with
    | none => rw [e] at h; exact h.elim
    | some x =>
      obtain ⟨f', d'⟩ := x
      rw [e] at h
      exact Rl.op (vs := [v]) (ts := [(f, b, d)]) hv R rfl hf e h
end

/-! ### lists of arguments -/
@[simp] def dNil : DenL := fun _ st => .ok [] st
@[simp] def dCons (a : Den) (as : DenL) : DenL := fun env st => match a env st with
  | .ok f b d st1 => bif !b || f.isz then (match as env st1 with
    | .ok ts st2 => .ok ((f, false, d) :: ts) st2
    | .exc c ds st2 => .exc c ds st2
    | .stuck => .stuck) else .stuck
  | .exc c ds st1 => .exc c ds st1
  | .stuck => .stuck
/-- the last one may be a look -/
@[simp] def dLast (a : Den) : DenL := fun env st => match a env st with
  | .ok f b d st1 => .ok [(f, b, d)] st1
  | .exc c ds st1 => .exc c ds st1
  | .stuck => .stuck
theorem bifT {α : Type} {c : Bool} {a b : α} {P : α → Prop} (h : P (bif c then a else b)) (n : ¬ P b) : c = true ∧ P a := by
  cases c with
  | true => exact ⟨rfl, h⟩
  | false => exact (n h).elim
theorem nb_cons {T : List Tm} {v : V} {f : Fr} {d : D} (h : noBor T) : noBor (⟨v, f, d, false⟩ :: T) := fun a ha => by
  rcases List.mem_cons.mp ha with e | e
  · rw [e]
  · exact h a e
theorem Rl.unb {G : Sg} {g : Gd} {env : Env} {st : Store} {T : List Tm} {σ : St} {H : Hp} {v : V} {f : Fr} {b : Bool} {d : D} (R : Rl G g env st (⟨v, f, d, b⟩ :: T) σ H) (hb : (!b || f.isz) = true) : Rl G g env st (⟨v, f, d, false⟩ :: T) σ H := by
  cases b with
  | false => exact R
  | true =>
    have e : f = .z := Fr.isz_eq (by simpa using hb)
    subst e
    obtain ⟨Fz, am, ne, nt, ns, h1, h2, h3, h4, h5⟩ := R
    cases h2 with
    | bor k1 k2 k3 => exact ⟨Fz, am, ne, nt, ns, h1, .own (k1.fp k1.z0) k3 fun q => by simp, h3, h4, trivial⟩
section
variable {S : Sx} {e a b : Expr} {es : List Expr} {da db : Den} {das : DenL} {pos : Pos}
theorem da_nil : DA S [] dNil := fun W => ⟨_, fun X hX tk => pa_nil, fun g env st T σ H Q hT R h => h [] H rfl R⟩
theorem starNo : ∀ {e : Expr} {es : List Expr} {env : PySem.Env}, (∀ x p, e ≠ .Starred x p) → starEach (e :: es) env = (false, eval e env) :: starEach es env := fun {e es env} h => by
  cases e <;> first | rfl | exact absurd rfl (h _ _)
theorem da_cons (ha : DE S e da) (hr : DA S es das) (hs : ∀ x p, e ≠ .Starred x p) : DA S (e :: es) (dCons da das) := fun W => by
  obtain ⟨ta, pa, qa⟩ := ha W
  obtain ⟨tr, pr, qr⟩ := hr W
  refine ⟨_, fun X hX tk => pa_cons (pa X hX tk) (pr X hX tk) (starNo hs), fun g env st T σ H Q hT R h => ?_⟩
  refine qa g env st T σ H _ hT R ?_
  unfold dCons at h
  cases e1 : da env st with
  | stuck => rw [e1] at h; exact h.elim
  | exc c ds st1 => rw [e1] at h; exact h
  | ok f b d st1 =>
    rw [e1] at h
    obtain ⟨hb, h⟩ := bifT h id
    intro v H1 R1
    refine qr g env st1 _ σ H1 _ (nb_cons hT) (R1.unb hb) ?_
    cases e2 : das env st1 with
    | stuck => rw [e2] at h; exact h.elim
    | exc c ds st2 => rw [e2] at h; exact h
    | ok ts st2 =>
      rw [e2] at h
      dsimp only at h
      intro vs H2 hl R2
      exact h (v :: vs) H2 (by simp [hl]) R2.mid
theorem da_last (ha : DE S e da) (hs : ∀ x p, e ≠ .Starred x p) : DA S [e] (dLast da) := fun W => by
  obtain ⟨ta, pa, qa⟩ := ha W
  refine ⟨_, fun X hX tk => pa_cons (pa X hX tk) pa_nil (starNo hs), fun g env st T σ H Q hT R h => qa g env st T σ H _ hT R ?_⟩
  unfold dLast at h
  cases e1 : da env st with
  | stuck => rw [e1] at h; exact h.elim
  | exc c ds st1 => rw [e1] at h; exact h
  | ok f b d st1 =>
    rw [e1] at h
    exact fun v H1 R1 => h [v] H1 rfl R1
/-- two in a row -/
theorem run2 {r : List V → Hp → VK → Prop} {op : Op} {W : WX} {ta tb : TE} (hv : VOp S.G r op)
    (qa : ∀ g env st T σ H Q, noBor T → Rl S.G g env st T σ H → PostE S.G g env T σ W Q (da env st) → ta σ H Q)
    (qb : ∀ g env st T σ H Q, noBor T → Rl S.G g env st T σ H → PostE S.G g env T σ W Q (db env st) → tb σ H Q)
    (g : Gd) (env : Env) (st : Store) (T : List Tm) (σ : St) (H : Hp) (Q : VK) (hT : noBor T) (R : Rl S.G g env st T σ H) (h : PostE S.G g env T σ W Q (dOp op (dCons da (dLast db)) env st)) :
    ta σ H fun x H1 => tb σ H1 fun y H2 => r [x, y] H2 Q := by
  refine qa g env st T σ H _ hT R ?_
  unfold dOp dCons at h
  cases e1 : da env st with
  | stuck => rw [e1] at h; exact h.elim
  | exc c ds st1 => rw [e1] at h; exact h
  | ok f b d st1 =>
    rw [e1] at h
    dsimp only at h
    cases hb : (!b || f.isz) with
    | false => rw [hb] at h; exact h.elim
    | true =>
    rw [hb] at h
    intro v H1 R1
    refine qb g env st1 _ σ H1 _ (nb_cons hT) (R1.unb hb) ?_
    unfold dLast at h
    dsimp only [cond_true] at h
    cases e2 : db env st1 with
    | stuck => rw [e2] at h; exact h.elim
    | exc c ds st2 => rw [e2] at h; exact h
    | ok f2 b2 d2 st2 =>
      rw [e2] at h
      dsimp only at h
      intro v2 H2 R2
      have R3 : Rl S.G g env st2 (mkT [v, v2] [(f, false, d), (f2, b2, d2)] ++ T) σ H2 := RlB.mid (l := [_]) R2
      cases hf : flats [(f, false, d), (f2, b2, d2)] with
      | false => rw [hf] at h; exact h.elim
      | true =>
        rw [hf] at h
        simp only [cond_true] at h
        cases e3 : op ([(f, false, d), (f2, b2, d2)].map fun t => lk st2 t.2.2) with
        | none => rw [e3] at h; exact h.elim
        | some x =>
          obtain ⟨f', d'⟩ := x
          rw [e3] at h
          exact Rl.op hv R3 rfl hf e3 h
theorem run1 {r : List V → Hp → VK → Prop} {op : Op} {W : WX} {ta : TE} (hv : VOp S.G r op)
    (qa : ∀ g env st T σ H Q, noBor T → Rl S.G g env st T σ H → PostE S.G g env T σ W Q (da env st) → ta σ H Q)
    (g : Gd) (env : Env) (st : Store) (T : List Tm) (σ : St) (H : Hp) (Q : VK) (hT : noBor T) (R : Rl S.G g env st T σ H) (h : PostE S.G g env T σ W Q (dOp op (dLast da) env st)) :
    ta σ H fun x H1 => r [x] H1 Q := by
  refine qa g env st T σ H _ hT R ?_
  unfold dOp dLast at h
  cases e1 : da env st with
  | stuck => rw [e1] at h; exact h.elim
  | exc c ds st1 => rw [e1] at h; exact h
  | ok f b d st1 =>
    rw [e1] at h
    exact post1 hv h
theorem runL {r : List V → Hp → VK → Prop} {op : Op} {W : WX} {ta : TA} (hv : VOp S.G r op)
    (qa : ∀ g env st T σ H Q, noBor T → Rl S.G g env st T σ H → PostL S.G g env T σ W Q (das env st) → ta σ H Q)
    (g : Gd) (env : Env) (st : Store) (T : List Tm) (σ : St) (H : Hp) (Q : VK) (hT : noBor T) (R : Rl S.G g env st T σ H) (h : PostE S.G g env T σ W Q (dOp op das env st)) :
    ta σ H fun vs H1 => r vs H1 Q := by
  refine qa g env st T σ H _ hT R ?_
  unfold dOp at h
  cases e1 : das env st with
  | stuck => rw [e1] at h; exact h.elim
  | exc c ds st1 => rw [e1] at h; exact h
  | ok ts st1 =>
    rw [e1] at h
    dsimp only at h
    intro vs H1 hl R1
    cases hf : flats ts with
    | false => rw [hf] at h; exact h.elim
    | true =>
      rw [hf] at h
      simp only [cond_true] at h
      cases e3 : op (ts.map fun t => lk st1 t.2.2) with
      | none => rw [e3] at h; exact h.elim
      | some x =>
        obtain ⟨f', d'⟩ := x
        rw [e3] at h
        exact Rl.op hv R1 hl hf e3 h

/-! ### names, constants -/
@[simp] def dVar (i : Nat) : Den := fun env st => match env[i]? with
  | some (some (.z, d)) => .ok .z false d st
  | _ => .stuck
/-- looked at, not kept -/
@[simp] def dPk (i : Nat) : Den := fun env st => match env[i]? with
  | some (some (f, d)) => .ok f true d st
  | _ => .stuck
@[simp] def dC (d : D) : Den := fun _ st => .ok .z false d st
theorem de_pv {i : Nat} {x : Str} {p : Pos} (hN : S.N[i]? = some x) (hv : Vis S.sc x) (hd : (x == ("__debug__" : Str)) = false) (hcd : (x == ("__classdict__" : Str)) = false) {X : Cx} (hX : Stx S X) : PE X (.Name x p) (tVar i) :=
  pe_var (by rw [hX.N]; exact hN) (by rw [hX.sc]; exact hv) hd hcd
theorem de_var {i : Nat} {x : Str} {p : Pos} (hN : S.N[i]? = some x) (hv : Vis S.sc x) (hd : (x == ("__debug__" : Str)) = false) (hcd : (x == ("__classdict__" : Str)) = false) : DE S (.Name x p) (dVar i) := fun W => by
  refine ⟨_, fun X hX tk => de_pv hN hv hd hcd hX, fun g env st T σ H Q hT R h => ?_⟩
  unfold dVar at h
  split at h
  · rename_i d e
    obtain ⟨v, e1, R1⟩ := R.pushz e
    exact ⟨v, e1, h v H R1⟩
  · exact h.elim
theorem de_pk {i : Nat} {x : Str} {p : Pos} (hN : S.N[i]? = some x) (hv : Vis S.sc x) (hd : (x == ("__debug__" : Str)) = false) (hcd : (x == ("__classdict__" : Str)) = false) : DE S (.Name x p) (dPk i) := fun W => by
  refine ⟨_, fun X hX tk => de_pv hN hv hd hcd hX, fun g env st T σ H Q hT R h => ?_⟩
  unfold dPk at h
  split at h
  · rename_i f d e
    obtain ⟨v, e1, R1⟩ := R.pushb e
    exact ⟨v, e1, h v H R1⟩
  · exact h.elim
theorem de_int {i : Int} {j} {p : Pos} : DE S (.Constant (.int i) j p) (dC (.int i)) := fun W => ⟨_, fun X hX tk => pe_int, fun g env st T σ H Q hT R h => h _ H (R.scal rfl)⟩
theorem de_bl {i : Bool} {j} {p : Pos} : DE S (.Constant (.bool i) j p) (dC (.bl i)) := fun W => ⟨_, fun X hX tk => pe_bl, fun g env st T σ H Q hT R h => h _ H (R.scal rfl)⟩
theorem de_non {j} {p : Pos} : DE S (.Constant .none j p) (dC .non) := fun W => ⟨_, fun X hX tk => pe_non, fun g env st T σ H Q hT R h => h _ H (R.scal trivial)⟩
theorem de_str {i : Str} {j} {p : Pos} : DE S (.Constant (.str i) j p) (dC (.str i)) := fun W => ⟨_, fun X hX tk => pe_str, fun g env st T σ H Q hT R h => h _ H (R.scal rfl)⟩

/-! ### operators, subscripts, built-ins, by their rules -/
def l1 (r : V → Hp → VK → Prop) : List V → Hp → VK → Prop := fun vs H Q => r (vs.getD 0 .non) H Q
def l2 (r : R2) : List V → Hp → VK → Prop := fun vs H Q => r (vs.getD 0 .non) (vs.getD 1 .non) H Q
theorem de_bin {o : Operator} {r : R2} {op : Op} (ho : ∀ X, Stx S X → OpR X (binaryOp o) r) (hv : VOp S.G (l2 r) op) (ha : DE S a da) (hb : DE S b db) :
    DE S (.BinOp a o b pos) (dOp op (dCons da (dLast db))) := fun W => by
  obtain ⟨ta, pa, qa⟩ := ha W
  obtain ⟨tb, pb, qb⟩ := hb W
  exact ⟨_, fun X hX tk => pe_op (ho X hX) (pa X hX tk) (pb X hX tk), fun g env st T σ H Q hT R h => run2 hv qa qb g env st T σ H Q hT R h⟩
theorem de_un {o : UnaryOp} {r : V → Hp → VK → Prop} {op : Op} (ho : ∀ X, Stx S X → UnR X (unaryOp o) r) (hv : VOp S.G (l1 r) op) (ha : DE S a da) :
    DE S (.UnaryOp o a pos) (dOp op (dLast da)) := fun W => by
  obtain ⟨ta, pa, qa⟩ := ha W
  exact ⟨_, fun X hX tk => pe_un (ho X hX) (pa X hX tk), fun g env st T σ H Q hT R h => run1 hv qa g env st T σ H Q hT R h⟩
def notSet : Expr → Bool
  | .Set _ _ _ => false
  | _ => true
theorem marks {o : CmpOp} {e : Expr} (h : notSet e = true) : behindInMarks o e = false := by
  cases e <;> first | rfl | cases h
theorem de_cmp {o : CmpOp} {r : R2} {op : Op} (ho : ∀ X, Stx S X → OpR X (compareOp o) r) (hv : VOp S.G (l2 r) op) (ha : DE S a da) (hb : DE S b db) (hm : notSet b = true) :
    DE S (.Compare a [o] [b] pos) (dOp op (dCons da (dLast db))) := fun W => by
  obtain ⟨ta, pa, qa⟩ := ha W
  obtain ⟨tb, pb, qb⟩ := hb W
  exact ⟨_, fun X hX tk => pe_cmpR (ho X hX) (pa X hX tk) (pb X hX tk) (marks hm), fun g env st T σ H Q hT R h => run2 hv qa qb g env st T σ H Q hT R h⟩
def notSlice : Expr → Bool
  | .Slice _ _ _ _ => false
  | _ => true
theorem plainIx {e : Expr} (h : notSlice e = true) : PlainIx e := fun o i => by
  cases e <;> first | rfl | cases h
theorem de_ix {r : R2} {op : Op} (ho : ∀ X, Stx S X → IxR X r) (hv : VOp S.G (l2 r) op) (ha : DE S a da) (hb : DE S b db) (hm : notSlice b = true) :
    DE S (.Subscript a b pos) (dOp op (dCons da (dLast db))) := fun W => by
  obtain ⟨ta, pa, qa⟩ := ha W
  obtain ⟨tb, pb, qb⟩ := hb W
  exact ⟨_, fun X hX tk => pe_ix (ho X hX) (pa X hX tk) (pb X hX tk) (plainIx hm), fun g env st T σ H Q hT R h => run2 hv qa qb g env st T σ H Q hT R h⟩
theorem noStar : ∀ {es : List Expr} {env : PySem.Env} {pos : Pos}, (∀ e ∈ es, ∀ x p, e ≠ .Starred x p) → (backTo pos (starEach es env)).any (·.1) = false := fun {es} => by
  induction es with
  | nil => intro env pos _; rfl
  | cons e es ih =>
    intro env pos h
    rw [starNo (h e List.mem_cons_self)]
    have := ih (env := env) (pos := pos) fun x hx => h x (List.mem_cons_of_mem _ hx)
    simpa [backTo] using this
/-- no star among the arguments -/
def plainArgs : List Expr → Bool
  | [] => true
  | .Starred _ _ :: _ => false
  | _ :: es => plainArgs es
theorem plainArgs_ok : ∀ {es : List Expr}, plainArgs es = true → ∀ e ∈ es, ∀ x p, e ≠ .Starred x p
  | e :: es, h, e', he, x, p => by
    rcases List.mem_cons.mp he with rfl | he
    · intro z; subst z; exact Bool.noConfusion h
    · have h2 : plainArgs es = true := by
        cases e <;> first | exact h | exact Bool.noConfusion h
      exact plainArgs_ok h2 e' he x p
/-- a built-in function by its name -/
theorem de_bi {x : Str} {p : Pos} {id : String} {r : List V → Hp → VK → Prop} {op : Op} (ho : ∀ X, Stx S X → CallR X (.builtin id) r) (hv : VOp S.G r op) (hg : S.sc.names.lookup x = some .globalImplicit) (hm : S.mg x = none) (hb : bootBuiltins x = some (.builtin id)) (hn : x ≠ "__name__") (hdb : (x == ("__debug__" : Str)) = false)
    (ha : DA S (e :: es) das) (hp : plainArgs (e :: es) = true) : DE S (.Call (.Name x p) (e :: es) [] pos) (dOp op das) := fun W => by
  obtain ⟨ta, pa, qa⟩ := ha W
  have h1 := plainArgs_ok hp
  exact ⟨_, fun X hX tk => pe_callB (ho X hX) (show X.env.scope.names.lookup x = some .globalImplicit by rw [hX.sc]; exact hg) (by rw [hX.mg]; exact hm) hb (pa X hX tk) hn hdb (starNo (h1 e List.mem_cons_self)) (noStar fun y hy => h1 y (List.mem_cons_of_mem _ hy)), fun g env st T σ H Q hT R h => runL hv qa g env st T σ H Q hT R h⟩
theorem de_ty {x : Str} {p : Pos} {id : String} {r : List V → Hp → VK → Prop} {op : Op} (ho : ∀ X, Stx S X → CallR X (.type id) r) (hv : VOp S.G r op) (hg : S.sc.names.lookup x = some .globalImplicit) (hm : S.mg x = none) (hb : bootBuiltins x = some (.type id)) (hn : x ≠ "__name__") (hdb : (x == ("__debug__" : Str)) = false)
    (ha : DA S (e :: es) das) (hp : plainArgs (e :: es) = true) : DE S (.Call (.Name x p) (e :: es) [] pos) (dOp op das) := fun W => by
  obtain ⟨ta, pa, qa⟩ := ha W
  have h1 := plainArgs_ok hp
  exact ⟨_, fun X hX tk => pe_callTy (ho X hX) (show X.env.scope.names.lookup x = some .globalImplicit by rw [hX.sc]; exact hg) (by rw [hX.mg]; exact hm) hb (pa X hX tk) hn hdb (starNo (h1 e List.mem_cons_self)) (noStar fun y hy => h1 y (List.mem_cons_of_mem _ hy)), fun g env st T σ H Q hT R h => runL hv qa g env st T σ H Q hT R h⟩

/-! ### truth -/
theorem Rl.bl {G : Sg} {g : Gd} {env : Env} {st : Store} {T : List Tm} {σ : St} {H : Hp} {v : V} {f : Fr} {b c : Bool} (R : Rl G g env st (⟨v, f, .bl c, b⟩ :: T) σ H) : v = .bl c := by
  obtain ⟨Fz, am, ne, nt, ns, h1, h2, h3, h4, h5⟩ := R
  have key : ∀ {n : Fp}, Rep G Fz am H f v (.bl c) n → v = .bl c := fun {n} r => by
    cases r with
    | sc h _ => cases v <;> first | exact congrArg V.bl h | exact h.elim
  cases h2 with
  | own h _ _ => exact key h
  | bor h _ _ => exact key h
@[simp] def dB (a : Den) : DenB := fun env st => match a env st with
  | .ok _ _ (.bl c) st1 => .ok c st1
  | .ok _ _ _ _ => .stuck
  | .exc c ds st1 => .exc c ds st1
  | .stuck => .stuck
@[simp] def dOfB (a : DenB) : Den := fun env st => match a env st with
  | .ok c st1 => .ok .z false (.bl c) st1
  | .exc c ds st1 => .exc c ds st1
  | .stuck => .stuck
/-- what is wanted behind a truth value -/
theorem postB {G : Sg} {g : Gd} {env : Env} {st : Store} {T : List Tm} {σ : St} {W : WX} {Q : Bool → Hp → Prop} {a : Den} (h : PostB G g env T σ W Q (dB a env st)) : PostE G g env T σ W (fun x H1 => ∃ c, x = .bl c ∧ Q c H1) (a env st) := by
  unfold dB at h
  cases e : a env st with
  | stuck => rw [e] at h; exact h.elim
  | exc c ds st1 => rw [e] at h; exact h
  | ok f b d st1 =>
    rw [e] at h
    cases d with
    | bl c => exact fun v H1 R1 => ⟨c, R1.bl, h H1 R1.drop⟩
    | _ => exact h.elim
/-- expressions whose test is their value's -/
def plainTest : Expr → Bool
  | .UnaryOp .Not _ _ => false
  | .BoolOp _ _ _ => false
  | .IfExp _ _ _ _ => false
  | .Compare _ _ _ _ => false
  | _ => true
theorem plainTest_ok {e : Expr} (h : plainTest e = true) (env : PySem.Env) (whole : Sem Value) : isTrue e env whole = (do let v ← whole; standAt e.pos; holding [v] (truthy v)) := by
  cases e <;> first | rfl | exact Bool.noConfusion h | skip
  rename_i o x p
  cases o <;> first | rfl | exact Bool.noConfusion h
theorem dt_val (ha : DE S a da) (hp : plainTest a = true) : DT S a (dB da) := fun W => by
  obtain ⟨ta, pa, qa⟩ := ha W
  exact ⟨_, fun X hX tk => pt_val (pa X hX tk) (plainTest_ok hp X.env), fun g env st T σ H Q hT R h => qa g env st T σ H _ hT R (postB h)⟩
theorem dt_cmp {o : CmpOp} {r : R2} {op : Op} (ho : ∀ X, Stx S X → OpR X (compareOp o) r) (hv : VOp S.G (l2 r) op) (ha : DE S a da) (hb : DE S b db) (hm : notSet b = true) :
    DT S (.Compare a [o] [b] pos) (dB (dOp op (dCons da (dLast db)))) := fun W => by
  obtain ⟨ta, pa, qa⟩ := ha W
  obtain ⟨tb, pb, qb⟩ := hb W
  exact ⟨_, fun X hX tk => pt_cmpR (ho X hX) (pa X hX tk) (pb X hX tk) (marks hm), fun g env st T σ H Q hT R h => run2 hv qa qb g env st T σ H _ hT R (postB h)⟩
@[simp] def dNotB (a : DenB) : DenB := fun env st => match a env st with
  | .ok c st1 => .ok (!c) st1
  | .exc c ds st1 => .exc c ds st1
  | .stuck => .stuck
@[simp] def dAndB (a b : DenB) : DenB := fun env st => match a env st with
  | .ok true st1 => b env st1
  | .ok false st1 => .ok false st1
  | .exc c ds st1 => .exc c ds st1
  | .stuck => .stuck
@[simp] def dOrB (a b : DenB) : DenB := fun env st => match a env st with
  | .ok true st1 => .ok true st1
  | .ok false st1 => b env st1
  | .exc c ds st1 => .exc c ds st1
  | .stuck => .stuck
theorem dt_not {ta : DenB} (ha : DT S a ta) : DT S (.UnaryOp .Not a pos) (dNotB ta) := fun W => by
  obtain ⟨t, p, q⟩ := ha W
  refine ⟨_, fun X hX tk => pt_not (p X hX tk), fun g env st T σ H Q hT R h => q g env st T σ H _ hT R ?_⟩
  unfold dNotB at h
  cases e : ta env st with
  | stuck => rw [e] at h; exact h.elim
  | exc c ds st1 => rw [e] at h; exact h
  | ok c st1 => rw [e] at h; exact h
/-- and, or: tests, whatever the whole -/
def DW (S : Sx) (e : Expr) (den : DenB) : Prop := ∀ W : WX, ∃ t : TT, (∀ X, Stx S X → Takes X W → PW X e t) ∧
  ∀ g env st T σ H Q, noBor T → Rl S.G g env st T σ H → PostB S.G g env T σ W Q (den env st) → t σ H Q
theorem dt_w {ta : DenB} (ha : DW S a ta) : DT S a ta := fun W => by
  obtain ⟨t, p, q⟩ := ha W
  exact ⟨t, fun X hX tk => (p X hX tk).pt, q⟩
theorem dw_and1 {ta : DenB} (ha : DT S a ta) : DW S (.BoolOp .And [a] pos) ta := fun W => by
  obtain ⟨t, p, q⟩ := ha W
  exact ⟨t, fun X hX tk => pw_and1 (p X hX tk), q⟩
theorem dw_or1 {ta : DenB} (ha : DT S a ta) : DW S (.BoolOp .Or [a] pos) ta := fun W => by
  obtain ⟨t, p, q⟩ := ha W
  exact ⟨t, fun X hX tk => pw_or1 (p X hX tk), q⟩
theorem dw_and {ta tr : DenB} (ha : DT S a ta) (hr : DW S (.BoolOp .And (b :: es) pos) tr) : DW S (.BoolOp .And (a :: b :: es) pos) (dAndB ta tr) := fun W => by
  obtain ⟨t, p, q⟩ := ha W
  obtain ⟨t2, p2, q2⟩ := hr W
  refine ⟨_, fun X hX tk => pw_and (p X hX tk) (p2 X hX tk), fun g env st T σ H Q hT R h => q g env st T σ H _ hT R ?_⟩
  unfold dAndB at h
  cases e : ta env st with
  | stuck => rw [e] at h; exact h.elim
  | exc c ds st1 => rw [e] at h; exact h
  | ok c st1 =>
    rw [e] at h
    intro H1 R1
    cases c with
    | true => exact iteT (q2 _ _ _ _ _ _ _ hT R1 h)
    | false => exact iteF (h H1 R1)
theorem dw_or {ta tr : DenB} (ha : DT S a ta) (hr : DW S (.BoolOp .Or (b :: es) pos) tr) : DW S (.BoolOp .Or (a :: b :: es) pos) (dOrB ta tr) := fun W => by
  obtain ⟨t, p, q⟩ := ha W
  obtain ⟨t2, p2, q2⟩ := hr W
  refine ⟨_, fun X hX tk => pw_or (p X hX tk) (p2 X hX tk), fun g env st T σ H Q hT R h => q g env st T σ H _ hT R ?_⟩
  unfold dOrB at h
  cases e : ta env st with
  | stuck => rw [e] at h; exact h.elim
  | exc c ds st1 => rw [e] at h; exact h
  | ok c st1 =>
    rw [e] at h
    intro H1 R1
    cases c with
    | true => exact iteT (h H1 R1)
    | false => exact iteF (q2 _ _ _ _ _ _ _ hT R1 h)
/-! ### and, or, not, if as values -/
@[simp] def dAnd (a b : Den) : Den := fun env st => match a env st with
  | .ok _ _ (.bl true) st1 => b env st1
  | .ok _ _ (.bl false) st1 => .ok .z false (.bl false) st1
  | .ok _ _ _ _ => .stuck
  | .exc c ds st1 => .exc c ds st1
  | .stuck => .stuck
@[simp] def dOr (a b : Den) : Den := fun env st => match a env st with
  | .ok _ _ (.bl true) st1 => .ok .z false (.bl true) st1
  | .ok _ _ (.bl false) st1 => b env st1
  | .ok _ _ _ _ => .stuck
  | .exc c ds st1 => .exc c ds st1
  | .stuck => .stuck
@[simp] def dIf (c : DenB) (a b : Den) : Den := fun env st => match c env st with
  | .ok true st1 => a env st1
  | .ok false st1 => b env st1
  | .exc c ds st1 => .exc c ds st1
  | .stuck => .stuck
theorem de_one {o : BoolOp} (ha : DE S a da) : DE S (.BoolOp o [a] pos) da := fun W => by
  obtain ⟨t, p, q⟩ := ha W
  exact ⟨t, fun X hX tk => pe_one (p X hX tk), q⟩
theorem de_and (ha : DE S a da) (hr : DE S (.BoolOp .And (b :: es) pos) db) : DE S (.BoolOp .And (a :: b :: es) pos) (dAnd da db) := fun W => by
  obtain ⟨t, p, q⟩ := ha W
  obtain ⟨t2, p2, q2⟩ := hr W
  refine ⟨_, fun X hX tk => pe_and (p X hX tk) (p2 X hX tk), fun g env st T σ H Q hT R h => q g env st T σ H _ hT R ?_⟩
  unfold dAnd at h
  cases e : da env st with
  | stuck => rw [e] at h; exact h.elim
  | exc c ds st1 => rw [e] at h; exact h
  | ok f b0 d st1 =>
    rw [e] at h
    cases d with
    | bl c =>
      intro v H1 R1
      cases c with
      | true => exact ⟨true, R1.bl, iteT (q2 _ _ _ _ _ _ _ hT R1.drop h)⟩
      | false => exact ⟨false, R1.bl, iteF (h _ H1 (Rl.scal R1.drop rfl))⟩
    | _ => exact h.elim
theorem de_or (ha : DE S a da) (hr : DE S (.BoolOp .Or (b :: es) pos) db) : DE S (.BoolOp .Or (a :: b :: es) pos) (dOr da db) := fun W => by
  obtain ⟨t, p, q⟩ := ha W
  obtain ⟨t2, p2, q2⟩ := hr W
  refine ⟨_, fun X hX tk => pe_or (p X hX tk) (p2 X hX tk), fun g env st T σ H Q hT R h => q g env st T σ H _ hT R ?_⟩
  unfold dOr at h
  cases e : da env st with
  | stuck => rw [e] at h; exact h.elim
  | exc c ds st1 => rw [e] at h; exact h
  | ok f b0 d st1 =>
    rw [e] at h
    cases d with
    | bl c =>
      intro v H1 R1
      cases c with
      | true => exact ⟨true, R1.bl, iteT (h _ H1 (Rl.scal R1.drop rfl))⟩
      | false => exact ⟨false, R1.bl, iteF (q2 _ _ _ _ _ _ _ hT R1.drop h)⟩
    | _ => exact h.elim
theorem de_not (ha : DE S a da) : DE S (.UnaryOp .Not a pos) (dOfB (dNotB (dB da))) := fun W => by
  obtain ⟨t, p, q⟩ := ha W
  refine ⟨_, fun X hX tk => pe_not (p X hX tk), fun g env st T σ H Q hT R h => q g env st T σ H _ hT R ?_⟩
  unfold dOfB dNotB dB at h
  cases e : da env st with
  | stuck => rw [e] at h; exact h.elim
  | exc c ds st1 => rw [e] at h; exact h
  | ok f b0 d st1 =>
    rw [e] at h
    cases d with
    | bl c => exact fun v H1 R1 => ⟨c, R1.bl, h _ H1 (Rl.scal R1.drop rfl)⟩
    | _ => exact h.elim
theorem de_if {c : Expr} {tc : DenB} (hc : DT S c tc) (ha : DE S a da) (hb : DE S b db) : DE S (.IfExp c a b pos) (dIf tc da db) := fun W => by
  obtain ⟨t, p, q⟩ := hc W
  obtain ⟨t2, p2, q2⟩ := ha W
  obtain ⟨t3, p3, q3⟩ := hb W
  refine ⟨_, fun X hX tk => pe_ifExp (p X hX tk) (p2 X hX tk) (p3 X hX tk), fun g env st T σ H Q hT R h => q g env st T σ H _ hT R ?_⟩
  unfold dIf at h
  cases e : tc env st with
  | stuck => rw [e] at h; exact h.elim
  | exc c ds st1 => rw [e] at h; exact h
  | ok c st1 =>
    rw [e] at h
    intro H1 R1
    cases c with
    | true => exact iteT (q2 _ _ _ _ _ _ _ hT R1 h)
    | false => exact iteF (q3 _ _ _ _ _ _ _ hT R1 h)
end
end Hx

set_option Elab.async false
set_option linter.all false
set_option maxRecDepth 100000
set_option autoImplicit false
/-! F4: displays, calls. -/
namespace Hx
open PySem PySem.Spec L2
open PyProof.Rows hiding St

section
variable {G : Sg} {g : Gd} {env : Env} {st st' : Store} {T T' : List Tm} {σ : St} {H H' : Hp} {B B' : (Addr → Prop) → List Addr → Prop}
/-- what may be kept: not a look at a slot's own thing -/
@[simp] def keeps (ts : List (Fr × Bool × D)) : Bool := ts.all fun t => !t.2.1 || t.1.isz
def bare (ts : List (Fr × Bool × D)) : List (Fr × D) := ts.map fun t => (t.1, t.2.2)
theorem TmR.reps {Fz : Addr → Prop} {am : List Addr} {ne nt : Fp} : ∀ {vs : List V} {ts : List (Fr × Bool × D)}, vs.length = ts.length → keeps ts = true → TmR G Fz am H ne (mkT vs ts ++ T) nt →
    ∃ n1 n2 : Fp, Reps G Fz am H (ts.map (·.1)) vs (ts.map fun t => t.2.2) n1 ∧ TmR G Fz am H ne T n2 ∧ ∀ q, nt q = n1 q + n2 q
  | [], [], _, _, r => ⟨fun _ => 0, nt, .nil fun _ => rfl, r, fun q => by simp⟩
  | v :: vs, (f, b, d) :: ts, hl, hf, r => by
    simp only [keeps, List.all_cons, Bool.and_eq_true] at hf
    cases b with
    | false =>
      cases r with
      | @own _ _ _ _ m1 m2 _ h1 h2 h3 =>
        obtain ⟨n1, n2, k1, k2, k3⟩ := TmR.reps (by simpa using hl) hf.2 h2
        exact ⟨fun q => m1 q + n1 q, n2, .cons h1 k1 fun _ => rfl, k2, fun q => by rw [h3, k3]; show _ = m1 q + n1 q + n2 q; omega⟩
    | true =>
      cases r with
      | @bor _ _ _ _ m1 _ h1 h2 h3 =>
        obtain ⟨n1, n2, k1, k2, k3⟩ := TmR.reps (by simpa using hl) hf.2 h3
        have e : f = .z := Fr.isz_eq (by simpa using hf.1)
        subst e
        exact ⟨n1, n2, .cons h1 k1 fun q => by rw [h1.z0]; omega, k2, k3⟩
/-- values under way become shared for good -/
theorem Rl.frzL {vs : List V} {ts : List (Fr × Bool × D)} (R : Rl G g env st (mkT vs ts ++ T) σ H) (hl : vs.length = ts.length) (hk : keeps ts = true) :
    RlB G g env st T σ H fun Fz am => Reps G Fz am H (zs ts.length) vs (ts.map fun t => t.2.2) (fun _ => 0) := by
  obtain ⟨Fz, am, ne, nt, ns, h1, h2, h3, h4, h5⟩ := R
  obtain ⟨n1, n2, k1, k2, k3⟩ := h2.reps hl hk
  have E : Ext Fz am H (Fro Fz n1) am H := Ext.shared fun p z => .inl z
  refine ⟨Fro Fz n1, am, ne, n2, ns, h1.ext E fun _ _ _ h => h, k2.ext E (fun _ _ _ h => h) fun _ _ _ h => h, Reps.ext E h3 fun _ _ _ h => h, h4.froz fun q => by rw [k3]; omega, ?_⟩
  have := k1.frz (Fz' := Fro Fz n1) (fun p z => .inl z) fun p z => .inr z
  simpa using this
/-- kept as they are -/
theorem Rl.own {vs : List V} {ts : List (Fr × Bool × D)} (R : Rl G g env st (mkT vs ts ++ T) σ H) (hl : vs.length = ts.length) (hk : keeps ts = true) :
    ∃ Fz am ne n1 n2 ns, Reps G Fz am H (ts.map (·.1)) vs (ts.map fun t => t.2.2) n1 ∧ EnvR G Fz am H env σ ne ∧ TmR G Fz am H ne T n2 ∧ StoR G Fz am H st ns ∧ Rel0 g Fz am H fun p => n1 p + (ne p + n2 p + ns p) := by
  obtain ⟨Fz, am, ne, nt, ns, h1, h2, h3, h4, h5⟩ := R
  obtain ⟨n1, n2, k1, k2, k3⟩ := h2.reps hl hk
  exact ⟨Fz, am, ne, n1, n2, ns, k1, h1, k2, h3, h4.less fun q => by rw [k3]; omega⟩
/-- a new value over the old ones -/
theorem RlB.new {v : V} {f : Fr} {d : D} {n : Fp} (R : RlB G g env st T σ H B) (s : Same H H') (nn : Newp H H' n) (h : ∀ Fz am, Ext Fz am H Fz am H' → B Fz am → Rep G Fz am H' f v d n) : Rl G g env st (⟨v, f, d, false⟩ :: T) σ H' := by
  obtain ⟨Fz, am, ne, nt, ns, h1, h2, h3, h4, h5⟩ := R
  have E : Ext Fz am H Fz am H' := Ext.same s fun _ h => h
  exact ⟨Fz, am, ne, fun q => n q + nt q, ns, h1.ext E fun p o _ h => s _ _ h, .own (h Fz am E h5) (h2.ext E (fun p o _ h => s _ _ h) fun p o _ h => s _ _ h) fun _ => rfl, Reps.ext E h3 fun p o _ h => s _ _ h, h4.grow s nn fun q => by show ne q + (n q + nt q) + ns q = _; omega, trivial⟩
theorem same_upd {p : Addr} {o : HO} (h : H p = none) : Same H (upd H p o) := fun b x e => by
  rw [upd_ne (ne_of_none e h)]
  exact e
def one1 (p : Addr) : Fp := fun q => if q = p then 1 else 0
theorem newp1 {p : Addr} {o : HO} (h : H p = none) (k : OwnK o) : Newp H (upd H p o) (one1 p) := fun q hq => by
  unfold one1 at hq ⊢
  by_cases e : q = p
  · subst e
    exact ⟨if_pos rfl, h, o, upd_same, k⟩
  · rw [if_neg e] at hq
    omega
/-- a list of shared items -/
theorem rep_lst {Fz : Addr → Prop} {am : List Addr} {p : Addr} {vs : List V} {ds : List D} (E : Ext Fz am H Fz am (upd H p (.lst vs))) (h : Reps G Fz am H (zs ds.length) vs ds (fun _ => 0)) : Rep G Fz am (upd H p (.lst vs)) (.c .z) (.ref p) (.con .lst ds) (one1 p) :=
  .cc ⟨⟨by decide, by decide⟩, _, upd_same, rfl⟩ (Reps.ext E h fun q o hq => absurd hq (Nat.lt_irrefl 0)) fun q => by unfold one1; simp
theorem rep_tup {Fz : Addr → Prop} {am : List Addr} {p : Addr} {vs : List V} {ds : List D} (E : Ext Fz am H Fz am (upd H p (.tup vs))) (h : Reps G Fz am H (zs ds.length) vs ds (fun _ => 0)) : Rep G Fz am (upd H p (.tup vs)) .z (.ref p) (.con .tup ds) (fun _ => 0) :=
  .zz (k := .tup) (SqT.of upd_same) (Reps.ext E h fun q o hq => absurd hq (Nat.lt_irrefl 0)) fun _ => rfl
end

/-! ### displays -/
@[simp] def dTup (as : DenL) : Den := fun env st => match as env st with
  | .ok ts st1 => bif keeps ts && ts.length.ble 1000 then .ok .z false (.con .tup (ts.map fun t => t.2.2)) st1 else .stuck
  | .exc c ds st1 => .exc c ds st1
  | .stuck => .stuck
/-- the items stay owned -/
def dTupO (as : DenL) : Den := fun env st => match as env st with
  | .ok ts st1 => bif keeps ts && ts.length.ble 1000 then .ok (.t (ts.map (·.1))) false (.con .tup (ts.map fun t => t.2.2)) st1 else .stuck
  | .exc c ds st1 => .exc c ds st1
  | .stuck => .stuck
@[simp] def dLst (as : DenL) : Den := fun env st => match as env st with
  | .ok ts st1 => bif keeps ts && ts.length.ble 1000 then .ok (.c .z) false (.con .lst (ts.map fun t => t.2.2)) st1 else .stuck
  | .exc c ds st1 => .exc c ds st1
  | .stuck => .stuck
theorem small_len {n : Nat} (h : n.ble 1000 = true) : n ≤ sizeLine := Nat.le_trans (Nat.le_of_ble_eq_true h) (by decide)
section
variable {S : Sx} {e a b : Expr} {es : List Expr} {da db : Den} {das : DenL} {pos : Pos}
theorem de_tup {x1} (ha : DA S es das) : DE S (.Tuple es x1 pos) (dTup das) := fun W => by
  obtain ⟨t, p, q⟩ := ha W
  refine ⟨_, fun X hX tk => pe_tup (p X hX tk), fun g env st T σ H Q hT R h => q g env st T σ H _ hT R ?_⟩
  unfold dTup at h
  cases e : das env st with
  | stuck => rw [e] at h; exact h.elim
  | exc c ds st1 => rw [e] at h; exact h
  | ok ts st1 =>
    rw [e] at h
    obtain ⟨hc, h⟩ := bifT h id
    rw [Bool.and_eq_true] at hc
    intro vs H1 hl R1
    refine ⟨by rw [hl]; exact small_len hc.2, fun pA hp => h _ _ ?_⟩
    exact RlB.new (R1.frzL hl hc.1) (same_upd hp) newp0 fun Fz am E k => rep_tup E (by simpa using k)
theorem de_tupO {x1} (ha : DA S es das) : DE S (.Tuple es x1 pos) (dTupO das) := fun W => by
  obtain ⟨t, p, q⟩ := ha W
  refine ⟨_, fun X hX tk => pe_tup (p X hX tk), fun g env st T σ H Q hT R h => q g env st T σ H _ hT R ?_⟩
  unfold dTupO at h
  cases e : das env st with
  | stuck => rw [e] at h; exact h.elim
  | exc c ds st1 => rw [e] at h; exact h
  | ok ts st1 =>
    rw [e] at h
    obtain ⟨hc, h⟩ := bifT h id
    rw [Bool.and_eq_true] at hc
    intro vs H1 hl R1
    refine ⟨by rw [hl]; exact small_len hc.2, fun pA hp => h _ _ ?_⟩
    obtain ⟨Fz, am, ne, n1, n2, ns, k1, k2, k3, k4, k5⟩ := Rl.own R1 hl hc.1
    have s := same_upd (o := .tup vs) hp
    have E : Ext Fz am H1 Fz am (upd H1 pA (.tup vs)) := Ext.same s fun _ h => h
    exact ⟨Fz, am, ne, fun q => n1 q + n2 q, ns, k2.ext E fun p o _ h => s _ _ h, .own (.tp (SqT.of upd_same) (Reps.ext E k1 fun p o _ h => s _ _ h)) (k3.ext E (fun p o _ h => s _ _ h) fun p o _ h => s _ _ h) fun _ => rfl,
      Reps.ext E k4 fun p o _ h => s _ _ h, (k5.grow s (m := fun _ => 0) newp0 (t' := fun p => n1 p + (ne p + n2 p + ns p)) fun q => by simp).less fun q => by show ne q + (n1 q + n2 q) + ns q ≤ _; omega, trivial⟩
theorem de_lst (ha : DA S es das) : DE S (.List es pos) (dLst das) := fun W => by
  obtain ⟨t, p, q⟩ := ha W
  refine ⟨_, fun X hX tk => pe_lst (p X hX tk), fun g env st T σ H Q hT R h => q g env st T σ H _ hT R ?_⟩
  unfold dLst at h
  cases e : das env st with
  | stuck => rw [e] at h; exact h.elim
  | exc c ds st1 => rw [e] at h; exact h
  | ok ts st1 =>
    rw [e] at h
    obtain ⟨hc, h⟩ := bifT h id
    rw [Bool.and_eq_true] at hc
    intro vs H1 hl R1
    refine ⟨by rw [hl]; exact small_len hc.2, fun pA hp => h _ _ ?_⟩
    exact RlB.new (R1.frzL hl hc.1) (same_upd hp) (newp1 hp trivial) fun Fz am E k => rep_lst E (by simpa using k)
end

/-! ### what a def promises -/
abbrev Fn := List (Fr × D) → Store → Res
def PostF (G : Sg) (g : Gd) (Q : VK) (E : XK) : Res → Prop
  | .ok f b d st => b = false ∧ ∀ v H', Rl G g [] st [⟨v, f, d, false⟩] [] H' → Q v H'
  | .exc c ds st => ∀ cls dx H', RlB G g [] st [] [] H' (ExcB G H' c ds cls dx) → E cls dx H'
  | .stuck => False
/-- n: how many arguments -/
def SpF (G : Sg) (n : Nat) (F : Fn) : Sp := fun vs H Q E => vs.length = n ∧ ∃ Fz am as st na ns, Reps G Fz am H (as.map (·.1)) vs (as.map (·.2)) na ∧ StoR G Fz am H st ns ∧
  Rel0 ⟨H, fun p => 0 < na p + ns p, Fz, am⟩ Fz am H (fun p => na p + ns p) ∧ PostF G ⟨H, fun p => 0 < na p + ns p, Fz, am⟩ Q E (F as st)
section
variable {G : Sg} {g : Gd} {env : Env} {st st' : Store} {T T' : List Tm} {σ : St} {H H' : Hp} {B B' : (Addr → Prop) → List Addr → Prop}
theorem Rel0.base {Fz : Addr → Prop} {am : List Addr} {na ne nt ns : Fp} (h : Rel0 g Fz am H fun p => na p + (ne p + nt p + ns p)) : Rel0 ⟨H, fun p => 0 < na p + ns p, Fz, am⟩ Fz am H (fun p => na p + ns p) where
  n1 := fun p => by have := h.n1 p; omega
  nz := fun p hp => h.nz p (by omega)
  th := fun p hp => h.th p (by omega)
  zt := h.zt
  k := fun p o e _ => e
  f := fun p hp => .inl hp
  z0 := fun _ z => z
  z1 := fun _ z => .inl z
  a := fun _ _ z => z
/-- behind a call: the caller's things -/
theorem after {Fz : Addr → Prop} {am : List Addr} {na ne nt ns : Fp} (h0 : Rel0 g Fz am H fun p => na p + (ne p + nt p + ns p)) (hE : EnvR G Fz am H env σ ne) (hT : TmR G Fz am H ne T nt) {T1 : List Tm}
    (R : RlB G ⟨H, fun p => 0 < na p + ns p, Fz, am⟩ [] st' T1 [] H' B) : ∃ Fz' am' nt' ns', B Fz' am' ∧ EnvR G Fz' am' H' env σ ne ∧ TmR G Fz' am' H' ne T nt ∧ TmR G Fz' am' H' (fun _ => 0) T1 nt' ∧ StoR G Fz' am' H' st' ns' ∧ Rel0 g Fz' am' H' fun p => nt' p + (ne p + nt p + ns' p) := by
  obtain ⟨Fz', am', ne', nt', ns', k1, k2, k3, k4, k5⟩ := R
  have hne' : ∀ q, ne' q = 0 := by cases k1 with | nil h => exact h
  have notA : ∀ p, 0 < ne p + nt p → ¬ 0 < na p + ns p := fun p hp z => by have := h0.n1 p; omega
  have own : ∀ p o, 0 < ne p + nt p → H p = some o → H' p = some o := fun p o hp e => k4.k p o e (notA p hp)
  have E : Ext Fz am H Fz' am' H' := ⟨k4.z0, fun i p e => k4.a i p e, fun p u z r => by
      have na' : ¬ 0 < na p + ns p := fun q => h0.nz p (by show 0 < na p + (ne p + nt p + ns p); omega) z
      exact r.imp (fun e => k4.k _ _ e na') fun ⟨o, e⟩ => ⟨o, k4.k _ _ e na'⟩, fun p u z e _ => by
      have na' : ¬ 0 < na p + ns p := fun q => h0.nz p (by show 0 < na p + (ne p + nt p + ns p); omega) z
      exact k4.k _ _ e na', fun p xs r => by
      have na' : ¬ 0 < na p + ns p := fun q => by
        obtain ⟨o, e, ok⟩ := h0.th p (by show 0 < na p + (ne p + nt p + ns p); omega)
        rcases r with r | ⟨_, r⟩
        · rw [r] at e; cases e; exact ok
        · rw [r] at e; cases e; exact ok
      exact r.imp (fun e => k4.k _ _ e na') fun ⟨o, e⟩ => ⟨o, k4.k _ _ e na'⟩⟩
  refine ⟨Fz', am', nt', ns', k5, hE.ext E fun p o hp e => own p o (by omega) e, hT.ext E (fun p o hp e => own p o (by omega) e) fun p o hp e => own p o (by omega) e, ?_, k3, ?_⟩
  · have e0 : ne' = fun _ => 0 := funext hne'
    rw [← e0]
    exact k2
  · have there : ∀ p, 0 < ne p + nt p → ∃ o, H p = some o ∧ OwnK o := fun p hp => h0.th p (by show 0 < na p + (ne p + nt p + ns p); omega)
    have disj : ∀ p, 0 < ne p + nt p → nt' p + ns' p = 0 := fun p hp => by
      rcases Nat.eq_zero_or_pos (nt' p + ns' p) with z | z
      · exact z
      · rcases k4.f p (by show 0 < ne' p + nt' p + ns' p; omega) with q | q
        · exact absurd q (notA p hp)
        · obtain ⟨o, e, _⟩ := there p hp
          rw [show H p = none from q] at e; cases e
    refine ⟨fun p => ?_, fun p hp z => ?_, fun p hp => ?_, k4.zt, fun p o e na' => ?_, fun p hp => ?_, fun p z => k4.z0 p (h0.z0 p z), fun p z => ?_, fun i p e => k4.a i p (h0.a i p e)⟩
    · show nt' p + (ne p + nt p + ns' p) ≤ 1
      by_cases q : 0 < ne p + nt p
      · have := disj p q
        have := h0.n1 p
        omega
      · have := k4.n1 p
        omega
    · by_cases q : 0 < ne p + nt p
      · rcases k4.z1 p z with y | y | y
        · exact h0.nz p (by show 0 < na p + (ne p + nt p + ns p); omega) y
        · exact notA p q y
        · obtain ⟨o, e, _⟩ := there p q
          rw [show H p = none from y] at e; cases e
      · exact k4.nz p (by omega) z
    · by_cases q : 0 < ne p + nt p
      · obtain ⟨o, e, ok⟩ := there p q
        exact ⟨o, own p o q e, ok⟩
      · exact k4.th p (by omega)
    · have e1 := h0.k p o e na'
      refine k4.k p o e1 fun q => ?_
      rcases h0.f p (by show 0 < na p + (ne p + nt p + ns p); omega) with y | y
      · exact na' y
      · rw [y] at e; cases e
    · by_cases q : 0 < ne p + nt p
      · exact h0.f p (by show 0 < na p + (ne p + nt p + ns p); omega)
      · rcases k4.f p (by omega) with y | y
        · exact h0.f p (by have y : 0 < na p + ns p := y; show 0 < na p + (ne p + nt p + ns p); omega)
        · cases e : g.H0 p with
          | none => exact .inr rfl
          | some o =>
            by_cases na' : g.A0 p
            · exact .inl na'
            · have := h0.k p o e na'
              rw [show H p = none from y] at this; cases this
    · rcases k4.z1 p z with y | y | y
      · exact h0.z1 p y
      · exact .inr (h0.f p (by have y : 0 < na p + ns p := y; show 0 < na p + (ne p + nt p + ns p); omega))
      · cases e : g.H0 p with
        | none => exact .inr (.inr rfl)
        | some o =>
          by_cases na' : g.A0 p
          · exact .inr (.inl na')
          · have := h0.k p o e na'
            rw [show H p = none from y] at this; cases this
end
end Hx

set_option Elab.async false
set_option linter.all false
set_option maxRecDepth 100000
set_option autoImplicit false
/-! F5: calls of defs. -/
namespace Hx
open PySem PySem.Spec L2
open PyProof.Rows hiding St

section
variable {G : Sg} {g : Gd} {env : Env} {st st' : Store} {T T' : List Tm} {σ : St} {H H' : Hp} {B B' : (Addr → Prop) → List Addr → Prop}
theorem TmR.up {Fz : Addr → Prop} {am : List Addr} {ne ne' nt : Fp} (r : TmR G Fz am H ne T nt) (h : ∀ q, ne q ≤ ne' q) : TmR G Fz am H ne' T nt := by
  induction r with
  | nil h => exact .nil h
  | own h1 h2 h3 ih => exact .own h1 ih h3
  | bor h1 h2 h3 ih => exact .bor h1 (fun q => Nat.le_trans (h2 q) (h q)) ih
theorem TmR.app {Fz : Addr → Prop} {am : List Addr} {ne n2 : Fp} (r2 : TmR G Fz am H ne T n2) : ∀ {l : List Tm} {n1 n : Fp}, TmR G Fz am H ne l n1 → (∀ q, n q = n1 q + n2 q) → TmR G Fz am H ne (l ++ T) n := by
  intro l n1 n r hn
  induction r generalizing n with
  | nil h =>
    have e : n = n2 := funext fun q => by rw [hn, h]; simp
    rw [e]
    exact r2
  | @own f v d T' m1 m2 m h1 h2 h3 ih => exact .own h1 (ih (n := fun q => m2 q + n2 q) fun q => rfl) fun q => by rw [hn, h3]; omega
  | @bor f v d T' m1 m h1 h2 h3 ih => exact .bor h1 h2 (ih hn)
theorem join {Fz : Addr → Prop} {am : List Addr} {na ne nt ns : Fp} (h0 : Rel0 g Fz am H fun p => na p + (ne p + nt p + ns p)) (hE : EnvR G Fz am H env σ ne) (hT : TmR G Fz am H ne T nt) {T1 : List Tm}
    (R : RlB G ⟨H, fun p => 0 < na p + ns p, Fz, am⟩ [] st' T1 [] H' B) : RlB G g env st' (T1 ++ T) σ H' B := by
  obtain ⟨Fz', am', nt', ns', h1, h2, h3, h4, h5, h6⟩ := after h0 hE hT R
  exact ⟨Fz', am', ne, fun q => nt' q + nt q, ns', h2, TmR.app h3 (h4.up fun q => Nat.zero_le _) fun _ => rfl, h5, h6.less fun q => by show ne q + (nt' q + nt q) + ns' q ≤ _; omega, h1⟩
theorem Reps.app {Fz : Addr → Prop} {am : List Addr} {fs' : List Fr} {vs' : List V} {ds' : List D} (r2 : Reps G Fz am H fs' vs' ds' (fun _ => 0)) : ∀ {fs : List Fr} {vs : List V} {ds : List D} {n : Fp}, Reps G Fz am H fs vs ds n → Reps G Fz am H (fs ++ fs') (vs ++ vs') (ds ++ ds') n
  | _, _, _, _, .nil h => r2.fp fun q => (h q).symm
  | _, _, _, _, .cons h1 h2 h3 => .cons h1 (Reps.app r2 h2) h3
end

/-- what is known of a def: n parameters, dd: the last ones' defaults -/
structure Good (S : Sx) (x : Str) (n : Nat) (F : Fn) (dd : List D) (k : Nat) : Prop where
  ex : ∃ f fd ps ds dvs, FnOk S.P S.w S.G.K S.mg S.base (L2.CX S.P S.w) k f fd ps (SpF S.G n F) ∧ S.mg x = some (.ref f) ∧ PySem.W.keepIn S.G.K (.ref f) = true ∧ Binds S.G.K fd ps ds ∧ Vals dvs ds ∧
    ∀ Fz am H, Reps S.G Fz am H (zs dd.length) dvs dd (fun _ => 0)
@[simp] def fin : Res → Res
  | .ok f false d st => .ok f false d st
  | .ok _ true _ _ => .stuck
  | r => r
@[simp] def zd (ds : List D) : List (Fr × D) := ds.map fun d => (.z, d)
@[simp] def dCall (F : Fn) (dd : List D) (as : DenL) : Den := fun env st => match as env st with
  | .ok ts st1 => bif keeps ts then fin (F (zd ((ts.map fun t => t.2.2) ++ dd)) st1) else .stuck
  | .exc c ds st1 => .exc c ds st1
  | .stuck => .stuck
/-- owned things are handed over -/
def dCallM (F : Fn) (dd : List D) (as : DenL) : Den := fun env st => match as env st with
  | .ok ts st1 => bif keeps ts then fin (F (bare ts ++ zd dd) st1) else .stuck
  | .exc c ds st1 => .exc c ds st1
  | .stuck => .stuck
theorem zd_fst (ds : List D) : (zd ds).map (·.1) = zs ds.length := by
  induction ds with
  | nil => rfl
  | cons d ds ih => show Fr.z :: (zd ds).map (·.1) = zs (ds.length + 1); rw [ih]; rfl
theorem zd_snd (ds : List D) : (zd ds).map (·.2) = ds := by
  induction ds with
  | nil => rfl
  | cons d ds ih => show d :: (zd ds).map (·.2) = _; rw [ih]
section
variable {S : Sx} {e a b : Expr} {es : List Expr} {da db : Den} {das : DenL} {pos : Pos}
/-- the promise, from the relation -/
theorem sp_of {n : Nat} {F : Fn} {g : Gd} {env : Env} {st : Store} {T : List Tm} {σ : St} {H : Hp} {Q : VK} {W : WX} {vs : List V} {ts : List (Fr × Bool × D)} {dd : List D} {dvs : List V}
    (hd : ∀ Fz am H, Reps S.G Fz am H (zs dd.length) dvs dd (fun _ => 0)) (hn : ts.length + dd.length = n) (R : Rl S.G g env st (mkT vs ts ++ T) σ H) (hl : vs.length = ts.length) (hk : keeps ts = true)
    (h : PostE S.G g env T σ W Q (fin (F (zd ((ts.map fun t => t.2.2) ++ dd)) st))) : SpF S.G n F (vs ++ dvs) H Q (WE W σ) := by
  obtain ⟨Fz, am, ne, nt, ns, h1, h2, h3, h4, h5⟩ := Rl.frzL R hl hk
  have hd0 := hd Fz am H
  refine ⟨by rw [List.length_append, hl, (hd0.len).2, hn], Fz, am, zd ((ts.map fun t => t.2.2) ++ dd), st, fun _ => 0, ns, ?_, h3, ?_, ?_⟩
  · rw [zd_fst, zd_snd, List.length_append, List.length_map]
    rw [show zs (ts.length + dd.length) = zs ts.length ++ zs dd.length by unfold zs; rw [List.replicate_append_replicate]]
    exact Reps.app hd0 h5
  · exact Rel0.base (g := g) (ne := ne) (nt := nt) (h4.less fun q => by omega)
  · have h4' : Rel0 g Fz am H fun p => (fun _ => 0) p + (ne p + nt p + ns p) := h4.less fun q => by show 0 + (ne q + nt q + ns q) ≤ _; omega
    cases e : F (zd ((ts.map fun t => t.2.2) ++ dd)) st with
    | stuck => rw [e] at h; exact h.elim
    | exc c ds st1 =>
      rw [e] at h
      exact fun cls dx H' R1 => h cls dx H' (join (T := T) h4' h1 h2 R1).notmp
    | ok f b d st1 =>
      rw [e] at h
      cases b with
      | true => exact h.elim
      | false => exact ⟨rfl, fun v H' R1 => h v H' (join h4' h1 h2 R1)⟩
theorem de_call {x : Str} {p : Pos} {n k : Nat} {F : Fn} {dd : List D} (hG : Good S x n F dd k) (hk : k ≤ S.k) (hg : S.sc.names.lookup x = some .globalImplicit) (hdb : (x == ("__debug__" : Str)) = false) (ha : DA S (e :: es) das) (hp : plainArgs (e :: es) = true) (hn : (e :: es).length + dd.length = n) (hlen : ∀ env st ts st1, das env st = .ok ts st1 → ts.length = (e :: es).length) :
    DE S (.Call (.Name x p) (e :: es) [] pos) (dCall F dd das) := fun W => by
  obtain ⟨ta, pa, qa⟩ := ha W
  obtain ⟨f, fd, ps, ds, dvs, hF, hm, hkp, hb, hv, hd⟩ := hG.ex
  have h1 := plainArgs_ok hp
  have hF' : ∀ X, Stx S X → FnOk X.prog X.w X.K X.mg X.base (L2.CX X.prog X.w) k f fd ps (SpF S.G n F) := fun X hX => by rw [hX.pr, hX.w, hX.mg, hX.base, hX.K]; exact hF
  refine ⟨_, fun X hX tk => pe_callSD (E := WE W) (hF' X hX) (hX.room.mono hk) (show X.env.scope.names.lookup x = some .globalImplicit by rw [hX.sc]; exact hg) (by rw [hX.mg]; exact hm) (by rw [hX.K]; exact hkp) (by rw [hX.K]; exact hb) hv (fun σ => passAt tk σ) (pa X hX tk) hdb
    (starNo (h1 e List.mem_cons_self)) (noStar fun y hy => h1 y (List.mem_cons_of_mem _ hy)), fun g env st T σ H Q hT R h => qa g env st T σ H _ hT R ?_⟩
  unfold dCall at h
  cases e1 : das env st with
  | stuck => rw [e1] at h; exact h.elim
  | exc c ds st1 => rw [e1] at h; exact h
  | ok ts st1 =>
    rw [e1] at h
    obtain ⟨hc, h⟩ := bifT h id
    intro vs H1 hl R1
    exact sp_of hd (by rw [hlen env st ts st1 e1]; exact hn) R1 hl hc h
theorem pe_call0S {X : Cx} {x : Str} {p : Pos} {k : Nat} {f : Addr} {fd : FuncData} {ps : List Str} {sp : Sp} {dvs : List V} {ds : List Value} {E : St → XK} (F : FnOk X.prog X.w X.K X.mg X.base (L2.CX X.prog X.w) k f fd ps sp) (hr : Room k X.A) (hg : Gl X x) (hm : X.mg x = some (.ref f)) (hk : PySem.W.keepIn X.K (.ref f) = true)
    (hb : Binds X.K fd ps ds) (hd : Vals dvs ds) (hx : ∀ σ, PassesAt (L2.CX X.prog X.w) X σ (E σ)) (hdb : (x == ("__debug__" : Str)) = false) : PE X (.Call (.Name x p) [] [] pos) (tCallSD sp dvs E tNil) := by
  refine ⟨fun pins s σ H Q I h => ?_⟩
  refine wpAny_Call_Name_kw (ld_glob I hg hm ?_ hdb)
  exact PySem.W.callWith_K0 I.kIn hk (run_fnSD (us := []) F hr hb hd (hx σ) I .nil h)
theorem de_call0 {x : Str} {p : Pos} {n k : Nat} {F : Fn} {dd : List D} (hG : Good S x n F dd k) (hk : k ≤ S.k) (hg : S.sc.names.lookup x = some .globalImplicit) (hdb : (x == ("__debug__" : Str)) = false) (hn : dd.length = n) :
    DE S (.Call (.Name x p) [] [] pos) (dCall F dd dNil) := fun W => by
  obtain ⟨f, fd, ps, ds, dvs, hF, hm, hkp, hb, hv, hd⟩ := hG.ex
  have hF' : ∀ X, Stx S X → FnOk X.prog X.w X.K X.mg X.base (L2.CX X.prog X.w) k f fd ps (SpF S.G n F) := fun X hX => by rw [hX.pr, hX.w, hX.mg, hX.base, hX.K]; exact hF
  refine ⟨_, fun X hX tk => pe_call0S (E := WE W) (hF' X hX) (hX.room.mono hk) (show X.env.scope.names.lookup x = some .globalImplicit by rw [hX.sc]; exact hg) (by rw [hX.mg]; exact hm) (by rw [hX.K]; exact hkp) (by rw [hX.K]; exact hb) hv (fun σ => passAt tk σ) hdb, fun g env st T σ H Q hT R h => ?_⟩
  unfold dCall dNil at h
  exact sp_of (vs := []) (ts := []) hd (by simpa using hn) R rfl rfl h
/-- how many arguments come -/
theorem len_cons {n : Nat} (h : ∀ env st ts st1, das env st = .ok ts st1 → ts.length = n) : ∀ env st ts st1, dCons da das env st = .ok ts st1 → ts.length = n + 1 := fun env st ts st1 e => by
  unfold dCons at e
  cases e1 : da env st with
  | stuck => rw [e1] at e; cases e
  | exc c ds s => rw [e1] at e; cases e
  | ok f b d s =>
    rw [e1] at e
    dsimp only at e
    cases hb : (!b || f.isz) with
    | false => rw [hb] at e; cases e
    | true =>
    rw [hb] at e
    dsimp only [cond_true] at e
    cases e2 : das env s with
    | stuck => rw [e2] at e; cases e
    | exc c ds s => rw [e2] at e; cases e
    | ok ts' s' =>
      rw [e2] at e
      injection e with e3 e4
      rw [← e3, List.length_cons, h env s ts' s' e2]
theorem len_last : ∀ env st ts st1, dLast da env st = .ok ts st1 → ts.length = 1 := fun env st ts st1 e => by
  unfold dLast at e
  cases e1 : da env st with
  | stuck => rw [e1] at e; cases e
  | exc c ds s => rw [e1] at e; cases e
  | ok f b d s =>
    rw [e1] at e
    injection e with e3 e4
    rw [← e3]; rfl
theorem len_nil : ∀ env st ts st1, dNil env st = .ok ts st1 → ts.length = 0 := fun env st ts st1 e => by
  unfold dNil at e
  injection e with e1 e2
  rw [← e1]; rfl
end
end Hx

set_option Elab.async false
set_option linter.all false
set_option maxRecDepth 100000
set_option autoImplicit false
/-! F6: statements without loops. -/
namespace Hx
open PySem PySem.Spec L2
open PyProof.Rows hiding St

inductive ResS
  | nx (env : Env) (st : Store) | rt (f : Fr) (d : D) (st : Store) | bk (env : Env) (st : Store) | ct (env : Env) (st : Store)
  | exc (c : Nat) (ds : List D) (env : Env) (st : Store) | stuck
abbrev DenS := Env → Store → ResS
section
variable (G : Sg) (g : Gd) (T : List Tm) (W : WX)
def PostS (D : Ends) : ResS → Prop
  | .nx env st => ∀ σ' H', Rl G g env st T σ' H' → D.nx σ' H'
  | .rt f d st => ∀ v H', Rl G g [] st [⟨v, f, d, false⟩] [] H' → D.rt v H'
  | .bk env st => ∀ σ' H', Rl G g env st T σ' H' → D.bk σ' H'
  | .ct env st => ∀ σ' H', Rl G g env st T σ' H' → D.ct σ' H'
  | .exc c ds env st => ∀ σ', ExcP G g env σ' W c ds st
  | .stuck => False
end
def DS (S : Sx) (s : Stmt) (den : DenS) : Prop := ∀ W : WX, ∃ t : TS, (∀ X, Stx S X → Takes X W → PS X s t) ∧
  ∀ g env st T σ H D, noBor T → Rl S.G g env st T σ H → PostS S.G g T W D (den env st) → t D σ H
def DSs (S : Sx) (s : List Stmt) (den : DenS) : Prop := ∀ W : WX, ∃ t : TS, (∀ X, Stx S X → Takes X W → PSs X s t) ∧
  ∀ g env st T σ H D, noBor T → Rl S.G g env st T σ H → PostS S.G g T W D (den env st) → t D σ H

section
variable {G : Sg} {g : Gd} {env : Env} {st st' : Store} {T T' : List Tm} {σ : St} {H H' : Hp} {B B' : (Addr → Prop) → List Addr → Prop}
theorem TmR.nb {Fz : Addr → Prop} {am : List Addr} {ne ne' nt : Fp} (r : TmR G Fz am H ne T nt) (h : noBor T) : TmR G Fz am H ne' T nt := by
  induction r with
  | nil h0 => exact .nil h0
  | own h1 h2 h3 ih => exact .own h1 (ih fun a ha => h a (List.mem_cons_of_mem _ ha)) h3
  | bor h1 h2 h3 ih => exact absurd (h _ List.mem_cons_self) (by simp)
/-- the slots go: what is handed back -/
theorem Rl.ret {v : V} {f : Fr} {b : Bool} {d : D} (R : Rl G g env st (⟨v, f, d, b⟩ :: T) σ H) (hb : (!b || f.isz) = true) : Rl G g [] st [⟨v, f, d, false⟩] [] H := by
  obtain ⟨Fz, am, ne, nt, ns, h1, h2, h3, h4, h5⟩ := R
  cases h2 with
  | @own _ _ _ _ n1 n2 _ k1 k2 k3 => exact ⟨Fz, am, fun _ => 0, n1, ns, .nil fun _ => rfl, .own k1 (.nil (n := fun _ => 0) fun _ => rfl) fun q => by simp, h3, h4.less fun q => by show 0 + n1 q + ns q ≤ _; rw [k3]; omega, trivial⟩
  | @bor _ _ _ _ n1 _ k1 k2 k3 =>
    have e : f = .z := Fr.isz_eq (by simpa using hb)
    subst e
    exact ⟨Fz, am, fun _ => 0, n1, ns, .nil fun _ => rfl, .own k1 (.nil (n := fun _ => 0) fun _ => rfl) fun q => by simp, h3, h4.less fun q => by show 0 + n1 q + ns q ≤ _; rw [k1.z0]; omega, trivial⟩
theorem Rl.retmv {i : Nat} {f : Fr} {d : D} (R : Rl G g env st T σ H) (e : env[i]? = some (some (f, d))) : ∃ v, σ[i]? = some (some v) ∧ Rl G g [] st [⟨v, f, d, false⟩] [] H := by
  obtain ⟨Fz, am, ne, nt, ns, h1, h2, h3, h4, h5⟩ := R
  obtain ⟨v, m, n', e0, e1, e2, e3⟩ := h1.take e
  exact ⟨v, e0, Fz, am, fun _ => 0, m, ns, .nil fun _ => rfl, .own e1 (.nil (n := fun _ => 0) fun _ => rfl) fun q => by simp, h3, h4.less fun q => by show 0 + m q + ns q ≤ _; rw [e2]; omega, trivial⟩
/-- a value is stored -/
theorem Rl.store {v : V} {f : Fr} {b : Bool} {d : D} (R : Rl G g env st (⟨v, f, d, b⟩ :: T) σ H) (hb : (!b || f.isz) = true) (hT : noBor T) (i : Nat) : Rl G g (env.set i (some (f, d))) st T (σ.set i (some v)) H := by
  obtain ⟨Fz, am, ne, nt, ns, h1, h2, h3, h4, h5⟩ := R
  cases h2 with
  | @own _ _ _ _ n1 n2 _ k1 k2 k3 =>
    obtain ⟨n', r1, r2⟩ := EnvR.set k1 h1 i
    exact ⟨Fz, am, n', n2, ns, r1, k2.nb hT, h3, h4.less fun q => by rw [k3]; have := r2 q; omega, trivial⟩
  | @bor _ _ _ _ n1 _ k1 k2 k3 =>
    have e : f = .z := Fr.isz_eq (by simpa using hb)
    subst e
    obtain ⟨n', r1, r2⟩ := EnvR.set k1 h1 i
    exact ⟨Fz, am, n', nt, ns, r1, k3.nb hT, h3, h4.less fun q => by have := r2 q; rw [k1.z0] at this; omega, trivial⟩
theorem Rl.kill (R : Rl G g env st T σ H) (hT : noBor T) (i : Nat) : Rl G g (env.set i none) st T σ H := by
  obtain ⟨Fz, am, ne, nt, ns, h1, h2, h3, h4, h5⟩ := R
  obtain ⟨n', r1, r2⟩ := h1.kill i σ rfl fun j _ => rfl
  exact ⟨Fz, am, n', nt, ns, r1, h2.nb hT, h3, h4.less fun q => by have := r2 q; omega, trivial⟩
def killE (ks : List Nat) (env : Env) : Env := ks.foldl (fun e i => e.set i none) env
theorem Rl.kills (hT : noBor T) : ∀ {ks : List Nat} {env : Env}, Rl G g env st T σ H → Rl G g (killE ks env) st T σ H
  | [], _, R => R
  | k :: ks, env, R => Rl.kills hT (ks := ks) (env := env.set k none) (R.kill hT k)
/-- a slot's own thing is shared from now on -/
theorem Rl.frzS {i : Nat} {f : Fr} {d : D} (R : Rl G g env st T σ H) (hT : noBor T) (e : env[i]? = some (some (f, d))) : Rl G g (env.set i (some (.z, d))) st T σ H := by
  obtain ⟨Fz, am, ne, nt, ns, h1, h2, h3, h4, h5⟩ := R
  obtain ⟨m, n', r1, r2⟩ := h1.frz e
  have E : Ext Fz am H (Fro Fz m) am H := Ext.shared fun p z => .inl z
  exact ⟨Fro Fz m, am, n', nt, ns, r2 _ (fun p z => .inl z) fun p z => .inr z, (h2.nb (ne' := n') hT).ext E (fun _ _ _ h => h) fun _ _ _ h => h, Reps.ext E h3 fun _ _ _ h => h, h4.froz fun q => by rw [r1]; omega, trivial⟩
end

/-! ### rows of statements -/
@[simp] def dSkip : DenS := fun env st => .nx env st
@[simp] def dSeq (a b : DenS) : DenS := fun env st => match a env st with
  | .nx env1 st1 => b env1 st1
  | r => r
section
variable {S : Sx} {e a b : Expr} {es : List Expr} {da db : Den} {das : DenL} {pos : Pos} {s : Stmt} {ss : List Stmt} {ts tr : DenS}
theorem dss_nil : DSs S [] dSkip := fun W => ⟨_, fun X hX tk => pss_nil, fun g env st T σ H D hT R h => h σ H R⟩
theorem PostS.seq {G : Sg} {g : Gd} {T : List Tm} {W : WX} {D : Ends} {t : TS} {r : ResS} {k : DenS} (h : PostS G g T W D (match r with | .nx env1 st1 => k env1 st1 | r => r))
    (q : ∀ env st σ H, Rl G g env st T σ H → PostS G g T W D (k env st) → t D σ H) : PostS G g T W { D with nx := t D } r := by
  cases r with
  | nx env1 st1 => exact fun σ' H' R => q env1 st1 σ' H' R h
  | rt f d st1 => exact h
  | bk env1 st1 => exact h
  | ct env1 st1 => exact h
  | exc c ds env1 st1 => exact h
  | stuck => exact h
theorem dss_cons (hs : DS S s ts) (hr : DSs S ss tr) : DSs S (s :: ss) (dSeq ts tr) := fun W => by
  obtain ⟨t, p, q⟩ := hs W
  obtain ⟨t2, p2, q2⟩ := hr W
  refine ⟨_, fun X hX tk => pss_cons (p X hX tk) (p2 X hX tk), fun g env st T σ H D hT R h => q g env st T σ H _ hT R ?_⟩
  exact PostS.seq h fun env st σ H R h => q2 g env st T σ H D hT R h
theorem dss_one (hs : DS S s ts) : DSs S [s] ts := fun W => by
  obtain ⟨t, p, q⟩ := hs W
  exact ⟨_, fun X hX tk => pss_one (p X hX tk), q⟩
/-- a slot is shared ahead of the statement -/
def dFrz (i : Nat) (k : DenS) : DenS := fun env st => match env[i]? with
  | some (some (_, d)) => k (env.set i (some (.z, d))) st
  | _ => .stuck
theorem dss_frz {i : Nat} (hr : DSs S ss tr) : DSs S ss (dFrz i tr) := fun W => by
  obtain ⟨t, p, q⟩ := hr W
  refine ⟨t, p, fun g env st T σ H D hT R h => ?_⟩
  unfold dFrz at h
  split at h
  · rename_i f d e
    exact q g _ st T σ H D hT (R.frzS hT e) h
  · exact h.elim
def dKill (ks : List Nat) (k : DenS) : DenS := fun env st => k (killE ks env) st
theorem dss_kill {ks : List Nat} (hr : DSs S ss tr) : DSs S ss (dKill ks tr) := fun W => by
  obtain ⟨t, p, q⟩ := hr W
  exact ⟨t, p, fun g env st T σ H D hT R h => q g _ st T σ H D hT (R.kills hT) h⟩

/-! ### simple statements -/
theorem ds_pass : DS S (.Pass pos) dSkip := fun W => ⟨_, fun X hX tk => ps_pass, fun g env st T σ H D hT R h => h σ H R⟩
theorem ds_doc {x j p} : DS S (.Expr (.Constant (.str x) j p) pos) dSkip := fun W => ⟨_, fun X hX tk => ps_doc, fun g env st T σ H D hT R h => h σ H R⟩
def dBrk : DenS := fun env st => .bk env st
def dCnt : DenS := fun env st => .ct env st
theorem ds_break : DS S (.Break pos) dBrk := fun W => ⟨_, fun X hX tk => ps_break, fun g env st T σ H D hT R h => h σ H R⟩
theorem ds_continue : DS S (.Continue pos) dCnt := fun W => ⟨_, fun X hX tk => ps_continue, fun g env st T σ H D hT R h => h σ H R⟩
@[simp] def dRet (a : Den) : DenS := fun env st => match a env st with
  | .ok f b d st1 => bif !b || f.isz then .rt f d st1 else .stuck
  | .exc c ds st1 => .exc c ds env st1
  | .stuck => .stuck
/-- what is returned is shared for good -/
@[simp] def dRetZ (a : Den) : DenS := fun env st => match a env st with
  | .ok f b d st1 => bif !b || f.isz then .rt .z d st1 else .stuck
  | .exc c ds st1 => .exc c ds env st1
  | .stuck => .stuck
def dRetMv (i : Nat) : DenS := fun env st => match env[i]? with
  | some (some (f, d)) => .rt f d st
  | _ => .stuck
def dRetMvZ (i : Nat) : DenS := fun env st => match env[i]? with
  | some (some (_, d)) => .rt .z d st
  | _ => .stuck
def dRetN : DenS := fun _ st => .rt .z .non st
theorem ds_ret (ha : DE S a da) : DS S (.Return (some a) pos) (dRet da) := fun W => by
  obtain ⟨t, p, q⟩ := ha W
  refine ⟨_, fun X hX tk => ps_ret (p X hX tk), fun g env st T σ H D hT R h => q g env st T σ H _ hT R ?_⟩
  unfold dRet at h
  cases e : da env st with
  | stuck => rw [e] at h; exact h.elim
  | exc c ds st1 => rw [e] at h; exact h σ
  | ok f b d st1 =>
    rw [e] at h
    obtain ⟨hc, h⟩ := bifT h id
    exact fun v H1 R1 => h v H1 (R1.ret hc)
theorem ds_retZ (ha : DE S a da) : DS S (.Return (some a) pos) (dRetZ da) := fun W => by
  obtain ⟨t, p, q⟩ := ha W
  refine ⟨_, fun X hX tk => ps_ret (p X hX tk), fun g env st T σ H D hT R h => q g env st T σ H _ hT R ?_⟩
  unfold dRetZ at h
  cases e : da env st with
  | stuck => rw [e] at h; exact h.elim
  | exc c ds st1 => rw [e] at h; exact h σ
  | ok f b d st1 =>
    rw [e] at h
    obtain ⟨hc, h⟩ := bifT h id
    exact fun v H1 R1 => h v H1 (R1.ret hc).frz
theorem ds_retMv {i : Nat} {x : Str} {p : Pos} (hN : S.N[i]? = some x) (hv : Vis S.sc x) (hd : (x == ("__debug__" : Str)) = false) (hcd : (x == ("__classdict__" : Str)) = false) : DS S (.Return (some (.Name x p)) pos) (dRetMv i) := fun W => by
  refine ⟨_, fun X hX tk => ps_ret (de_pv hN hv hd hcd hX), fun g env st T σ H D hT R h => ?_⟩
  unfold dRetMv at h
  split at h
  · rename_i f d e
    obtain ⟨v, e1, R1⟩ := Rl.retmv R e
    exact ⟨v, e1, h v H R1⟩
  · exact h.elim
theorem ds_retMvZ {i : Nat} {x : Str} {p : Pos} (hN : S.N[i]? = some x) (hv : Vis S.sc x) (hd : (x == ("__debug__" : Str)) = false) (hcd : (x == ("__classdict__" : Str)) = false) : DS S (.Return (some (.Name x p)) pos) (dRetMvZ i) := fun W => by
  refine ⟨_, fun X hX tk => ps_ret (de_pv hN hv hd hcd hX), fun g env st T σ H D hT R h => ?_⟩
  unfold dRetMvZ at h
  split at h
  · rename_i f d e
    obtain ⟨v, e1, R1⟩ := Rl.retmv R e
    exact ⟨v, e1, h v H R1.frz⟩
  · exact h.elim
theorem ds_retN : DS S (.Return none pos) dRetN := fun W => ⟨_, fun X hX tk => ps_retN, fun g env st T σ H D hT R h => h _ H (Rl.ret (Rl.scal (v := .non) (d := .non) R trivial) rfl)⟩
def notComp : Expr → Bool
  | .ListComp _ _ _ _ => false
  | .SetComp _ _ _ _ => false
  | .DictComp _ _ _ _ _ => false
  | _ => true
theorem swaps_no {e : Expr} {t : Option Expr} {l : Nat} {env : PySem.Env} (h : notComp e = true) : swapsWith e t l env = pure false := by
  cases e <;> first | rfl | cases h
def dDrop (a : Den) : DenS := fun env st => match a env st with
  | .ok _ _ _ st1 => .nx env st1
  | .exc c ds st1 => .exc c ds env st1
  | .stuck => .stuck
theorem ds_expr (ha : DE S a da) (hc : notComp a = true) : DS S (.Expr a pos) (dDrop da) := fun W => by
  obtain ⟨t, p, q⟩ := ha W
  refine ⟨_, fun X hX tk => ps_expr (p X hX tk) (swaps_no hc), fun g env st T σ H D hT R h => q g env st T σ H _ hT R ?_⟩
  unfold dDrop at h
  cases e : da env st with
  | stuck => rw [e] at h; exact h.elim
  | exc c ds st1 => rw [e] at h; exact h σ
  | ok f b d st1 =>
    rw [e] at h
    exact fun v H1 R1 => h σ H1 R1.drop
@[simp] def dIfS (c : DenB) (a b : DenS) : DenS := fun env st => match c env st with
  | .ok true st1 => a env st1
  | .ok false st1 => b env st1
  | .exc c ds st1 => .exc c ds env st1
  | .stuck => .stuck
theorem ds_if {c : Expr} {tc : DenB} {sa sb : List Stmt} {ta tb : DenS} (hc : DT S c tc) (ha : DSs S sa ta) (hb : DSs S sb tb) : DS S (.If c sa sb pos) (dIfS tc ta tb) := fun W => by
  obtain ⟨t, p, q⟩ := hc W
  obtain ⟨t2, p2, q2⟩ := ha W
  obtain ⟨t3, p3, q3⟩ := hb W
  refine ⟨_, fun X hX tk => ps_if (p X hX tk) (p2 X hX tk) (p3 X hX tk), fun g env st T σ H D hT R h => q g env st T σ H _ hT R ?_⟩
  unfold dIfS at h
  cases e : tc env st with
  | stuck => rw [e] at h; exact h.elim
  | exc c ds st1 => rw [e] at h; exact h σ
  | ok c st1 =>
    rw [e] at h
    intro H1 R1
    cases c with
    | true => exact iteT (q2 _ _ _ _ _ _ _ hT R1 h)
    | false => exact iteF (q3 _ _ _ _ _ _ _ hT R1 h)
@[simp] def dSet (i : Nat) (a : Den) : DenS := fun env st => match a env st with
  | .ok f b d st1 => bif !b || f.isz then .nx (env.set i (some (f, d))) st1 else .stuck
  | .exc c ds st1 => .exc c ds env st1
  | .stuck => .stuck
/-- the value is shared from now on -/
@[simp] def dSetZ (i : Nat) (a : Den) : DenS := fun env st => match a env st with
  | .ok f b d st1 => bif !b || f.isz then .nx (env.set i (some (.z, d))) st1 else .stuck
  | .exc c ds st1 => .exc c ds env st1
  | .stuck => .stuck
theorem dset_run {i : Nat} {W : WX} {t : TE} (q : ∀ g env st T σ H Q, noBor T → Rl S.G g env st T σ H → PostE S.G g env T σ W Q (da env st) → t σ H Q)
    (g : Gd) (env : Env) (st : Store) (T : List Tm) (σ : St) (H : Hp) (D : Ends) (hT : noBor T) (R : Rl S.G g env st T σ H) (h : PostS S.G g T W D (dSet i da env st)) : tAsg t (gName i) D σ H := by
  refine q g env st T σ H _ hT R ?_
  unfold dSet at h
  cases e : da env st with
  | stuck => rw [e] at h; exact h.elim
  | exc c ds st1 => rw [e] at h; exact h σ
  | ok f b d st1 =>
    rw [e] at h
    obtain ⟨hc, h⟩ := bifT h id
    exact fun v H1 R1 => h _ H1 (R1.store hc hT i)
theorem dsetZ_run {i : Nat} {W : WX} {t : TE} (q : ∀ g env st T σ H Q, noBor T → Rl S.G g env st T σ H → PostE S.G g env T σ W Q (da env st) → t σ H Q)
    (g : Gd) (env : Env) (st : Store) (T : List Tm) (σ : St) (H : Hp) (D : Ends) (hT : noBor T) (R : Rl S.G g env st T σ H) (h : PostS S.G g T W D (dSetZ i da env st)) : tAsg t (gName i) D σ H := by
  refine q g env st T σ H _ hT R ?_
  unfold dSetZ at h
  cases e : da env st with
  | stuck => rw [e] at h; exact h.elim
  | exc c ds st1 => rw [e] at h; exact h σ
  | ok f b d st1 =>
    rw [e] at h
    obtain ⟨hc, h⟩ := bifT h id
    intro v H1 R1
    refine h _ H1 ?_
    cases b with
    | false => exact Rl.store (b := false) R1.frz rfl hT i
    | true =>
      have e : f = .z := Fr.isz_eq (by simpa using hc)
      subst e
      exact Rl.store R1 rfl hT i
theorem stx_fn {X : Cx} (hX : Stx S X) {x : Str} (hf : S.fnA = true ∨ S.sc.names.lookup x = some .local) : X.fn x = true ∨ X.env.scope.names.lookup x = some .local := by
  rcases hf with h | h
  · exact .inl (hX.fn h x)
  · rw [hX.sc]; exact .inr h
theorem ds_set {i : Nat} {x : Str} {p : Pos} (hN : S.N[i]? = some x) (hx : Loc S.sc x) (hf : S.fnA = true ∨ S.sc.names.lookup x = some .local) (ha : DE S a da) (hc : notComp a = true) : DS S (.Assign [.Name x p] a pos) (dSet i da) := fun W => by
  obtain ⟨t, p, q⟩ := ha W
  exact ⟨_, fun X hX tk => ps_set hX.nd (by rw [hX.N]; exact hN) (by rw [hX.sc]; exact hx) (p X hX tk) (swaps_no hc) (stx_fn hX hf), fun g env st T σ H D hT R h => dset_run q g env st T σ H D hT R h⟩
theorem ds_setZ {i : Nat} {x : Str} {p : Pos} (hN : S.N[i]? = some x) (hx : Loc S.sc x) (hf : S.fnA = true ∨ S.sc.names.lookup x = some .local) (ha : DE S a da) (hc : notComp a = true) : DS S (.Assign [.Name x p] a pos) (dSetZ i da) := fun W => by
  obtain ⟨t, p, q⟩ := ha W
  exact ⟨_, fun X hX tk => ps_set hX.nd (by rw [hX.N]; exact hN) (by rw [hX.sc]; exact hx) (p X hX tk) (swaps_no hc) (stx_fn hX hf), fun g env st T σ H D hT R h => dsetZ_run q g env st T σ H D hT R h⟩
end

/-! ### targets -/
inductive Pat
  | nm (i : Nat) | tp (ps : List Pat)
/-- the parts of a tuple, of a list -/
@[simp] def kidsP : Fr → D → Option (List Fr × List D)
  | .z, .con .tup ds => some (zs ds.length, ds)
  | .t fs, .con .tup ds => some (fs, ds)
  | .z, .con .lst ds => some (zs ds.length, ds)
  | .c f, .con .lst ds => some (List.replicate ds.length f, ds)
  | _, _ => none
mutual
@[simp] def bindP : Pat → Fr → D → Env → Option Env
  | .nm i, f, d, env => some (env.set i (some (f, d)))
  | .tp ps, f, d, env => match kidsP f d with
    | some (fs, ds) => bindPs ps fs ds env
    | none => none
@[simp] def bindPs : List Pat → List Fr → List D → Env → Option Env
  | [], [], [], env => some env
  | p :: ps, f :: fs, d :: ds, env => (bindP p f d env).bind fun env1 => bindPs ps fs ds env1
  | _, _, _, _ => none
end
mutual
def Pat.slots : Pat → List Nat
  | .nm i => [i]
  | .tp ps => Pat.slotsL ps
def Pat.slotsL : List Pat → List Nat
  | [] => []
  | p :: ps => p.slots ++ Pat.slotsL ps
end
/-- only these slots differ -/
def Dif (l : List Nat) (σ σ' : St) : Prop := σ'.length = σ.length ∧ ∀ j, j ∉ l → σ'[j]? = σ[j]?
def DG (S : Sx) (tg : Expr) (p : Pat) : Prop := ∃ t : TG, (∀ X, Stx S X → PG X tg t) ∧
  ∀ g env st T σ H v f d env' Q, noBor T → Rl S.G g env st (⟨v, f, d, false⟩ :: T) σ H → bindP p f d env = some env' → (∀ σ' H', Dif p.slots σ σ' → Rl S.G g env' st T σ' H' → Q σ' H') → t v σ H Q
def mkF : List V → List Fr → List D → List Tm
  | v :: vs, f :: fs, d :: ds => ⟨v, f, d, false⟩ :: mkF vs fs ds
  | _, _, _ => []
def DGs (S : Sx) (tgs : List Expr) (ps : List Pat) : Prop := ∃ t : TGs, (∀ X, Stx S X → PGs X tgs t) ∧
  ∀ g env st T σ H vs fs ds env' Q, noBor T → vs.length = ds.length → Rl S.G g env st (mkF vs fs ds ++ T) σ H → bindPs ps fs ds env = some env' → (∀ σ' H', Dif (Pat.slotsL ps) σ σ' → Rl S.G g env' st T σ' H' → Q σ' H') → t vs σ H Q
theorem mkF_nb : ∀ {vs : List V} {fs : List Fr} {ds : List D}, noBor (mkF vs fs ds)
  | v :: vs, f :: fs, d :: ds => fun a ha => by
    rcases List.mem_cons.mp (show a ∈ ⟨v, f, d, false⟩ :: mkF vs fs ds from ha) with e | e
    · rw [e]
    · exact mkF_nb a e
  | [], _, _ => fun a ha => by cases ha
  | _ :: _, [], _ => fun a ha => by cases ha
  | _ :: _, _ :: _, [] => fun a ha => by cases ha
theorem nb_app {T T' : List Tm} (h : noBor T) (h' : noBor T') : noBor (T ++ T') := fun a ha => (List.mem_append.mp ha).elim (h a) (h' a)
section
variable {S : Sx}
theorem Dif.refl {l : List Nat} {σ : St} : Dif l σ σ := ⟨rfl, fun _ _ => rfl⟩
theorem Dif.app {l l' : List Nat} {σ σ1 σ2 : St} (h : Dif l σ σ1) (h' : Dif l' σ1 σ2) : Dif (l ++ l') σ σ2 := ⟨h'.1.trans h.1, fun j hj => by
  rw [List.mem_append, not_or] at hj
  rw [h'.2 j hj.2, h.2 j hj.1]⟩
theorem dg_nm {i : Nat} {x : Str} {p : Pos} (hN : S.N[i]? = some x) (hx : Loc S.sc x) (hf : S.fnA = true ∨ S.sc.names.lookup x = some .local) : DG S (.Name x p) (.nm i) :=
  ⟨_, fun X hX => pg_name hX.nd (by rw [hX.N]; exact hN) (by rw [hX.sc]; exact hx) (stx_fn hX hf), fun g env st T σ H v f d env' Q hT R e h => by
    cases e
    exact h _ H ⟨by simp, fun j hj => List.getElem?_set_ne fun z => hj (by rw [← z]; exact List.mem_singleton.mpr rfl)⟩ (R.store rfl hT i)⟩
theorem dgs_nil : DGs S [] [] := ⟨_, fun X hX => pgs_nil, fun g env st T σ H vs fs ds env' Q hT hl R e h => by
  cases ds with
  | cons d ds => cases fs <;> simp [bindPs] at e
  | nil =>
    have : vs = [] := List.length_eq_zero_iff.mp hl
    subst this
    cases fs with
    | cons f fs => simp [bindPs] at e
    | nil =>
      simp [bindPs] at e
      subst e
      exact ⟨rfl, h σ H Dif.refl R⟩⟩
theorem assignNo {tg : Expr} {tgs : List Expr} {env : PySem.Env} (h : ∀ x p, tg ≠ .Starred x p) : assignEach (tg :: tgs) env = (false, assign tg env) :: assignEach tgs env := by
  cases tg <;> first | rfl | exact absurd rfl (h _ _)
theorem assignEach_ok {env : PySem.Env} : ∀ {tgs : List Expr}, (∀ e ∈ tgs, ∀ x p, e ≠ .Starred x p) → (assignEach tgs env).length = tgs.length ∧ (assignEach tgs env).findIdx? (·.1) = none
  | [], _ => ⟨rfl, rfl⟩
  | tg :: tgs, h => by
    obtain ⟨h1, h2⟩ := assignEach_ok (env := env) (tgs := tgs) fun e he => h e (List.mem_cons_of_mem _ he)
    rw [assignNo (h tg List.mem_cons_self)]
    refine ⟨by rw [List.length_cons, List.length_cons, h1], ?_⟩
    rw [List.findIdx?_cons, h2]
    rfl
theorem dgs_cons {tg : Expr} {tgs : List Expr} {p : Pat} {ps : List Pat} (h1 : DG S tg p) (h2 : DGs S tgs ps) (hs : ∀ x q, tg ≠ .Starred x q) : DGs S (tg :: tgs) (p :: ps) := by
  obtain ⟨t, pt, q⟩ := h1
  obtain ⟨t2, pt2, q2⟩ := h2
  refine ⟨_, fun X hX => pgs_cons (pt X hX) (pt2 X hX) (by rw [assignNo hs]; rfl), fun g env st T σ H vs fs ds env' Q hT hl R e h => ?_⟩
  cases fs with
  | nil => cases ds <;> simp [bindPs] at e
  | cons f fs =>
    cases ds with
    | nil => simp [bindPs] at e
    | cons d ds =>
      cases vs with
      | nil => simp at hl
      | cons v vs =>
        rw [bindPs] at e
        obtain ⟨env1, e1, e2⟩ := Option.bind_eq_some_iff.mp e
        refine ⟨v, vs, rfl, q g env st (mkF vs fs ds ++ T) σ H v f d env1 _ (nb_app mkF_nb hT) R e1 fun σ' H' D' R' => ?_⟩
        exact q2 g env1 st T σ' H' vs fs ds env' Q hT (by simpa using hl) R' e2 fun σ2 H2 D2 R2 => h σ2 H2 (D'.app D2) R2
theorem tm_of_reps {G : Sg} {Fz : Addr → Prop} {am : List Addr} {H : Hp} {ne n2 : Fp} {T : List Tm} (h : TmR G Fz am H ne T n2) : ∀ {fs : List Fr} {vs : List V} {ds : List D} {n1 n : Fp}, Reps G Fz am H fs vs ds n1 → (∀ q, n q = n1 q + n2 q) → TmR G Fz am H ne (mkF vs fs ds ++ T) n
  | _, _, _, n1, n, .nil h0, hn => by
    have e : n = n2 := funext fun q => by rw [hn, h0]; simp
    rw [e]; exact h
  | _, _, _, n1, n, .cons (n2 := m2) h1 h2 h3, hn => .own h1 (tm_of_reps h h2 (n := fun q => m2 q + n2 q) fun _ => rfl) fun q => by rw [hn, h3]; omega
theorem Rl.open {G : Sg} {g : Gd} {env : Env} {st : Store} {T : List Tm} {σ : St} {H : Hp} {v : V} {f : Fr} {ds : List D} (R : Rl G g env st (⟨v, f, .con .tup ds, false⟩ :: T) σ H) :
    ∃ a vs fs, v = .ref a ∧ SqT G.K H a vs ∧ vs.length = ds.length ∧ ((f = .z ∧ fs = zs ds.length) ∨ f = .t fs) ∧ Rl G g env st (mkF vs fs ds ++ T) σ H := by
  obtain ⟨Fz, am, ne, nt, ns, h1, h2, h3, h4, h5⟩ := R
  cases h2 with
  | @own _ _ _ _ n1 n2 _ k1 k2 k3 =>
    cases k1 with
    | sc h _ => cases v <;> exact h.elim
    | @zz p k vs _ n a1 a2 a3 => exact ⟨p, vs, zs ds.length, rfl, a1, a2.len.2, .inl ⟨rfl, rfl⟩, Fz, am, ne, nt, ns, h1, tm_of_reps k2 a2 k3, h3, h4, trivial⟩
    | @tp p vs _ fs n a1 a2 => exact ⟨p, vs, fs, rfl, a1, a2.len.2, .inr rfl, Fz, am, ne, nt, ns, h1, tm_of_reps k2 a2 k3, h3, h4, trivial⟩
    | cc a1 _ _ => exact absurd rfl a1.1.1
theorem Rl.openL {G : Sg} {g : Gd} {env : Env} {st : Store} {T : List Tm} {σ : St} {H : Hp} {v : V} {f : Fr} {ds : List D} (R : Rl G g env st (⟨v, f, .con .lst ds, false⟩ :: T) σ H) :
    ∃ a vs f0, v = .ref a ∧ SqL G.K H a vs ∧ vs.length = ds.length ∧ ((f = .z ∧ f0 = .z) ∨ f = .c f0) ∧ Rl G g env st (mkF vs (List.replicate ds.length f0) ds ++ T) σ H := by
  obtain ⟨Fz, am, ne, nt, ns, h1, h2, h3, h4, h5⟩ := R
  cases h2 with
  | @own _ _ _ _ n1 n2 _ k1 k2 k3 =>
    cases k1 with
    | sc h _ => cases v <;> exact h.elim
    | @zz p k vs _ n a1 a2 a3 =>
      obtain ⟨_, o, b1, b2⟩ := a1
      subst b2
      exact ⟨p, vs, .z, rfl, SqL.of b1, a2.len.2, .inl ⟨rfl, rfl⟩, Fz, am, ne, nt, ns, h1, tm_of_reps k2 a2 k3, h3, h4, trivial⟩
    | @cc p k vs _ f0 n m a1 a2 a3 =>
      obtain ⟨_, o, b1, b2⟩ := a1
      subst b2
      exact ⟨p, vs, f0, rfl, SqL.of b1, a2.len.2, .inr rfl, Fz, am, ne, fun q => m q + n2 q, ns, h1, tm_of_reps k2 a2 fun _ => rfl, h3, h4.less fun q => by show ne q + (m q + n2 q) + ns q ≤ _; rw [k3, a3]; omega, trivial⟩
theorem PG.or {X : Cx} {tg : Expr} {t t' : TG} (h : PG X tg t) (h' : PG X tg t') : PG X tg fun v σ H Q => t v σ H Q ∨ t' v σ H Q :=
  ⟨fun pins s σ H v u Q I r hw => hw.elim (h.run pins s σ H v u Q I r) (h'.run pins s σ H v u Q I r)⟩
theorem bindPs_len : ∀ {ps : List Pat} {fs : List Fr} {ds : List D} {env env' : Env}, bindPs ps fs ds env = some env' → ps.length = ds.length
  | [], [], [], _, _, _ => rfl
  | p :: ps, f :: fs, d :: ds, env, env', h => by
    rw [bindPs] at h
    obtain ⟨env1, _, e2⟩ := Option.bind_eq_some_iff.mp h
    rw [List.length_cons, List.length_cons, bindPs_len e2]
  | [], [], _ :: _, _, _, h => by simp [bindPs] at h
  | [], _ :: _, _, _, _, h => by simp [bindPs] at h
  | _ :: _, [], _, _, _, h => by simp [bindPs] at h
  | _ :: _, _ :: _, [], _, _, h => by simp [bindPs] at h
theorem dg_tup {es : List Expr} {k : Nat} {p : Pos} {ps : List Pat} (h : DGs S es ps) (hp : plainArgs es = true) (hl : es.length = ps.length) : DG S (.Tuple es k p) (.tp ps) := by
  obtain ⟨t, pt, q⟩ := h
  have aa := fun env => assignEach_ok (env := env) (plainArgs_ok hp)
  refine ⟨fun v σ H Q => gTup S.G.K es.length t v σ H Q ∨ gUnl S.G.K es.length t v σ H Q, fun X hX => by rw [← hX.K]; exact PG.or (pg_tup hX.calm (pt X hX) (aa X.env).1 (aa X.env).2) (pg_unl hX.calm (pt X hX) (aa X.env).1 (aa X.env).2), fun g env st T σ H v f d env' Q hT R e hq => ?_⟩
  cases d with
  | con kd ds =>
    cases kd with
    | tup =>
      obtain ⟨a, vs, fs, e1, e2, e3, e4, R1⟩ := R.open
      have eb : bindPs ps fs ds env = some env' := by
        rcases e4 with ⟨rfl, rfl⟩ | rfl <;> simpa [bindP, kidsP] using e
      exact .inl ⟨a, vs, e1, e2, by rw [e3, hl, bindPs_len eb], q g env st T σ H vs fs ds env' Q hT e3 R1 eb hq⟩
    | lst =>
      obtain ⟨a, vs, f0, e1, e2, e3, e4, R1⟩ := R.openL
      have eb : bindPs ps (List.replicate ds.length f0) ds env = some env' := by
        rcases e4 with ⟨rfl, rfl⟩ | rfl <;> simpa [bindP, kidsP, zs] using e
      exact .inr ⟨a, vs, e1, e2, by rw [e3, hl, bindPs_len eb], q g env st T σ H vs _ ds env' Q hT e3 R1 eb hq⟩
    | _ => cases f <;> simp [bindP, kidsP] at e
  | _ => cases f <;> simp [bindP, kidsP] at e
@[simp] def dUnp (p : Pat) (a : Den) : DenS := fun env st => match a env st with
  | .ok f b d st1 => bif !b || f.isz then (match bindP p f d env with
    | some env1 => .nx env1 st1
    | none => .stuck) else .stuck
  | .exc c ds st1 => .exc c ds env st1
  | .stuck => .stuck
/-- what the value is, it is swapped or not -/
def noSwap : Expr → Bool
  | .Tuple _ _ _ => false
  | _ => true
theorem noSwap_ok {ts : List Expr} {e : Expr} {env : PySem.Env} (h : noSwap e = true) : swappedStores ts e env = pure none := by
  unfold swappedStores
  cases e <;> first | exact Bool.noConfusion h | (cases ts with
    | nil => rfl
    | cons t ts => cases ts <;> cases t <;> rfl)
theorem ds_unp {tg e : Expr} {p : Pat} {da : Den} {pos : Pos} (hg : DG S tg p) (ha : DE S e da) (hc : notComp e = true) (hw : noSwap e = true) (hst : ∀ x q, tg ≠ .Starred x q) : DS S (.Assign [tg] e pos) (dUnp p da) := fun W => by
  obtain ⟨t, pt, q⟩ := ha W
  obtain ⟨t2, pt2, q2⟩ := hg
  refine ⟨_, fun X hX tk => ps_asg (pt X hX tk) (pt2 X hX) (swaps_no hc) (noSwap_ok hw) (by rw [assignNo hst]; rfl), fun g env st T σ H D hT R h => q g env st T σ H _ hT R ?_⟩
  unfold dUnp at h
  cases e : da env st with
  | stuck => rw [e] at h; exact h.elim
  | exc c ds st1 => rw [e] at h; exact h σ
  | ok f b d st1 =>
    rw [e] at h
    obtain ⟨hc, h⟩ := bifT h id
    cases e2 : bindP p f d env with
    | none => rw [e2] at h; exact h.elim
    | some env1 =>
      rw [e2] at h
      exact fun v H1 R1 => q2 g env st1 T σ H1 v f d env1 _ hT (R1.unb hc) e2 fun σ' H' _ R' => h σ' H' R'
end
end Hx

set_option Elab.async false
set_option linter.all false
set_option maxRecDepth 100000
set_option autoImplicit false
/-! F7: loops, comprehensions. -/
namespace Hx
open PySem PySem.Spec L2
open PyProof.Rows hiding St

inductive ResI
  | ok (items : List D) (st : Store) | exc (c : Nat) (ds : List D) (st : Store) | stuck
abbrev DenI := Env → Store → ResI
/-- what an iterator gives, item by item -/
structure ItOk (G : Sg) (g : Gd) (J : It) (keep : List Tm) (items : List D) : Prop where
  nb : noBor keep
  go : ∀ i env st T σ H, Rl G g env st (keep ++ T) σ H → i < items.length → J.go i H
  yld : ∀ i env st T σ H x H' d, Rl G g env st (keep ++ T) σ H → J.yld i H x H' → items[i]? = some d → Rl G g env st (⟨x, .z, d, false⟩ :: (keep ++ T)) σ H'
  stop : ∀ i env st T σ H, Rl G g env st (keep ++ T) σ H → items.length ≤ i → J.stop i H
def PostI (G : Sg) (g : Gd) (env : Env) (T : List Tm) (σ : St) (W : WX) (R : It → Hp → Prop) : ResI → Prop
  | .ok items st => ∀ J H' keep, ItOk G g J keep items → Rl G g env st (keep ++ T) σ H' → R J H'
  | .exc c ds st => ExcP G g env σ W c ds st
  | .stuck => False
def DI (S : Sx) (tg it : Expr) (den : DenI) : Prop := ∀ W : WX, ∃ wi : TI, (∀ X, Stx S X → Takes X W → PI X tg it wi) ∧
  ∀ g env st T σ H R, noBor T → Rl S.G g env st T σ H → PostI S.G g env T σ W R (den env st) → wi σ H R

theorem PI.or {X : Cx} {tg e : Expr} {w1 w2 : TI} (h1 : PI X tg e w1) (h2 : PI X tg e w2) : PI X tg e fun σ H R => w1 σ H R ∨ w2 σ H R :=
  ⟨fun pins s σ H R I h => h.elim (h1.run pins s σ H R I) (h2.run pins s σ H R I)⟩
theorem reps_get {G : Sg} {Fz : Addr → Prop} {am : List Addr} {H : Hp} : ∀ {k : Nat} {vs : List V} {ds : List D} {n : Fp} {i : Nat} {v : V} {d : D}, Reps G Fz am H (zs k) vs ds n → vs[i]? = some v → ds[i]? = some d → Rep G Fz am H .z v d (fun _ => 0)
  | 0, _, _, _, i, v, d, r, e1, e2 => by
    cases r with
    | nil h => simp at e2
  | k + 1, _, _, _, i, v, d, r, e1, e2 => by
    have e : zs (k + 1) = .z :: zs k := List.replicate_succ
    rw [e] at r
    cases r with
    | cons h1 h2 h3 =>
      cases i with
      | zero =>
        simp at e1 e2
        subst e1 e2
        exact h1.fp h1.z0
      | succ i => exact reps_get (i := i) h2 (by simpa using e1) (by simpa using e2)
section
variable {G : Sg} {g : Gd} {env : Env} {st st' : Store} {T T' : List Tm} {σ : St} {H H' : Hp}
theorem Rl.pz {v : V} {d : D} (R : Rl G g env st T σ H) (h : ∀ Fz am ne nt, EnvR G Fz am H env σ ne → TmR G Fz am H ne T nt → Rep G Fz am H .z v d (fun _ => 0)) : Rl G g env st (⟨v, .z, d, false⟩ :: T) σ H := by
  obtain ⟨Fz, am, ne, nt, ns, h1, h2, h3, h4, h5⟩ := R
  exact ⟨Fz, am, ne, nt, ns, h1, .own (h Fz am ne nt h1 h2) h2 (n1 := fun _ => 0) fun q => by simp, h3, h4, trivial⟩
/-- a shared list under way -/
theorem lst_at {a : Addr} {ds : List D} (R : Rl G g env st (⟨.ref a, .z, .con .lst ds, false⟩ :: T) σ H) : ∃ vs, H a = some (.lst vs) ∧ vs.length = ds.length := by
  obtain ⟨Fz, am, ne, nt, ns, h1, h2, h3, h4, h5⟩ := R
  cases h2 with
  | own k1 k2 k3 =>
    cases k1 with
    | sc h _ => exact h.elim
    | zz a1 a2 a3 =>
      obtain ⟨_, o, b1, b2⟩ := a1
      subst b2
      exact ⟨_, b1, a2.len.2⟩
theorem lst_item {a : Addr} {ds : List D} {vs : List V} {i : Nat} {x : V} {d : D} (R : Rl G g env st (⟨.ref a, .z, .con .lst ds, false⟩ :: T) σ H) (ha : H a = some (.lst vs)) (e1 : vs[i]? = some x) (e2 : ds[i]? = some d) : Rl G g env st (⟨x, .z, d, false⟩ :: (⟨.ref a, .z, .con .lst ds, false⟩ :: T)) σ H :=
  R.pz fun Fz am ne nt _ h2 => by
    cases h2 with
    | own k1 k2 k3 =>
      cases k1 with
      | sc h _ => exact h.elim
      | zz a1 a2 a3 =>
        obtain ⟨_, o, b1, b2⟩ := a1
        subst b2
        have b1 : H a = some (.lst _) := b1
        rw [ha] at b1
        cases b1
        exact reps_get a2 e1 e2
theorem it_list {a : Addr} {ds : List D} : ItOk G g (Itl G.K a) [⟨.ref a, .z, .con .lst ds, false⟩] ds where
  nb := fun x hx => by rw [List.mem_singleton.mp hx]
  go := fun i env st T σ H R hi => by
    obtain ⟨vs, e1, e2⟩ := lst_at R
    exact ⟨_, _, SqL.of e1, List.getElem?_eq_getElem (by rw [e2]; exact hi)⟩
  yld := fun i env st T σ H x H' d R y e => by
    obtain ⟨rfl, y⟩ := y
    obtain ⟨vs, e1, e2⟩ := lst_at R
    exact lst_item R e1 (y _ (SqL.of e1)) e
  stop := fun i env st T σ H R hi => by
    obtain ⟨vs, e1, e2⟩ := lst_at R
    exact ⟨_, SqL.of e1, by rw [e2]; exact hi⟩
theorem tup_at {a : Addr} {ds : List D} (R : Rl G g env st (⟨.ref a, .z, .con .tup ds, false⟩ :: T) σ H) : ∃ vs, SqT G.K H a vs ∧ vs.length = ds.length ∧ ∀ (i : Nat) (x : V) (d : D), vs[i]? = some x → ds[i]? = some d → Rl G g env st (⟨x, .z, d, false⟩ :: (⟨.ref a, .z, .con .tup ds, false⟩ :: T)) σ H := by
  obtain ⟨Fz, am, ne, nt, ns, h1, h2, h3, h4, h5⟩ := R
  cases id h2 with
  | own k1 k2 k3 =>
    cases k1 with
    | sc h _ => exact h.elim
    | @zz _ _ vs _ _ a1 a2 a3 =>
      exact ⟨vs, a1, a2.len.2, fun i x d e1 e2 => ⟨Fz, am, ne, nt, ns, h1, .own (reps_get a2 e1 e2) h2 (n1 := fun _ => 0) fun q => by simp, h3, h4, trivial⟩⟩
theorem it_tup {a : Addr} {ds : List D} : ItOk G g (Itt G.K a) [⟨.ref a, .z, .con .tup ds, false⟩] ds where
  nb := fun x hx => by rw [List.mem_singleton.mp hx]
  go := fun i env st T σ H R hi => by
    obtain ⟨vs, e1, e2, _⟩ := tup_at R
    exact ⟨_, _, e1, List.getElem?_eq_getElem (by rw [e2]; exact hi)⟩
  yld := fun i env st T σ H x H' d R y e => by
    obtain ⟨rfl, y⟩ := y
    obtain ⟨vs, e1, e2, e3⟩ := tup_at R
    exact e3 i x d (y _ e1) e
  stop := fun i env st T σ H R hi => by
    obtain ⟨vs, e1, e2, _⟩ := tup_at R
    exact ⟨_, e1, by rw [e2]; exact hi⟩
theorem it_rng {lo : Int} {n : Nat} : ItOk G g (Itr lo n) [] ((List.range n).map fun (i : Nat) => D.int (lo + (i : Int))) where
  nb := fun x hx => by cases hx
  go := fun i env st T σ H R hi => by show i < n; simpa using hi
  yld := fun i env st T σ H x H' d R y e => by
    obtain ⟨rfl, rfl⟩ := y
    obtain ⟨h1, h2⟩ := List.getElem?_eq_some_iff.mp e
    simp at h2
    subst h2
    exact Rl.scal R rfl
  stop := fun i env st T σ H R hi => by show n ≤ i; simpa using hi
end
@[simp] def dIv (a : Den) : DenI := fun env st => match a env st with
  | .ok f b (.con .lst ds) st1 => bif !b || f.isz then .ok ds st1 else .stuck
  | .ok f b (.con .tup ds) st1 => bif !b || f.isz then .ok ds st1 else .stuck
  | .ok _ _ _ _ => .stuck
  | .exc c ds st1 => .exc c ds st1
  | .stuck => .stuck
section
variable {S : Sx} {e a b tg : Expr} {es : List Expr} {da db : Den} {das : DenL} {pos p : Pos}
theorem line24 {n : Nat} (h : n.ble 16777216 = true) : n ≤ sizeLine := Nat.le_trans (Nat.le_of_ble_eq_true h) (by decide)
theorem di_val (ha : DE S a da) : DI S tg a (dIv da) := fun W => by
  obtain ⟨t, p, q⟩ := ha W
  refine ⟨fun σ H R => iList S.G.K t σ H R ∨ iTup S.G.K t σ H R, fun X hX tk => by rw [← hX.K]; exact PI.or (pi_list (p X hX tk)) (pi_tup (p X hX tk)), fun g env st T σ H R0 hT R h => ?_⟩
  unfold dIv at h
  cases e : da env st with
  | stuck => rw [e] at h; exact h.elim
  | exc c ds st1 => rw [e] at h; exact .inl (q g env st T σ H _ hT R (by rw [e]; exact h))
  | ok f b d st1 =>
    rw [e] at h
    cases d with
    | con k ds =>
      cases k with
      | lst =>
        obtain ⟨hc, h⟩ := bifT h id
        refine .inl (q g env st T σ H _ hT R ?_)
        rw [e]
        intro v H1 R1
        have R2 := (R1.unb hc).frz
        obtain ⟨a, vs, f0, rfl, e2, _⟩ := Rl.openL R2
        exact ⟨a, rfl, ⟨vs, e2⟩, h _ H1 _ it_list R2⟩
      | tup =>
        obtain ⟨hc, h⟩ := bifT h id
        refine .inr (q g env st T σ H _ hT R ?_)
        rw [e]
        intro v H1 R1
        have R2 := (R1.unb hc).frz
        obtain ⟨a, vs, f0, rfl, e2, _⟩ := Rl.open R2
        exact ⟨a, rfl, ⟨vs, e2⟩, h _ H1 _ it_tup R2⟩
      | _ => exact h.elim
    | _ => exact h.elim
/-- range(n), range(m, n) -/
def rngItems (lo hi : Int) : List D := (List.range (hi - lo).toNat).map fun (i : Nat) => D.int (lo + (i : Int))
def small62 (j : Int) : Bool := decide (-16777216 ≤ j) && decide (j ≤ 16777216)
@[simp] def dRng1 (as : DenL) : DenI := fun env st => match as env st with
  | .ok ts st1 => (match ts with
    | [(_, _, .int j)] => bif small62 j then .ok (rngItems 0 j) st1 else .stuck
    | _ => .stuck)
  | .exc c ds st1 => .exc c ds st1
  | .stuck => .stuck
@[simp] def dRng2 (as : DenL) : DenI := fun env st => match as env st with
  | .ok ts st1 => (match ts with
    | [(_, _, .int i), (_, _, .int j)] => bif small62 i && small62 j then .ok (rngItems i j) st1 else .stuck
    | _ => .stuck)
  | .exc c ds st1 => .exc c ds st1
  | .stuck => .stuck
theorem Rl.int {G : Sg} {g : Gd} {env : Env} {st : Store} {T : List Tm} {σ : St} {H : Hp} {v : V} {f : Fr} {b : Bool} {c : Int} (R : Rl G g env st (⟨v, f, .int c, b⟩ :: T) σ H) : v = .int c := by
  obtain ⟨Fz, am, ne, nt, ns, h1, h2, h3, h4, h5⟩ := R
  have key : ∀ {n : Fp}, Rep G Fz am H f v (.int c) n → v = .int c := fun {n} r => by
    cases r with
    | sc h _ => cases v <;> first | exact congrArg V.int h | exact h.elim
  cases h2 with
  | own h _ _ => exact key h
  | bor h _ _ => exact key h
theorem small62_ok {j : Int} (h : small62 j = true) : (-(2 ^ 62) ≤ j ∧ j < 2 ^ 62) ∧ (-16777216 ≤ j ∧ j ≤ 16777216) := by
  unfold small62 at h
  rw [Bool.and_eq_true] at h
  have h1 := of_decide_eq_true h.1
  have h2 := of_decide_eq_true h.2
  omega
theorem di_rng1 (ha : DA S [a] das) (hs : ∀ x q, a ≠ .Starred x q) (hg : S.sc.names.lookup ("range" : Str) = some .globalImplicit) (hm : S.mg "range" = none) : DI S tg (.Call (.Name "range" p) [a] [] pos) (dRng1 das) := fun W => by
  obtain ⟨t, pt, q⟩ := ha W
  refine ⟨_, fun X hX tk => pi_range1 (show X.env.scope.names.lookup ("range" : Str) = some .globalImplicit by rw [hX.sc]; exact hg) (by rw [hX.mg]; exact hm) (pt X hX tk) (by rw [starNo hs]; rfl), fun g env st T σ H R0 hT R h => q g env st T σ H _ hT R ?_⟩
  unfold dRng1 at h
  cases e : das env st with
  | stuck => rw [e] at h; exact h.elim
  | exc c ds st1 => rw [e] at h; exact h
  | ok ts st1 =>
    rw [e] at h
    intro vs H1 hl R1
    dsimp only at h
    split at h
    · rename_i f b j
      obtain ⟨hc, h⟩ := bifT h id
      match vs, hl with
      | [v], _ =>
        have ev : v = .int j := Rl.int R1
        subst ev
        have hb := (small62_ok hc).1
        refine ⟨j, rfl, hb.1, hb.2, ?_⟩
        have it := it_rng (G := S.G) (g := g) (lo := 0) (n := j.toNat)
        unfold rngItems at h
        rw [show (j - 0).toNat = j.toNat by congr 1; omega] at h
        exact h _ H1 [] it (RlB.drop R1)
    · exact h.elim
theorem di_rng2 (ha : DA S [a, b] das) (hs : ∀ x q, a ≠ .Starred x q) (hs2 : ∀ x q, b ≠ .Starred x q) (hg : S.sc.names.lookup ("range" : Str) = some .globalImplicit) (hm : S.mg "range" = none) : DI S tg (.Call (.Name "range" p) [a, b] [] pos) (dRng2 das) := fun W => by
  obtain ⟨t, pt, q⟩ := ha W
  refine ⟨_, fun X hX tk => pi_range2 (show X.env.scope.names.lookup ("range" : Str) = some .globalImplicit by rw [hX.sc]; exact hg) (by rw [hX.mg]; exact hm) (pt X hX tk) (by rw [starNo hs, starNo hs2]; rfl) (by rw [starNo hs2]; rfl), fun g env st T σ H R0 hT R h => q g env st T σ H _ hT R ?_⟩
  unfold dRng2 at h
  cases e : das env st with
  | stuck => rw [e] at h; exact h.elim
  | exc c ds st1 => rw [e] at h; exact h
  | ok ts st1 =>
    rw [e] at h
    intro vs H1 hl R1
    dsimp only at h
    split at h
    · rename_i f b i f2 b2 j
      obtain ⟨hc, h⟩ := bifT h id
      rw [Bool.and_eq_true] at hc
      match vs, hl with
      | [v, v2], _ =>
        have ev : v = .int i := Rl.int R1
        have ev2 : v2 = .int j := Rl.int (RlB.drop R1)
        subst ev ev2
        have hb := (small62_ok hc.1).1
        have hb2 := (small62_ok hc.2).1
        refine ⟨i, j, rfl, ⟨hb.1, hb.2, hb2.1, hb2.2⟩, ?_⟩
        exact h _ H1 [] (it_rng (G := S.G) (g := g) (lo := i) (n := (j - i).toNat)) (RlB.drop (RlB.drop R1))
    · exact h.elim

/-! ### for -/
def forGo (p : Pat) (body : DenS) (ks : List Nat) : List D → DenS
  | [], env, st => .nx env st
  | d :: ds, env, st => match bindP p .z d env with
    | none => .stuck
    | some env1 => match body env1 st with
      | .nx env2 st2 => forGo p body ks ds (killE ks env2) st2
      | .ct env2 st2 => forGo p body ks ds (killE ks env2) st2
      | .bk env2 st2 => .nx (killE ks env2) st2
      | r => r
def dFor (it : DenI) (p : Pat) (body : DenS) (ks : List Nat) : DenS := fun env st => match it env st with
  | .ok items st1 => forGo p body ks items env st1
  | .exc c ds st1 => .exc c ds env st1
  | .stuck => .stuck
theorem notSet_fold {e : Expr} {env : PySem.Env} (h : notSet e = true) (x : Value) : foldedSetIterable e env x = pure x := by
  cases e <;> first | rfl | cases h
theorem ds_for {it : Expr} {di : DenI} {p : Pat} {body : List Stmt} {db : DenS} {ks : List Nat} (hi : DI S tg it di) (hg : DG S tg p) (hb : DSs S body db) (hs : notSet it = true) : DS S (.For tg it body [] pos) (dFor di p db ks) := fun W => by
  obtain ⟨wi, pi, qi⟩ := hi W
  obtain ⟨tg', pg, qg⟩ := hg
  obtain ⟨tb, pb, qb⟩ := hb W
  refine ⟨tFor wi tg' tb, fun X hX tk => ps_for hX.po hX.calm (pi X hX tk) (pg X hX) (pb X hX tk) (notSet_fold hs), fun g env st T σ H D hT R h => qi g env st T σ H _ hT R ?_⟩
  unfold dFor at h
  cases e : di env st with
  | stuck => rw [e] at h; exact h.elim
  | exc c ds st1 => rw [e] at h; exact h σ
  | ok items st1 =>
    rw [e] at h
    intro J H1 keep IO R1
    have nbT : noBor (keep ++ T) := nb_app IO.nb hT
    refine ⟨fun i m σ H => ∃ env st, m = items.length - i ∧ i ≤ items.length ∧ Rl S.G g env st (keep ++ T) σ H ∧ PostS S.G g T W D (forGo p db ks (items.drop i) env st), ⟨items.length, env, st1, by omega, Nat.zero_le _, R1, by simpa using h⟩, ?_⟩
    rintro i m σ H ⟨env, st, rfl, hi, R, h⟩
    by_cases hlt : i < items.length
    · refine .inr ⟨IO.go i env st T σ H R hlt, fun σ' H' => ∃ env st, i + 1 ≤ items.length ∧ Rl S.G g env st (keep ++ T) σ' H' ∧ PostS S.G g T W D (forGo p db ks (items.drop (i + 1)) env st), fun σ' H' ⟨env, st, h1, h2, h3⟩ => ⟨items.length - (i + 1), by omega, env, st, rfl, h1, h2, h3⟩, fun x H' y => ?_⟩
      have ei : items[i]? = some items[i] := List.getElem?_eq_getElem hlt
      have R2 := IO.yld i env st T σ H x H' _ R y ei
      rw [List.drop_eq_getElem_cons hlt] at h
      unfold forGo at h
      cases eb : bindP p .z items[i] env with
      | none => rw [eb] at h; exact h.elim
      | some env1 =>
        rw [eb] at h
        refine qg g env st (keep ++ T) σ H' x .z items[i] env1 _ nbT R2 eb fun σ' H'' _ R3 => ?_
        refine qb g env1 st (keep ++ T) σ' H'' _ nbT R3 ?_
        dsimp only at h
        cases er : db env1 st with
        | stuck => rw [er] at h; exact h.elim
        | rt f d st2 => rw [er] at h; exact h
        | exc c ds env2 st2 => rw [er] at h; exact h
        | nx env2 st2 => rw [er] at h; exact fun σ3 H3 R4 => ⟨_, st2, hlt, R4.kills nbT, h⟩
        | ct env2 st2 => rw [er] at h; exact fun σ3 H3 R4 => ⟨_, st2, hlt, R4.kills nbT, h⟩
        | bk env2 st2 => rw [er] at h; exact fun σ3 H3 R4 => h σ3 H3 (Rl.kills hT (RlB.tail R4))
    · have e : i = items.length := by omega
      subst e
      rw [List.drop_length] at h
      exact .inl ⟨IO.stop _ env st T σ H R (Nat.le_refl _), h σ H (RlB.tail R)⟩

/-! ### while -/
def whileGo (c : DenB) (body : DenS) (ks : List Nat) : Nat → DenS
  | 0, _, _ => .stuck
  | n + 1, env, st => match c env st with
    | .ok true st1 => (match body env st1 with
      | .nx env2 st2 => whileGo c body ks n (killE ks env2) st2
      | .ct env2 st2 => whileGo c body ks n (killE ks env2) st2
      | .bk env2 st2 => .nx (killE ks env2) st2
      | r => r)
    | .ok false st1 => .nx env st1
    | .exc c ds st1 => .exc c ds env st1
    | .stuck => .stuck
def dWhile (mu : Env → Store → Nat) (c : DenB) (body : DenS) (ks : List Nat) : DenS := fun env st => whileGo c body ks (mu env st) env st
theorem ds_while {c : Expr} {dc : DenB} {body : List Stmt} {db : DenS} {ks : List Nat} {mu : Env → Store → Nat} (hc : DT S c dc) (hb : DSs S body db) : DS S (.While c body [] pos) (dWhile mu dc db ks) := fun W => by
  obtain ⟨tc, pc, qc⟩ := hc W
  obtain ⟨tb, pb, qb⟩ := hb W
  refine ⟨tWhile tc tb, fun X hX tk => ps_while hX.po (pc X hX tk) (pb X hX tk), fun g env st T σ H D hT R h => ?_⟩
  refine ⟨fun m σ H => ∃ env st, Rl S.G g env st T σ H ∧ PostS S.G g T W D (whileGo dc db ks m env st), ⟨_, env, st, R, h⟩, ?_⟩
  rintro m σ H ⟨env, st, R, h⟩
  cases m with
  | zero => exact h.elim
  | succ n =>
    refine qc g env st T σ H _ hT R ?_
    unfold whileGo at h
    cases e : dc env st with
    | stuck => rw [e] at h; exact h.elim
    | exc c ds st1 => rw [e] at h; exact h σ
    | ok c st1 =>
      rw [e] at h
      intro H1 R1
      cases c with
      | false => exact h σ H1 R1
      | true =>
        refine ⟨fun σ' H' => ∃ env st, Rl S.G g env st T σ' H' ∧ PostS S.G g T W D (whileGo dc db ks n env st), fun σ' H' q => ⟨n, by omega, q⟩, ?_⟩
        refine qb g env st1 T σ H1 _ hT R1 ?_
        dsimp only at h
        cases er : db env st1 with
        | stuck => rw [er] at h; exact h.elim
        | rt f d st2 => rw [er] at h; exact h
        | exc c ds env2 st2 => rw [er] at h; exact h
        | nx env2 st2 => rw [er] at h; exact fun σ3 H3 R4 => ⟨_, st2, R4.kills hT, h⟩
        | ct env2 st2 => rw [er] at h; exact fun σ3 H3 R4 => ⟨_, st2, R4.kills hT, h⟩
        | bk env2 st2 => rw [er] at h; exact fun σ3 H3 R4 => h σ3 H3 (R4.kills hT)

/-! ### list comprehensions -/
def dYes : DenB := fun _ st => .ok true st
def lcGo (p : Pat) (c : DenB) (el : Den) : List D → Env → Store → List D → Res
  | [], _, st, acc => .ok (.c .z) false (.con .lst acc) st
  | d :: ds, env, st, acc => match bindP p .z d env with
    | none => .stuck
    | some env1 => match c env1 st with
      | .ok false st1 => lcGo p c el ds env st1 acc
      | .ok true st1 => (match el env1 st1 with
        | .ok f b d' st2 => bif !b || f.isz then lcGo p c el ds env st2 (acc ++ [d']) else .stuck
        | _ => .stuck)
      | _ => .stuck
def nonesAt (own : List Nat) (env : Env) : Bool := own.all fun i => match env[i]? with
  | some none => true
  | _ => false
def dLc (it : DenI) (own : List Nat) (p : Pat) (c : DenB) (el : Den) : Den := fun env st => match it env st with
  | .ok items st1 => bif nonesAt own env && items.length.ble 16777215 then lcGo p c el items env st1 [] else .stuck
  | .exc c ds st1 => .exc c ds st1
  | .stuck => .stuck
/-- within a comprehension's block -/
def Sx.blk (S : Sx) (scope : Scope) : Sx := { S with sc := relS scope S.sc, fnA := false }
theorem stx_blk {X : Cx} (hX : Stx S X) (s : Shared) (H : Hp) (scope : Scope) (C : Addr) (cl : List (Str × Addr)) (fp : List Addr) : Stx (S.blk scope) (X.blk s H scope (compEnvC scope cl C X.env) fp) where
  pr := hX.pr
  w := hX.w
  mg := hX.mg
  base := hX.base
  K := hX.K
  N := hX.N
  sc := by show relS scope X.env.scope = relS scope S.sc; rw [hX.sc]
  nd := hX.nd
  calm := hX.calm
  room := hX.room
  po := PassesOwn.never
  fn := fun h => Bool.noConfusion h
theorem wipe_at {j : Nat} : ∀ (τ : St) (ow : List Nat), j ∈ ow → (wipe τ ow)[j]? = if j < τ.length then some none else none := by
  intro τ ow
  induction ow with
  | nil => intro h; cases h
  | cons v vs ih =>
    intro h
    unfold wipe
    by_cases e : v = j
    · subst e
      rw [List.getElem?_set]
      simp [wipe_length]
    · rw [List.getElem?_set_ne e]
      rcases List.mem_cons.mp h with z | z
      · exact absurd z.symm e
      · exact ih z
theorem wipe_dif {σ σ2 : St} {l own : List Nat} (h : Dif l σ σ2) (hl : ∀ i ∈ l, i ∈ own) : wipe σ2 own = wipe σ own := by
  apply List.ext_getElem?
  intro j
  by_cases hj : j ∈ own
  · rw [wipe_at σ2 own hj, wipe_at σ own hj, h.1]
  · rw [wipe_out hj, wipe_out hj]
    exact h.2 j fun z => hj (hl j z)
theorem EnvR.resig {G : Sg} {Fz : Addr → Prop} {am : List Addr} {H : Hp} {env : Env} {σ : St} {n : Fp} (r : EnvR G Fz am H env σ n) : ∀ {σ' : St}, σ'.length = σ.length → (∀ (i : Nat) x, env[i]? = some (some x) → σ'[i]? = σ[i]?) → EnvR G Fz am H env σ' n := by
  induction r with
  | nil h =>
    intro σ' hl _
    have e : σ' = [] := List.length_eq_zero_iff.mp hl
    subst e
    exact .nil h
  | @som f d v env σ n1 n2 n h1 h2 h3 ih =>
    intro σ' hl hs
    cases σ' with
    | nil => simp at hl
    | cons y σ' =>
      have e : y = some v := by simpa using hs 0 (f, d) (by simp)
      subst e
      exact .som h1 (ih (by simpa using hl) fun i x e => by simpa using hs (i + 1) x (by simpa using e)) h3
  | @non x env σ n h ih =>
    intro σ' hl hs
    cases σ' with
    | nil => simp at hl
    | cons y σ' => exact .non (ih (by simpa using hl) fun i x e => by simpa using hs (i + 1) x (by simpa using e))
theorem EnvR.weak {G : Sg} {Fz : Addr → Prop} {am : List Addr} {H : Hp} {env : Env} {σ : St} {n : Fp} (r : EnvR G Fz am H env σ n) : ∀ {env' : Env} {σ'' : St}, env'.length = env.length → σ''.length = σ.length →
    (∀ (i : Nat) x, env'[i]? = some (some x) → env[i]? = some (some x) ∧ σ''[i]? = σ[i]?) → ∃ n', EnvR G Fz am H env' σ'' n' ∧ ∀ q, n' q ≤ n q := by
  induction r with
  | nil h =>
    intro env' σ'' h1 h2 _
    have e : σ'' = [] := List.length_eq_zero_iff.mp h2
    have e2 : env' = [] := List.length_eq_zero_iff.mp h1
    subst e e2
    exact ⟨_, .nil h, fun _ => Nat.le_refl _⟩
  | @som f d v env σ n1 n2 n h1 h2 h3 ih =>
    intro env' σ'' hl hs hx
    cases σ'' with
    | nil => simp at hs
    | cons y σ'' =>
    cases env' with
    | nil => simp at hl
    | cons w env' =>
      obtain ⟨n', k1, k2⟩ := ih (env' := env') (σ'' := σ'') (by simpa using hl) (by simpa using hs) fun i x e => by simpa using hx (i + 1) x (by simpa using e)
      cases w with
      | none => exact ⟨n', .non k1, fun q => by have := k2 q; rw [h3]; omega⟩
      | some w =>
        obtain ⟨e1, e2⟩ := hx 0 w (by simp)
        simp at e1 e2
        subst e1 e2
        exact ⟨_, .som h1 k1 (n := fun q => n1 q + n' q) fun _ => rfl, fun q => by have := k2 q; rw [h3]; omega⟩
  | @non x env σ n h ih =>
    intro env' σ'' hl hs hx
    cases σ'' with
    | nil => simp at hs
    | cons y σ'' =>
    cases env' with
    | nil => simp at hl
    | cons w env' =>
      obtain ⟨n', k1, k2⟩ := ih (env' := env') (σ'' := σ'') (by simpa using hl) (by simpa using hs) fun i x e => by simpa using hx (i + 1) x (by simpa using e)
      cases w with
      | none => exact ⟨n', .non k1, k2⟩
      | some w =>
        obtain ⟨e1, e2⟩ := hx 0 w (by simp)
        simp at e1
mutual
theorem bindP_dif : ∀ (p : Pat) {f : Fr} {d : D} {env env' : Env}, bindP p f d env = some env' → env'.length = env.length ∧ ∀ j, j ∉ p.slots → env'[j]? = env[j]?
  | .nm i, f, d, env, env', h => by
    cases h
    exact ⟨by simp, fun j hj => List.getElem?_set_ne fun z => hj (by rw [← z]; exact List.mem_singleton.mpr rfl)⟩
  | .tp ps, f, d, env, env', h => by
    unfold bindP at h
    cases e : kidsP f d with
    | none => rw [e] at h; cases h
    | some x => rw [e] at h; exact bindPs_dif ps h
theorem bindPs_dif : ∀ (ps : List Pat) {fs : List Fr} {ds : List D} {env env' : Env}, bindPs ps fs ds env = some env' → env'.length = env.length ∧ ∀ j, j ∉ Pat.slotsL ps → env'[j]? = env[j]?
  | [], [], [], env, env', h => by
    simp [bindPs] at h
    subst h
    exact ⟨rfl, fun _ _ => rfl⟩
  | p :: ps, f :: fs, d :: ds, env, env', h => by
    rw [bindPs] at h
    obtain ⟨env1, e1, e2⟩ := Option.bind_eq_some_iff.mp h
    have a := bindP_dif p e1
    have b := bindPs_dif ps e2
    refine ⟨b.1.trans a.1, fun j hj => ?_⟩
    have hj' : j ∉ p.slots ++ Pat.slotsL ps := hj
    rw [List.mem_append, not_or] at hj'
    rw [b.2 j hj'.2, a.2 j hj'.1]
  | [], [], _ :: _, _, _, h => by simp [bindPs] at h
  | [], _ :: _, _, _, _, h => by simp [bindPs] at h
  | _ :: _, [], _, _, _, h => by simp [bindPs] at h
  | _ :: _, _ :: _, [], _, _, h => by simp [bindPs] at h
end
theorem nones_wipe {own : List Nat} {env : Env} (h : nonesAt own env = true) (σ : St) : ∀ (i : Nat) x, env[i]? = some (some x) → (wipe σ own)[i]? = σ[i]? := fun i x e => wipe_out fun hi => by
  have := List.all_eq_true.mp h i hi
  rw [e] at this
  cases this
/-- a value put back among the others -/
theorem TmR.dim {G : Sg} {Fz : Addr → Prop} {am : List Addr} {H : Hp} {ne : Fp} {T : List Tm} {a : Tm} : ∀ {l : List Tm} {nt : Fp}, TmR G Fz am H ne (a :: (l ++ T)) nt → TmR G Fz am H ne (l ++ a :: T) nt
  | [], _, r => r
  | b :: l, _, r => by
    cases r with
    | @own _ _ _ _ n1 n2 _ h1 h2 h3 =>
      cases h2 with
      | @own _ _ _ _ m1 m2 _ k1 k2 k3 => exact .own k1 (TmR.dim (.own h1 k2 (n := fun q => n1 q + m2 q) fun _ => rfl)) fun q => by rw [h3, k3]; omega
      | @bor _ _ _ _ m1 _ k1 k2 k3 => exact .bor k1 k2 (TmR.dim (.own h1 k3 h3))
    | bor h1 h2 h3 =>
      cases h3 with
      | own k1 k2 k3 => exact .own k1 (TmR.dim (.bor h1 h2 k2)) k3
      | bor k1 k2 k3 => exact .bor k1 k2 (TmR.dim (.bor h1 h2 k3))
theorem wipe_wipe {σ σ2 : St} {l own : List Nat} (h : Dif l (wipe σ own) σ2) (hl : ∀ i ∈ l, i ∈ own) : wipe σ2 own = wipe σ own := by
  rw [wipe_dif h hl]
  apply List.ext_getElem?
  intro j
  by_cases hj : j ∈ own
  · rw [wipe_at _ _ hj, wipe_at _ _ hj, wipe_length]
  · rw [wipe_out hj]
theorem Rl.resig {G : Sg} {g : Gd} {env : Env} {st : Store} {T : List Tm} {σ σ' : St} {H : Hp} (R : Rl G g env st T σ H) (hl : σ'.length = σ.length) (hs : ∀ (i : Nat) x, env[i]? = some (some x) → σ'[i]? = σ[i]?) : Rl G g env st T σ' H := by
  obtain ⟨Fz, am, ne, nt, ns, h1, h2, h3, h4, h5⟩ := R
  exact ⟨Fz, am, ne, nt, ns, h1.resig hl hs, h2, h3, h4, h5⟩
end
/-! ### writing at an owned address -/
section
variable {G : Sg} {g : Gd} {env : Env} {st st' : Store} {T T' : List Tm} {σ : St} {H H' : Hp} {Fz : Addr → Prop} {am : List Addr} {tot : Fp} {A : Addr} {o : HO}
theorem Rel0.wext (r : Rel0 g Fz am H tot) (hA : 0 < tot A) : Ext Fz am H Fz am (upd H A o) := by
  have nz : ∀ p, Fz p → p ≠ A := fun p z e => r.nz A hA (by rw [← e]; exact z)
  obtain ⟨oA, eA, kA⟩ := r.th A hA
  refine ⟨fun _ h => h, fun _ _ h => h, fun p u z h => ?_, fun p u z h _ => ?_, fun p xs h => ?_⟩
  · exact h.imp (fun h => by rw [upd_ne (nz p z)]; exact h) fun ⟨w, h⟩ => ⟨w, by rw [upd_ne (nz p z)]; exact h⟩
  · rw [upd_ne (nz p z)]; exact h
  · have ne : p ≠ A := fun e => by
      subst e
      rcases h with h | ⟨_, h⟩
      · rw [eA] at h; cases h; exact kA
      · rw [eA] at h; cases h; exact kA
    exact h.imp (fun h => by rw [upd_ne ne]; exact h) fun ⟨w, h⟩ => ⟨w, by rw [upd_ne ne]; exact h⟩
theorem Rel0.wrel (r : Rel0 g Fz am H tot) (hA : 0 < tot A) (ok : OwnK o) : Rel0 g Fz am (upd H A o) tot := by
  refine ⟨r.n1, r.nz, fun p hp => ?_, fun p z => ?_, fun p u e na => ?_, r.f, r.z0, r.z1, r.a⟩
  · by_cases e : p = A
    · subst e; exact ⟨o, upd_same, ok⟩
    · rw [upd_ne e]; exact r.th p hp
  · rw [upd_ne fun e => r.nz A hA (by rw [← e]; exact z)]; exact r.zt p z
  · have h := r.k p u e na
    by_cases q : p = A
    · subst q
      rcases r.f p hA with y | y
      · exact absurd y na
      · rw [y] at e; cases e
    · rw [upd_ne q]; exact h
theorem upd_keep {n : Fp} (h : n A = 0) : ∀ p u, 0 < n p → H p = some u → upd H A o p = some u := fun p u hp e => by
  rw [upd_ne fun q => by subst q; omega]; exact e
theorem Reps.snoc {fs : List Fr} {vs : List V} {ds : List D} {n m k : Fp} {f : Fr} {v : V} {d : D} (h : Reps G Fz am H fs vs ds n) (r : Rep G Fz am H f v d m) (hk : ∀ q, k q = n q + m q) : Reps G Fz am H (fs ++ [f]) (vs ++ [v]) (ds ++ [d]) k := by
  match fs, vs, ds, h with
  | [], [], [], .nil h0 => exact .cons r (.nil (n := fun _ => 0) fun _ => rfl) fun q => by rw [hk, h0]; simp
  | _ :: _, _ :: _, _ :: _, .cons (n1 := n1) (n2 := n2) h1 h2 h3 => exact .cons h1 (Reps.snoc h2 r (k := fun q => n2 q + m q) fun _ => rfl) fun q => by rw [hk, h3]; omega
/-- the list grows -/
theorem Rl.appT {x : V} {ds : List D} {d : D} (R : Rl G g env st (⟨.ref A, .c .z, .con .lst ds, false⟩ :: ⟨x, .z, d, false⟩ :: T) σ H) :
    ∃ acc, H A = some (.lst acc) ∧ acc.length = ds.length ∧ Rl G g env st (⟨.ref A, .c .z, .con .lst (ds ++ [d]), false⟩ :: T) σ (upd H A (.lst (acc ++ [x]))) := by
  obtain ⟨Fz, am, ne, nt, ns, h1, h2, h3, h4, h5⟩ := R
  cases h2 with
  | @own _ _ _ _ n1 n2 _ k1 k2 k3 =>
    cases k2 with
    | @own _ _ _ _ m1 m2 _ j1 j2 j3 =>
      cases k1 with
      | @cc _ _ vs _ _ _ m a1 a2 a3 =>
        obtain ⟨_, o, b1, b2⟩ := a1
        subst b2
        have hA : 0 < ne A + nt A + ns A := by rw [k3, a3]; simp; omega
        have le := h4.n1 A
        have zA : ne A = 0 ∧ m2 A = 0 ∧ ns A = 0 ∧ m A = 0 := by rw [k3, a3, j3] at le; simp at le; omega
        have E := h4.wext (o := .lst (vs ++ [x])) hA
        have m0 := Reps.z0 (k := ds.length) a2
        refine ⟨vs, b1, a2.len.2, Fz, am, ne, fun q => n1 q + m2 q, ns, h1.ext E (upd_keep zA.1), .own (.cc (m := fun _ => 0) ⟨by decide, _, upd_same, rfl⟩ ?_ fun q => by rw [a3, m0]) (j2.ext E (upd_keep zA.2.1) (upd_keep zA.1)) fun _ => rfl, Reps.ext E h3 (upd_keep zA.2.2.1), (h4.wrel (o := .lst (vs ++ [x])) hA trivial).less fun q => by show ne q + (n1 q + m2 q) + ns q ≤ _; rw [k3, j3]; omega, trivial⟩
        have s := Reps.snoc (k := fun _ => 0) (a2.fp m0 (m := fun _ => 0)) (j1.fp j1.z0 (m := fun _ => 0)) fun _ => rfl
        have s2 := Reps.ext E s fun p u hp => absurd hp (Nat.lt_irrefl 0)
        have e : List.replicate ds.length Fr.z ++ [Fr.z] = List.replicate (ds ++ [d]).length Fr.z := by rw [List.length_append]; exact List.replicate_append_replicate (n := ds.length) (m := 1)
        rw [← e]
        exact s2
end
section
variable {S : Sx} {e a b tg : Expr} {es : List Expr} {da db : Den} {das : DenL} {pos p : Pos}
/-- the reading of a comprehension -/
theorem lc_run {di : DenI} {p : Pat} {own : List Nat} {c : DenB} {el : Den} {W : WX} {wi : TI} {tg' : TG} {tt : TT} {te : TE}
    (qi : ∀ g env st T σ H R, noBor T → Rl S.G g env st T σ H → PostI S.G g env T σ W R (di env st) → wi σ H R)
    (qg : ∀ g env st T σ H v f d env' Q, noBor T → Rl S.G g env st (⟨v, f, d, false⟩ :: T) σ H → bindP p f d env = some env' → (∀ σ' H', Dif p.slots σ σ' → Rl S.G g env' st T σ' H' → Q σ' H') → tg' v σ H Q)
    (qt : ∀ g env st T σ H Q, noBor T → Rl S.G g env st T σ H → PostB S.G g env T σ (fun _ _ _ _ => False) Q (c env st) → tt σ H Q)
    (qe : ∀ g env st T σ H Q, noBor T → Rl S.G g env st T σ H → PostE S.G g env T σ (fun _ _ _ _ => False) Q (el env st) → te σ H Q)
    (ho : ∀ i ∈ p.slots, i ∈ own)
    (g : Gd) (env : Env) (st : Store) (T : List Tm) (σ : St) (H : Hp) (Q : VK) (hT : noBor T) (R : Rl S.G g env st T σ H) (h : PostE S.G g env T σ W Q (dLc di own p c el env st)) : tLc wi tg' tt te own σ H Q := by
  refine qi g env st T σ H _ hT R ?_
  unfold dLc at h
  cases e : di env st with
  | stuck => rw [e] at h; exact h.elim
  | exc c ds st1 => rw [e] at h; exact h
  | ok items st1 =>
    rw [e] at h
    obtain ⟨hc, h⟩ := bifT h id
    rw [Bool.and_eq_true] at hc
    intro J H1 keep IO R1 A hA
    have nbA : ∀ ds, noBor (keep ++ (⟨.ref A, .c .z, .con .lst ds, false⟩ :: T)) := fun ds => nb_app IO.nb (nb_cons hT)
    have line : 16777215 < sizeLine := by decide
    have hlen := Nat.le_of_ble_eq_true hc.2
    have outside : ∀ (i : Nat) x, env[i]? = some (some x) → i ∉ own := fun i x e hi => by
      have := List.all_eq_true.mp hc.1 i hi
      rw [e] at this
      cases this
    have R2 : Rl S.G g env st1 (keep ++ (⟨.ref A, .c .z, .con .lst [], false⟩ :: T)) (wipe σ own) (upd H1 A (.lst [])) := by
      have r := RlB.new (B := fun _ _ => True) (v := .ref A) (f := .c .z) (d := .con .lst []) (n := one1 A) R1 (same_upd hA) (newp1 (o := .lst []) hA trivial) fun Fz am E _ => rep_lst E (.nil fun _ => rfl)
      have r2 : Rl S.G g env st1 (keep ++ (⟨.ref A, .c .z, .con .lst [], false⟩ :: T)) σ (upd H1 A (.lst [])) := by
        obtain ⟨Fz, am, ne, nt, ns, h1, h2, h3, h4, h5⟩ := r
        exact ⟨Fz, am, ne, nt, ns, h1, h2.dim, h3, h4, h5⟩
      exact r2.resig (wipe_length _ _) (nones_wipe hc.1 σ)
    refine ⟨fun i m H => ∃ st acc, m = items.length - i ∧ i ≤ items.length ∧ acc.length ≤ i ∧ Rl S.G g env st (keep ++ (⟨.ref A, .c .z, .con .lst acc, false⟩ :: T)) (wipe σ own) H ∧ PostE S.G g env T σ W Q (lcGo p c el (items.drop i) env st acc),
      ⟨items.length, st1, [], by omega, Nat.zero_le _, Nat.le_refl _, R2, by simpa using h⟩, ?_⟩
    rintro i m H ⟨st, acc, rfl, hi, hacc, R, h⟩
    by_cases hlt : i < items.length
    · refine .inr ⟨IO.go i env st _ _ H R hlt, fun H' => ∃ st acc, i + 1 ≤ items.length ∧ acc.length ≤ i + 1 ∧ Rl S.G g env st (keep ++ (⟨.ref A, .c .z, .con .lst acc, false⟩ :: T)) (wipe σ own) H' ∧ PostE S.G g env T σ W Q (lcGo p c el (items.drop (i + 1)) env st acc),
        fun H' ⟨st, acc, h1, h2, h3, h4⟩ => ⟨items.length - (i + 1), by omega, st, acc, rfl, h1, h2, h3, h4⟩, fun x H' y => ?_⟩
      have ei : items[i]? = some items[i] := List.getElem?_eq_getElem hlt
      have R3 := IO.yld i env st _ _ H x H' _ R y ei
      rw [List.drop_eq_getElem_cons hlt] at h
      unfold lcGo at h
      cases eb : bindP p .z items[i] env with
      | none => rw [eb] at h; exact h.elim
      | some env1 =>
        rw [eb] at h
        refine qg g env st _ _ H' x .z items[i] env1 _ (nbA acc) R3 eb fun σ' H'' D' R4 => ⟨wipe_wipe D' ho, ?_⟩
        refine qt g env1 st _ σ' H'' _ (nbA acc) R4 ?_
        dsimp only at h
        cases ec : c env1 st with
        | stuck => rw [ec] at h; exact h.elim
        | exc c ds st2 => rw [ec] at h; exact h.elim
        | ok b st2 =>
          rw [ec] at h
          intro H3 R5
          have back : ∀ {st : Store} {ds : List D} {H4 : Hp}, Rl S.G g env1 st (keep ++ (⟨.ref A, .c .z, .con .lst ds, false⟩ :: T)) σ' H4 → Rl S.G g env st (keep ++ (⟨.ref A, .c .z, .con .lst ds, false⟩ :: T)) (wipe σ own) H4 := fun {st ds H4} r => by
            obtain ⟨Fz, am, ne, nt, ns, h1, h2, h3, h4, h5⟩ := r
            have bd := bindP_dif p eb
            obtain ⟨n', k1, k2⟩ := h1.weak (env' := env) (σ'' := wipe σ own) bd.1.symm D'.1.symm fun i x e => ⟨by rw [bd.2 i fun z => outside i x e (ho i z)]; exact e, (D'.2 i fun z => outside i x e (ho i z)).symm⟩
            exact ⟨Fz, am, n', nt, ns, k1, h2.nb (nbA ds), h3, h4.less fun q => by have := k2 q; omega, trivial⟩
          cases b with
          | false => exact iteF ⟨st2, acc, hlt, by omega, back R5, h⟩
          | true =>
            refine iteT (qe g env1 st2 _ σ' H3 _ (nbA acc) R5 ?_)
            dsimp only at h
            cases ee : el env1 st2 with
            | stuck => rw [ee] at h; exact h.elim
            | exc c ds st3 => rw [ee] at h; exact h.elim
            | ok f b d' st3 =>
              rw [ee] at h
              obtain ⟨hb, h⟩ := bifT h id
              intro y' H4 R6
              have R7 := (R6.unb hb).frz
              obtain ⟨vs, e1, e2, R8⟩ := Rl.appT (RlB.mid (l := ⟨y', .z, d', false⟩ :: keep) R7)
              refine ⟨vs, e1, by rw [e2]; omega, st3, acc ++ [d'], hlt, by rw [List.length_append]; simp; omega, back (by
                obtain ⟨Fz, am, ne, nt, ns, h1, h2, h3, h4, h5⟩ := R8
                exact ⟨Fz, am, ne, nt, ns, h1, h2.dim, h3, h4, h5⟩), h⟩
    · have e : i = items.length := by omega
      subst e
      rw [List.drop_length] at h
      refine .inl ⟨IO.stop _ env st _ _ H R (Nat.le_refl _), h _ H ?_⟩
      exact Rl.resig (RlB.tail R) (by rw [wipe_length]) fun i x e => (nones_wipe hc.1 σ i x e).symm
end
end Hx

set_option Elab.async false
set_option linter.all false
set_option maxRecDepth 100000
set_option autoImplicit false
/-! F8: comprehensions as expressions, the rule for a def. -/
namespace Hx
open PySem PySem.Spec L2
open PyProof.Rows hiding St
section
variable {S : Sx} {e a b tg it elt : Expr} {ifs : List Expr} {es : List Expr} {da db el : Den} {das : DenL} {pos p' : Pos} {p : Pat} {di : DenI} {c : DenB} {scope : Scope} {own : List (Str × Nat)}
/-- the tests of a comprehension -/
def DIf (S : Sx) (ifs : List Expr) (c : DenB) : Prop := ∃ tt : TT, (∀ X, Stx S X → Takes X (fun _ _ _ _ => False) → PTs X ifs tt) ∧
  ∀ g env st T σ H Q, noBor T → Rl S.G g env st T σ H → PostB S.G g env T σ (fun _ _ _ _ => False) Q (c env st) → tt σ H Q
theorem dif_nil : DIf S [] dYes := ⟨_, fun X hX tk => pts_nil, fun g env st T σ H Q hT R h => h H R⟩
theorem dif_one (h : DT S a c) : DIf S [a] c := by
  obtain ⟨t, p, q⟩ := h fun _ _ _ _ => False
  exact ⟨t, fun X hX tk => pts_one (p X hX tk), q⟩
theorem de_lc (hi : DI S tg it di) (hg : DG (S.blk scope) tg p) (hc : DIf (S.blk scope) ifs c) (he : DE (S.blk scope) elt el) (ok : BlkOk S.N S.sc scope own) (ho : ∀ i ∈ p.slots, i ∈ own.map (·.2)) (hs : notSet it = true) :
    DE S (.ListComp elt [⟨tg, it, ifs, 0⟩] scope pos) (dLc di (own.map (·.2)) p c el) := fun W => by
  obtain ⟨wi, pi, qi⟩ := hi W
  obtain ⟨tg', pg, qg⟩ := hg
  obtain ⟨tt, pt, qt⟩ := hc
  obtain ⟨te, pe, qe⟩ := he fun _ _ _ _ => False
  refine ⟨tLc wi tg' tt te (own.map (·.2)), fun X hX tk => pe_lc hX.calm hX.nd (pi X hX tk) (by rw [hX.N, hX.sc]; exact ok) (fun s H C cl fp => pg _ (stx_blk hX s H scope C cl fp)) (fun s H C cl fp => pt _ (stx_blk hX s H scope C cl fp) L2.takes0) (fun s H C cl fp => pe _ (stx_blk hX s H scope C cl fp) L2.takes0) (notSet_fold hs),
    fun g env st T σ H Q hT R h => lc_run qi qg qt qe ho g env st T σ H Q hT R h⟩
theorem lcset_pre (hi : DI S tg it di) (hg : DG (S.blk scope) tg p) (hc : DIf (S.blk scope) ifs c) (he : DE (S.blk scope) elt el) (ok : BlkOk S.N S.sc scope own) (ho : ∀ i ∈ p.slots, i ∈ own.map (·.2)) (hs : notSet it = true)
    {i : Nat} {y : Str} {py spos : Pos} (hN : S.N[i]? = some y) (hyl : S.sc.names.lookup y = some .local) (hl : (py.line == pos.line) = true) (hk : S.sc.kind = .function) (ha : (scope.names.any fun (n, k) => n == y && (k == .local || k == .cell)) = false) (W : WX) :
    ∃ te : TE, (∀ X, Stx S X → Takes X W → PS X (.Assign [.Name y py] (.ListComp elt [⟨tg, it, ifs, 0⟩] scope pos) spos) (tAsg te (gName i))) ∧
      ∀ g env st T σ H Q, noBor T → Rl S.G g env st T σ H → PostE S.G g env T σ W Q (dLc di (own.map (·.2)) p c el env st) → te σ H Q := by
  obtain ⟨wi, pi, qi⟩ := hi W
  obtain ⟨tg', pg, qg⟩ := hg
  obtain ⟨tt, pt, qt⟩ := hc
  obtain ⟨te, pe, qe⟩ := he fun _ _ _ _ => False
  refine ⟨tLc wi tg' tt te (own.map (·.2)), fun X hX tk => ps_setLc hX.calm hX.nd (by rw [hX.N]; exact hN) (by rw [hX.sc]; exact hyl) (sw_true (by rw [hX.sc]; exact hk) (by rw [hX.sc]; exact hyl) hl ha) (pi X hX tk) (by rw [hX.N, hX.sc]; exact ok) (fun s H C cl fp => pg _ (stx_blk hX s H scope C cl fp)) (fun s H C cl fp => pt _ (stx_blk hX s H scope C cl fp) L2.takes0) (fun s H C cl fp => pe _ (stx_blk hX s H scope C cl fp) L2.takes0) (notSet_fold hs),
    fun g env st T σ H Q hT R h => lc_run qi qg qt qe ho g env st T σ H Q hT R h⟩
/-- name = [..] on one line, the name a local -/
theorem ds_setLc (hi : DI S tg it di) (hg : DG (S.blk scope) tg p) (hc : DIf (S.blk scope) ifs c) (he : DE (S.blk scope) elt el) (ok : BlkOk S.N S.sc scope own) (ho : ∀ i ∈ p.slots, i ∈ own.map (·.2)) (hs : notSet it = true)
    {i : Nat} {y : Str} {py spos : Pos} (hN : S.N[i]? = some y) (hyl : S.sc.names.lookup y = some .local) (hl : (py.line == pos.line) = true) (hk : S.sc.kind = .function) (ha : (scope.names.any fun (n, k) => n == y && (k == .local || k == .cell)) = false) :
    DS S (.Assign [.Name y py] (.ListComp elt [⟨tg, it, ifs, 0⟩] scope pos) spos) (dSet i (dLc di (own.map (·.2)) p c el)) := fun W => by
  obtain ⟨te, p, q⟩ := lcset_pre hi hg hc he ok ho hs hN hyl hl hk ha W
  exact ⟨_, p, fun g env st T σ H D hT R h => dset_run q g env st T σ H D hT R h⟩
theorem ds_setLcZ (hi : DI S tg it di) (hg : DG (S.blk scope) tg p) (hc : DIf (S.blk scope) ifs c) (he : DE (S.blk scope) elt el) (ok : BlkOk S.N S.sc scope own) (ho : ∀ i ∈ p.slots, i ∈ own.map (·.2)) (hs : notSet it = true)
    {i : Nat} {y : Str} {py spos : Pos} (hN : S.N[i]? = some y) (hyl : S.sc.names.lookup y = some .local) (hl : (py.line == pos.line) = true) (hk : S.sc.kind = .function) (ha : (scope.names.any fun (n, k) => n == y && (k == .local || k == .cell)) = false) :
    DS S (.Assign [.Name y py] (.ListComp elt [⟨tg, it, ifs, 0⟩] scope pos) spos) (dSetZ i (dLc di (own.map (·.2)) p c el)) := fun W => by
  obtain ⟨te, p, q⟩ := lcset_pre hi hg hc he ok ho hs hN hyl hl hk ha W
  exact ⟨_, p, fun g env st T σ H D hT R h => dsetZ_run q g env st T σ H D hT R h⟩
/-- a variable or cell: a comprehension stored in a name that is a cell goes the plain way -/
theorem swaps_cell {elt : Expr} {gs : List Comprehension} {scope : Scope} {pos py : Pos} {y : Str} {l : Nat} {env : PySem.Env} (h : env.scope.names.lookup y = some .cell) : swapsWith (.ListComp elt gs scope pos) (some (.Name y py)) l env = pure false := by
  unfold swapsWith
  have h2 : (env.kindOf y == some .local) = false := by
    show (env.scope.names.lookup y == some .local) = false
    rw [h]; rfl
  simp only [h2, Bool.and_false, Bool.false_and]
theorem ds_setC {i : Nat} {x : Str} {p q : Pos} {elt : Expr} {gs : List Comprehension} {scope : Scope} (hN : S.N[i]? = some x) (hx : S.sc.names.lookup x = some .cell) (hf : S.fnA = true) (ha : DE S (.ListComp elt gs scope q) da) : DS S (.Assign [.Name x p] (.ListComp elt gs scope q) pos) (dSet i da) := fun W => by
  obtain ⟨t, p, q⟩ := ha W
  exact ⟨_, fun X hX tk => ps_set hX.nd (by rw [hX.N]; exact hN) (by rw [hX.sc]; exact .inr hx) (p X hX tk) (swaps_cell (by rw [hX.sc]; exact hx)) (stx_fn hX (.inl hf)), fun g env st T σ H D hT R h => dset_run q g env st T σ H D hT R h⟩
theorem ds_setCZ {i : Nat} {x : Str} {p q : Pos} {elt : Expr} {gs : List Comprehension} {scope : Scope} (hN : S.N[i]? = some x) (hx : S.sc.names.lookup x = some .cell) (hf : S.fnA = true) (ha : DE S (.ListComp elt gs scope q) da) : DS S (.Assign [.Name x p] (.ListComp elt gs scope q) pos) (dSetZ i da) := fun W => by
  obtain ⟨t, p, q⟩ := ha W
  exact ⟨_, fun X hX tk => ps_set hX.nd (by rw [hX.N]; exact hN) (by rw [hX.sc]; exact .inr hx) (p X hX tk) (swaps_cell (by rw [hX.sc]; exact hx)) (stx_fn hX (.inl hf)), fun g env st T σ H D hT R h => dsetZ_run q g env st T σ H D hT R h⟩
end

/-! ### a def -/
@[simp] def start0 (n : Nat) (as : List (Fr × D)) : Env := as.map some ++ List.replicate (n - as.length) none
/-- what the body of a def comes to -/
@[simp] def dBody (n : Nat) (b : DenS) : Fn := fun as st => match b (start0 n as) st with
  | .rt f d st1 => .ok f false d st1
  | .nx _ st1 => .ok .z false .non st1
  | .exc c ds _ st1 => .exc c ds st1
  | _ => .stuck
theorem env_start {G : Sg} {Fz : Addr → Prop} {am : List Addr} {H : Hp} {m : Nat} : ∀ {as : List (Fr × D)} {vs : List V} {n : Fp}, Reps G Fz am H (as.map (·.1)) vs (as.map (·.2)) n →
    EnvR G Fz am H (as.map some ++ List.replicate m none) (vs.map some ++ List.replicate m none) n := by
  intro as
  induction as with
  | nil =>
    intro vs n r
    cases r with
    | nil h =>
      show EnvR G Fz am H (List.replicate m none) (List.replicate m none) n
      induction m with
      | zero => exact .nil h
      | succ m ih => rw [List.replicate_succ, List.replicate_succ]; exact .non ih
  | cons a as ih =>
    intro vs n r
    obtain ⟨f, d⟩ := a
    cases r with
    | cons h1 h2 h3 => exact .som h1 (ih h2) h3
/-- what stands of a def behind the top -/
theorem ok_fn {S : Sx} {x qual : Str} {params : Arguments} {body : List Stmt} {dvs : List V} {kws : List (Str × V)} {f : Addr} {fd : FuncData} {ps : List Str} {db : DenS} (F : FunD S.G.K x qual params body S.sc dvs kws f fd) (Sc : FnScope S.N ps S.sc) (hb : DSs S body db) (hf : S.fnA = true) :
    FnOk S.P S.w S.G.K S.mg S.base (L2.CX S.P S.w) (S.k + 1) f fd ps (SpF S.G ps.length (dBody S.N.length db)) := by
  refine F.ok Sc (fun vs H Q E h => h.1) fun cdv A outer s H vs Q E hr h => ?_
  obtain ⟨hl, Fz, am, as, st, na, ns, h1, h2, h3, h4⟩ := h
  obtain ⟨t, pt, qt⟩ := hb fun cls d _ H => E cls d H
  have hX : Stx S (cxOf (L2.CX S.P S.w) S.P S.w S.G.K S.mg S.base S.N qual S.sc f cdv A outer s H E) := ⟨rfl, rfl, rfl, rfl, rfl, rfl, rfl, Sc.nd, rfl, hr, passes_of rfl, fun _ _ => rfl⟩
  refine ⟨t, pt _ hX (takes_of rfl rfl rfl rfl), ?_⟩
  have la : as.length = vs.length := by have := h1.len; simpa using this.2.symm
  refine qt ⟨H, fun p => 0 < na p + ns p, Fz, am⟩ (start0 S.N.length as) st [] (L2.start S.N vs) H _ (fun a ha => by cases ha) ⟨Fz, am, na, fun _ => 0, ns, ?_, .nil fun _ => rfl, h2, h3.less fun q => by show na q + 0 + ns q ≤ _; omega, trivial⟩ ?_
  · unfold start0 L2.start
    rw [la]
    exact env_start h1
  · unfold dBody at h4
    cases e : db (start0 S.N.length as) st with
    | stuck => rw [e] at h4; exact h4.elim
    | bk env1 st1 => rw [e] at h4; exact h4.elim
    | ct env1 st1 => rw [e] at h4; exact h4.elim
    | rt f d st1 => rw [e] at h4; exact h4.2
    | nx env1 st1 => rw [e] at h4; exact fun σ' H' R => h4.2 .non H' (Rl.ret (b := false) (Rl.scal (v := .non) (d := .non) R trivial) rfl)
    | exc c ds env1 st1 =>
      rw [e] at h4
      intro σ' cls dx H' R
      refine h4 cls dx H' ?_
      obtain ⟨Fz', am', ne, nt, ns', k1, k2, k3, k4, k5⟩ := R
      cases k2 with
      | nil h0 => exact ⟨Fz', am', fun _ => 0, fun _ => 0, ns', .nil fun _ => rfl, .nil fun _ => rfl, k3, k4.less fun q => by show 0 + 0 + ns' q ≤ _; omega, k5⟩
end Hx

set_option Elab.async false
set_option linter.all false
set_option maxRecDepth 100000
set_option autoImplicit false
/-! F9: operators by cases. -/
namespace Hx
open PySem PySem.Spec L2
open PyProof.Rows hiding St

section
variable {G : Sg} {Fz : Addr → Prop} {am : List Addr} {H H' : Hp} {v : V}
theorem View.int {i : Int} (h : View G Fz am H v (.int i)) : v = .int i := by
  cases v <;> first | exact congrArg V.int h | exact h.elim
theorem View.bl {i : Bool} (h : View G Fz am H v (.bl i)) : v = .bl i := by
  cases v <;> first | exact congrArg V.bl h | exact h.elim
theorem View.str {i : Str} (h : View G Fz am H v (.str i)) : v = .str i := by
  cases v <;> first | exact congrArg V.str h | exact h.elim
theorem View.non (h : View G Fz am H v .non) : v = .non := by
  cases v <;> first | rfl | exact h.elim
theorem View.fnv {k : Nat} (h : View G Fz am H v (.fnv k)) : v = G.fn k := by
  cases v <;> exact h
theorem View.tup {ds : List D} (h : View G Fz am H v (.con .tup ds)) : ∃ p vs, v = .ref p ∧ SqT G.K H p vs ∧ Reps G Fz am H (zs ds.length) vs ds (fun _ => 0) := h
def Kd.seq : Kd → Bool
  | .tup => true
  | .lst => true
  | .frl => true
  | _ => false
def Kd.sq : Kd → Bool
  | .lst => true
  | .frl => true
  | _ => false
theorem View.sq {k : Kd} {ds : List D} (hk : k.sq = true) (h : View G Fz am H v (.con k ds)) : ∃ p vs, v = .ref p ∧ SqL G.K H p vs ∧ Reps G Fz am H (zs ds.length) vs ds (fun _ => 0) := by
  obtain ⟨p, vs, e, r, s⟩ := h
  cases k with
  | lst =>
    obtain ⟨o, r1, r2⟩ := r
    have e2 : o = .lst vs := r2
    subst e2
    exact ⟨p, vs, e, .inl (.inl r1), s⟩
  | frl => exact ⟨p, vs, e, r, s⟩
  | _ => cases hk
theorem View.seq {k : Kd} {ds : List D} (hk : k.seq = true) (h : View G Fz am H v (.con k ds)) : ∃ p vs, v = .ref p ∧ (SqL G.K H p vs ∨ SqT G.K H p vs) ∧ Reps G Fz am H (zs ds.length) vs ds (fun _ => 0) := by
  cases k with
  | tup =>
    obtain ⟨p, vs, e, r, s⟩ := h.tup
    exact ⟨p, vs, e, .inr r, s⟩
  | lst =>
    obtain ⟨p, vs, e, r, s⟩ := h.sq rfl
    exact ⟨p, vs, e, .inl r, s⟩
  | frl =>
    obtain ⟨p, vs, e, r, s⟩ := h.sq rfl
    exact ⟨p, vs, e, .inl r, s⟩
  | _ => cases hk
/-- a tracked list -/
theorem View.lst {ds : List D} (h : View G Fz am H v (.con .lst ds)) : ∃ p vs, v = .ref p ∧ H p = some (.lst vs) ∧ Reps G Fz am H (zs ds.length) vs ds (fun _ => 0) := by
  obtain ⟨p, vs, e, ⟨o, r1, r2⟩, s⟩ := h
  have e2 : o = .lst vs := r2
  subst e2
  exact ⟨p, vs, e, r1, s⟩
theorem View.nonI {d : D} (h : View G Fz am H v d) (hf : ∀ k, d ≠ .fnv k) : (v = .non) = (d = .non) := by
  cases d with
  | non => rw [h.non]; simp
  | fnv k => exact absurd rfl (hf k)
  | con k ds => obtain ⟨p, vs, e, _⟩ := h; subst e; simp
  | ref i => obtain ⟨p, e, _⟩ := h; subst e; simp
  | int i => rw [h.int]; simp
  | bl i => rw [h.bl]; simp
  | str i => rw [h.str]; simp
theorem Vws.two {vs : List V} {a b : D} (h : Vws G Fz am H vs [a, b]) : ∃ v w, vs = [v, w] ∧ View G Fz am H v a ∧ View G Fz am H w b := by
  cases h with
  | cons h1 h2 =>
    cases h2 with
    | cons h3 h4 => cases h4; exact ⟨_, _, rfl, h1, h3⟩
theorem Vws.one {vs : List V} {a : D} (h : Vws G Fz am H vs [a]) : ∃ v, vs = [v] ∧ View G Fz am H v a := by
  cases h with
  | cons h1 h2 => cases h2; exact ⟨_, rfl, h1⟩
theorem reps_at {ds : List D} {vs : List V} {d : D} {i : Int} (r : Reps G Fz am H (zs ds.length) vs ds (fun _ => 0)) (h : atI ds i = some d) : ∃ v, atI vs i = some v ∧ Rep G Fz am H .z v d (fun _ => 0) := by
  unfold atI at h ⊢
  rw [r.len.2]
  cases e : ixN ds.length i with
  | none => rw [e] at h; cases h
  | some j =>
    rw [e] at h
    have h2 : ds[j]? = some d := h
    have hj : j < vs.length := by rw [r.len.2]; exact (List.getElem?_eq_some_iff.mp h2).1
    exact ⟨vs[j], List.getElem?_eq_getElem hj, reps_get r (List.getElem?_eq_getElem hj) h2⟩
end

section
variable {G : Sg}
/-- an operation upon two ints -/
@[simp] def oI2 (f : Int → Int → Option D) : Op := fun ds => match ds with
  | [.int i, .int j] => (f i j).map fun d => (.z, d)
  | _ => none
theorem v_I2 {C : Int → Int → Prop} {g : Int → Int → V} {f : Int → Int → Option D} (hf : ∀ i j d, f i j = some d → C i j ∧ Scal G (g i j) d) : VOp G (l2 (rI C g)) (oI2 f) := fun Fz am H vs ds fr d Q h1 h2 h3 => by
  unfold oI2 at h2
  split at h2
  · obtain ⟨v, w, rfl, a, b⟩ := h1.two
    obtain ⟨d', e1, e2⟩ := Option.map_eq_some_iff.mp h2
    cases e2
    obtain ⟨c, s⟩ := hf _ _ _ e1
    exact ⟨_, _, a.int, b.int, c, h3 _ H _ (same_refl H) newp0 (.sc s fun _ => rfl)⟩
  · cases h2
theorem v_I0 {g : Int → Int → V} {f : Int → Int → Option D} (hf : ∀ i j d, f i j = some d → Scal G (g i j) d) : VOp G (l2 (rI0 g)) (oI2 f) :=
  (v_I2 (C := fun _ _ => True) fun i j d e => ⟨trivial, hf i j d e⟩).imp fun vs H Q ⟨i, j, a, b, _, q⟩ => ⟨i, j, a, b, q⟩
/-- an operation upon one value whose answer is a scalar -/
@[simp] def oS1 (f : D → Option D) : Op := fun ds => match ds with
  | [a] => (f a).map fun d => (.z, d)
  | _ => none
@[simp] def oS2 (f : D → D → Option D) : Op := fun ds => match ds with
  | [a, b] => (f a b).map fun d => (.z, d)
  | _ => none
theorem v_S2 {r : R2} {f : D → D → Option D} (hf : ∀ Fz am H v w a b d Q, View G Fz am H v a → View G Fz am H w b → f a b = some d → (∀ x, Scal G x d → Q x H) → r v w H Q) : VOp G (l2 r) (oS2 f) := fun Fz am H vs ds fr d Q h1 h2 h3 => by
  unfold oS2 at h2
  split at h2
  · obtain ⟨v, w, rfl, a, b⟩ := h1.two
    obtain ⟨d', e1, e2⟩ := Option.map_eq_some_iff.mp h2
    cases e2
    exact hf _ _ _ _ _ _ _ _ _ a b e1 fun x s => h3 _ H _ (same_refl H) newp0 (.sc s fun _ => rfl)
  · cases h2
theorem v_S1 {r : V → Hp → VK → Prop} {f : D → Option D} (hf : ∀ Fz am H v a d Q, View G Fz am H v a → f a = some d → (∀ x, Scal G x d → Q x H) → r v H Q) : VOp G (l1 r) (oS1 f) := fun Fz am H vs ds fr d Q h1 h2 h3 => by
  unfold oS1 at h2
  split at h2
  · obtain ⟨v, rfl, a⟩ := h1.one
    obtain ⟨d', e1, e2⟩ := Option.map_eq_some_iff.mp h2
    cases e2
    exact hf _ _ _ _ _ _ _ a e1 fun x s => h3 _ H _ (same_refl H) newp0 (.sc s fun _ => rfl)
  · cases h2
theorem v_C1 {r : List V → Hp → VK → Prop} {f : D → Option D} (hf : ∀ Fz am H v a d Q, View G Fz am H v a → f a = some d → (∀ x, Scal G x d → Q x H) → r [v] H Q) : VOp G r (oS1 f) := fun Fz am H vs ds fr d Q h1 h2 h3 => by
  unfold oS1 at h2
  split at h2
  · obtain ⟨v, rfl, a⟩ := h1.one
    obtain ⟨d', e1, e2⟩ := Option.map_eq_some_iff.mp h2
    cases e2
    exact hf _ _ _ _ _ _ _ a e1 fun x s => h3 _ H _ (same_refl H) newp0 (.sc s fun _ => rfl)
  · cases h2
theorem v_C2 {r : List V → Hp → VK → Prop} {f : D → D → Option D} (hf : ∀ Fz am H v w a b d Q, View G Fz am H v a → View G Fz am H w b → f a b = some d → (∀ x, Scal G x d → Q x H) → r [v, w] H Q) : VOp G r (oS2 f) := fun Fz am H vs ds fr d Q h1 h2 h3 => by
  unfold oS2 at h2
  split at h2
  · obtain ⟨v, w, rfl, a, b⟩ := h1.two
    obtain ⟨d', e1, e2⟩ := Option.map_eq_some_iff.mp h2
    cases e2
    exact hf _ _ _ _ _ _ _ _ _ a b e1 fun x s => h3 _ H _ (same_refl H) newp0 (.sc s fun _ => rfl)
  · cases h2

/-! ### arithmetic -/
@[simp] def oAddI : Op := oI2 fun i j => some (.int (i + j))
@[simp] def oSubI : Op := oI2 fun i j => some (.int (i - j))
def mulOk (i j : Int) : Bool := decide (i.natAbs.log2 + j.natAbs.log2 < 1000000)
@[simp] def oMulI : Op := oI2 fun i j => bif mulOk i j then some (.int (i * j)) else none
def divOk (j : Int) : Bool := decide (j ≠ 0) && decide (j.natAbs.log2 < 9000)
@[simp] def oFdiv : Op := oI2 fun i j => bif divOk j then some (.int (i.fdiv j)) else none
@[simp] def oMod : Op := oI2 fun i j => bif decide (j ≠ 0) then some (.int (i.fmod j)) else none
def powOk (i j : Int) : Bool := decide (0 ≤ j) && decide (j ≤ 1000000) && decide (i.natAbs < 18446744073709551616)
@[simp] def oPow : Op := oI2 fun i j => bif powOk i j then some (.int (i ^ j.toNat)) else none
theorem v_addI : VOp G (l2 (rI0 fun i j => .int (i + j))) oAddI := v_I0 fun i j d e => by cases e; rfl
theorem v_subI : VOp G (l2 (rI0 fun i j => .int (i - j))) oSubI := v_I0 fun i j d e => by cases e; rfl
theorem bifS {α : Type} {c : Bool} {a b : α} (h : (bif c then some a else none) = some b) : c = true ∧ a = b := by
  cases c with
  | true => exact ⟨rfl, Option.some.inj h⟩
  | false => cases h
theorem v_mulI : VOp G (l2 (rI CMulW fun i j => .int (i * j))) oMulI := v_I2 fun i j d e => by
  obtain ⟨c, e⟩ := bifS e
  subst e
  exact ⟨by simpa [mulOk, CMulW] using c, rfl⟩
def CDivF (_ j : Int) : Prop := j ≠ 0 ∧ j.natAbs.log2 < 9000
theorem op_fdivF {X : Cx} : OpR X (binaryOp .FloorDiv) (rI CDivF fun i j => .int (i.fdiv j)) := opI fun i j _ _ _ _ _ hc q => floordiv_int hc.1 q (.inl (PyProof.noPylong_of_log2 hc.2))
theorem v_fdiv : VOp G (l2 (rI CDivF fun i j => .int (i.fdiv j))) oFdiv := v_I2 fun i j d e => by
  obtain ⟨c, e⟩ := bifS e
  subst e
  simp only [divOk, Bool.and_eq_true, decide_eq_true_eq] at c
  exact ⟨c, rfl⟩
theorem v_mod : VOp G (l2 (rI (fun _ j => j ≠ 0) fun i j => .int (i.fmod j))) oMod := v_I2 fun i j d e => by
  obtain ⟨c, e⟩ := bifS e
  subst e
  exact ⟨of_decide_eq_true c, rfl⟩
theorem v_pow : VOp G (l2 (rI CPow fun i j => .int (i ^ j.toNat))) oPow := v_I2 fun i j d e => by
  obtain ⟨c, e⟩ := bifS e
  subst e
  simp only [powOk, Bool.and_eq_true, decide_eq_true_eq] at c
  exact ⟨⟨c.1.1, c.1.2, by have := c.2; omega⟩, rfl⟩
@[simp] def oNeg : Op := oS1 fun a => match a with
  | .int i => some (.int (-i))
  | _ => none
theorem v_neg : VOp G (l1 (rU fun i => .int (-i))) oNeg := v_S1 fun Fz am H v a d Q h e q => by
  split at e
  · cases e; exact ⟨_, h.int, q _ rfl⟩
  · cases e
@[simp] def oLt : Op := oI2 fun i j => some (.bl (decide (i < j)))
@[simp] def oLe : Op := oI2 fun i j => some (.bl (decide (i ≤ j)))
@[simp] def oGt : Op := oI2 fun i j => some (.bl (decide (j < i)))
@[simp] def oGe : Op := oI2 fun i j => some (.bl (decide (j ≤ i)))
theorem v_lt : VOp G (l2 (rI0 fun i j => .bl (decide (i < j)))) oLt := v_I0 fun i j d e => by cases e; rfl
theorem v_le : VOp G (l2 (rI0 fun i j => .bl (decide (i ≤ j)))) oLe := v_I0 fun i j d e => by cases e; rfl
theorem v_gt : VOp G (l2 (rI0 fun i j => .bl (decide (j < i)))) oGt := v_I0 fun i j d e => by cases e; rfl
theorem v_ge : VOp G (l2 (rI0 fun i j => .bl (decide (j ≤ i)))) oGe := v_I0 fun i j d e => by cases e; rfl

/-- bool - bool -/
def rSubB : R2 := fun x y H Q => ∃ i j, x = .bl i ∧ y = .bl j ∧ Q (.int ((if i then 1 else 0) - (if j then 1 else 0))) H
theorem op_subB {X : Cx} : OpR X (binaryOp .Sub) rSubB := by
  intro pins s σ H x y v u Q I rx ry h
  obtain ⟨i, j, rfl, rfl, q⟩ := h
  cases rx
  cases ry
  exact sub_bool ⟨.int _, H, I.tok _, ⟨_, rfl⟩, q⟩
@[simp] def oSubB : Op := oS2 fun a b => match a, b with
  | .bl i, .bl j => some (.int ((if i then 1 else 0) - (if j then 1 else 0)))
  | _, _ => none
theorem v_subB : VOp G (l2 rSubB) oSubB := v_S2 fun Fz am H v w a b d Q h1 h2 e q => by
  split at e
  · cases e; rw [h1.bl, h2.bl]; exact ⟨_, _, rfl, rfl, q _ rfl⟩
  · cases e
@[simp] def oSub : Op := orOp oSubI oSubB
/-! ### equality -/
mutual
def D.py : D → Option PyData
  | .non => some .none
  | .bl b => some (.bool b)
  | .int i => some (.int i)
  | .str s => some (.str s)
  | .con .tup ds => (D.pys ds).map PyData.tuple
  | .con .lst ds => (D.pys ds).map PyData.list
  | .con .frl ds => (D.pys ds).map PyData.list
  | _ => none
def D.pys : List D → Option (List PyData)
  | [] => some []
  | d :: ds => match D.py d, D.pys ds with
    | some a, some b => some (a :: b)
    | _, _ => none
end
section
variable {Fz : Addr → Prop} {am : List Addr} {H : Hp}
mutual
theorem rep_dp : ∀ (d : D) {f : Fr} {v : V} {n : Fp} {e : PyData}, Rep G Fz am H f v d n → d.py = some e → Dp G.K H v e
  | .non, f, v, n, e, r, h => by
    cases r with
    | sc s _ => unfold D.py at h; cases h; cases v <;> first | exact .non | exact s.elim
  | .bl b, f, v, n, e, r, h => by
    cases r with
    | sc s _ => unfold D.py at h; cases h; cases v <;> first | (cases (show _ = b from s); exact .bl _) | exact s.elim
  | .int b, f, v, n, e, r, h => by
    cases r with
    | sc s _ => unfold D.py at h; cases h; cases v <;> first | (cases (show _ = b from s); exact .int _) | exact s.elim
  | .str b, f, v, n, e, r, h => by
    cases r with
    | sc s _ => unfold D.py at h; cases h; cases v <;> first | (cases (show _ = b from s); exact .str _) | exact s.elim
  | .fnv k, f, v, n, e, r, h => by unfold D.py at h; cases h
  | .ref k, f, v, n, e, r, h => by unfold D.py at h; cases h
  | .con .tup ds, f, v, n, e, r, h => by
    unfold D.py at h
    obtain ⟨es, e1, e2⟩ := Option.map_eq_some_iff.mp h
    subst e2
    cases r with
    | sc s _ => cases v <;> exact s.elim
    | zz a b c => exact .tup a (reps_dp ds b e1)
    | tp a b => exact .tup a (reps_dp ds b e1)
    | cc a b c => exact absurd rfl a.1.1
  | .con .lst ds, f, v, n, e, r, h => by
    unfold D.py at h
    obtain ⟨es, e1, e2⟩ := Option.map_eq_some_iff.mp h
    subst e2
    cases r with
    | sc s _ => cases v <;> exact s.elim
    | zz a b c =>
      obtain ⟨_, o, a1, a2⟩ := a
      have e2 : o = .lst _ := a2
      subst e2
      exact .lst (.inl (.inl a1)) (reps_dp ds b e1)
    | cc a b c =>
      obtain ⟨_, o, a1, a2⟩ := a
      have e2 : o = .lst _ := a2
      subst e2
      exact .lst (.inl (.inl a1)) (reps_dp ds b e1)
  | .con .frl ds, f, v, n, e, r, h => by
    unfold D.py at h
    obtain ⟨es, e1, e2⟩ := Option.map_eq_some_iff.mp h
    subst e2
    cases r with
    | sc s _ => cases v <;> exact s.elim
    | zz a b c =>
      refine .lst ?_ (reps_dp ds b e1)
      rcases a with ⟨_, h⟩ | (h | ⟨_, h⟩) | h
      · exact .inl h
      · cases h
      · cases h
      · exact .inr h
    | cc a b c => exact absurd rfl a.1.2
  | .con (.dik ks) ds, f, v, n, e, r, h => by unfold D.py at h; cases h
  | .con (.dit ks) ds, f, v, n, e, r, h => by unfold D.py at h; cases h
  | .con (.ins c) ds, f, v, n, e, r, h => by unfold D.py at h; cases h
theorem reps_dp : ∀ (ds : List D) {fs : List Fr} {vs : List V} {n : Fp} {es : List PyData}, Reps G Fz am H fs vs ds n → D.pys ds = some es → DpAll G.K H vs es
  | [], fs, vs, n, es, r, h => by
    cases r
    unfold D.pys at h
    cases h
    exact .nil
  | d :: ds, fs, vs, n, es, r, h => by
    unfold D.pys at h
    split at h
    · rename_i a b ea eb
      cases h
      cases r with
      | cons r1 r2 _ => exact .cons (rep_dp d r1 ea) (reps_dp ds r2 eb)
    · cases h
end
theorem view_dp {d : D} {v : V} {e : PyData} (h : View G Fz am H v d) (he : d.py = some e) : Dp G.K H v e := by
  have main : ∀ {k : Kd} {ds : List D}, k.seq = true → View G Fz am H v (.con k ds) → ∀ {es}, D.pys ds = some es → ((k = .tup → Dp G.K H v (.tuple es)) ∧ (k.sq = true → Dp G.K H v (.list es))) := fun {k ds} hk h {es} e1 => by
    constructor
    · intro e
      subst e
      obtain ⟨p, vs, rfl, r, s⟩ := h.tup
      exact .tup r (reps_dp ds s e1)
    · intro e
      obtain ⟨p, vs, rfl, r, s⟩ := h.sq e
      exact .lst r (reps_dp ds s e1)
  cases d with
  | non => unfold D.py at he; cases he; rw [h.non]; exact .non
  | bl b => unfold D.py at he; cases he; rw [h.bl]; exact .bl _
  | int b => unfold D.py at he; cases he; rw [h.int]; exact .int _
  | str b => unfold D.py at he; cases he; rw [h.str]; exact .str _
  | fnv k => unfold D.py at he; cases he
  | ref k => unfold D.py at he; cases he
  | con k ds =>
    cases k with
    | tup =>
      unfold D.py at he
      obtain ⟨es, e1, e2⟩ := Option.map_eq_some_iff.mp he
      subst e2
      exact (main rfl h e1).1 rfl
    | lst =>
      unfold D.py at he
      obtain ⟨es, e1, e2⟩ := Option.map_eq_some_iff.mp he
      subst e2
      exact (main rfl h e1).2 rfl
    | frl =>
      unfold D.py at he
      obtain ⟨es, e1, e2⟩ := Option.map_eq_some_iff.mp he
      subst e2
      exact (main rfl h e1).2 rfl
    | dik ks => unfold D.py at he; cases he
    | dit ks => unfold D.py at he; cases he
    | ins c => unfold D.py at he; cases he
end
/-- equality as data -/
def eqD (a b : D) : Option Bool := match a.py, b.py with
  | some x, some y => bif SeqAt.shaped x && SeqAt.shaped y then some (PyData.eqv x y) else none
  | _, _ => none
@[simp] def oEq : Op := oS2 fun a b => (eqD a b).map D.bl
@[simp] def oNe : Op := oS2 fun a b => (eqD a b).map fun c => D.bl (!c)
theorem eqD_some {a b : D} {c : Bool} (h : eqD a b = some c) : ∃ x y, a.py = some x ∧ b.py = some y ∧ SeqAt.shaped x = true ∧ SeqAt.shaped y = true ∧ PyData.eqv x y = c := by
  unfold eqD at h
  split at h
  · rename_i x y e1 e2
    obtain ⟨c1, c2⟩ := bifS h
    rw [Bool.and_eq_true] at c1
    exact ⟨x, y, e1, e2, c1.1, c1.2, c2⟩
  · cases h
theorem v_eq : VOp G (l2 (rEqD G.K)) oEq := v_S2 fun Fz am H v w a b d Q h1 h2 e q => by
  obtain ⟨c, e1, e2⟩ := Option.map_eq_some_iff.mp e
  subst e2
  obtain ⟨x, y, a1, a2, a3, a4, a5⟩ := eqD_some e1
  exact ⟨x, y, view_dp h1 a1, view_dp h2 a2, a3, a4, q _ a5⟩
theorem v_ne : VOp G (l2 (rNeD G.K)) oNe := v_S2 fun Fz am H v w a b d Q h1 h2 e q => by
  obtain ⟨c, e1, e2⟩ := Option.map_eq_some_iff.mp e
  subst e2
  obtain ⟨x, y, a1, a2, a3, a4, a5⟩ := eqD_some e1
  refine ⟨x, y, view_dp h1 a1, view_dp h2 a2, a3, a4, q _ ?_⟩
  rw [a5]
  exact rfl
/-- is None -/
@[simp] def isN (a : D) : Option Bool := match a with
  | .non => some true
  | .fnv _ => none
  | _ => some false
@[simp] def oIsN : Op := oS2 fun a b => match b with
  | .non => (isN a).map D.bl
  | _ => none
@[simp] def oNotN : Op := oS2 fun a b => match b with
  | .non => (isN a).map fun c => D.bl (!c)
  | _ => none
theorem isN_some {a : D} {c : Bool} (h : isN a = some c) : (∀ k, a ≠ .fnv k) ∧ (a = .non ↔ c = true) := by
  cases a <;> simp_all [isN]
theorem v_isN : VOp G (l2 fun x y H Q => y = .non ∧ Q (.bl (decide (x = .non))) H) oIsN := v_S2 fun Fz am H v w a b d Q h1 h2 e q => by
  split at e
  · obtain ⟨c, e1, e2⟩ := Option.map_eq_some_iff.mp e
    subst e2
    obtain ⟨a1, a2⟩ := isN_some e1
    refine ⟨h2.non, q _ ?_⟩
    have := h1.nonI a1
    show decide (v = .non) = c
    cases c <;> simp_all
  · cases e
theorem v_notN : VOp G (l2 fun x y H Q => y = .non ∧ Q (.bl (!decide (x = .non))) H) oNotN := v_S2 fun Fz am H v w a b d Q h1 h2 e q => by
  split at e
  · obtain ⟨c, e1, e2⟩ := Option.map_eq_some_iff.mp e
    subst e2
    obtain ⟨a1, a2⟩ := isN_some e1
    refine ⟨h2.non, q _ ?_⟩
    have := h1.nonI a1
    show (!decide (v = .non)) = !c
    cases c <;> simp_all
  · cases e

/-! ### sequences -/
@[simp] def oIx : Op := fun ds => match ds with
  | [.con k xs, .int i] => bif k.seq then (atI xs i).map fun d => (.z, d) else none
  | _ => none
theorem v_ix : VOp G (l2 (rIx G.K)) oIx := fun Fz am H vs ds fr d Q h1 h2 h3 => by
  unfold oIx at h2
  split at h2
  · rename_i k xs i
    obtain ⟨v, w, rfl, a, b⟩ := h1.two
    cases hk : k.seq with
    | false => rw [hk] at h2; cases h2
    | true =>
      rw [hk] at h2
      obtain ⟨d', e1, e2⟩ := Option.map_eq_some_iff.mp h2
      cases e2
      obtain ⟨p, ys, e, r, s⟩ := a.seq hk
      obtain ⟨x, e3, r3⟩ := reps_at s e1
      have q := h3 x H _ (same_refl H) newp0 r3
      rcases r with r | r
      · exact .inl ⟨p, ys, i, x, e, b.int, r, e3, q⟩
      · exact .inr (.inl ⟨p, ys, i, x, e, b.int, r, e3, q⟩)
  · cases h2
@[simp] def oLen : Op := oS1 fun a => match a with
  | .con k xs => bif k.seq then some (.int xs.length) else none
  | _ => none
theorem v_len : VOp G (fun xs H Q => ∃ p ys, xs = [.ref p] ∧ (SqL G.K H p ys ∨ SqT G.K H p ys) ∧ Q (.int ys.length) H) oLen := v_C1 fun Fz am H v a d Q h e q => by
  split at e
  · rename_i k xs
    obtain ⟨hk, e2⟩ := bifS e
    subst e2
    obtain ⟨p, ys, rfl, r, s⟩ := h.seq hk
    refine ⟨p, ys, rfl, r, q _ ?_⟩
    show (ys.length : Int) = xs.length
    rw [s.len.2]
  · cases e
/-- a new list -/
theorem fresh_lst {Fz : Addr → Prop} {am : List Addr} {H : Hp} {vs : List V} {ds : List D} {Q : VK} (s : Reps G Fz am H (zs ds.length) vs ds (fun _ => 0))
    (h : ∀ v H' n, Same H H' → Newp H H' n → Rep G Fz am H' (.c .z) v (.con .lst ds) n → Q v H') : ∀ p, H p = none → Q (.ref p) (upd H p (.lst vs)) := fun p hp =>
  h (.ref p) _ (one1 p) (same_upd hp) (newp1 hp trivial) (rep_lst (Ext.same (same_upd hp) fun _ h => h) s)
theorem fresh_tup {Fz : Addr → Prop} {am : List Addr} {H : Hp} {vs : List V} {ds : List D} {Q : VK} (s : Reps G Fz am H (zs ds.length) vs ds (fun _ => 0))
    (h : ∀ v H' n, Same H H' → Newp H H' n → Rep G Fz am H' .z v (.con .tup ds) n → Q v H') : ∀ p, H p = none → Q (.ref p) (upd H p (.tup vs)) := fun p hp =>
  h (.ref p) _ (fun _ => 0) (same_upd hp) newp0 (rep_tup (Ext.same (same_upd hp) fun _ h => h) s)
@[simp] def oList : Op := fun ds => match ds with
  | [.con k xs] => bif k.seq then some (.c .z, .con .lst xs) else none
  | _ => none
theorem v_list : VOp G (fun xs H Q => ∃ p ys, xs = [.ref p] ∧ (SqL G.K H p ys ∨ SqT G.K H p ys) ∧ ∀ l, H l = none → Q (.ref l) (upd H l (.lst ys))) oList := fun Fz am H vs ds fr d Q h1 h2 h3 => by
  unfold oList at h2
  split at h2
  · rename_i k xs
    obtain ⟨v, rfl, a⟩ := h1.one
    obtain ⟨hk, e2⟩ := bifS h2
    cases e2
    obtain ⟨p, ys, rfl, r, s⟩ := a.seq hk
    exact ⟨p, ys, rfl, r, fresh_lst s h3⟩
  · cases h2
@[simp] def oTuple : Op := fun ds => match ds with
  | [.con k xs] => bif k.seq then some (.z, .con .tup xs) else none
  | _ => none
theorem v_tuple : VOp G (fun xs H Q => ∃ p ys, xs = [.ref p] ∧ ((SqL G.K H p ys ∧ ∀ l, H l = none → Q (.ref l) (upd H l (.tup ys))) ∨ (SqT G.K H p ys ∧ Q (.ref p) H))) oTuple := fun Fz am H vs ds fr d Q h1 h2 h3 => by
  unfold oTuple at h2
  split at h2
  · rename_i k xs
    obtain ⟨v, rfl, a⟩ := h1.one
    obtain ⟨hk, e2⟩ := bifS h2
    cases e2
    cases k with
    | tup =>
      obtain ⟨p, ys, rfl, r, s⟩ := a.tup
      exact ⟨p, ys, rfl, .inr ⟨r, h3 _ H _ (same_refl H) newp0 (.zz (k := .tup) r s fun _ => rfl)⟩⟩
    | lst =>
      obtain ⟨p, ys, rfl, r, s⟩ := a.sq rfl
      exact ⟨p, ys, rfl, .inl ⟨r, fresh_tup s h3⟩⟩
    | frl =>
      obtain ⟨p, ys, rfl, r, s⟩ := a.sq rfl
      exact ⟨p, ys, rfl, .inl ⟨r, fresh_tup s h3⟩⟩
    | _ => cases hk
  · cases h2
/-! + by cases -/
@[simp] def oAddS : Op := oS2 fun a b => match a, b with
  | .str x, .str y => bif (x.length + y.length).ble 16777216 then some (.str (x ++ y)) else none
  | _, _ => none
theorem v_addS : VOp G (l2 fun x y H Q => ∃ i j, x = .str i ∧ y = .str j ∧ i.length + j.length ≤ sizeLine ∧ Q (.str (i ++ j)) H) oAddS := v_S2 fun Fz am H v w a b d Q h1 h2 e q => by
  split at e
  · obtain ⟨hk, e2⟩ := bifS e
    subst e2
    exact ⟨_, _, h1.str, h2.str, line24 hk, q _ rfl⟩
  · cases e
@[simp] def oAddL : Op := fun ds => match ds with
  | [.con .lst xs, .con .lst ys] => bif (xs.length + ys.length).ble 16777216 then some (.c .z, .con .lst (xs ++ ys)) else none
  | _ => none
theorem Reps.cat {Fz : Addr → Prop} {am : List Addr} {H : Hp} {vs ws : List V} {xs ys : List D} (s : Reps G Fz am H (zs xs.length) vs xs (fun _ => 0)) (s2 : Reps G Fz am H (zs ys.length) ws ys (fun _ => 0)) : Reps G Fz am H (zs (xs ++ ys).length) (vs ++ ws) (xs ++ ys) (fun _ => 0) := by
  have := Reps.app s2 s
  have e : zs xs.length ++ zs ys.length = zs (xs ++ ys).length := by
    unfold zs
    rw [List.replicate_append_replicate, List.length_append]
  rw [e] at this
  exact this
theorem v_addL : VOp G (l2 rCat) oAddL := fun Fz am H vs ds fr d Q h1 h2 h3 => by
  unfold oAddL at h2
  split at h2
  · rename_i xs ys
    obtain ⟨v, w, rfl, a, b⟩ := h1.two
    obtain ⟨hk, e2⟩ := bifS h2
    cases e2
    obtain ⟨p, as, e, r, s⟩ := a.lst
    obtain ⟨p2, bs, e', r2, s2⟩ := b.lst
    exact ⟨p, p2, as, bs, e, e', r, r2, by rw [s.len.2, s2.len.2]; exact line24 hk, fresh_lst (s.cat s2) h3⟩
  · cases h2
@[simp] def oAddT : Op := fun ds => match ds with
  | [.con .tup xs, .con .tup ys] => bif (xs.length + ys.length).ble 16777216 then some (.z, .con .tup (xs ++ ys)) else none
  | _ => none
theorem Reps.nilD {Fz : Addr → Prop} {am : List Addr} {H : Hp} {fs : List Fr} {n : Fp} {vs : List V} {xs : List D} (s : Reps G Fz am H fs vs xs n) : vs = [] ↔ xs = [] := by
  constructor <;> intro e <;> subst e <;> cases s <;> rfl
theorem v_addT : VOp G (l2 (rCatA G.K)) oAddT := fun Fz am H vs ds fr d Q h1 h2 h3 => by
  unfold oAddT at h2
  split at h2
  · rename_i xs ys
    obtain ⟨v, w, rfl, a, b⟩ := h1.two
    obtain ⟨hk, e2⟩ := bifS h2
    cases e2
    obtain ⟨p, as, e, r, s⟩ := a.tup
    obtain ⟨p2, bs, e', r2, s2⟩ := b.tup
    refine ⟨p, p2, as, bs, e, e', r, r2, by rw [s.len.2, s2.len.2]; exact line24 hk, fun z => ?_, fun z z2 => ?_, fun _ _ => fresh_tup (s.cat s2) h3⟩
    · have z' := s.nilD.mp z
      subst z'
      exact h3 _ H _ (same_refl H) newp0 (.zz (k := .tup) r2 s2 fun _ => rfl)
    · have z' := s2.nilD.mp z2
      subst z'
      rw [List.append_nil] at h3
      exact h3 _ H _ (same_refl H) newp0 (.zz (k := .tup) r s fun _ => rfl)
  · cases h2
@[simp] def oAdd : Op := orOp oAddI (orOp oAddS (orOp oAddL oAddT))
/-! * by cases -/
@[simp] def oMulL : Op := fun ds => match ds with
  | [.con .lst xs, .int k] => bif decide (-16777216 ≤ k) && decide (k ≤ 16777216) && (xs.length * k.toNat).ble 16777216 then some (.c .z, .con .lst (List.replicate k.toNat xs).flatten) else none
  | _ => none
theorem Reps.rep {Fz : Addr → Prop} {am : List Addr} {H : Hp} {vs : List V} {xs : List D} (s : Reps G Fz am H (zs xs.length) vs xs (fun _ => 0)) : ∀ k : Nat, Reps G Fz am H (zs (List.replicate k xs).flatten.length) (List.replicate k vs).flatten (List.replicate k xs).flatten (fun _ => 0)
  | 0 => .nil fun _ => rfl
  | k + 1 => by
    rw [List.replicate_succ, List.replicate_succ, List.flatten_cons, List.flatten_cons]
    exact s.cat (Reps.rep s k)
theorem v_mulL : VOp G (l2 rRep) oMulL := fun Fz am H vs ds fr d Q h1 h2 h3 => by
  unfold oMulL at h2
  split at h2
  · rename_i xs k
    obtain ⟨v, w, rfl, a, b⟩ := h1.two
    obtain ⟨hk, e2⟩ := bifS h2
    cases e2
    simp only [Bool.and_eq_true, decide_eq_true_eq] at hk
    obtain ⟨p, as, e, r, s⟩ := a.lst
    exact ⟨p, k, as, e, b.int, r, by omega, by omega, by rw [s.len.2]; exact line24 hk.2, fresh_lst (s.rep _) h3⟩
  · cases h2
@[simp] def oMul : Op := orOp oMulI oMulL
/-! two ints, one -/
@[simp] def oMin2 : Op := oI2 fun i j => some (.int (if j < i then j else i))
@[simp] def oMax2 : Op := oI2 fun i j => some (.int (if j > i then j else i))
theorem v_min2 : VOp G (fun xs H Q => ∃ i j, xs = [.int i, .int j] ∧ Q (.int (if j < i then j else i)) H) oMin2 := fun Fz am H vs ds fr d Q h1 h2 h3 => by
  unfold oMin2 oI2 at h2
  split at h2
  · cases h2
    obtain ⟨v, w, rfl, a, b⟩ := h1.two
    rw [a.int, b.int]
    exact ⟨_, _, rfl, h3 _ H _ (same_refl H) newp0 (.sc rfl fun _ => rfl)⟩
  · cases h2
theorem v_max2 : VOp G (fun xs H Q => ∃ i j, xs = [.int i, .int j] ∧ Q (.int (if j > i then j else i)) H) oMax2 := fun Fz am H vs ds fr d Q h1 h2 h3 => by
  unfold oMax2 oI2 at h2
  split at h2
  · cases h2
    obtain ⟨v, w, rfl, a, b⟩ := h1.two
    rw [a.int, b.int]
    exact ⟨_, _, rfl, h3 _ H _ (same_refl H) newp0 (.sc rfl fun _ => rfl)⟩
  · cases h2
@[simp] def oAbs : Op := oS1 fun a => match a with
  | .int i => some (.int (if i < 0 then -i else i))
  | _ => none
theorem v_abs : VOp G (fun xs H Q => ∃ i, xs = [.int i] ∧ Q (.int (if i < 0 then -i else i)) H) oAbs := v_C1 fun Fz am H v a d Q h e q => by
  split at e
  · cases e; rw [h.int]; exact ⟨_, rfl, q _ rfl⟩
  · cases e
@[simp] def oInt1 : Op := oS1 fun a => match a with
  | .int i => some (.int i)
  | .bl k => some (.int (if k then 1 else 0))
  | _ => none
theorem v_int1 : VOp G (fun xs H Q => (∃ i, xs = [.int i] ∧ Q (.int i) H) ∨ ∃ k, xs = [.bl k] ∧ Q (.int (if k then 1 else 0)) H) oInt1 := v_C1 fun Fz am H v a d Q h e q => by
  split at e
  · cases e; rw [h.int]; exact .inl ⟨_, rfl, q _ rfl⟩
  · cases e; rw [h.bl]; exact .inr ⟨_, rfl, q _ rfl⟩
  · cases e
/-! all, any of a list of bools -/
theorem scal_bl {v : V} {b : Bool} (h : Scal G v (.bl b)) : v = .bl b := by cases v <;> first | exact congrArg V.bl h | exact h.elim
@[simp] def bools : List D → Option (List Bool)
  | [] => some []
  | .bl b :: ds => (bools ds).map (b :: ·)
  | _ => none
theorem bools_reps {Fz : Addr → Prop} {am : List Addr} {H : Hp} : ∀ {ds : List D} {fs : List Fr} {vs : List V} {n : Fp} {bs : List Bool}, Reps G Fz am H fs vs ds n → bools ds = some bs → vs = bs.map V.bl
  | [], _, _, _, bs, r, h => by cases r; cases h; rfl
  | .bl b :: ds, _, _, _, bs, r, h => by
    obtain ⟨bs', e1, e2⟩ := Option.map_eq_some_iff.mp h
    subst e2
    cases r with
    | cons r1 r2 _ =>
      rw [bools_reps r2 e1]
      cases r1 with
      | sc s _ => rw [scal_bl s]; rfl
@[simp] def oAll : Op := oS1 fun a => match a with
  | .con k xs => bif k.sq then (bools xs).map fun bs => .bl (bs.all id) else none
  | _ => none
@[simp] def oAny : Op := oS1 fun a => match a with
  | .con k xs => bif k.sq then (bools xs).map fun bs => .bl (bs.any id) else none
  | _ => none
theorem v_all : VOp G (rAll G.K) oAll := v_C1 fun Fz am H v a d Q h e q => by
  split at e
  · rename_i k xs
    cases hk : k.sq with
    | false => rw [hk] at e; cases e
    | true =>
      rw [hk] at e
      obtain ⟨bs, e1, e2⟩ := Option.map_eq_some_iff.mp e
      subst e2
      obtain ⟨p, vs, rfl, r, s⟩ := h.sq hk
      exact ⟨p, bs, rfl, bools_reps s e1 ▸ r, q _ rfl⟩
  · cases e
theorem v_any : VOp G (rAny G.K) oAny := v_C1 fun Fz am H v a d Q h e q => by
  split at e
  · rename_i k xs
    cases hk : k.sq with
    | false => rw [hk] at e; cases e
    | true =>
      rw [hk] at e
      obtain ⟨bs, e1, e2⟩ := Option.map_eq_some_iff.mp e
      subst e2
      obtain ⟨p, vs, rfl, r, s⟩ := h.sq hk
      exact ⟨p, bs, rfl, bools_reps s e1 ▸ r, q _ rfl⟩
  · cases e
end
end Hx

set_option Elab.async false
set_option linter.all false
set_option maxRecDepth 100000
set_option autoImplicit false
/-! F10: writing: cells, owned slots; the rules of the operators by name; slices; isinstance; chains. -/
namespace Hx
open PySem PySem.Spec L2
open PyProof.Rows hiding St

section
variable {G : Sg} {g : Gd} {env : Env} {st st' : Store} {T T' : List Tm} {σ : St} {H H' : Hp} {Fz : Addr → Prop} {am : List Addr}
theorem Reps.updAt : ∀ {fs : List Fr} {vs : List V} {ds : List D} {n : Fp} {i : Nat} {xs : List D}, Reps G Fz am H fs vs ds n → (∀ q, n q ≤ 1) → fs[i]? = some (.c .z) → ds[i]? = some (.con .lst xs) →
    ∃ A acc, vs[i]? = some (.ref A) ∧ H A = some (.lst acc) ∧ Reps G Fz am H (zs xs.length) acc xs (fun _ => 0) ∧ 0 < n A ∧
      ∀ acc' xs', Reps G Fz am H (zs xs'.length) acc' xs' (fun _ => 0) → Ext Fz am H Fz am (upd H A (.lst acc')) → Reps G Fz am (upd H A (.lst acc')) fs vs (ds.set i (.con .lst xs')) n
  | [], _, _, _, i, xs, r, _, e1, e2 => by simp at e1
  | f0 :: fs, _, _, _, i, xs, r, hn, e1, e2 => by
    cases r with
    | @cons _ _ _ _ _ _ n1 n2 _ h1 h2 h3 =>
      cases i with
      | zero =>
        simp at e1 e2
        subst e1 e2
        cases h1 with
        | @cc A _ acc _ _ _ m a1 a2 a3 =>
          obtain ⟨_, o, b1, b2⟩ := a1
          have e0 : o = .lst acc := b2
          subst e0
          have m0 := Reps.z0 (k := xs.length) a2
          have hA : 0 < n1 A := by rw [a3]; simp
          have z2 : n2 A = 0 := by have := hn A; rw [h3] at this; omega
          refine ⟨A, acc, by simp, b1, a2.fp m0, by rw [h3]; omega, fun acc' xs' s E => ?_⟩
          refine .cons (.cc (m := fun _ => 0) ⟨by decide, _, upd_same, rfl⟩ (Reps.ext E s fun p u hp => absurd hp (Nat.lt_irrefl 0)) fun q => by rw [a3, m0]) (Reps.ext E h2 (upd_keep z2)) h3
      | succ i =>
        obtain ⟨A, acc, a, b, c, d, k⟩ := Reps.updAt (i := i) (xs := xs) h2 (fun q => by have := hn q; rw [h3] at this; omega) (by simpa using e1) (by simpa using e2)
        have z1 : n1 A = 0 := by have := hn A; rw [h3] at this; omega
        exact ⟨A, acc, by simpa using a, b, c, by rw [h3]; omega, fun acc' xs' s E => .cons (Rep.ext E h1 (upd_keep z1)) (k acc' xs' s E) h3⟩
theorem StoR.updAt {ns : Fp} {c : Nat} {xs : List D} (r : StoR G Fz am H st ns) (hn : ∀ q, ns q ≤ 1) (e : st[c]? = some (.c .z, .con .lst xs)) :
    ∃ A acc, am[c]? = some A ∧ H A = some (.lst acc) ∧ Reps G Fz am H (zs xs.length) acc xs (fun _ => 0) ∧ 0 < ns A ∧
      ∀ acc' xs', Reps G Fz am H (zs xs'.length) acc' xs' (fun _ => 0) → Ext Fz am H Fz am (upd H A (.lst acc')) → StoR G Fz am (upd H A (.lst acc')) (st.set c (.c .z, .con .lst xs')) ns := by
  obtain ⟨A, acc, a, b, s, d, k⟩ := Reps.updAt (i := c) (xs := xs) r hn (by simp [e]) (by simp [e])
  refine ⟨A, acc, ?_, b, s, d, fun acc' xs' s' E => ?_⟩
  · rw [List.getElem?_map] at a
    obtain ⟨p, a1, a2⟩ := Option.map_eq_some_iff.mp a
    cases a2
    exact a1
  · have := k acc' xs' s' E
    unfold StoR
    rw [List.map_set, List.map_set]
    have e1 : (st.map (·.1)).set c (.c .z) = st.map (·.1) := by
      apply List.ext_getElem?
      intro j
      rw [List.getElem?_set]
      split
      · rename_i h
        subst h
        split
        · simp [e]
        · rename_i h; rw [List.getElem?_eq_none (by simpa using h)]
      · rfl
    show Reps G Fz am _ ((st.map (·.1)).set c (.c .z)) _ _ _
    rw [e1]
    exact this
/-- a cell is written -/
theorem Rl.wrc {x v : V} {fv : Fr} {bv : Bool} {c : Nat} {xs xs' : List D} {d : D} {fV : List V → List V} (R : Rl G g env st (⟨v, fv, .ref c, bv⟩ :: ⟨x, .z, d, false⟩ :: T) σ H) (e : st[c]? = some (.c .z, .con .lst xs))
    (up : ∀ Fz am acc, Reps G Fz am H (zs xs.length) acc xs (fun _ => 0) → Rep G Fz am H .z x d (fun _ => 0) → Reps G Fz am H (zs xs'.length) (fV acc) xs' (fun _ => 0)) :
    ∃ A acc, v = .ref A ∧ H A = some (.lst acc) ∧ acc.length = xs.length ∧ Rl G g env (st.set c (.c .z, .con .lst xs')) T σ (upd H A (.lst (fV acc))) := by
  obtain ⟨Fz, am, ne, nt, ns, h1, h2, h3, h4, h5⟩ := R
  obtain ⟨A, acc, a1, a2, a3, a4, a5⟩ := StoR.updAt h3 (fun q => by have := h4.n1 q; omega) e
  have hv : v = .ref A ∧ ∃ nt', TmR G Fz am H ne (⟨x, .z, d, false⟩ :: T) nt' ∧ ∀ q, nt' q ≤ nt q := by
    have key : ∀ {n : Fp}, Rep G Fz am H fv v (.ref c) n → v = .ref A := fun {n} r => by
      cases r with
      | sc s _ => cases v <;> exact s.elim
      | rf s _ => rw [a1] at s; cases s; rfl
    cases h2 with
    | own k1 k2 k3 => exact ⟨key k1, _, k2, fun q => by rw [k3]; omega⟩
    | bor k1 k2 k3 => exact ⟨key k1, _, k3, fun q => Nat.le_refl _⟩
  obtain ⟨hv, nt', k, kl⟩ := hv
  cases k with
  | @own _ _ _ _ n1 n2 _ j1 j2 j3 =>
    have hA : 0 < ne A + nt A + ns A := by omega
    have le := h4.n1 A
    have z1 : ne A = 0 := by omega
    have z2 : n2 A = 0 := by have := kl A; rw [j3] at this; omega
    have E := h4.wext (o := .lst (fV acc)) hA
    refine ⟨A, acc, hv, a2, a3.len.2, Fz, am, ne, n2, ns, h1.ext E (upd_keep z1), j2.ext E (upd_keep z2) (upd_keep z1), a5 _ _ (up _ _ _ a3 (j1.fp j1.z0)) E, (h4.wrel (o := .lst (fV acc)) hA trivial).less fun q => ?_, trivial⟩
    show ne q + n2 q + ns q ≤ _
    have := kl q; rw [j3] at this; omega
theorem EnvR.updAt {ne : Fp} (r : EnvR G Fz am H env σ ne) : (∀ q, ne q ≤ 1) → ∀ {i : Nat} {xs : List D}, env[i]? = some (some (.c .z, .con .lst xs)) →
    ∃ A acc, σ[i]? = some (some (.ref A)) ∧ H A = some (.lst acc) ∧ Reps G Fz am H (zs xs.length) acc xs (fun _ => 0) ∧ 0 < ne A ∧
      ∀ acc' xs', Reps G Fz am H (zs xs'.length) acc' xs' (fun _ => 0) → Ext Fz am H Fz am (upd H A (.lst acc')) → EnvR G Fz am (upd H A (.lst acc')) (env.set i (some (.c .z, .con .lst xs'))) σ ne := by
  induction r with
  | nil h => intro _ i xs e; simp at e
  | @som f' d' v env σ n1 n2 n h1 h2 h3 ih =>
    intro hn i xs e
    cases i with
    | zero =>
      simp at e
      obtain ⟨rfl, rfl⟩ := e
      cases h1 with
      | @cc A _ acc _ _ _ m a1 a2 a3 =>
        obtain ⟨_, o, b1, b2⟩ := a1
        have e0 : o = .lst acc := b2
        subst e0
        have m0 := Reps.z0 (k := xs.length) a2
        have hA : 0 < n1 A := by rw [a3]; simp
        have z2 : n2 A = 0 := by have := hn A; rw [h3] at this; omega
        refine ⟨A, acc, by simp, b1, a2.fp m0, by rw [h3]; omega, fun acc' xs' s E => ?_⟩
        exact .som (.cc (m := fun _ => 0) ⟨by decide, _, upd_same, rfl⟩ (Reps.ext E s fun p u hp => absurd hp (Nat.lt_irrefl 0)) fun q => by rw [a3, m0]) (h2.ext E (upd_keep z2)) h3
    | succ i =>
      obtain ⟨A, acc, a, b, c, d, k⟩ := ih (fun q => by have := hn q; rw [h3] at this; omega) (i := i) (xs := xs) (by simpa using e)
      have z1 : n1 A = 0 := by have := hn A; rw [h3] at this; omega
      exact ⟨A, acc, by simpa using a, b, c, by rw [h3]; omega, fun acc' xs' s E => .som (Rep.ext E h1 (upd_keep z1)) (k acc' xs' s E) h3⟩
  | @non x env σ n h ih =>
    intro hn i xs e
    cases i with
    | zero => simp at e
    | succ i =>
      obtain ⟨A, acc, a, b, c, d, k⟩ := ih hn (i := i) (xs := xs) (by simpa using e)
      exact ⟨A, acc, by simpa using a, b, c, d, fun acc' xs' s E => .non (k acc' xs' s E)⟩
/-- an owned list in a slot is written -/
theorem Rl.wre {x : V} {i : Nat} {xs xs' : List D} {d : D} {fV : List V → List V} (R : Rl G g env st (⟨x, .z, d, false⟩ :: T) σ H) (hT : noBor T) (e : env[i]? = some (some (.c .z, .con .lst xs)))
    (up : ∀ Fz am acc, Reps G Fz am H (zs xs.length) acc xs (fun _ => 0) → Rep G Fz am H .z x d (fun _ => 0) → Reps G Fz am H (zs xs'.length) (fV acc) xs' (fun _ => 0)) :
    ∃ A acc, σ[i]? = some (some (.ref A)) ∧ H A = some (.lst acc) ∧ acc.length = xs.length ∧ Rl G g (env.set i (some (.c .z, .con .lst xs'))) st T σ (upd H A (.lst (fV acc))) := by
  obtain ⟨Fz, am, ne, nt, ns, h1, h2, h3, h4, h5⟩ := R
  obtain ⟨A, acc, a1, a2, a3, a4, a5⟩ := EnvR.updAt h1 (fun q => by have := h4.n1 q; omega) e
  cases h2 with
  | @own _ _ _ _ n1 n2 _ j1 j2 j3 =>
    have hA : 0 < ne A + nt A + ns A := by omega
    have le := h4.n1 A
    have z1 : ns A = 0 := by omega
    have z2 : n2 A = 0 := by have := h4.n1 A; rw [j3] at this; omega
    have E := h4.wext (o := .lst (fV acc)) hA
    refine ⟨A, acc, a1, a2, a3.len.2, Fz, am, ne, n2, ns, a5 _ _ (up _ _ _ a3 (j1.fp j1.z0)) E, ?_, Reps.ext E h3 (upd_keep z1), (h4.wrel (o := .lst (fV acc)) hA trivial).less fun q => ?_, trivial⟩
    · exact (j2.nb hT).ext (ne := fun _ => 0) E (upd_keep z2) (fun _ _ hp => absurd hp (Nat.lt_irrefl 0)) |>.nb hT
    · show ne q + n2 q + ns q ≤ _
      rw [j3]; omega
/-- a slot's thing becomes a cell -/
theorem Rl.pub {i : Nat} {f : Fr} {k : Kd} {ds : List D} (R : Rl G g env st T σ H) (hT : noBor T) (e : env[i]? = some (some (f, .con k ds))) : Rl G g (env.set i (some (.z, .ref st.length))) (st ++ [(f, .con k ds)]) T σ H := by
  obtain ⟨Fz, am, ne, nt, ns, h1, h2, h3, h4, h5⟩ := R
  obtain ⟨v, m, n', a1, a2, a3, a4⟩ := h1.take e
  obtain ⟨p, rfl⟩ : ∃ p, v = .ref p := by
    cases a2 with
    | sc s _ => cases v <;> exact s.elim
    | zz a b c => exact ⟨_, rfl⟩
    | tp a b => exact ⟨_, rfl⟩
    | cc a b c => exact ⟨_, rfl⟩
    | oo a b c => exact ⟨_, rfl⟩
  have hl : am.length = st.length := by have := h3.len.2; simpa using this
  have E : Ext Fz am H Fz (am ++ [p]) H := ⟨fun _ h => h, fun j q h => by
    have : j < am.length := (List.getElem?_eq_some_iff.mp h).1
    rw [List.getElem?_append_left this]; exact h, fun _ _ _ h => h, fun _ _ _ h _ => h, fun _ _ h => h⟩
  have id' : ∀ {n : Fp}, ∀ (p : Addr) (o : HO), 0 < n p → H p = some o → H p = some o := fun {n} _ _ _ h => h
  obtain ⟨n2, b1, b2⟩ := EnvR.set (i := i) (v := .ref p) (f := .z) (d := .ref st.length) (m := fun _ => 0) (G := G) (Fz := Fz) (am := am ++ [p]) (H := H) (.rf (by rw [← hl]; simp) fun _ => rfl) (a4.ext E id')
  have hσ : σ.set i (some (.ref p)) = σ := by
    apply List.ext_getElem?
    intro j
    rw [List.getElem?_set]
    split
    · rename_i h
      subst h
      split
      · rw [a1]
      · rename_i h
        rw [List.getElem?_eq_none (by simpa using h)] at a1
        cases a1
    · rfl
  rw [hσ, List.set_set] at b1
  have h4' : Rel0 g Fz (am ++ [p]) H (fun p => ne p + nt p + ns p) := ⟨h4.n1, h4.nz, h4.th, h4.zt, h4.k, h4.f, h4.z0, h4.z1, fun j q h => E.cl _ _ (h4.a j q h)⟩
  refine ⟨Fz, am ++ [p], n2, nt, fun q => ns q + m q, b1, ((h2.nb (ne' := n2) hT).ext E id' id'), ?_, h4'.less fun q => ?_, trivial⟩
  · show Reps G Fz (am ++ [p]) H ((st ++ _).map (·.1)) ((am ++ [p]).map V.ref) ((st ++ _).map (·.2)) _
    rw [List.map_append, List.map_append, List.map_append]
    exact Reps.snoc (Reps.ext E h3 id') (a2.ext E id') fun _ => rfl
  · have := b2 q; have := a3 q
    show n2 q + nt q + (ns q + m q) ≤ ne q + nt q + ns q
    omega
end

section
variable {S : Sx} {e a b : Expr} {es : List Expr} {da db de di : Den} {das : DenL} {pos p : Pos} {ss : List Stmt} {tr : DenS}
/-- ghost: the thing in the slot becomes a cell -/
@[simp] def dPub (i : Nat) (k : DenS) : DenS := fun env st => match env[i]? with
  | some (some (f, .con kd ds)) => k (env.set i (some (.z, .ref st.length))) (st ++ [(f, .con kd ds)])
  | _ => .stuck
theorem dss_pub {i : Nat} (hr : DSs S ss tr) : DSs S ss (dPub i tr) := fun W => by
  obtain ⟨t, p, q⟩ := hr W
  refine ⟨t, p, fun g env st T σ H D hT R h => ?_⟩
  unfold dPub at h
  split at h
  · rename_i f kd ds e
    exact q _ _ _ _ _ _ _ hT (R.pub hT e) h
  · exact h.elim
theorem reps_set {G : Sg} {Fz : Addr → Prop} {am : List Addr} {H : Hp} {x : V} {d : D} (hx : Rep G Fz am H .z x d (fun _ => 0)) : ∀ {xs : List D} {acc : List V} (j : Nat), Reps G Fz am H (zs xs.length) acc xs (fun _ => 0) → Reps G Fz am H (zs (xs.set j d).length) (acc.set j x) (xs.set j d) (fun _ => 0)
  | [], acc, j, r => by cases r; exact .nil fun _ => rfl
  | y :: xs, acc, j, r => by
    have e : zs (y :: xs).length = .z :: zs xs.length := List.replicate_succ
    rw [e] at r
    cases r with
    | cons r1 r2 h3 =>
      have z1 := r1.z0
      have z2 := Reps.z0 r2
      cases j with
      | zero =>
        show Reps G Fz am H (zs (d :: xs).length) _ _ _
        rw [show zs (d :: xs).length = .z :: zs xs.length from List.replicate_succ]
        exact .cons hx r2 fun q => by rw [z2]
      | succ j =>
        show Reps G Fz am H (zs (y :: xs.set j d).length) _ _ _
        rw [show zs (y :: xs.set j d).length = .z :: zs (xs.set j d).length from List.replicate_succ]
        exact .cons (r1.fp z1 (m := fun _ => 0)) (reps_set hx j (r2.fp z2)) fun q => rfl
/-- c[i] = e, c a cell with a list -/
@[simp] def dPutC (a i e : Den) : DenS := fun env st => match e env st with
  | .ok fe be xe st1 => bif !be || fe.isz then (match a env st1 with
    | .ok _ ba (.ref c) st2 => bif !ba then (match i env st2 with
      | .ok _ _ (.int k) st3 => (match st3[c]? with
        | some (.c .z, .con .lst xs) => (match ixN xs.length k with
          | some j => .nx env (st3.set c (.c .z, .con .lst (xs.set j xe)))
          | none => .stuck)
        | _ => .stuck)
      | .ok _ _ _ _ => .stuck
      | .exc c ds st1 => .exc c ds env st1
      | .stuck => .stuck) else .stuck
    | .ok _ _ _ _ => .stuck
    | .exc c ds st1 => .exc c ds env st1
    | .stuck => .stuck) else .stuck
  | .exc c ds st1 => .exc c ds env st1
  | .stuck => .stuck
theorem asgSub {o i : Expr} {p : Pos} {env : PySem.Env} (h : notSlice i = true) : ∀ v, assign (.Subscript o i p) env v = (do
      let ov ← holding [v] (eval o env)
      let iv ← holding [v, ov] (eval i env)
      standAt p
      holding [v, ov, iv] (setItem ov iv v)
      release [v, ov, iv] []) := fun v => by
  cases i <;> first | rfl | cases h
theorem ds_putc {o i e : Expr} {do_ : Den} (ho : DE S o do_) (hi : DE S i di) (he : DE S e de) (hn : notSlice i = true) (hc : notComp e = true) (hw : noSwap e = true) : DS S (.Assign [.Subscript o i p] e pos) (dPutC do_ di de) := fun W => by
  obtain ⟨to, po, qo⟩ := ho W
  obtain ⟨ti, pi, qi⟩ := hi W
  obtain ⟨te, pe, qe⟩ := he W
  refine ⟨_, fun X hX tk => by
    have hs : swapsWithSole [.Subscript o i p] e pos.line X.env = pure false := swaps_no (t := some (.Subscript o i p)) (l := pos.line) (env := X.env) hc
    exact ps_asg (pe X hX tk) (pg_sub (po X hX tk) (pi X hX tk) set_list (asgSub hn)) hs (noSwap_ok hw), fun g env st T σ H D hT R h => ?_⟩
  refine qe g env st T σ H _ hT R ?_
  unfold dPutC at h
  cases e1 : de env st with
  | stuck => rw [e1] at h; exact h.elim
  | exc c ds st1 => rw [e1] at h; exact h σ
  | ok fe be xe st1 =>
  rw [e1] at h
  dsimp only at h
  obtain ⟨hb, h⟩ := bifT h id
  intro x H1 R1
  have R1' := (R1.unb hb).frz
  refine qo g env st1 _ σ H1 _ (nb_cons hT) R1' ?_
  cases e2 : do_ env st1 with
  | stuck => rw [e2] at h; exact h.elim
  | exc c ds st2 => rw [e2] at h; exact h σ
  | ok fo bo xo st2 =>
  rw [e2] at h
  cases xo with
  | ref c =>
    dsimp only at h
    obtain ⟨hb2, h⟩ := bifT h id
    intro v H2 R2
    have hb2' : bo = false := by simpa using hb2
    subst hb2'
    refine qi g env st2 _ σ H2 _ (nb_cons (nb_cons hT)) R2 ?_
    cases e3 : di env st2 with
    | stuck => rw [e3] at h; exact h.elim
    | exc c ds st3 => rw [e3] at h; exact h σ
    | ok fi bi xi st3 =>
    rw [e3] at h
    cases xi with
    | int k =>
      dsimp only at h
      intro kv H3 R3
      have ek := R3.int
      have R4 := R3.drop
      split at h
      · rename_i xs es
        split at h
        · rename_i j ej
          obtain ⟨A, acc, a1, a2, a3, R5⟩ := Rl.wrc (xs' := xs.set j xe) (fV := fun acc => acc.set j x) R4 es fun Fz am acc r hx => reps_set hx j r
          exact ⟨A, acc, k, j, a1, ek, a2, by rw [a3]; exact ej, h _ _ R5⟩
        · exact h.elim
      · exact h.elim
    | _ => exact h.elim
  | _ => exact h.elim

/-! ### the operators -/
section
variable {X : Cx}
theorem stx_op {f : Value → Value → Sem Value} {r : PySem.W.Frag → R2} (ho : ∀ X : Cx, OpR X f (r X.K)) : ∀ X, Stx S X → OpR X f (r S.G.K) := fun X hX => hX.K ▸ ho X
end
theorem de_add (ha : DE S a da) (hb : DE S b db) : DE S (.BinOp a .Add b pos) (dOp oAdd (dCons da (dLast db))) :=
  de_bin (r := fun x y H Q => rI0 (fun i j => .int (i + j)) x y H Q ∨ ((∃ i j, x = .str i ∧ y = .str j ∧ i.length + j.length ≤ sizeLine ∧ Q (.str (i ++ j)) H) ∨ (rCat x y H Q ∨ rCatA S.G.K x y H Q)))
    (fun X hX => op_add.or (op_add_str.or (op_cat.or (hX.K ▸ op_catA)))) (VOp.or v_addI (VOp.or v_addS (VOp.or v_addL v_addT))) ha hb
theorem de_sub (ha : DE S a da) (hb : DE S b db) : DE S (.BinOp a .Sub b pos) (dOp oSub (dCons da (dLast db))) :=
  de_bin (r := fun x y H Q => rI0 (fun i j => .int (i - j)) x y H Q ∨ rSubB x y H Q) (fun X hX => op_sub.or op_subB) (VOp.or v_subI v_subB) ha hb
theorem de_mul (ha : DE S a da) (hb : DE S b db) : DE S (.BinOp a .Mult b pos) (dOp oMul (dCons da (dLast db))) :=
  de_bin (r := fun x y H Q => rI CMulW (fun i j => .int (i * j)) x y H Q ∨ rRep x y H Q) (fun X hX => op_mulW.or op_rep) (VOp.or v_mulI v_mulL) ha hb
theorem de_fdiv (ha : DE S a da) (hb : DE S b db) : DE S (.BinOp a .FloorDiv b pos) (dOp oFdiv (dCons da (dLast db))) := de_bin (fun X hX => op_fdivF) v_fdiv ha hb
theorem de_mod (ha : DE S a da) (hb : DE S b db) : DE S (.BinOp a .Mod b pos) (dOp oMod (dCons da (dLast db))) := de_bin (fun X hX => op_modN) v_mod ha hb
theorem de_pow (ha : DE S a da) (hb : DE S b db) : DE S (.BinOp a .Pow b pos) (dOp oPow (dCons da (dLast db))) := de_bin (fun X hX => op_pow) v_pow ha hb
theorem de_neg (ha : DE S a da) : DE S (.UnaryOp .USub a pos) (dOp oNeg (dLast da)) := de_un (fun X hX => un_neg) v_neg ha
theorem de_ixs (ha : DE S a da) (hb : DE S b db) (hm : notSlice b = true) : DE S (.Subscript a b pos) (dOp oIx (dCons da (dLast db))) := de_ix (fun X hX => hX.K ▸ ix_seq) v_ix ha hb hm
theorem unitsOk {X : Cx} (hX : Stx S X) : X.A.units + 64 < cLine := by have := hX.room.un; omega
/-- the comparisons of the table -/
structure CmpI (S : Sx) (o : CmpOp) (op : Op) : Prop where
  ex : ∃ r : R2, (∀ X, Stx S X → OpR X (compareOp o) r) ∧ VOp S.G (l2 r) op
theorem ci_lt : CmpI S .Lt oLt := ⟨_, fun X hX => op_lt, v_lt⟩
theorem ci_le : CmpI S .LtE oLe := ⟨_, fun X hX => op_le, v_le⟩
theorem ci_gt : CmpI S .Gt oGt := ⟨_, fun X hX => op_gt, v_gt⟩
theorem ci_ge : CmpI S .GtE oGe := ⟨_, fun X hX => op_ge, v_ge⟩
theorem ci_eq : CmpI S .Eq oEq := ⟨_, fun X hX => hX.K ▸ op_eqD (unitsOk hX), v_eq⟩
theorem ci_ne : CmpI S .NotEq oNe := ⟨_, fun X hX => hX.K ▸ op_neD (unitsOk hX), v_ne⟩
theorem ci_is : CmpI S .Is oIsN := ⟨_, fun X hX => op_isN, v_isN⟩
theorem ci_isnot : CmpI S .IsNot oNotN := ⟨_, fun X hX => op_notN, v_notN⟩
theorem de_c {o : CmpOp} {op : Op} (ci : CmpI S o op) (ha : DE S a da) (hb : DE S b db) (hm : notSet b = true) : DE S (.Compare a [o] [b] pos) (dOp op (dCons da (dLast db))) := by
  obtain ⟨r, h1, h2⟩ := ci.ex
  exact de_cmp h1 h2 ha hb hm
theorem dt_c {o : CmpOp} {op : Op} (ci : CmpI S o op) (ha : DE S a da) (hb : DE S b db) (hm : notSet b = true) : DT S (.Compare a [o] [b] pos) (dB (dOp op (dCons da (dLast db)))) := by
  obtain ⟨r, h1, h2⟩ := ci.ex
  exact dt_cmp h1 h2 ha hb hm
/-! built-ins -/
theorem fresh_len : True := trivial
theorem bi_len (hg : S.sc.names.lookup ("len" : Str) = some .globalImplicit) (hm : S.mg "len" = none) (ha : DE S a da) (hp : plainArgs [a] = true) : DE S (.Call (.Name "len" p) [a] [] pos) (dOp oLen (dLast da)) :=
  de_bi (id := "len") (fun X hX => hX.K ▸ call_len_seq) v_len hg hm (by rfl) (by decide) (by decide) (da_last ha (plainArgs_ok hp _ (by simp))) hp
theorem bi_list (hg : S.sc.names.lookup ("list" : Str) = some .globalImplicit) (hm : S.mg "list" = none) (ha : DE S a da) (hp : plainArgs [a] = true) : DE S (.Call (.Name "list" p) [a] [] pos) (dOp oList (dLast da)) :=
  de_ty (id := "list") (fun X hX => hX.K ▸ call_list_of) v_list hg hm (by rfl) (by decide) (by decide) (da_last ha (plainArgs_ok hp _ (by simp))) hp
theorem bi_tuple (hg : S.sc.names.lookup ("tuple" : Str) = some .globalImplicit) (hm : S.mg "tuple" = none) (ha : DE S a da) (hp : plainArgs [a] = true) : DE S (.Call (.Name "tuple" p) [a] [] pos) (dOp oTuple (dLast da)) :=
  de_ty (id := "tuple") (fun X hX => hX.K ▸ call_tuple_of) v_tuple hg hm (by rfl) (by decide) (by decide) (da_last ha (plainArgs_ok hp _ (by simp))) hp
theorem bi_int (hg : S.sc.names.lookup ("int" : Str) = some .globalImplicit) (hm : S.mg "int" = none) (ha : DE S a da) (hp : plainArgs [a] = true) : DE S (.Call (.Name "int" p) [a] [] pos) (dOp oInt1 (dLast da)) :=
  de_ty (id := "int") (fun X hX => call_int1) v_int1 hg hm (by rfl) (by decide) (by decide) (da_last ha (plainArgs_ok hp _ (by simp))) hp
theorem bi_abs (hg : S.sc.names.lookup ("abs" : Str) = some .globalImplicit) (hm : S.mg "abs" = none) (ha : DE S a da) (hp : plainArgs [a] = true) : DE S (.Call (.Name "abs" p) [a] [] pos) (dOp oAbs (dLast da)) :=
  de_bi (id := "abs") (fun X hX => call_abs) v_abs hg hm (by rfl) (by decide) (by decide) (da_last ha (plainArgs_ok hp _ (by simp))) hp
theorem bi_all (hg : S.sc.names.lookup ("all" : Str) = some .globalImplicit) (hm : S.mg "all" = none) (ha : DE S a da) (hp : plainArgs [a] = true) : DE S (.Call (.Name "all" p) [a] [] pos) (dOp oAll (dLast da)) :=
  de_bi (id := "all") (fun X hX => hX.K ▸ cr_all hX.calm) v_all hg hm (by rfl) (by decide) (by decide) (da_last ha (plainArgs_ok hp _ (by simp))) hp
theorem bi_any (hg : S.sc.names.lookup ("any" : Str) = some .globalImplicit) (hm : S.mg "any" = none) (ha : DE S a da) (hp : plainArgs [a] = true) : DE S (.Call (.Name "any" p) [a] [] pos) (dOp oAny (dLast da)) :=
  de_bi (id := "any") (fun X hX => hX.K ▸ cr_any hX.calm) v_any hg hm (by rfl) (by decide) (by decide) (da_last ha (plainArgs_ok hp _ (by simp))) hp
theorem bi_min2 (hg : S.sc.names.lookup ("min" : Str) = some .globalImplicit) (hm : S.mg "min" = none) (ha : DE S a da) (hb : DE S b db) (hp : plainArgs [a, b] = true) : DE S (.Call (.Name "min" p) [a, b] [] pos) (dOp oMin2 (dCons da (dLast db))) :=
  de_bi (id := "min") (fun X hX => call_min2 hX.calm) v_min2 hg hm (by rfl) (by decide) (by decide) (da_cons ha (da_last hb (plainArgs_ok hp _ (by simp))) (plainArgs_ok hp _ (by simp))) hp
theorem bi_max2 (hg : S.sc.names.lookup ("max" : Str) = some .globalImplicit) (hm : S.mg "max" = none) (ha : DE S a da) (hb : DE S b db) (hp : plainArgs [a, b] = true) : DE S (.Call (.Name "max" p) [a, b] [] pos) (dOp oMax2 (dCons da (dLast db))) :=
  de_bi (id := "max") (fun X hX => call_max2 hX.calm) v_max2 hg hm (by rfl) (by decide) (by decide) (da_cons ha (da_last hb (plainArgs_ok hp _ (by simp))) (plainArgs_ok hp _ (by simp))) hp
end
end Hx

set_option Elab.async false
set_option linter.all false
set_option maxRecDepth 100000
set_option autoImplicit false
/-! F11: slices, isinstance, chains, append, unpacking of a comprehension. -/
namespace Hx
open PySem PySem.Spec L2
open PyProof.Rows hiding St

section
variable {S : Sx} {e a b c tg : Expr} {es : List Expr} {da db dc de di : Den} {das : DenL} {pos p : Pos} {ss : List Stmt} {tr : DenS}
/-! ### slices -/
def rSl (K : PySem.W.Frag) : V → Option Int → Option Int → Hp → VK → Prop := fun x lo hi H Q => rSlL K x lo hi H Q ∨ rSlA K x lo hi H Q
theorem sl_seq {X : Cx} : SlR X (rSl X.K) := sl_list.or sl_tupA
def cutD (xs : List D) (lo hi : Option Int) : List D := (xs.drop (HT.sIx xs.length 0 lo)).take (HT.sIx xs.length xs.length hi - HT.sIx xs.length 0 lo)
theorem reps_drop {G : Sg} {Fz : Addr → Prop} {am : List Addr} {H : Hp} : ∀ {xs : List D} {vs : List V} (k : Nat), Reps G Fz am H (zs xs.length) vs xs (fun _ => 0) → Reps G Fz am H (zs (xs.drop k).length) (vs.drop k) (xs.drop k) (fun _ => 0)
  | [], vs, k, r => by cases r; simpa using (show Reps G Fz am H (zs 0) [] [] (fun _ => 0) from .nil fun _ => rfl)
  | x :: xs, vs, 0, r => r
  | x :: xs, vs, k + 1, r => by
    have e : zs (x :: xs).length = .z :: zs xs.length := List.replicate_succ
    rw [e] at r
    cases r with
    | cons r1 r2 h3 => exact reps_drop k (r2.fp (Reps.z0 r2))
theorem reps_take {G : Sg} {Fz : Addr → Prop} {am : List Addr} {H : Hp} : ∀ {xs : List D} {vs : List V} (k : Nat), Reps G Fz am H (zs xs.length) vs xs (fun _ => 0) → Reps G Fz am H (zs (xs.take k).length) (vs.take k) (xs.take k) (fun _ => 0)
  | [], vs, k, r => by cases r; simpa using (show Reps G Fz am H (zs 0) [] [] (fun _ => 0) from .nil fun _ => rfl)
  | x :: xs, vs, 0, r => by simpa using (show Reps G Fz am H (zs 0) [] [] (fun _ => 0) from .nil fun _ => rfl)
  | x :: xs, vs, k + 1, r => by
    have e : zs (x :: xs).length = .z :: zs xs.length := List.replicate_succ
    rw [e] at r
    cases r with
    | cons r1 r2 h3 =>
      show Reps G Fz am H (zs (x :: xs.take k).length) _ (x :: xs.take k) _
      rw [show zs (x :: xs.take k).length = .z :: zs (xs.take k).length from List.replicate_succ]
      exact .cons (r1.fp r1.z0 (m := fun _ => 0)) (reps_take k (r2.fp (Reps.z0 r2))) fun q => rfl
theorem reps_cut {G : Sg} {Fz : Addr → Prop} {am : List Addr} {H : Hp} {xs : List D} {vs : List V} (lo hi : Option Int) (r : Reps G Fz am H (zs xs.length) vs xs (fun _ => 0)) : Reps G Fz am H (zs (cutD xs lo hi).length) (cutV vs lo hi) (cutD xs lo hi) (fun _ => 0) := by
  unfold cutV cutD
  rw [r.len.2]
  exact reps_take _ (reps_drop _ r)
@[simp] def slD (lo hi : Option Int) : D → Option (Fr × D)
  | .con .tup xs => some (.z, .con .tup (cutD xs lo hi))
  | .con k xs => bif k.sq then some (.c .z, .con .lst (cutD xs lo hi)) else none
  | _ => none
theorem sl_view {G : Sg} {Fz : Addr → Prop} {am : List Addr} {H : Hp} {v : V} {a : D} {lo hi : Option Int} {f : Fr} {d : D} {Q : VK} (h : View G Fz am H v a) (e : slD lo hi a = some (f, d))
    (h3 : ∀ v H' n, Same H H' → Newp H H' n → Rep G Fz am H' f v d n → Q v H') : rSl G.K v lo hi H Q := by
  have lst : ∀ {k : Kd} {xs : List D}, k.sq = true → View G Fz am H v (.con k xs) → f = .c .z → d = .con .lst (cutD xs lo hi) → rSl G.K v lo hi H Q := fun {k xs} hk h e1 e2 => by
    subst e1 e2
    obtain ⟨p, vs, rfl, r, s⟩ := h.sq hk
    exact .inl ⟨p, vs, rfl, r, fresh_lst (reps_cut lo hi s) h3⟩
  cases a with
  | con k xs =>
    cases k with
    | tup =>
      cases e
      obtain ⟨p, vs, rfl, r, s⟩ := h.tup
      refine .inr ⟨p, vs, rfl, r, fun w => ?_, fun _ => fresh_tup (reps_cut lo hi s) h3⟩
      have ec : cutD xs lo hi = xs := by
        unfold cutD
        rw [s.len.2] at w
        rw [w.1, w.2]
        simp
      rw [ec] at h3
      exact h3 _ H _ (same_refl H) newp0 (.zz (k := .tup) r s fun _ => rfl)
    | lst => cases e; exact lst rfl h rfl rfl
    | frl => cases e; exact lst rfl h rfl rfl
    | _ => cases e
  | _ => cases e
@[simp] def oSlL : Op := fun ds => match ds with
  | [a, .int i] => slD (some i) none a
  | _ => none
@[simp] def oSlH : Op := fun ds => match ds with
  | [a, .int i] => slD none (some i) a
  | _ => none
theorem v_slL {G : Sg} : VOp G (l2 fun x y H Q => ∃ i, y = .int i ∧ rSl G.K x (some i) none H Q) oSlL := fun Fz am H vs ds fr d Q h1 h2 h3 => by
  unfold oSlL at h2
  split at h2
  · obtain ⟨v, w, rfl, a, b⟩ := h1.two
    exact ⟨_, b.int, sl_view a h2 h3⟩
  · cases h2
theorem v_slH {G : Sg} : VOp G (l2 fun x y H Q => ∃ i, y = .int i ∧ rSl G.K x none (some i) H Q) oSlH := fun Fz am H vs ds fr d Q h1 h2 h3 => by
  unfold oSlH at h2
  split at h2
  · obtain ⟨v, w, rfl, a, b⟩ := h1.two
    exact ⟨_, b.int, sl_view a h2 h3⟩
  · cases h2
theorem de_slL {p2 : Pos} (ha : DE S a da) (hb : DE S b db) : DE S (.Subscript a (.Slice (some b) none none p2) pos) (dOp oSlL (dCons da (dLast db))) := fun W => by
  obtain ⟨ta, pa, qa⟩ := ha W
  obtain ⟨tb, pb, qb⟩ := hb W
  exact ⟨_, fun X hX tk => pe_slice (r := rSl S.G.K) (hX.K ▸ sl_seq) (pa X hX tk) (po_some (pb X hX tk)) po_none, fun g env st T σ H Q hT R h => run2 v_slL qa qb g env st T σ H Q hT R h⟩
theorem de_slH {p2 : Pos} (ha : DE S a da) (hb : DE S b db) : DE S (.Subscript a (.Slice none (some b) none p2) pos) (dOp oSlH (dCons da (dLast db))) := fun W => by
  obtain ⟨ta, pa, qa⟩ := ha W
  obtain ⟨tb, pb, qb⟩ := hb W
  exact ⟨_, fun X hX tk => pe_slice (r := rSl S.G.K) (hX.K ▸ sl_seq) (pa X hX tk) po_none (po_some (pb X hX tk)), fun g env st T σ H Q hT R h => run2 v_slH qa qb g env st T σ H Q hT R h⟩

/-! ### isinstance of built-in types -/
inductive Ty7
  | non | bl | int | str | tup | lst | dct
  deriving DecidableEq
def Ty7.nm : Ty7 → String
  | .non => "NoneType" | .bl => "bool" | .int => "int" | .str => "str" | .tup => "tuple" | .lst => "list" | .dct => "dict"
@[simp] def Ty7.isa (t u : Ty7) : Bool := decide (t = u) || (decide (t = .bl) && decide (u = .int))
theorem kit1 {K : PySem.W.Frag} (t u : Ty7) : PySem.W.kitOne K (.type t.nm) (.type u.nm) = some (t.isa u) := by
  cases t <;> cases u <;> rfl
theorem kitN {K : PySem.W.Frag} (t : Ty7) : ∀ us : List Ty7, PySem.W.kitAny K (.type t.nm) (us.map fun u => .type u.nm) = some (us.any t.isa)
  | [] => rfl
  | u :: us => by
    show (match PySem.W.kitOne K (.type t.nm) (.type u.nm) with
      | some true => some true
      | some false => PySem.W.kitAny K (.type t.nm) (us.map fun (u : Ty7) => .type u.nm)
      | none => none) = _
    rw [kit1, kitN t us, List.any_cons]
    cases t.isa u <;> rfl
@[simp] def tyD : D → Option Ty7
  | .non => some .non
  | .bl _ => some .bl
  | .int _ => some .int
  | .str _ => some .str
  | .con .tup _ => some .tup
  | .con .lst _ => some .lst
  | .con .frl _ => some .lst
  | .con (.dik _) _ => some .dct
  | _ => none
theorem tyx_of {G : Sg} {Fz : Addr → Prop} {am : List Addr} {H : Hp} {v : V} {d : D} {t : Ty7} (h : View G Fz am H v d) (e : tyD d = some t) : TyX G.K H v (.type t.nm) := by
  cases d with
  | non => cases e; rw [h.non]; exact .base .non
  | bl b => cases e; rw [h.bl]; exact .base (.bl _)
  | int b => cases e; rw [h.int]; exact .base (.int _)
  | str b => cases e; rw [h.str]; exact .base (.str _)
  | fnv k => cases e
  | ref k => cases e
  | con k ds =>
    have sq : ∀ {p : Addr} {vs : List V}, SqL G.K H p vs → TyX G.K H (.ref p) (.type Ty7.lst.nm) := fun {p vs} r => by
      rcases r with (r | ⟨o, r⟩) | ⟨o, its, n, r, c, _⟩
      · exact .base (.lst r)
      · exact .base (.frz r)
      · exact .kList r c
    cases k with
    | tup =>
      cases e
      obtain ⟨p, vs, rfl, r, s⟩ := h.tup
      rcases r with (r | ⟨o, r⟩) | ⟨o, its, n, r, c, _⟩
      · exact .base (.tup r)
      · exact .fTuple r
      · exact .kTuple r c
    | lst =>
      cases e
      obtain ⟨p, vs, rfl, r, s⟩ := View.sq (k := .lst) rfl h
      exact sq r
    | frl =>
      cases e
      obtain ⟨p, vs, rfl, r, s⟩ := View.sq (k := .frl) rfl h
      exact sq r
    | dik ks =>
      cases e
      obtain ⟨p, vs, rfl, ⟨o, r1, r2⟩, s⟩ := h
      obtain ⟨r2, _⟩ := r2
      subst r2
      rcases r1 with r1 | ⟨o, r1⟩
      · exact .base (.dK r1)
      · exact .fDict r1
    | dit ks => cases e
    | ins c => cases e
/-- the names of types -/
def TyNs (S : Sx) (es : List Expr) (us : List Ty7) : Prop := ∀ X, Stx S X → PA X es fun _ H Q => Q (us.map fun (u : Ty7) => V.ty u.nm) H
theorem tyns_nil : TyNs S [] [] := fun X hX => pa_nil
theorem tyns_cons {x : Str} {u : Ty7} {us : List Ty7} (hg : S.sc.names.lookup x = some .globalImplicit) (hm : S.mg x = none) (hb : bootBuiltins x = some (.type u.nm)) (hn : x ≠ "__name__") (hdb : (x == ("__debug__" : Str)) = false) (hr : TyNs S es us) : TyNs S (.Name x p :: es) (u :: us) := fun X hX =>
  pa_cons (pe_bltn (show X.env.scope.names.lookup x = some .globalImplicit by rw [hX.sc]; exact hg) (by rw [hX.mg]; exact hm) hb (v := .ty u.nm) rfl hn hdb) (hr X hX)
@[simp] def dIsi (us : List Ty7) (a : Den) : Den := fun env st => match a env st with
  | .ok f b d st1 => bif f.flat then (match tyD (lk st1 d) with
    | some t => .ok .z false (.bl (us.any t.isa)) st1
    | none => .stuck) else .stuck
  | .exc c ds st1 => .exc c ds st1
  | .stuck => .stuck
theorem clsv : ∀ us : List Ty7, Paired ClsV (us.map fun u => V.ty u.nm) (us.map fun u => Value.type u.nm)
  | [] => .nil
  | u :: us => .cons (.ty _) (clsv us)
/-- one look -/
theorem Rl.view1 {G : Sg} {g : Gd} {env : Env} {st : Store} {T : List Tm} {σ : St} {H : Hp} {v : V} {f : Fr} {b : Bool} {d : D} (R : Rl G g env st (⟨v, f, d, b⟩ :: T) σ H) (hf : f.flat = true) : ∃ Fz am, View G Fz am H v (lk st d) := by
  obtain ⟨Fz, am, ne, nt, ns, h1, h2, h3, h4, h5⟩ := R
  have key : ∀ {n : Fp}, Rep G Fz am H f v d n → View G Fz am H v (lk st d) := fun {n} r => by
    have h := Vws.lk h3 (vs := [v]) (ds := [d]) (.cons (r.view hf) .nil)
    cases h with
    | cons h _ => exact h
  cases h2 with
  | own k1 _ _ => exact ⟨_, _, key k1⟩
  | bor k1 _ _ => exact ⟨_, _, key k1⟩
theorem isi_pe (ha : DE S a da) {e2 : Expr} {W : WX} : True := trivial
theorem de_isi {x : Str} {q : Pos} {u : Ty7} (hg : S.sc.names.lookup ("isinstance" : Str) = some .globalImplicit) (hm : S.mg "isinstance" = none) (ha : DE S a da) (hp : plainArgs [a] = true)
    (hg2 : S.sc.names.lookup x = some .globalImplicit) (hm2 : S.mg x = none) (hb : bootBuiltins x = some (.type u.nm)) (hn : x ≠ "__name__") (hdb : (x == ("__debug__" : Str)) = false) :
    DE S (.Call (.Name "isinstance" p) [a, .Name x q] [] pos) (dIsi [u] da) := fun W => by
  obtain ⟨ta, pa, qa⟩ := ha W
  refine ⟨_, fun X hX tk => pe_callB (r := rIsi S.G.K) (hX.K ▸ call_isi) (show X.env.scope.names.lookup ("isinstance" : Str) = some .globalImplicit by rw [hX.sc]; exact hg) (by rw [hX.mg]; exact hm) (by rfl)
    (pa_cons (pa X hX tk) (tyns_cons (p := q) hg2 hm2 hb hn hdb tyns_nil X hX) (starNo (plainArgs_ok hp a (by simp)))) (by decide) (by decide) (starNo (plainArgs_ok hp a (by simp))), fun g env st T σ H Q hT R h => qa g env st T σ H _ hT R ?_⟩
  unfold dIsi at h
  cases e1 : da env st with
  | stuck => rw [e1] at h; exact h.elim
  | exc c ds st1 => rw [e1] at h; exact h
  | ok f b d st1 =>
    rw [e1] at h
    obtain ⟨hf, h⟩ := bifT h id
    intro v H1 R1
    split at h
    · rename_i t et
      obtain ⟨Fz, am, vw⟩ := R1.view1 hf
      exact ⟨v, .ty u.nm, .type t.nm, .type u.nm, [u].any t.isa, rfl, .ty _, tyx_of vw et, by rw [kit1]; simp, h _ H1 (Rl.scal R1.drop rfl)⟩
    · exact h.elim
theorem de_isiT {es : List Expr} {k : Nat} {q : Pos} {us : List Ty7} (hg : S.sc.names.lookup ("isinstance" : Str) = some .globalImplicit) (hm : S.mg "isinstance" = none) (ha : DE S a da) (hp : plainArgs [a] = true)
    (hl : us.length.ble 1000 = true) (ht : TyNs S es us) : DE S (.Call (.Name "isinstance" p) [a, .Tuple es k q] [] pos) (dIsi us da) := fun W => by
  obtain ⟨ta, pa, qa⟩ := ha W
  refine ⟨_, fun X hX tk => pe_callB (r := rIsiT S.G.K) (hX.K ▸ call_isiT) (show X.env.scope.names.lookup ("isinstance" : Str) = some .globalImplicit by rw [hX.sc]; exact hg) (by rw [hX.mg]; exact hm) (by rfl)
    (pa_cons (pa X hX tk) (pa_cons (pe_tup (ht X hX)) pa_nil) (starNo (plainArgs_ok hp a (by simp)))) (by decide) (by decide) (starNo (plainArgs_ok hp a (by simp))), fun g env st T σ H Q hT R h => qa g env st T σ H _ hT R ?_⟩
  unfold dIsi at h
  cases e1 : da env st with
  | stuck => rw [e1] at h; exact h.elim
  | exc c ds st1 => rw [e1] at h; exact h
  | ok f b d st1 =>
    rw [e1] at h
    obtain ⟨hf, h⟩ := bifT h id
    intro v H1 R1
    split at h
    · rename_i t et
      refine ⟨by simpa using small_len hl, fun p hp => ?_⟩
      have R2 : Rl S.G g env st1 (⟨v, f, d, b⟩ :: T) σ (upd H1 p (.tup (us.map fun u => V.ty u.nm))) := by
        have R3 := RlB.new (v := .non) (f := .z) (d := .non) (n := fun _ => 0) (H' := upd H1 p (.tup (us.map fun u => V.ty u.nm))) R1 (same_upd hp) newp0 fun Fz am E k => .sc trivial fun _ => rfl
        exact R3.drop
      obtain ⟨Fz, am, vw⟩ := R2.view1 hf
      exact ⟨v, p, us.map fun u => V.ty u.nm, .type t.nm, us.map fun u => .type u.nm, us.any t.isa, rfl, upd_same, clsv us, tyx_of vw et, kitN t us, h _ _ (Rl.scal R2.drop rfl)⟩
    · exact h.elim

/-! ### chains -/
theorem Rl.dup {G : Sg} {g : Gd} {env : Env} {st : Store} {T : List Tm} {σ : St} {H : Hp} {v : V} {d : D} (R : Rl G g env st (⟨v, .z, d, false⟩ :: T) σ H) : Rl G g env st (⟨v, .z, d, false⟩ :: ⟨v, .z, d, false⟩ :: T) σ H := by
  obtain ⟨Fz, am, ne, nt, ns, h1, h2, h3, h4, h5⟩ := R
  cases h2 with
  | @own _ _ _ _ n1 n2 _ k1 k2 k3 => exact ⟨Fz, am, ne, nt, ns, h1, .own (k1.fp k1.z0 (m := fun _ => 0)) (.own k1 k2 k3) fun q => by simp, h3, h4, trivial⟩
/-- a o b o' c -/
@[simp] def dChain (o o' : Op) (a b c : Den) : Den := fun env st => match a env st with
  | .ok fa ba xa st1 => bif !ba || fa.isz then (match b env st1 with
    | .ok fb bb xb st2 => bif fa.flat && fb.isz then (match o [lk st2 xa, lk st2 xb] with
      | some (.z, .bl true) => (match c env st2 with
        | .ok fc bc xc st3 => bif fc.flat then (match o' [lk st3 xb, lk st3 xc] with
          | some (f, d) => .ok f false d st3
          | none => .stuck) else .stuck
        | .exc c ds st1 => .exc c ds st1
        | .stuck => .stuck)
      | some (.z, .bl false) => .ok .z false (.bl false) st2
      | _ => .stuck) else .stuck
    | .exc c ds st1 => .exc c ds st1
    | .stuck => .stuck) else .stuck
  | .exc c ds st1 => .exc c ds st1
  | .stuck => .stuck
theorem chain_run {r r' : R2} {o o' : Op} {W : WX} {ta tb tc : TE} (hv : VOp S.G (l2 r) o) (hv' : VOp S.G (l2 r') o')
    (qa : ∀ g env st T σ H Q, noBor T → Rl S.G g env st T σ H → PostE S.G g env T σ W Q (da env st) → ta σ H Q)
    (qb : ∀ g env st T σ H Q, noBor T → Rl S.G g env st T σ H → PostE S.G g env T σ W Q (db env st) → tb σ H Q)
    (qc : ∀ g env st T σ H Q, noBor T → Rl S.G g env st T σ H → PostE S.G g env T σ W Q (dc env st) → tc σ H Q)
    (g : Gd) (env : Env) (st : Store) (T : List Tm) (σ : St) (H : Hp) (Q : VK) (hT : noBor T) (R : Rl S.G g env st T σ H) (h : PostE S.G g env T σ W Q (dChain o o' da db dc env st)) : tChain r r' ta tb tc σ H Q := by
  refine qa g env st T σ H _ hT R ?_
  unfold dChain at h
  cases e1 : da env st with
  | stuck => rw [e1] at h; exact h.elim
  | exc c ds st1 => rw [e1] at h; exact h
  | ok fa ba xa st1 =>
  rw [e1] at h
  dsimp only at h
  obtain ⟨hb, h⟩ := bifT h id
  intro v H1 R1
  refine qb g env st1 _ σ H1 _ (nb_cons hT) (R1.unb hb) ?_
  cases e2 : db env st1 with
  | stuck => rw [e2] at h; exact h.elim
  | exc c ds st2 => rw [e2] at h; exact h
  | ok fb bb xb st2 =>
  rw [e2] at h
  dsimp only at h
  obtain ⟨hf, h'⟩ := bifT h id
  clear h
  have h := h'
  clear h'
  rw [Bool.and_eq_true] at hf
  have ez := Fr.isz_eq hf.2
  subst ez
  intro w H2 R2
  have R3 := (R2.unb (by simp [Fr.isz])).dup
  have R4 : Rl S.G g env st2 (mkT [v, w] [(fa, false, xa), (.z, false, xb)] ++ (⟨w, .z, xb, false⟩ :: T)) σ H2 := by
    have := RlB.mid (l := [⟨w, .z, xb, false⟩, ⟨w, .z, xb, false⟩]) R3
    obtain ⟨Fz, am, ne, nt, ns, h1, h2, h3, h4, h5⟩ := this
    exact ⟨Fz, am, ne, nt, ns, h1, h2, h3, h4, h5⟩
  have fl : flats [(fa, false, xa), (Fr.z, false, xb)] = true := by
    show (fa.flat && (Fr.z.flat && true)) = true
    rw [hf.1]
    rfl
  cases e3 : o [lk st2 xa, lk st2 xb] with
  | none => rw [e3] at h; exact h.elim
  | some x =>
    obtain ⟨f', d'⟩ := x
    rw [e3] at h
    refine Rl.op (vs := [v, w]) hv R4 rfl fl e3 fun z H3 R5 => ?_
    split at h
    · rename_i es
      cases es
      refine ⟨true, R5.bl, ?_⟩
      rw [if_pos rfl]
      refine qc g env st2 _ σ H3 _ (nb_cons hT) R5.drop ?_
      cases e4 : dc env st2 with
      | stuck => rw [e4] at h; exact h.elim
      | exc c ds st3 => rw [e4] at h; exact h
      | ok fc bc xc st3 =>
        rw [e4] at h
        dsimp only at h
        obtain ⟨hf2, h'⟩ := bifT h id
        clear h
        have h := h'
        clear h'
        intro u H4 R6
        have R7 : Rl S.G g env st3 (mkT [w, u] [(.z, false, xb), (fc, bc, xc)] ++ T) σ H4 := RlB.mid (l := [_]) R6
        cases e5 : o' [lk st3 xb, lk st3 xc] with
        | none => rw [e5] at h; exact h.elim
        | some y =>
          obtain ⟨f2, d2⟩ := y
          rw [e5] at h
          exact Rl.op (vs := [w, u]) hv' R7 rfl (by
            show (Fr.z.flat && (fc.flat && true)) = true
            rw [hf2]
            rfl) e5 h
    · rename_i es
      cases es
      refine ⟨false, R5.bl, ?_⟩
      rw [if_neg (by decide)]
      exact h _ H3 (Rl.scal R5.drop.drop rfl)
    · exact h.elim
theorem lm2 {o o' : CmpOp} (hb : notSet b = true) (hc : notSet c = true) : lastMarks [o, o'] [b, c] = false := marks (o := o') hc
theorem de_chain {o o' : CmpOp} {op op' : Op} (ci : CmpI S o op) (ci' : CmpI S o' op') (ha : DE S a da) (hb : DE S b db) (hc : DE S c dc) (nb : notSet b = true) (nc : notSet c = true) : DE S (.Compare a [o, o'] [b, c] pos) (dChain op op' da db dc) := fun W => by
  obtain ⟨r, h1, h2⟩ := ci.ex
  obtain ⟨r', h1', h2'⟩ := ci'.ex
  obtain ⟨ta, pa, qa⟩ := ha W
  obtain ⟨tb, pb, qb⟩ := hb W
  obtain ⟨tc, pc, qc⟩ := hc W
  exact ⟨_, fun X hX tk => pe_chain (h1 X hX) (h1' X hX) (pa X hX tk) (pb X hX tk) (pc X hX tk) (lm2 nb nc), fun g env st T σ H Q hT R h => chain_run h2 h2' qa qb qc g env st T σ H Q hT R h⟩
theorem dt_chain {o o' : CmpOp} {op op' : Op} (ci : CmpI S o op) (ci' : CmpI S o' op') (ha : DE S a da) (hb : DE S b db) (hc : DE S c dc) (nb : notSet b = true) (nc : notSet c = true) : DT S (.Compare a [o, o'] [b, c] pos) (dB (dChain op op' da db dc)) := fun W => by
  obtain ⟨r, h1, h2⟩ := ci.ex
  obtain ⟨r', h1', h2'⟩ := ci'.ex
  obtain ⟨ta, pa, qa⟩ := ha W
  obtain ⟨tb, pb, qb⟩ := hb W
  obtain ⟨tc, pc, qc⟩ := hc W
  exact ⟨_, fun X hX tk => pt_chain (h1 X hX) (h1' X hX) (pa X hX tk) (pb X hX tk) (pc X hX tk) (lm2 nb nc), fun g env st T σ H Q hT R h => chain_run h2 h2' qa qb qc g env st T σ H _ hT R (postB h)⟩

/-! ### xs.append(e) -/
theorem reps_snoc {G : Sg} {Fz : Addr → Prop} {am : List Addr} {H : Hp} {x : V} {d : D} {xs : List D} {acc : List V} (r : Reps G Fz am H (zs xs.length) acc xs (fun _ => 0)) (hx : Rep G Fz am H .z x d (fun _ => 0)) : Reps G Fz am H (zs (xs ++ [d]).length) (acc ++ [x]) (xs ++ [d]) (fun _ => 0) :=
  r.cat (.cons (n1 := fun _ => 0) (n2 := fun _ => 0) hx (.nil fun _ => rfl) fun _ => rfl)
def dApp (i : Nat) (a : Den) : DenS := fun env st => match env[i]? with
  | some (some (.c .z, .con .lst xs)) => (match a env st with
    | .ok f b d st1 => bif (!b || f.isz) && xs.length.ble 1000000 then .nx (env.set i (some (.c .z, .con .lst (xs ++ [d])))) st1 else .stuck
    | .exc c ds st1 => .exc c ds env st1
    | .stuck => .stuck)
  | _ => .stuck
theorem len7 {n : Nat} (h : n.ble 1000000 = true) : n < sizeLine := Nat.lt_of_le_of_lt (Nat.le_of_ble_eq_true h) (by decide)
theorem ds_app {i : Nat} {x : Str} {q apos : Pos} (hN : S.N[i]? = some x) (hv : Vis S.sc x) (hd : (x == ("__debug__" : Str)) = false) (hcd : (x == ("__classdict__" : Str)) = false) (hl : (apos.endLine == p.line) = true) (ha : DE S a da) (hp : plainArgs [a] = true) :
    DS S (.Expr (.Call (.Attribute (.Name x q) "append" apos) [a] [] p) pos) (dApp i da) := fun W => by
  obtain ⟨ta, pa, qa⟩ := ha W
  have hs := plainArgs_ok hp a (by simp)
  have pk : ∀ X, Stx S X → Takes X W → PE X (.Call (.Attribute (.Name x q) "append" apos) [a] [] p) (tBM S.G.K "list" rAppend (tVar i) (tCons ta tNil)) := fun X hX tk => by
    have := pe_bm PySem.F.plainAttrs_list PySem.F.slot_list_append PySem.F.type_list_append mt_append (de_pv (p := q) hN hv hd hcd hX) (pa_cons (pa X hX tk) pa_nil (starNo hs)) (by rfl) (by rw [starNo hs]; rfl) hl (starNo hs)
    rw [hX.K] at this
    exact this
  refine ⟨_, fun X hX tk => ps_expr (pk X hX tk), fun g env st T σ H D hT R h => ?_⟩
  unfold dApp at h
  split at h
  · rename_i xs ei
    have ei' := ei
    obtain ⟨v, ev, R0⟩ := R.pushb ei
    have hsq : ∃ A acc, v = .ref A ∧ SqL S.G.K H A acc := by
      obtain ⟨Fz, am, vw⟩ := R0.view1 rfl
      obtain ⟨A, acc, e1, e2, _⟩ := View.sq (k := .lst) rfl vw
      exact ⟨A, acc, e1, e2⟩
    obtain ⟨A, acc, rfl, sq⟩ := hsq
    refine ⟨_, ev, .inl ⟨rfl, _, sq⟩, ?_⟩
    refine qa g env st T σ H _ hT R ?_
    cases e1 : da env st with
    | stuck => rw [e1] at h; exact h.elim
    | exc c ds st1 => rw [e1] at h; exact h σ
    | ok f b d st1 =>
      rw [e1] at h
      obtain ⟨hc, h⟩ := bifT h id
      rw [Bool.and_eq_true] at hc
      intro x H1 R1
      obtain ⟨A', acc', a1, a2, a3, R2⟩ := Rl.wre (xs' := xs ++ [d]) (fV := fun acc => acc ++ [x]) (R1.unb hc.1).frz hT ei fun Fz am acc r hx => reps_snoc r hx
      rw [ev] at a1
      cases a1
      exact ⟨A, acc', x, rfl, rfl, a2, by rw [a3]; exact len7 hc.2, h _ _ R2⟩
  · exact h.elim

/-! ### (a, b) = [.. for ..] -/
theorem ds_unpT {es : List Expr} {k : Nat} {q : Pos} {p : Pat} (hg : DG S (.Tuple es k q) p) (ha : DE S e da) (hw : noSwap e = true) : DS S (.Assign [.Tuple es k q] e pos) (dUnp p da) := fun W => by
  obtain ⟨t, pt, q⟩ := ha W
  obtain ⟨t2, pt2, q2⟩ := hg
  refine ⟨_, fun X hX tk => ps_asg (pt X hX tk) (pt2 X hX) (by cases e <;> rfl) (noSwap_ok hw) (by rfl), fun g env st T σ H D hT R h => q g env st T σ H _ hT R ?_⟩
  unfold dUnp at h
  cases e : da env st with
  | stuck => rw [e] at h; exact h.elim
  | exc c ds st1 => rw [e] at h; exact h σ
  | ok f b d st1 =>
    rw [e] at h
    obtain ⟨hc, h⟩ := bifT h id
    cases e2 : bindP p f d env with
    | none => rw [e2] at h; exact h.elim
    | some env1 =>
      rw [e2] at h
      exact fun v H1 R1 => q2 g env st1 T σ H1 v f d env1 _ hT (R1.unb hc) e2 fun σ' H' _ R' => h σ' H' R'
end
end Hx

set_option Elab.async false
set_option linter.all false
set_option maxRecDepth 100000
set_option autoImplicit false
/-! F12: defs in a row's context. -/
namespace Hx
open PySem PySem.Spec L2
open PyProof.Rows hiding St

@[reducible] def Sx.at (S : Sx) (N : List Str) (sc : Scope) (k : Nat) : Sx := ⟨S.P, S.w, S.mg, S.base, S.G, N, sc, k, true⟩
theorem Good.at {S : Sx} {x : Str} {n : Nat} {F : Fn} {dd : List D} {k : Nat} (h : Good S x n F dd k) {N : List Str} {sc : Scope} {j : Nat} : Good (S.at N sc j) x n F dd k := ⟨h.ex⟩
theorem Good.blk {S : Sx} {x : Str} {n : Nat} {F : Fn} {dd : List D} {k : Nat} (h : Good S x n F dd k) {sc : Scope} : Good (S.blk sc) x n F dd k := ⟨h.ex⟩
/-- what the top has bound: a def without defaults -/
structure Kn (S : Sx) (x : Str) (st : Stmt) : Prop where
  ex : ∃ f fd, FunD S.G.K x x (defArgs st) (defBody st) (defScope st) [] [] f fd ∧ S.mg x = some (.ref f)
def BindN (x : Str) (st : Stmt) (ps : List Str) : Prop := ∀ (kV doc pm : Value) (an : Option Addr) (cdv ct : Value) (us : List Value), us.length = ps.length → bindArgs (PySem.W.fnOf x x (defArgs st) (defBody st) (defScope st) .none kV doc pm an cdv ct) ⟨us, []⟩ = pure (ps.zip us)
theorem good_fn {S : Sx} {x : Str} {st : Stmt} {N ps : List Str} {n k : Nat} {db : DenS} (h : Kn S x st) (Sc : FnScope N ps (defScope st)) (hb : DSs (S.at N (defScope st) k) (defBody st) db) (hbind : BindN x st ps) (hn : ps.length = n) : Good S x n (dBody N.length db) [] (k + 1) := by
  subst hn
  obtain ⟨f, fd, F, hm⟩ := h.ex
  exact ⟨f, fd, ps, [], [], ok_fn (S := S.at N (defScope st) k) F Sc hb rfl, hm, F.kp, F.bindsN hbind, .nil, fun Fz am H => .nil fun _ => rfl⟩
/-- the promise that is never asked -/
theorem good_stuck {S : Sx} {x : Str} {st : Stmt} {N ps : List Str} {n k : Nat} (h : Kn S x st) (Sc : FnScope N ps (defScope st)) (hbind : BindN x st ps) (hn : ps.length = n) : Good S x n (fun _ _ => .stuck) [] (k + 1) := by
  subst hn
  obtain ⟨f, fd, F, hm⟩ := h.ex
  refine ⟨f, fd, ps, [], [], ?_, hm, F.kp, F.bindsN hbind, .nil, fun Fz am H => .nil fun _ => rfl⟩
  refine F.ok Sc (fun vs H Q E h => h.1) fun cdv A outer s H vs Q E hr h => ?_
  obtain ⟨hl, Fz, am, as, st, na, ns, h1, h2, h3, h4⟩ := h
  exact h4.elim
/-- a block's names, by a look -/
def blkB (N : List Str) (sc scope : Scope) (own : List (Str × Nat)) : Bool :=
  decide (scope.kind = .function) && scope.names.all (fun y => decide (scope.names.lookup y.1 = some y.2)) && own.all (fun p => decide (N[p.2]? = some p.1)) &&
  scope.names.all (fun y => !decide (y.2 = .free) || (decide (sc.names.lookup y.1 = some .cell) || decide (sc.names.lookup y.1 = some .free))) &&
  scope.names.all (fun y => !(decide (y.2 = .local) || decide (y.2 = .cell)) || (decide (y.1 ∈ own.map (·.1)) || !decide (y.1 ∈ N)))
theorem blk_ok {N : List Str} {sc scope : Scope} {own : List (Str × Nat)} (h : blkB N sc scope own = true) : BlkOk N sc scope own := by
  unfold blkB at h
  simp only [Bool.and_eq_true, List.all_eq_true, decide_eq_true_eq] at h
  obtain ⟨⟨⟨⟨h1, h2⟩, h3⟩, h4⟩, h5⟩ := h
  refine ⟨h1, h2, h3, fun y hy e => ?_, fun y hy e => ?_⟩
  · have := h4 y hy
    simpa [e] using this
  · have := h5 y hy
    rcases e with e | e <;> simpa [e] using this
/-- the law's own promise, of a list of ints -/
theorem law_sp {G : Sg} {F : Fn} {H : Hp} {a : Addr} {ns : List Int} {st : Store} (hS : SqL G.K H a (ns.map V.int)) (h : F [(.z, .con .frl (ns.map D.int))] [] = .ok .z false (.bl true) st) :
    SpF G 1 F [.ref a] H (fun v _ => v = .bl true) fun _ _ _ => False := by
  have its : ∀ {Fz : Addr → Prop} {am : List Addr} (ns : List Int), Reps G Fz am H (zs (ns.map D.int).length) (ns.map V.int) (ns.map D.int) (fun _ => 0) := fun {Fz am} ns => by
    induction ns with
    | nil => exact .nil fun _ => rfl
    | cons n ns ih =>
      show Reps G Fz am H (zs ((ns.map D.int).length + 1)) (V.int n :: ns.map V.int) (D.int n :: ns.map D.int) _
      rw [show zs ((ns.map D.int).length + 1) = .z :: zs (ns.map D.int).length from List.replicate_succ]
      exact .cons (n1 := fun _ => 0) (n2 := fun _ => 0) (.sc rfl fun _ => rfl) ih fun _ => rfl
  have fin : ∀ g, PostF G g (fun v _ => v = .bl true) (fun _ _ _ => False) (F [(.z, .con .frl (ns.map D.int))] []) := fun g => by
    rw [h]
    exact ⟨rfl, fun v H' R => R.bl⟩
  have fin2 : ∀ Fz : Addr → Prop, (∀ p, Fz p → ∃ o, H p = some o) → Shr G Fz H a .frl (ns.map V.int) → SpF G 1 F [.ref a] H (fun v _ => v = .bl true) fun _ _ _ => False := fun Fz hz sh => by
    refine ⟨rfl, Fz, [], [(.z, .con .frl (ns.map D.int))], [], fun _ => 0, fun _ => 0, ?_, .nil fun _ => rfl, ⟨fun p => by simp, fun p hp => absurd hp (Nat.lt_irrefl 0), fun p hp => absurd hp (Nat.lt_irrefl 0), hz, fun p o e _ => e, fun p hp => absurd hp (Nat.lt_irrefl 0), fun _ z => z, fun _ z => .inl z, fun _ _ z => z⟩, fin _⟩
    exact .cons (n1 := fun _ => 0) (n2 := fun _ => 0) (.zz (k := .frl) sh (its ns) fun _ => rfl) (.nil fun _ => rfl) fun _ => rfl
  rcases hS with r | r
  · exact fin2 (fun p => p = a) (fun p e => by
      subst e
      rcases r with r | ⟨o, r⟩
      · exact ⟨_, r⟩
      · exact ⟨_, r⟩) (.inl ⟨rfl, r⟩)
  · exact fin2 (fun _ => False) (fun p e => e.elim) (.inr (.inr r))
end Hx

set_option Elab.async false
set_option linter.all false
set_option maxRecDepth 100000
set_option autoImplicit false
/-! M0: readings made plain. -/
namespace Hx
open PySem PySem.Spec L2
abbrev P2 (x y : Int) : D := .con .tup [.int x, .int y]
theorem eqD_int {i j : Int} : eqD (.int i) (.int j) = some (i == j) := by
  simp [eqD, D.py, SeqAt.shaped, PyData.canLay0, PyData.depth, PyData.eqv]
theorem eqD_bl {i j : Bool} : eqD (.bl i) (.bl j) = some (i == j) := by
  simp [eqD, D.py, SeqAt.shaped, PyData.canLay0, PyData.depth, PyData.eqv]
/-- numbers below 2 ^ n -/
def Sm (n : Nat) (i : Int) : Prop := i.natAbs < 2 ^ n
theorem Sm.mono {n m : Nat} {i : Int} (h : Sm n i) (k : n ≤ m) : Sm m i := Nat.lt_of_lt_of_le h (Nat.pow_le_pow_right (by decide) k)
theorem Sm.mul {n m : Nat} {i j : Int} (h : Sm n i) (k : Sm m j) : Sm (n + m) (i * j) := by
  unfold Sm at *
  rw [Int.natAbs_mul, Nat.pow_add]
  exact Nat.mul_lt_mul'' h k
theorem Sm.add {n m : Nat} {i j : Int} (h : Sm n i) (k : Sm m j) : Sm (max n m + 1) (i + j) := by
  have h' := h.mono (Nat.le_max_left n m)
  have k' := k.mono (Nat.le_max_right n m)
  unfold Sm at *
  rw [Nat.pow_succ]
  omega
theorem Sm.sub {n m : Nat} {i j : Int} (h : Sm n i) (k : Sm m j) : Sm (max n m + 1) (i - j) := by
  have h' := h.mono (Nat.le_max_left n m)
  have k' := k.mono (Nat.le_max_right n m)
  unfold Sm at *
  rw [Nat.pow_succ]
  omega
theorem Sm.lg {n : Nat} {i : Int} (h : Sm n i) : i.natAbs.log2 ≤ n := Nat.lt_succ_iff.mp (PySem.Flt.log2_lt_of (Nat.succ_pos n) (h.mono (Nat.le_succ n)))
theorem Sm.ok {n m : Nat} {i j : Int} (h : Sm n i) (k : Sm m j) (a : n ≤ 400000) (b : m ≤ 400000) : mulOk i j = true := by
  have x := h.lg
  have y := k.lg
  simp only [mulOk, decide_eq_true_eq]
  omega
theorem divOk_of {n : Nat} {j : Int} (h : Sm n j) (h0 : j ≠ 0) (k : n ≤ 9000) (p : 0 < n) : divOk j = true := by
  have x : j.natAbs.log2 < n := PySem.Flt.log2_lt_of p h
  simp only [divOk, Bool.and_eq_true, decide_eq_true_eq]
  exact ⟨h0, by omega⟩
/-- the drawing bag in cell c -/
structure Bag (k : Nat) (st : Store) (c : Nat) : Prop where
  ex : ∃ (xs : List Int) (i h s n : Int), st[c]? = some (.c .z, .con .lst [.con .lst (xs.map D.int), .int i, .int h, .int s, .int n]) ∧ 0 ≤ i ∧ 0 ≤ h ∧ 0 ≤ s ∧ s < 2147483647 ∧ 0 ≤ n ∧ n ≤ k
theorem Bag.mono {k j : Nat} {st : Store} {c : Nat} (b : Bag k st c) (h : k ≤ j) : Bag j st c := by
  obtain ⟨xs, i, h', s, n, e, a1, a2, a3, a4, a5, a6⟩ := b.ex
  exact ⟨xs, i, h', s, n, e, a1, a2, a3, a4, a5, by omega⟩
/-- nothing but cell c has changed -/
structure Fro1 (c : Nat) (st st' : Store) : Prop where
  len : st'.length = st.length
  at_ : ∀ j, j ≠ c → st'[j]? = st[j]?
theorem Fro1.refl {c : Nat} {st : Store} : Fro1 c st st := ⟨rfl, fun _ _ => rfl⟩
theorem Fro1.trans {c : Nat} {s1 s2 s3 : Store} (a : Fro1 c s1 s2) (b : Fro1 c s2 s3) : Fro1 c s1 s3 := ⟨b.len.trans a.len, fun j h => (b.at_ j h).trans (a.at_ j h)⟩
theorem Fro1.set {c : Nat} {st : Store} {x : Fr × D} : Fro1 c st (st.set c x) := ⟨List.length_set, fun j h => by rw [List.getElem?_set_ne (Ne.symm h)]⟩
theorem lk_bag {st : Store} {c : Nat} {ds : List D} (e : st[c]? = some (.c .z, .con .lst ds)) : lk st (.ref c) = .con .lst ds := by
  simp [lk, e, Fr.flat, Fr.isz]
theorem get_set {st : Store} {c : Nat} {x y : Fr × D} (e : st[c]? = some x) : (st.set c y)[c]? = some y := by
  have h := (List.getElem?_eq_some_iff.mp e).1
  rw [List.getElem?_set_self h]
theorem atI_map {xs : List Int} {i : Int} (h0 : 0 ≤ i) (h : i < xs.length) : ∃ x, atI (xs.map D.int) i = some (.int x) := by
  have hl : i.toNat < xs.length := by omega
  refine ⟨xs[i.toNat], ?_⟩
  simp [atI, ixN, h0, h, hl]
/-! ### the readings, for simp -/
section
variable {i : Nat} {a b c e o : Den} {as : DenL} {t u : DenB} {s r : DenS} {env : Env} {st : Store} {d d' : D} {ds : List D} {op op' : Op} {j k : Int}
@[simp] theorem eqD_int' {i j : Int} : eqD (.int i) (.int j) = some (decide (i = j)) := by rw [eqD_int]; congr 1
@[simp] theorem eqD_bl' {i j : Bool} : eqD (.bl i) (.bl j) = some (decide (i = j)) := by rw [eqD_bl]; cases i <;> cases j <;> rfl
@[simp] theorem isz_z : Fr.isz .z = true := rfl
@[simp] theorem isz_c {f : Fr} : Fr.isz (.c f) = false := rfl
@[simp] theorem isz_t {fs : List Fr} : Fr.isz (.t fs) = false := rfl
@[simp] theorem flat_z : Fr.flat .z = true := rfl
@[simp] theorem flat_cz : Fr.flat (.c .z) = true := rfl
@[simp] theorem seq_tup : Kd.seq .tup = true := rfl
@[simp] theorem seq_lst : Kd.seq .lst = true := rfl
@[simp] theorem seq_frl : Kd.seq .frl = true := rfl
@[simp] theorem sq_lst : Kd.sq .lst = true := rfl
@[simp] theorem sq_frl : Kd.sq .frl = true := rfl
@[simp] theorem ble_dec {x y : Nat} : Nat.ble x y = decide (x ≤ y) := by rw [Bool.eq_iff_iff]; simp [Nat.ble_eq]
@[simp] theorem lk_int : lk st (.int j) = .int j := rfl
@[simp] theorem lk_bl {x : Bool} : lk st (.bl x) = .bl x := rfl
@[simp] theorem lk_non : lk st .non = .non := rfl
@[simp] theorem lk_str {x : Str} : lk st (.str x) = .str x := rfl
@[simp] theorem lk_con {x : Kd} : lk st (.con x ds) = .con x ds := rfl
theorem lk_set {c : Nat} {f : Fr} (hl : c < st.length) (hf : f.flat = true) : lk (st.set c (f, d)) (.ref c) = d := by
  have e : (st.set c (f, d))[c]? = some (f, d) := List.getElem?_set_self hl
  unfold lk
  dsimp only
  rw [e]
  show (bif f.flat then d else .ref c) = d
  rw [hf]
  rfl
@[simp] theorem lk_setc {c : Nat} (hl : c < st.length) : lk (st.set c (.c .z, d)) (.ref c) = d := lk_set hl rfl
@[simp] theorem at0 {x : D} {xs : List D} : atI (x :: xs) 0 = some x := by simp [atI, ixN]
@[simp] theorem at1 {x y : D} {xs : List D} : atI (x :: y :: xs) 1 = some y := by
  have : (1 : Int) < (xs.length : Int) + 1 + 1 := by omega
  simp [atI, ixN, this]
@[simp] theorem at2 {x y z : D} {xs : List D} : atI (x :: y :: z :: xs) 2 = some z := by
  have : (2 : Int) < (xs.length : Int) + 1 + 1 + 1 := by omega
  simp [atI, ixN, this]
@[simp] theorem at3 {x y z w : D} {xs : List D} : atI (x :: y :: z :: w :: xs) 3 = some w := by
  have : (3 : Int) < (xs.length : Int) + 1 + 1 + 1 + 1 := by omega
  simp [atI, ixN, this]
@[simp] theorem at4 {x y z w v : D} {xs : List D} : atI (x :: y :: z :: w :: v :: xs) 4 = some v := by
  have : (4 : Int) < (xs.length : Int) + 1 + 1 + 1 + 1 + 1 := by omega
  simp [atI, ixN, this]
end
end Hx

set_option Elab.async false
set_option linter.all false
set_option maxRecDepth 100000
set_option autoImplicit false
/-! M1: the head's facts, a law's end, with exceptions by world. -/
namespace Hx
open PySem PySem.Spec L2
open PyProof.Rows hiding St
/-- the context of a row's defs -/
@[reducible] def S0 (P : Program) (w : World) (K : PySem.W.Frag) (mg : Str → Option Value) (base : Heap) : Sx :=
  ⟨P, w, mg, base, ⟨K, fun _ => 0, fun _ => [], fun _ => .non⟩, [], ⟨.function, [], false, false, []⟩, 0, true⟩
theorem kn_of {fa : List He.Fa} {fn : List He.DefD} {P : Program} {w : World} {K : PySem.W.Frag} {h : Heap} {mg : Str → Option Value} {base : Heap} (c : He.SaysD fa fn K) (X : K.In h) (Gn : h.Ns mainGlobals mg) (i j : Nat) {x : Str} {st : Stmt} {d : He.DefD}
    (hd : fn[i]? = some d) (hf : fa[j]? = some (.glo x)) (e : d = ⟨(x, none), x, x, defArgs st, defBody st, defScope st, [], []⟩ := by rfl) : Kn (S0 P w K mg base) x st := by
  subst e
  obtain ⟨fd, F⟩ := c.def_ i hd
  exact ⟨_, fd, F, He.glo_ok X Gn (c.fact j hf)⟩
/-- a law's end, what its defs let out told by the world -/
theorem law_end {l : PySem.W.OpenLaw} {n k : Nat} {q : Program} {loose : List Str} {XP : (Str → Option Value) → Heap → Prop} {YP : World → Heap → Prop} {d : DefRec} {x : Str}
    (hn : l.most = some n) (hn2 : n ≤ sizeLine) (hdf : d.params.defaults = []) (hr : Room k callerA)
    (F : ∀ (w : World) (mg : Str → Option Value) (fa : Addr) (h : Heap), YP w h → h.Ns mainGlobals mg → mg d.name = some (.ref fa) → ∃ (K : PySem.W.Frag) (fd : FuncData) (sp : Sp), K.In h ∧
      (∀ (s : Shared) (u : Value), BindsTo s fd ⟨[u], []⟩ [(x, u)]) ∧ (∀ (H : Hp) (a : Addr) (ns : List Int), ns.length ≤ n → SqL K H a (ns.map V.int) → sp [.ref a] H (fun v _ => v = .bl true) fun _ _ _ => False) ∧
      ∀ base : Heap, K.In base → base.Ns mainGlobals mg → FnOk l.prog w K mg base (L2.CX l.prog w) k fa fd [x] sp) :
    PySem.W.WalkO q loose XP YP l.row.toRowW d [] (fun f vs => PySem.call f vs) := by
  refine Att.attach_call hn hdf fun w s0 s1 mg mb fa o pm cd doc a vs ns Gw Y ho hd hcd hmg hobj hints hlen hg => ?_
  obtain ⟨K, fd, sp, KX, hb, hsp, hF⟩ := F w mg fa _ Y Gw.T.g hmg
  refine law_call KX Gw.T.g Gw.T.b Gw.T.builtins Gw.T.nolimit hg hobj hints (Nat.le_trans hlen hn2) hr hF hb ?_ ?_
  · exact fun H _ hS => hsp H a ns hlen hS
  · intro H e s' z
    obtain ⟨_, _, _, _, _, _, _, _, _, _, _, _, z⟩ := z
    exact z
end Hx

set_option Elab.async false
set_option linter.all false
set_option maxRecDepth 100000
set_option maxHeartbeats 0
set_option autoImplicit false
namespace L01
open PySem PySem.Spec L2 Hx
open PyProof.Rows hiding St
def top (i : Nat) : Stmt := PySem.Challenge.pw_hueshade_k01_sides_of_places.main.body.getD i (.Pass ⟨0, 0, 0, 0⟩)
def B_corner_room_0 : DenS :=
    dRetZ (dOp oSub (dCons (dOp oMul (dCons (dOp oSub (dCons (dOp oIx (dCons (dVar 1) (dLast (dC (.int 0))))) (dLast (dOp oIx (dCons (dVar 0) (dLast (dC (.int 0)))))))) (dLast (dOp oSub (dCons (dOp oIx (dCons (dVar 2) (dLast (dC (.int 1))))) (dLast (dOp oIx (dCons (dVar 0) (dLast (dC (.int 1))))))))))) (dLast (dOp oMul (dCons (dOp oSub (dCons (dOp oIx (dCons (dVar 1) (dLast (dC (.int 1))))) (dLast (dOp oIx (dCons (dVar 0) (dLast (dC (.int 1)))))))) (dLast (dOp oSub (dCons (dOp oIx (dCons (dVar 2) (dLast (dC (.int 0))))) (dLast (dOp oIx (dCons (dVar 0) (dLast (dC (.int 0))))))))))))))
def B_corner_room : DenS :=
    B_corner_room_0
def F_corner_room : Fn := dBody 3 B_corner_room
def B_side_0 : DenS :=
    dSetZ 3 (dCall F_corner_room [] (dCons (dVar 0) (dCons (dVar 1) (dLast (dVar 2)))))
def B_side_1 : DenS :=
    dRetZ (dOp oSub (dCons (dOp oGt (dCons (dVar 3) (dLast (dC (.int 0))))) (dLast (dOp oLt (dCons (dVar 3) (dLast (dC (.int 0))))))))
def B_side : DenS :=
    dSeq (B_side_0)
    (B_side_1)
def F_side : Fn := dBody 4 B_side
def B_is_within_0 : DenS :=
    dRetZ (dChain oLe oLe (dOp oMin2 (dCons (dVar 0) (dLast (dVar 2)))) (dVar 1) (dOp oMax2 (dCons (dVar 0) (dLast (dVar 2)))))
def B_is_within : DenS :=
    B_is_within_0
def F_is_within : Fn := dBody 3 B_is_within
def B_on_piece_1 : DenS :=
    dIfS (dB (dOp oNe (dCons (dCall F_side [] (dCons (dVar 2) (dCons (dVar 3) (dLast (dVar 0))))) (dLast (dC (.int 0)))))) (dRetZ (dC (.bl false))) (dSkip)
def B_on_piece_2 : DenS :=
    dRetZ (dAnd (dCall F_is_within [] (dCons (dOp oIx (dCons (dVar 2) (dLast (dC (.int 0))))) (dCons (dOp oIx (dCons (dVar 0) (dLast (dC (.int 0))))) (dLast (dOp oIx (dCons (dVar 3) (dLast (dC (.int 0))))))))) (dCall F_is_within [] (dCons (dOp oIx (dCons (dVar 2) (dLast (dC (.int 1))))) (dCons (dOp oIx (dCons (dVar 0) (dLast (dC (.int 1))))) (dLast (dOp oIx (dCons (dVar 3) (dLast (dC (.int 1))))))))))
def B_on_piece : DenS :=
    dSeq (dUnp (.tp [.nm 2, .nm 3]) (dVar 1))
    (dSeq (B_on_piece_1)
    (B_on_piece_2))
def F_on_piece : Fn := dBody 4 B_on_piece
def B_l_bag_0 : DenS :=
    dSetZ 1 (dOp oAdd (dCons (dC (.int 31)) (dLast (dOp oLen (dLast (dOp oSlH (dCons (dVar 0) (dLast (dC (.int 63))))))))))
def B_l_bag_1b_0 : DenS :=
    dSetZ 1 (dOp oMod (dCons (dOp oAdd (dCons (dOp oAdd (dCons (dOp oMul (dCons (dVar 1) (dLast (dC (.int 48271))))) (dLast (dOp oMod (dCons (dVar 2) (dLast (dC (.int 2147483629)))))))) (dLast (dC (.int 7))))) (dLast (dC (.int 2147483647)))))
def B_l_bag_1b : DenS :=
    B_l_bag_1b_0
def B_l_bag_1 : DenS :=
    dFor (dIv (dOp oSlH (dCons (dVar 0) (dLast (dC (.int 63)))))) (.nm 2) (B_l_bag_1b) []
def B_l_bag_2 : DenS :=
    dRet (dLst (dCons (dOp oList (dLast (dOp oSlH (dCons (dVar 0) (dLast (dC (.int 63))))))) (dCons (dC (.int 0)) (dCons (dC (.int 0)) (dCons (dVar 1) (dLast (dC (.int 0))))))))
def B_l_bag : DenS :=
    dSeq (B_l_bag_0)
    (dSeq (B_l_bag_1)
    (B_l_bag_2))
def F_l_bag : Fn := dBody 3 B_l_bag
def B_l_pull_0t_0 : DenS :=
    dSetZ 2 (dOp oIx (dCons (dOp oIx (dCons (dVar 0) (dLast (dC (.int 0))))) (dLast (dOp oIx (dCons (dVar 0) (dLast (dC (.int 1))))))))
def B_l_pull_0t_1 : DenS :=
    dPutC (dVar 0) (dC (.int 1)) (dOp oAdd (dCons (dOp oIx (dCons (dVar 0) (dLast (dC (.int 1))))) (dLast (dC (.int 1)))))
def B_l_pull_0t_2e_0 : DenS :=
    dPutC (dVar 0) (dC (.int 3)) (dOp oMod (dCons (dOp oAdd (dCons (dOp oAdd (dCons (dOp oMul (dCons (dOp oIx (dCons (dVar 0) (dLast (dC (.int 3))))) (dLast (dC (.int 40503))))) (dLast (dOp oMod (dCons (dVar 2) (dLast (dC (.int 2147483563)))))))) (dLast (dC (.int 1))))) (dLast (dC (.int 2147483629)))))
def B_l_pull_0t_2 : DenS :=
    dIfS (dB (dOp oGe (dCons (dVar 2) (dLast (dOp oPow (dCons (dC (.int 10)) (dLast (dC (.int 18))))))))) (dPutC (dVar 0) (dC (.int 2)) (dVar 2)) (B_l_pull_0t_2e_0)
def B_l_pull_0 : DenS :=
    dIfS (dAndB (dB (dOp oEq (dCons (dOp oIx (dCons (dVar 0) (dLast (dC (.int 2))))) (dLast (dC (.int 0)))))) (dB (dOp oLt (dCons (dOp oIx (dCons (dVar 0) (dLast (dC (.int 1))))) (dLast (dOp oLen (dLast (dOp oIx (dCons (dVar 0) (dLast (dC (.int 0)))))))))))) (dSeq (B_l_pull_0t_0)
    (dSeq (B_l_pull_0t_1)
    (B_l_pull_0t_2))) (dSkip)
def B_l_pull_1t_0 : DenS :=
    dSetZ 3 (dOp oMod (dCons (dOp oIx (dCons (dVar 0) (dLast (dC (.int 2))))) (dLast (dVar 1))))
def B_l_pull_1t_1 : DenS :=
    dPutC (dVar 0) (dC (.int 2)) (dOp oFdiv (dCons (dOp oIx (dCons (dVar 0) (dLast (dC (.int 2))))) (dLast (dVar 1))))
def B_l_pull_1 : DenS :=
    dIfS (dB (dOp oGt (dCons (dOp oIx (dCons (dVar 0) (dLast (dC (.int 2))))) (dLast (dC (.int 0)))))) (dSeq (B_l_pull_1t_0)
    (dSeq (B_l_pull_1t_1)
    (dRetZ (dVar 3)))) (dSkip)
def B_l_pull_2 : DenS :=
    dPutC (dVar 0) (dC (.int 4)) (dOp oAdd (dCons (dOp oIx (dCons (dVar 0) (dLast (dC (.int 4))))) (dLast (dC (.int 1)))))
def B_l_pull_3 : DenS :=
    dSetZ 4 (dOp oAdd (dCons (dOp oMul (dCons (dOp oIx (dCons (dVar 0) (dLast (dC (.int 3))))) (dLast (dOp oIx (dCons (dVar 0) (dLast (dC (.int 3)))))))) (dLast (dOp oMul (dCons (dOp oMul (dCons (dC (.int 48271)) (dLast (dOp oIx (dCons (dVar 0) (dLast (dC (.int 4)))))))) (dLast (dOp oAdd (dCons (dOp oMod (dCons (dOp oIx (dCons (dVar 0) (dLast (dC (.int 3))))) (dLast (dC (.int 8191))))) (dLast (dC (.int 5)))))))))))
def B_l_pull_4 : DenS :=
    dPutC (dVar 0) (dC (.int 3)) (dOp oMod (dCons (dOp oAdd (dCons (dOp oAdd (dCons (dVar 4) (dLast (dOp oMul (dCons (dOp oMul (dCons (dOp oIx (dCons (dVar 0) (dLast (dC (.int 4))))) (dLast (dOp oIx (dCons (dVar 0) (dLast (dC (.int 4)))))))) (dLast (dOp oIx (dCons (dVar 0) (dLast (dC (.int 4))))))))))) (dLast (dC (.int 12345))))) (dLast (dC (.int 2147483629)))))
def B_l_pull_5 : DenS :=
    dRetZ (dOp oMod (dCons (dOp oAdd (dCons (dOp oFdiv (dCons (dOp oIx (dCons (dVar 0) (dLast (dC (.int 3))))) (dLast (dC (.int 71))))) (dLast (dOp oMul (dCons (dOp oMod (dCons (dOp oIx (dCons (dVar 0) (dLast (dC (.int 3))))) (dLast (dC (.int 7919))))) (dLast (dC (.int 37)))))))) (dLast (dVar 1))))
def B_l_pull : DenS :=
    dSeq (B_l_pull_0)
    (dSeq (B_l_pull_1)
    (dSeq (B_l_pull_2)
    (dSeq (B_l_pull_3)
    (dSeq (B_l_pull_4)
    (B_l_pull_5)))))
def F_l_pull : Fn := dBody 5 B_l_pull
def B_l_same_0t_0 (rec : Fn) : DenS :=
    dRetZ (dAnd (dOp oIsN (dCons (dVar 1) (dLast (dC .non)))) (dOp oIsN (dCons (dVar 0) (dLast (dC .non)))))
def B_l_same_0 (rec : Fn) : DenS :=
    dIfS (dOrB (dB (dOp oIsN (dCons (dVar 1) (dLast (dC .non))))) (dB (dOp oIsN (dCons (dVar 0) (dLast (dC .non)))))) (B_l_same_0t_0 rec) (dSkip)
def B_l_same_1t_0 (rec : Fn) : DenS :=
    dRetZ (dAnd (dIsi [.bl] (dVar 1)) (dAnd (dIsi [.bl] (dVar 0)) (dOp oEq (dCons (dVar 0) (dLast (dVar 1))))))
def B_l_same_1 (rec : Fn) : DenS :=
    dIfS (dOrB (dB (dIsi [.bl] (dVar 1))) (dB (dIsi [.bl] (dVar 0)))) (B_l_same_1t_0 rec) (dSkip)
def B_l_same_2t_0 (rec : Fn) : DenS :=
    dRetZ (dAnd (dOp oEq (dCons (dIsi [.int] (dVar 0)) (dLast (dIsi [.int] (dVar 1))))) (dOp oEq (dCons (dVar 0) (dLast (dVar 1)))))
def B_l_same_2 (rec : Fn) : DenS :=
    dIfS (dB (dIsi [.int, .str] (dVar 1))) (B_l_same_2t_0 rec) (dSkip)
def B_l_same_3 (rec : Fn) : DenS :=
    dIfS (dOrB (dB (dOp oNe (dCons (dIsi [.lst] (dVar 1)) (dLast (dIsi [.lst] (dVar 0)))))) (dB (dOp oNe (dCons (dIsi [.tup] (dVar 1)) (dLast (dIsi [.tup] (dVar 0))))))) (dRetZ (dC (.bl false))) (dSkip)
def B_l_same_4 (rec : Fn) : DenS :=
    dRetZ (dAnd (dOp oEq (dCons (dOp oLen (dLast (dVar 0))) (dLast (dOp oLen (dLast (dVar 1)))))) (dOp oAll (dLast (dLc (dRng1 (dLast (dOp oLen (dLast (dVar 1))))) [2] (.nm 2) (dYes) (dCall rec [] (dCons (dOp oIx (dCons (dVar 0) (dLast (dVar 2)))) (dLast (dOp oIx (dCons (dVar 1) (dLast (dVar 2)))))))))))
def B_l_same (rec : Fn) : DenS :=
    dSeq (B_l_same_0 rec)
    (dSeq (B_l_same_1 rec)
    (dSeq (B_l_same_2 rec)
    (dSeq (B_l_same_3 rec)
    (B_l_same_4 rec))))
def F_l_same : Nat → Fn
  | 0 => fun _ _ => .stuck
  | m + 1 => dBody 3 (B_l_same (F_l_same m))
def B_l_cross_0 : DenS :=
    dRetZ (dOp oSub (dCons (dOp oMul (dCons (dOp oSub (dCons (dOp oIx (dCons (dVar 1) (dLast (dC (.int 0))))) (dLast (dOp oIx (dCons (dVar 0) (dLast (dC (.int 0)))))))) (dLast (dOp oSub (dCons (dOp oIx (dCons (dVar 2) (dLast (dC (.int 1))))) (dLast (dOp oIx (dCons (dVar 0) (dLast (dC (.int 1))))))))))) (dLast (dOp oMul (dCons (dOp oSub (dCons (dOp oIx (dCons (dVar 1) (dLast (dC (.int 1))))) (dLast (dOp oIx (dCons (dVar 0) (dLast (dC (.int 1)))))))) (dLast (dOp oSub (dCons (dOp oIx (dCons (dVar 2) (dLast (dC (.int 0))))) (dLast (dOp oIx (dCons (dVar 0) (dLast (dC (.int 0))))))))))))))
def B_l_cross : DenS :=
    B_l_cross_0
def F_l_cross : Fn := dBody 3 B_l_cross
def B_l_touch_0 : DenS :=
    dIfS (dB (dOp oNe (dCons (dCall F_l_cross [] (dCons (dVar 0) (dCons (dVar 1) (dLast (dVar 2))))) (dLast (dC (.int 0)))))) (dRetZ (dC (.bl false))) (dSkip)
def B_l_touch_1 : DenS :=
    dRetZ (dAnd (dChain oLe oLe (dOp oMin2 (dCons (dOp oIx (dCons (dVar 0) (dLast (dC (.int 0))))) (dLast (dOp oIx (dCons (dVar 1) (dLast (dC (.int 0)))))))) (dOp oIx (dCons (dVar 2) (dLast (dC (.int 0))))) (dOp oMax2 (dCons (dOp oIx (dCons (dVar 0) (dLast (dC (.int 0))))) (dLast (dOp oIx (dCons (dVar 1) (dLast (dC (.int 0))))))))) (dChain oLe oLe (dOp oMin2 (dCons (dOp oIx (dCons (dVar 0) (dLast (dC (.int 1))))) (dLast (dOp oIx (dCons (dVar 1) (dLast (dC (.int 1)))))))) (dOp oIx (dCons (dVar 2) (dLast (dC (.int 1))))) (dOp oMax2 (dCons (dOp oIx (dCons (dVar 0) (dLast (dC (.int 1))))) (dLast (dOp oIx (dCons (dVar 1) (dLast (dC (.int 1))))))))))
def B_l_touch : DenS :=
    dSeq (B_l_touch_0)
    (B_l_touch_1)
def F_l_touch : Fn := dBody 3 B_l_touch
def B_l_wider_0 : DenS :=
    dRetZ (dTup (dCons (dOp oMul (dCons (dOp oIx (dCons (dVar 0) (dLast (dC (.int 0))))) (dLast (dVar 1)))) (dLast (dOp oMul (dCons (dOp oIx (dCons (dVar 0) (dLast (dC (.int 1))))) (dLast (dVar 1)))))))
def B_l_wider : DenS :=
    B_l_wider_0
def F_l_wider : Fn := dBody 2 B_l_wider
def B_l_grid_0 : DenS :=
    dSetZ 1 (dCall F_l_pull [] (dCons (dVar 0) (dLast (dC (.int 6)))))
def B_l_grid_1t_0 : DenS :=
    dRetZ (dTup (dCons (dC (.int 4)) (dCons (dC (.int 0)) (dLast (dC (.int 0))))))
def B_l_grid_1 : DenS :=
    dIfS (dB (dOp oLt (dCons (dVar 1) (dLast (dC (.int 4)))))) (B_l_grid_1t_0) (dSkip)
def B_l_grid_2t_0 : DenS :=
    dRetZ (dTup (dCons (dOp oAdd (dCons (dC (.int 1)) (dLast (dCall F_l_pull [] (dCons (dVar 0) (dLast (dC (.int 60)))))))) (dCons (dC (.int 0)) (dLast (dC (.int 0))))))
def B_l_grid_2 : DenS :=
    dIfS (dB (dOp oEq (dCons (dVar 1) (dLast (dC (.int 4)))))) (B_l_grid_2t_0) (dSkip)
def B_l_grid_3 : DenS :=
    dRetZ (dTup (dCons (dC (.int 5)) (dCons (dOp oMul (dCons (dOp oSub (dCons (dOp oPow (dCons (dC (.int 10)) (dLast (dC (.int 6))))) (dLast (dC (.int 5))))) (dLast (dOp oSub (dCons (dOp oMul (dCons (dC (.int 2)) (dLast (dCall F_l_pull [] (dCons (dVar 0) (dLast (dC (.int 2)))))))) (dLast (dC (.int 1)))))))) (dLast (dOp oMul (dCons (dOp oSub (dCons (dOp oPow (dCons (dC (.int 10)) (dLast (dC (.int 6))))) (dLast (dC (.int 5))))) (dLast (dOp oSub (dCons (dCall F_l_pull [] (dCons (dVar 0) (dLast (dC (.int 3))))) (dLast (dC (.int 1))))))))))))
def B_l_grid : DenS :=
    dSeq (B_l_grid_0)
    (dSeq (B_l_grid_1)
    (dSeq (B_l_grid_2)
    (B_l_grid_3)))
def F_l_grid : Fn := dBody 2 B_l_grid
def B_l_spot_1 : DenS :=
    dSetZ 5 (dOp oSub (dCons (dOp oAdd (dCons (dVar 3) (dLast (dCall F_l_pull [] (dCons (dVar 0) (dLast (dOp oAdd (dCons (dOp oMul (dCons (dC (.int 2)) (dLast (dVar 2)))) (dLast (dC (.int 1))))))))))) (dLast (dVar 2))))
def B_l_spot_2 : DenS :=
    dRetZ (dTup (dCons (dVar 5) (dLast (dOp oSub (dCons (dOp oAdd (dCons (dVar 4) (dLast (dCall F_l_pull [] (dCons (dVar 0) (dLast (dOp oAdd (dCons (dOp oMul (dCons (dC (.int 2)) (dLast (dVar 2)))) (dLast (dC (.int 1))))))))))) (dLast (dVar 2)))))))
def B_l_spot : DenS :=
    dSeq (dUnp (.tp [.nm 2, .nm 3, .nm 4]) (dVar 1))
    (dSeq (B_l_spot_1)
    (B_l_spot_2))
def F_l_spot : Fn := dBody 6 B_l_spot
def B_law_1b_1 : DenS :=
    dUnp (.tp [.nm 4, .nm 5, .nm 6]) (dLc (dRng1 (dLast (dC (.int 3)))) [12] (.nm 12) (dYes) (dCall F_l_spot [] (dCons (dVar 1) (dLast (dVar 3)))))
def B_law_1b_2 : DenS :=
    dIfS (dB (dOp oEq (dCons (dCall F_l_pull [] (dCons (dVar 1) (dLast (dC (.int 5))))) (dLast (dC (.int 0)))))) (dSetZ 5 (dVar 4)) (dSkip)
def B_law_1b_3 : DenS :=
    dSetZ 7 (dCall F_l_pull [] (dCons (dVar 1) (dLast (dC (.int 6)))))
def B_law_1b_4t_0 : DenS :=
    dSetZ 8 (dOp oIx (dCons (dLst (dCons (dC (.int 2)) (dLast (dOp oSub (dCons (dC (.int 0)) (dLast (dC (.int 1)))))))) (dLast (dVar 7))))
def B_law_1b_4t_1 : DenS :=
    dSetZ 6 (dTup (dCons (dOp oAdd (dCons (dOp oIx (dCons (dVar 4) (dLast (dC (.int 0))))) (dLast (dOp oMul (dCons (dVar 8) (dLast (dOp oSub (dCons (dOp oIx (dCons (dVar 5) (dLast (dC (.int 0))))) (dLast (dOp oIx (dCons (dVar 4) (dLast (dC (.int 0)))))))))))))) (dLast (dOp oAdd (dCons (dOp oIx (dCons (dVar 4) (dLast (dC (.int 1))))) (dLast (dOp oMul (dCons (dVar 8) (dLast (dOp oSub (dCons (dOp oIx (dCons (dVar 5) (dLast (dC (.int 1))))) (dLast (dOp oIx (dCons (dVar 4) (dLast (dC (.int 1)))))))))))))))))
def B_law_1b_4 : DenS :=
    dIfS (dB (dOp oLt (dCons (dVar 7) (dLast (dC (.int 2)))))) (dSeq (B_law_1b_4t_0)
    (B_law_1b_4t_1)) (dSkip)
def B_law_1b_5 : DenS :=
    dSetZ 9 (dOp oIx (dCons (dLst (dCons (dC (.int 1)) (dLast (dOp oPow (dCons (dC (.int 10)) (dLast (dC (.int 22)))))))) (dLast (dOp oInt1 (dLast (dOp oEq (dCons (dCall F_l_pull [] (dCons (dVar 1) (dLast (dC (.int 4))))) (dLast (dC (.int 0))))))))))
def B_law_1b_6 : DenS :=
    dUnp (.tp [.nm 4, .nm 5, .nm 6]) (dLc (dIv (dTup (dCons (dVar 4) (dCons (dVar 5) (dLast (dVar 6)))))) [13] (.nm 13) (dYes) (dCall F_l_wider [] (dCons (dVar 13) (dLast (dVar 9)))))
def B_law_1b_7 : DenS :=
    dSetZ 10 (dCall F_l_cross [] (dCons (dVar 4) (dCons (dVar 5) (dLast (dVar 6)))))
def B_law_1b_8 : DenS :=
    dSetZ 11 (dIf (dB (dOp oLt (dCons (dVar 10) (dLast (dC (.int 0)))))) (dOp oNeg (dLast (dC (.int 1)))) (dOp oInt1 (dLast (dOp oGt (dCons (dVar 10) (dLast (dC (.int 0))))))))
def B_law_1b_9 : DenS :=
    dIfS (dNotB (dB (dCall (F_l_same 4) [] (dCons (dLst (dCons (dCall F_side [] (dCons (dVar 4) (dCons (dVar 5) (dLast (dVar 6))))) (dLast (dCall F_side [] (dCons (dVar 5) (dCons (dVar 4) (dLast (dVar 6)))))))) (dLast (dLst (dCons (dVar 11) (dLast (dOp oSub (dCons (dC (.int 0)) (dLast (dVar 11)))))))))))) (dRetZ (dC (.bl false))) (dSkip)
def B_law_1b_10 : DenS :=
    dIfS (dNotB (dB (dCall (F_l_same 4) [] (dCons (dLst (dCons (dCall F_on_piece [] (dCons (dVar 6) (dLast (dTup (dCons (dVar 4) (dLast (dVar 5))))))) (dLast (dCall F_on_piece [] (dCons (dVar 4) (dLast (dTup (dCons (dVar 4) (dLast (dVar 5)))))))))) (dLast (dLst (dCons (dCall F_l_touch [] (dCons (dVar 4) (dCons (dVar 5) (dLast (dVar 6))))) (dLast (dC (.bl true)))))))))) (dRetZ (dC (.bl false))) (dSkip)
def B_law_1b : DenS :=
    dSeq (dSetZ 3 (dCall F_l_grid [] (dLast (dVar 1))))
    (dSeq (B_law_1b_1)
    (dSeq (B_law_1b_2)
    (dSeq (B_law_1b_3)
    (dSeq (B_law_1b_4)
    (dSeq (B_law_1b_5)
    (dSeq (B_law_1b_6)
    (dSeq (B_law_1b_7)
    (dSeq (B_law_1b_8)
    (dSeq (B_law_1b_9)
    (B_law_1b_10))))))))))
def B_law : DenS :=
    dSeq (dSet 1 (dCall F_l_bag [] (dLast (dVar 0))))
    (dPub 1 (dSeq (dFor (dRng1 (dLast (dC (.int 8)))) (.nm 2) (B_law_1b) [])
    (dRetZ (dC (.bl true)))))
def F_law : Fn := dBody 14 B_law
structure Env (S : Sx) : Prop where
  b_all : S.mg "all" = none
  b_bool : S.mg "bool" = none
  b_int : S.mg "int" = none
  b_isinstance : S.mg "isinstance" = none
  b_len : S.mg "len" = none
  b_list : S.mg "list" = none
  b_max : S.mg "max" = none
  b_min : S.mg "min" = none
  b_range : S.mg "range" = none
  b_str : S.mg "str" = none
  b_tuple : S.mg "tuple" = none
  k_corner_room : Kn S "corner_room" (top 1)
  k_side : Kn S "side" (top 2)
  k_is_within : Kn S "is_within" (top 3)
  k_on_piece : Kn S "on_piece" (top 4)
  k_l_bag : Kn S "_law_bag" (top 6)
  k_l_pull : Kn S "_law_pull" (top 7)
  k_l_same : Kn S "_law_same" (top 8)
  k_l_cross : Kn S "_law_cross" (top 9)
  k_l_touch : Kn S "_law_touch" (top 10)
  k_l_wider : Kn S "_law_wider" (top 11)
  k_l_grid : Kn S "_law_grid" (top 12)
  k_l_spot : Kn S "_law_spot" (top 13)
  k_law : Kn S "law" (top 14)
section
variable {S : Sx}
theorem sc_corner_room : FnScope ["one", "other", "place"] ["one", "other", "place"] (defScope (top 1)) := ⟨rfl, rfl, rfl, by decide +kernel, rfl, by decide +kernel, by decide +kernel⟩
theorem bn_corner_room : BindN "corner_room" (top 1) ["one", "other", "place"] := (fun _ _ _ _ _ _ us hl => match us, hl with | [_, _, _], _ => rfl)
theorem ds_corner_room (E : Env S) : DSs (S.at ["one", "other", "place"] (defScope (top 1)) 0) (defBody (top 1)) B_corner_room := by
  exact (dss_one (ds_retZ (de_sub (de_mul (de_sub (de_ixs (de_var (i := 1) rfl (.inl (by kernel_rfl)) (by kernel_rfl) (by kernel_rfl)) de_int rfl) (de_ixs (de_var (i := 0) rfl (.inl (by kernel_rfl)) (by kernel_rfl) (by kernel_rfl)) de_int rfl)) (de_sub (de_ixs (de_var (i := 2) rfl (.inl (by kernel_rfl)) (by kernel_rfl) (by kernel_rfl)) de_int rfl) (de_ixs (de_var (i := 0) rfl (.inl (by kernel_rfl)) (by kernel_rfl) (by kernel_rfl)) de_int rfl))) (de_mul (de_sub (de_ixs (de_var (i := 1) rfl (.inl (by kernel_rfl)) (by kernel_rfl) (by kernel_rfl)) de_int rfl) (de_ixs (de_var (i := 0) rfl (.inl (by kernel_rfl)) (by kernel_rfl) (by kernel_rfl)) de_int rfl)) (de_sub (de_ixs (de_var (i := 2) rfl (.inl (by kernel_rfl)) (by kernel_rfl) (by kernel_rfl)) de_int rfl) (de_ixs (de_var (i := 0) rfl (.inl (by kernel_rfl)) (by kernel_rfl) (by kernel_rfl)) de_int rfl))))))
theorem g_corner_room (E : Env S) : Good S "corner_room" 3 F_corner_room [] 1 := good_fn (N := ["one", "other", "place"]) (ps := ["one", "other", "place"]) (k := 0) (db := B_corner_room) E.k_corner_room sc_corner_room (ds_corner_room E) bn_corner_room rfl
theorem sc_side : FnScope ["one", "other", "place", "found"] ["one", "other", "place"] (defScope (top 2)) := ⟨rfl, rfl, rfl, by decide +kernel, rfl, by decide +kernel, by decide +kernel⟩
theorem bn_side : BindN "side" (top 2) ["one", "other", "place"] := (fun _ _ _ _ _ _ us hl => match us, hl with | [_, _, _], _ => rfl)
theorem ds_side (E : Env S) : DSs (S.at ["one", "other", "place", "found"] (defScope (top 2)) 1) (defBody (top 2)) B_side := by
  have g_corner_room := g_corner_room E
  exact (dss_cons (ds_setZ (i := 3) rfl (.inl (by kernel_rfl)) (.inl rfl) (de_call g_corner_room.at (show 1 ≤ 1 by decide) (by kernel_rfl) (by kernel_rfl) (da_cons (de_var (i := 0) rfl (.inl (by kernel_rfl)) (by kernel_rfl) (by kernel_rfl)) (da_cons (de_var (i := 1) rfl (.inl (by kernel_rfl)) (by kernel_rfl) (by kernel_rfl)) (da_last (de_var (i := 2) rfl (.inl (by kernel_rfl)) (by kernel_rfl) (by kernel_rfl)) (fun _ _ z => by cases z)) (fun _ _ z => by cases z)) (fun _ _ z => by cases z)) rfl rfl (len_cons (len_cons len_last))) rfl)
    (dss_one (ds_retZ (de_sub (de_c ci_gt (de_var (i := 3) rfl (.inl (by kernel_rfl)) (by kernel_rfl) (by kernel_rfl)) de_int rfl) (de_c ci_lt (de_var (i := 3) rfl (.inl (by kernel_rfl)) (by kernel_rfl) (by kernel_rfl)) de_int rfl)))))
theorem g_side (E : Env S) : Good S "side" 3 F_side [] 2 := good_fn (N := ["one", "other", "place", "found"]) (ps := ["one", "other", "place"]) (k := 1) (db := B_side) E.k_side sc_side (ds_side E) bn_side rfl
theorem sc_is_within : FnScope ["low", "number", "high"] ["low", "number", "high"] (defScope (top 3)) := ⟨rfl, rfl, rfl, by decide +kernel, rfl, by decide +kernel, by decide +kernel⟩
theorem bn_is_within : BindN "is_within" (top 3) ["low", "number", "high"] := (fun _ _ _ _ _ _ us hl => match us, hl with | [_, _, _], _ => rfl)
theorem ds_is_within (E : Env S) : DSs (S.at ["low", "number", "high"] (defScope (top 3)) 0) (defBody (top 3)) B_is_within := by
  exact (dss_one (ds_retZ (de_chain ci_le ci_le (bi_min2 (by kernel_rfl) E.b_min (de_var (i := 0) rfl (.inl (by kernel_rfl)) (by kernel_rfl) (by kernel_rfl)) (de_var (i := 2) rfl (.inl (by kernel_rfl)) (by kernel_rfl) (by kernel_rfl)) rfl) (de_var (i := 1) rfl (.inl (by kernel_rfl)) (by kernel_rfl) (by kernel_rfl)) (bi_max2 (by kernel_rfl) E.b_max (de_var (i := 0) rfl (.inl (by kernel_rfl)) (by kernel_rfl) (by kernel_rfl)) (de_var (i := 2) rfl (.inl (by kernel_rfl)) (by kernel_rfl) (by kernel_rfl)) rfl) rfl rfl)))
theorem g_is_within (E : Env S) : Good S "is_within" 3 F_is_within [] 1 := good_fn (N := ["low", "number", "high"]) (ps := ["low", "number", "high"]) (k := 0) (db := B_is_within) E.k_is_within sc_is_within (ds_is_within E) bn_is_within rfl
theorem sc_on_piece : FnScope ["place", "piece", "one", "other"] ["place", "piece"] (defScope (top 4)) := ⟨rfl, rfl, rfl, by decide +kernel, rfl, by decide +kernel, by decide +kernel⟩
theorem bn_on_piece : BindN "on_piece" (top 4) ["place", "piece"] := (fun _ _ _ _ _ _ us hl => match us, hl with | [_, _], _ => rfl)
theorem ds_on_piece (E : Env S) : DSs (S.at ["place", "piece", "one", "other"] (defScope (top 4)) 2) (defBody (top 4)) B_on_piece := by
  have g_side := g_side E
  have g_is_within := g_is_within E
  exact (dss_cons (ds_unpT (dg_tup (dgs_cons (dg_nm (i := 2) rfl (.inl (by kernel_rfl)) (.inl rfl)) (dgs_cons (dg_nm (i := 3) rfl (.inl (by kernel_rfl)) (.inl rfl)) dgs_nil (fun _ _ z => by cases z)) (fun _ _ z => by cases z)) rfl rfl) (de_var (i := 1) rfl (.inl (by kernel_rfl)) (by kernel_rfl) (by kernel_rfl)) rfl)
    (dss_cons (ds_if (dt_c ci_ne (de_call g_side.at (show 2 ≤ 2 by decide) (by kernel_rfl) (by kernel_rfl) (da_cons (de_var (i := 2) rfl (.inl (by kernel_rfl)) (by kernel_rfl) (by kernel_rfl)) (da_cons (de_var (i := 3) rfl (.inl (by kernel_rfl)) (by kernel_rfl) (by kernel_rfl)) (da_last (de_var (i := 0) rfl (.inl (by kernel_rfl)) (by kernel_rfl) (by kernel_rfl)) (fun _ _ z => by cases z)) (fun _ _ z => by cases z)) (fun _ _ z => by cases z)) rfl rfl (len_cons (len_cons len_last))) de_int rfl) (dss_one (ds_retZ de_bl)) dss_nil)
    (dss_one (ds_retZ (de_and (de_call g_is_within.at (show 1 ≤ 2 by decide) (by kernel_rfl) (by kernel_rfl) (da_cons (de_ixs (de_var (i := 2) rfl (.inl (by kernel_rfl)) (by kernel_rfl) (by kernel_rfl)) de_int rfl) (da_cons (de_ixs (de_var (i := 0) rfl (.inl (by kernel_rfl)) (by kernel_rfl) (by kernel_rfl)) de_int rfl) (da_last (de_ixs (de_var (i := 3) rfl (.inl (by kernel_rfl)) (by kernel_rfl) (by kernel_rfl)) de_int rfl) (fun _ _ z => by cases z)) (fun _ _ z => by cases z)) (fun _ _ z => by cases z)) rfl rfl (len_cons (len_cons len_last))) (de_one (de_call g_is_within.at (show 1 ≤ 2 by decide) (by kernel_rfl) (by kernel_rfl) (da_cons (de_ixs (de_var (i := 2) rfl (.inl (by kernel_rfl)) (by kernel_rfl) (by kernel_rfl)) de_int rfl) (da_cons (de_ixs (de_var (i := 0) rfl (.inl (by kernel_rfl)) (by kernel_rfl) (by kernel_rfl)) de_int rfl) (da_last (de_ixs (de_var (i := 3) rfl (.inl (by kernel_rfl)) (by kernel_rfl) (by kernel_rfl)) de_int rfl) (fun _ _ z => by cases z)) (fun _ _ z => by cases z)) (fun _ _ z => by cases z)) rfl rfl (len_cons (len_cons len_last)))))))))
theorem g_on_piece (E : Env S) : Good S "on_piece" 2 F_on_piece [] 3 := good_fn (N := ["place", "piece", "one", "other"]) (ps := ["place", "piece"]) (k := 2) (db := B_on_piece) E.k_on_piece sc_on_piece (ds_on_piece E) bn_on_piece rfl
theorem sc_l_bag : FnScope ["_law_script", "_law_salt", "_law_cell"] ["_law_script"] (defScope (top 6)) := ⟨rfl, rfl, rfl, by decide +kernel, rfl, by decide +kernel, by decide +kernel⟩
theorem bn_l_bag : BindN "_law_bag" (top 6) ["_law_script"] := (fun _ _ _ _ _ _ us hl => match us, hl with | [_], _ => rfl)
theorem ds_l_bag (E : Env S) : DSs (S.at ["_law_script", "_law_salt", "_law_cell"] (defScope (top 6)) 0) (defBody (top 6)) B_l_bag := by
  exact (dss_cons (ds_setZ (i := 1) rfl (.inl (by kernel_rfl)) (.inl rfl) (de_add de_int (bi_len (by kernel_rfl) E.b_len (de_slH (de_var (i := 0) rfl (.inl (by kernel_rfl)) (by kernel_rfl) (by kernel_rfl)) de_int) rfl)) rfl)
    (dss_cons (ds_for (di_val (de_slH (de_var (i := 0) rfl (.inl (by kernel_rfl)) (by kernel_rfl) (by kernel_rfl)) de_int)) (dg_nm (i := 2) rfl (.inl (by kernel_rfl)) (.inl rfl)) (dss_one (ds_setZ (i := 1) rfl (.inl (by kernel_rfl)) (.inl rfl) (de_mod (de_add (de_add (de_mul (de_var (i := 1) rfl (.inl (by kernel_rfl)) (by kernel_rfl) (by kernel_rfl)) de_int) (de_mod (de_var (i := 2) rfl (.inl (by kernel_rfl)) (by kernel_rfl) (by kernel_rfl)) de_int)) de_int) de_int) rfl)) rfl)
    (dss_one (ds_ret (de_lst (da_cons (bi_list (by kernel_rfl) E.b_list (de_slH (de_var (i := 0) rfl (.inl (by kernel_rfl)) (by kernel_rfl) (by kernel_rfl)) de_int) rfl) (da_cons de_int (da_cons de_int (da_cons (de_var (i := 1) rfl (.inl (by kernel_rfl)) (by kernel_rfl) (by kernel_rfl)) (da_last de_int (fun _ _ z => by cases z)) (fun _ _ z => by cases z)) (fun _ _ z => by cases z)) (fun _ _ z => by cases z)) (fun _ _ z => by cases z)))))))
theorem g_l_bag (E : Env S) : Good S "_law_bag" 1 F_l_bag [] 1 := good_fn (N := ["_law_script", "_law_salt", "_law_cell"]) (ps := ["_law_script"]) (k := 0) (db := B_l_bag) E.k_l_bag sc_l_bag (ds_l_bag E) bn_l_bag rfl
theorem sc_l_pull : FnScope ["_law_bag_here", "_law_many", "_law_cell", "_law_got", "_law_wider_here"] ["_law_bag_here", "_law_many"] (defScope (top 7)) := ⟨rfl, rfl, rfl, by decide +kernel, rfl, by decide +kernel, by decide +kernel⟩
theorem bn_l_pull : BindN "_law_pull" (top 7) ["_law_bag_here", "_law_many"] := (fun _ _ _ _ _ _ us hl => match us, hl with | [_, _], _ => rfl)
theorem ds_l_pull (E : Env S) : DSs (S.at ["_law_bag_here", "_law_many", "_law_cell", "_law_got", "_law_wider_here"] (defScope (top 7)) 0) (defBody (top 7)) B_l_pull := by
  exact (dss_cons (ds_if (dt_w (dw_and (dt_c ci_eq (de_ixs (de_var (i := 0) rfl (.inl (by kernel_rfl)) (by kernel_rfl) (by kernel_rfl)) de_int rfl) de_int rfl) (dw_and1 (dt_c ci_lt (de_ixs (de_var (i := 0) rfl (.inl (by kernel_rfl)) (by kernel_rfl) (by kernel_rfl)) de_int rfl) (bi_len (by kernel_rfl) E.b_len (de_ixs (de_var (i := 0) rfl (.inl (by kernel_rfl)) (by kernel_rfl) (by kernel_rfl)) de_int rfl) rfl) rfl)))) (dss_cons (ds_setZ (i := 2) rfl (.inl (by kernel_rfl)) (.inl rfl) (de_ixs (de_ixs (de_var (i := 0) rfl (.inl (by kernel_rfl)) (by kernel_rfl) (by kernel_rfl)) de_int rfl) (de_ixs (de_var (i := 0) rfl (.inl (by kernel_rfl)) (by kernel_rfl) (by kernel_rfl)) de_int rfl) rfl) rfl)
    (dss_cons (ds_putc (de_var (i := 0) rfl (.inl (by kernel_rfl)) (by kernel_rfl) (by kernel_rfl)) de_int (de_add (de_ixs (de_var (i := 0) rfl (.inl (by kernel_rfl)) (by kernel_rfl) (by kernel_rfl)) de_int rfl) de_int) rfl rfl rfl)
    (dss_one (ds_if (dt_c ci_ge (de_var (i := 2) rfl (.inl (by kernel_rfl)) (by kernel_rfl) (by kernel_rfl)) (de_pow de_int de_int) rfl) (dss_one (ds_putc (de_var (i := 0) rfl (.inl (by kernel_rfl)) (by kernel_rfl) (by kernel_rfl)) de_int (de_var (i := 2) rfl (.inl (by kernel_rfl)) (by kernel_rfl) (by kernel_rfl)) rfl rfl rfl)) (dss_one (ds_putc (de_var (i := 0) rfl (.inl (by kernel_rfl)) (by kernel_rfl) (by kernel_rfl)) de_int (de_mod (de_add (de_add (de_mul (de_ixs (de_var (i := 0) rfl (.inl (by kernel_rfl)) (by kernel_rfl) (by kernel_rfl)) de_int rfl) de_int) (de_mod (de_var (i := 2) rfl (.inl (by kernel_rfl)) (by kernel_rfl) (by kernel_rfl)) de_int)) de_int) de_int) rfl rfl rfl)))))) dss_nil)
    (dss_cons (ds_if (dt_c ci_gt (de_ixs (de_var (i := 0) rfl (.inl (by kernel_rfl)) (by kernel_rfl) (by kernel_rfl)) de_int rfl) de_int rfl) (dss_cons (ds_setZ (i := 3) rfl (.inl (by kernel_rfl)) (.inl rfl) (de_mod (de_ixs (de_var (i := 0) rfl (.inl (by kernel_rfl)) (by kernel_rfl) (by kernel_rfl)) de_int rfl) (de_var (i := 1) rfl (.inl (by kernel_rfl)) (by kernel_rfl) (by kernel_rfl))) rfl)
    (dss_cons (ds_putc (de_var (i := 0) rfl (.inl (by kernel_rfl)) (by kernel_rfl) (by kernel_rfl)) de_int (de_fdiv (de_ixs (de_var (i := 0) rfl (.inl (by kernel_rfl)) (by kernel_rfl) (by kernel_rfl)) de_int rfl) (de_var (i := 1) rfl (.inl (by kernel_rfl)) (by kernel_rfl) (by kernel_rfl))) rfl rfl rfl)
    (dss_one (ds_retZ (de_var (i := 3) rfl (.inl (by kernel_rfl)) (by kernel_rfl) (by kernel_rfl)))))) dss_nil)
    (dss_cons (ds_putc (de_var (i := 0) rfl (.inl (by kernel_rfl)) (by kernel_rfl) (by kernel_rfl)) de_int (de_add (de_ixs (de_var (i := 0) rfl (.inl (by kernel_rfl)) (by kernel_rfl) (by kernel_rfl)) de_int rfl) de_int) rfl rfl rfl)
    (dss_cons (ds_setZ (i := 4) rfl (.inl (by kernel_rfl)) (.inl rfl) (de_add (de_mul (de_ixs (de_var (i := 0) rfl (.inl (by kernel_rfl)) (by kernel_rfl) (by kernel_rfl)) de_int rfl) (de_ixs (de_var (i := 0) rfl (.inl (by kernel_rfl)) (by kernel_rfl) (by kernel_rfl)) de_int rfl)) (de_mul (de_mul de_int (de_ixs (de_var (i := 0) rfl (.inl (by kernel_rfl)) (by kernel_rfl) (by kernel_rfl)) de_int rfl)) (de_add (de_mod (de_ixs (de_var (i := 0) rfl (.inl (by kernel_rfl)) (by kernel_rfl) (by kernel_rfl)) de_int rfl) de_int) de_int))) rfl)
    (dss_cons (ds_putc (de_var (i := 0) rfl (.inl (by kernel_rfl)) (by kernel_rfl) (by kernel_rfl)) de_int (de_mod (de_add (de_add (de_var (i := 4) rfl (.inl (by kernel_rfl)) (by kernel_rfl) (by kernel_rfl)) (de_mul (de_mul (de_ixs (de_var (i := 0) rfl (.inl (by kernel_rfl)) (by kernel_rfl) (by kernel_rfl)) de_int rfl) (de_ixs (de_var (i := 0) rfl (.inl (by kernel_rfl)) (by kernel_rfl) (by kernel_rfl)) de_int rfl)) (de_ixs (de_var (i := 0) rfl (.inl (by kernel_rfl)) (by kernel_rfl) (by kernel_rfl)) de_int rfl))) de_int) de_int) rfl rfl rfl)
    (dss_one (ds_retZ (de_mod (de_add (de_fdiv (de_ixs (de_var (i := 0) rfl (.inl (by kernel_rfl)) (by kernel_rfl) (by kernel_rfl)) de_int rfl) de_int) (de_mul (de_mod (de_ixs (de_var (i := 0) rfl (.inl (by kernel_rfl)) (by kernel_rfl) (by kernel_rfl)) de_int rfl) de_int) de_int)) (de_var (i := 1) rfl (.inl (by kernel_rfl)) (by kernel_rfl) (by kernel_rfl))))))))))
theorem g_l_pull (E : Env S) : Good S "_law_pull" 2 F_l_pull [] 1 := good_fn (N := ["_law_bag_here", "_law_many", "_law_cell", "_law_got", "_law_wider_here"]) (ps := ["_law_bag_here", "_law_many"]) (k := 0) (db := B_l_pull) E.k_l_pull sc_l_pull (ds_l_pull E) bn_l_pull rfl
theorem sc_l_same : FnScope ["_law_got", "_law_due", "_law_k"] ["_law_got", "_law_due"] (defScope (top 8)) := ⟨rfl, rfl, rfl, by decide +kernel, rfl, by decide +kernel, by decide +kernel⟩
theorem bn_l_same : BindN "_law_same" (top 8) ["_law_got", "_law_due"] := (fun _ _ _ _ _ _ us hl => match us, hl with | [_, _], _ => rfl)
theorem ds_l_same (E : Env S) (m : Nat) (g_rec : Good S "_law_same" 2 (F_l_same m) [] (1 + m)) : DSs (S.at ["_law_got", "_law_due", "_law_k"] (defScope (top 8)) (1 + m)) (defBody (top 8)) (B_l_same (F_l_same m)) := by
  exact (dss_cons (ds_if (dt_w (dw_or (dt_c ci_is (de_var (i := 1) rfl (.inr (.inl (by kernel_rfl))) (by kernel_rfl) (by kernel_rfl)) de_non rfl) (dw_or1 (dt_c ci_is (de_var (i := 0) rfl (.inr (.inl (by kernel_rfl))) (by kernel_rfl) (by kernel_rfl)) de_non rfl)))) (dss_one (ds_retZ (de_and (de_c ci_is (de_var (i := 1) rfl (.inr (.inl (by kernel_rfl))) (by kernel_rfl) (by kernel_rfl)) de_non rfl) (de_one (de_c ci_is (de_var (i := 0) rfl (.inr (.inl (by kernel_rfl))) (by kernel_rfl) (by kernel_rfl)) de_non rfl))))) dss_nil)
    (dss_cons (ds_if (dt_w (dw_or (dt_val (de_isi (by kernel_rfl) E.b_isinstance (de_var (i := 1) rfl (.inr (.inl (by kernel_rfl))) (by kernel_rfl) (by kernel_rfl)) rfl (by kernel_rfl) E.b_bool (by rfl) (by decide) (by kernel_rfl)) rfl) (dw_or1 (dt_val (de_isi (by kernel_rfl) E.b_isinstance (de_var (i := 0) rfl (.inr (.inl (by kernel_rfl))) (by kernel_rfl) (by kernel_rfl)) rfl (by kernel_rfl) E.b_bool (by rfl) (by decide) (by kernel_rfl)) rfl)))) (dss_one (ds_retZ (de_and (de_isi (by kernel_rfl) E.b_isinstance (de_var (i := 1) rfl (.inr (.inl (by kernel_rfl))) (by kernel_rfl) (by kernel_rfl)) rfl (by kernel_rfl) E.b_bool (by rfl) (by decide) (by kernel_rfl)) (de_and (de_isi (by kernel_rfl) E.b_isinstance (de_var (i := 0) rfl (.inr (.inl (by kernel_rfl))) (by kernel_rfl) (by kernel_rfl)) rfl (by kernel_rfl) E.b_bool (by rfl) (by decide) (by kernel_rfl)) (de_one (de_c ci_eq (de_var (i := 0) rfl (.inr (.inl (by kernel_rfl))) (by kernel_rfl) (by kernel_rfl)) (de_var (i := 1) rfl (.inr (.inl (by kernel_rfl))) (by kernel_rfl) (by kernel_rfl)) rfl)))))) dss_nil)
    (dss_cons (ds_if (dt_val (de_isiT (by kernel_rfl) E.b_isinstance (de_var (i := 1) rfl (.inr (.inl (by kernel_rfl))) (by kernel_rfl) (by kernel_rfl)) rfl rfl (tyns_cons (by kernel_rfl) E.b_int (by rfl) (by decide) (by kernel_rfl) (tyns_cons (by kernel_rfl) E.b_str (by rfl) (by decide) (by kernel_rfl) tyns_nil))) rfl) (dss_one (ds_retZ (de_and (de_c ci_eq (de_isi (by kernel_rfl) E.b_isinstance (de_var (i := 0) rfl (.inr (.inl (by kernel_rfl))) (by kernel_rfl) (by kernel_rfl)) rfl (by kernel_rfl) E.b_int (by rfl) (by decide) (by kernel_rfl)) (de_isi (by kernel_rfl) E.b_isinstance (de_var (i := 1) rfl (.inr (.inl (by kernel_rfl))) (by kernel_rfl) (by kernel_rfl)) rfl (by kernel_rfl) E.b_int (by rfl) (by decide) (by kernel_rfl)) rfl) (de_one (de_c ci_eq (de_var (i := 0) rfl (.inr (.inl (by kernel_rfl))) (by kernel_rfl) (by kernel_rfl)) (de_var (i := 1) rfl (.inr (.inl (by kernel_rfl))) (by kernel_rfl) (by kernel_rfl)) rfl))))) dss_nil)
    (dss_cons (ds_if (dt_w (dw_or (dt_c ci_ne (de_isi (by kernel_rfl) E.b_isinstance (de_var (i := 1) rfl (.inr (.inl (by kernel_rfl))) (by kernel_rfl) (by kernel_rfl)) rfl (by kernel_rfl) E.b_list (by rfl) (by decide) (by kernel_rfl)) (de_isi (by kernel_rfl) E.b_isinstance (de_var (i := 0) rfl (.inr (.inl (by kernel_rfl))) (by kernel_rfl) (by kernel_rfl)) rfl (by kernel_rfl) E.b_list (by rfl) (by decide) (by kernel_rfl)) rfl) (dw_or1 (dt_c ci_ne (de_isi (by kernel_rfl) E.b_isinstance (de_var (i := 1) rfl (.inr (.inl (by kernel_rfl))) (by kernel_rfl) (by kernel_rfl)) rfl (by kernel_rfl) E.b_tuple (by rfl) (by decide) (by kernel_rfl)) (de_isi (by kernel_rfl) E.b_isinstance (de_var (i := 0) rfl (.inr (.inl (by kernel_rfl))) (by kernel_rfl) (by kernel_rfl)) rfl (by kernel_rfl) E.b_tuple (by rfl) (by decide) (by kernel_rfl)) rfl)))) (dss_one (ds_retZ de_bl)) dss_nil)
    (dss_one (ds_retZ (de_and (de_c ci_eq (bi_len (by kernel_rfl) E.b_len (de_var (i := 0) rfl (.inr (.inl (by kernel_rfl))) (by kernel_rfl) (by kernel_rfl)) rfl) (bi_len (by kernel_rfl) E.b_len (de_var (i := 1) rfl (.inr (.inl (by kernel_rfl))) (by kernel_rfl) (by kernel_rfl)) rfl) rfl) (de_one (bi_all (by kernel_rfl) E.b_all (de_lc (own := [("_law_k", 2)]) (di_rng1 (da_last (bi_len (by kernel_rfl) E.b_len (de_var (i := 1) rfl (.inr (.inl (by kernel_rfl))) (by kernel_rfl) (by kernel_rfl)) rfl) (fun _ _ z => by cases z)) (fun _ _ z => by cases z) (by kernel_rfl) E.b_range) (dg_nm (i := 2) rfl (.inl (by kernel_rfl)) (.inr (by kernel_rfl))) dif_nil (de_call g_rec.at.blk (Nat.le_refl _) (by kernel_rfl) (by kernel_rfl) (da_cons (de_ixs (de_var (i := 0) rfl (.inr (.inl (by kernel_rfl))) (by kernel_rfl) (by kernel_rfl)) (de_var (i := 2) rfl (.inl (by kernel_rfl)) (by kernel_rfl) (by kernel_rfl)) rfl) (da_last (de_ixs (de_var (i := 1) rfl (.inr (.inl (by kernel_rfl))) (by kernel_rfl) (by kernel_rfl)) (de_var (i := 2) rfl (.inl (by kernel_rfl)) (by kernel_rfl) (by kernel_rfl)) rfl) (fun _ _ z => by cases z)) (fun _ _ z => by cases z)) rfl rfl (len_cons len_last)) (blk_ok (by kernel_rfl)) (by decide +kernel) rfl) rfl)))))))))
theorem g_l_same (E : Env S) : ∀ m, Good S "_law_same" 2 (F_l_same m) [] (1 + m)
  | 0 => good_stuck (N := ["_law_got", "_law_due", "_law_k"]) (ps := ["_law_got", "_law_due"]) (k := 0) E.k_l_same sc_l_same bn_l_same rfl
  | m + 1 => good_fn (N := ["_law_got", "_law_due", "_law_k"]) (ps := ["_law_got", "_law_due"]) (k := 1 + m) (db := B_l_same (F_l_same m)) E.k_l_same sc_l_same (ds_l_same E m (g_l_same E m)) bn_l_same rfl
theorem sc_l_cross : FnScope ["_law_a", "_law_b", "_law_c"] ["_law_a", "_law_b", "_law_c"] (defScope (top 9)) := ⟨rfl, rfl, rfl, by decide +kernel, rfl, by decide +kernel, by decide +kernel⟩
theorem bn_l_cross : BindN "_law_cross" (top 9) ["_law_a", "_law_b", "_law_c"] := (fun _ _ _ _ _ _ us hl => match us, hl with | [_, _, _], _ => rfl)
theorem ds_l_cross (E : Env S) : DSs (S.at ["_law_a", "_law_b", "_law_c"] (defScope (top 9)) 0) (defBody (top 9)) B_l_cross := by
  exact (dss_one (ds_retZ (de_sub (de_mul (de_sub (de_ixs (de_var (i := 1) rfl (.inl (by kernel_rfl)) (by kernel_rfl) (by kernel_rfl)) de_int rfl) (de_ixs (de_var (i := 0) rfl (.inl (by kernel_rfl)) (by kernel_rfl) (by kernel_rfl)) de_int rfl)) (de_sub (de_ixs (de_var (i := 2) rfl (.inl (by kernel_rfl)) (by kernel_rfl) (by kernel_rfl)) de_int rfl) (de_ixs (de_var (i := 0) rfl (.inl (by kernel_rfl)) (by kernel_rfl) (by kernel_rfl)) de_int rfl))) (de_mul (de_sub (de_ixs (de_var (i := 1) rfl (.inl (by kernel_rfl)) (by kernel_rfl) (by kernel_rfl)) de_int rfl) (de_ixs (de_var (i := 0) rfl (.inl (by kernel_rfl)) (by kernel_rfl) (by kernel_rfl)) de_int rfl)) (de_sub (de_ixs (de_var (i := 2) rfl (.inl (by kernel_rfl)) (by kernel_rfl) (by kernel_rfl)) de_int rfl) (de_ixs (de_var (i := 0) rfl (.inl (by kernel_rfl)) (by kernel_rfl) (by kernel_rfl)) de_int rfl))))))
theorem g_l_cross (E : Env S) : Good S "_law_cross" 3 F_l_cross [] 1 := good_fn (N := ["_law_a", "_law_b", "_law_c"]) (ps := ["_law_a", "_law_b", "_law_c"]) (k := 0) (db := B_l_cross) E.k_l_cross sc_l_cross (ds_l_cross E) bn_l_cross rfl
theorem sc_l_touch : FnScope ["_law_a", "_law_b", "_law_c"] ["_law_a", "_law_b", "_law_c"] (defScope (top 10)) := ⟨rfl, rfl, rfl, by decide +kernel, rfl, by decide +kernel, by decide +kernel⟩
theorem bn_l_touch : BindN "_law_touch" (top 10) ["_law_a", "_law_b", "_law_c"] := (fun _ _ _ _ _ _ us hl => match us, hl with | [_, _, _], _ => rfl)
theorem ds_l_touch (E : Env S) : DSs (S.at ["_law_a", "_law_b", "_law_c"] (defScope (top 10)) 1) (defBody (top 10)) B_l_touch := by
  have g_l_cross := g_l_cross E
  exact (dss_cons (ds_if (dt_c ci_ne (de_call g_l_cross.at (show 1 ≤ 1 by decide) (by kernel_rfl) (by kernel_rfl) (da_cons (de_var (i := 0) rfl (.inl (by kernel_rfl)) (by kernel_rfl) (by kernel_rfl)) (da_cons (de_var (i := 1) rfl (.inl (by kernel_rfl)) (by kernel_rfl) (by kernel_rfl)) (da_last (de_var (i := 2) rfl (.inl (by kernel_rfl)) (by kernel_rfl) (by kernel_rfl)) (fun _ _ z => by cases z)) (fun _ _ z => by cases z)) (fun _ _ z => by cases z)) rfl rfl (len_cons (len_cons len_last))) de_int rfl) (dss_one (ds_retZ de_bl)) dss_nil)
    (dss_one (ds_retZ (de_and (de_chain ci_le ci_le (bi_min2 (by kernel_rfl) E.b_min (de_ixs (de_var (i := 0) rfl (.inl (by kernel_rfl)) (by kernel_rfl) (by kernel_rfl)) de_int rfl) (de_ixs (de_var (i := 1) rfl (.inl (by kernel_rfl)) (by kernel_rfl) (by kernel_rfl)) de_int rfl) rfl) (de_ixs (de_var (i := 2) rfl (.inl (by kernel_rfl)) (by kernel_rfl) (by kernel_rfl)) de_int rfl) (bi_max2 (by kernel_rfl) E.b_max (de_ixs (de_var (i := 0) rfl (.inl (by kernel_rfl)) (by kernel_rfl) (by kernel_rfl)) de_int rfl) (de_ixs (de_var (i := 1) rfl (.inl (by kernel_rfl)) (by kernel_rfl) (by kernel_rfl)) de_int rfl) rfl) rfl rfl) (de_one (de_chain ci_le ci_le (bi_min2 (by kernel_rfl) E.b_min (de_ixs (de_var (i := 0) rfl (.inl (by kernel_rfl)) (by kernel_rfl) (by kernel_rfl)) de_int rfl) (de_ixs (de_var (i := 1) rfl (.inl (by kernel_rfl)) (by kernel_rfl) (by kernel_rfl)) de_int rfl) rfl) (de_ixs (de_var (i := 2) rfl (.inl (by kernel_rfl)) (by kernel_rfl) (by kernel_rfl)) de_int rfl) (bi_max2 (by kernel_rfl) E.b_max (de_ixs (de_var (i := 0) rfl (.inl (by kernel_rfl)) (by kernel_rfl) (by kernel_rfl)) de_int rfl) (de_ixs (de_var (i := 1) rfl (.inl (by kernel_rfl)) (by kernel_rfl) (by kernel_rfl)) de_int rfl) rfl) rfl rfl))))))
theorem g_l_touch (E : Env S) : Good S "_law_touch" 3 F_l_touch [] 2 := good_fn (N := ["_law_a", "_law_b", "_law_c"]) (ps := ["_law_a", "_law_b", "_law_c"]) (k := 1) (db := B_l_touch) E.k_l_touch sc_l_touch (ds_l_touch E) bn_l_touch rfl
theorem sc_l_wider : FnScope ["_law_place", "_law_many"] ["_law_place", "_law_many"] (defScope (top 11)) := ⟨rfl, rfl, rfl, by decide +kernel, rfl, by decide +kernel, by decide +kernel⟩
theorem bn_l_wider : BindN "_law_wider" (top 11) ["_law_place", "_law_many"] := (fun _ _ _ _ _ _ us hl => match us, hl with | [_, _], _ => rfl)
theorem ds_l_wider (E : Env S) : DSs (S.at ["_law_place", "_law_many"] (defScope (top 11)) 0) (defBody (top 11)) B_l_wider := by
  exact (dss_one (ds_retZ (de_tup (da_cons (de_mul (de_ixs (de_var (i := 0) rfl (.inl (by kernel_rfl)) (by kernel_rfl) (by kernel_rfl)) de_int rfl) (de_var (i := 1) rfl (.inl (by kernel_rfl)) (by kernel_rfl) (by kernel_rfl))) (da_last (de_mul (de_ixs (de_var (i := 0) rfl (.inl (by kernel_rfl)) (by kernel_rfl) (by kernel_rfl)) de_int rfl) (de_var (i := 1) rfl (.inl (by kernel_rfl)) (by kernel_rfl) (by kernel_rfl))) (fun _ _ z => by cases z)) (fun _ _ z => by cases z)))))
theorem g_l_wider (E : Env S) : Good S "_law_wider" 2 F_l_wider [] 1 := good_fn (N := ["_law_place", "_law_many"]) (ps := ["_law_place", "_law_many"]) (k := 0) (db := B_l_wider) E.k_l_wider sc_l_wider (ds_l_wider E) bn_l_wider rfl
theorem sc_l_grid : FnScope ["_law_bag_here", "_law_way"] ["_law_bag_here"] (defScope (top 12)) := ⟨rfl, rfl, rfl, by decide +kernel, rfl, by decide +kernel, by decide +kernel⟩
theorem bn_l_grid : BindN "_law_grid" (top 12) ["_law_bag_here"] := (fun _ _ _ _ _ _ us hl => match us, hl with | [_], _ => rfl)
theorem ds_l_grid (E : Env S) : DSs (S.at ["_law_bag_here", "_law_way"] (defScope (top 12)) 1) (defBody (top 12)) B_l_grid := by
  have g_l_pull := g_l_pull E
  exact (dss_cons (ds_setZ (i := 1) rfl (.inl (by kernel_rfl)) (.inl rfl) (de_call g_l_pull.at (show 1 ≤ 1 by decide) (by kernel_rfl) (by kernel_rfl) (da_cons (de_var (i := 0) rfl (.inl (by kernel_rfl)) (by kernel_rfl) (by kernel_rfl)) (da_last de_int (fun _ _ z => by cases z)) (fun _ _ z => by cases z)) rfl rfl (len_cons len_last)) rfl)
    (dss_cons (ds_if (dt_c ci_lt (de_var (i := 1) rfl (.inl (by kernel_rfl)) (by kernel_rfl) (by kernel_rfl)) de_int rfl) (dss_one (ds_retZ (de_tup (da_cons de_int (da_cons de_int (da_last de_int (fun _ _ z => by cases z)) (fun _ _ z => by cases z)) (fun _ _ z => by cases z))))) dss_nil)
    (dss_cons (ds_if (dt_c ci_eq (de_var (i := 1) rfl (.inl (by kernel_rfl)) (by kernel_rfl) (by kernel_rfl)) de_int rfl) (dss_one (ds_retZ (de_tup (da_cons (de_add de_int (de_call g_l_pull.at (show 1 ≤ 1 by decide) (by kernel_rfl) (by kernel_rfl) (da_cons (de_var (i := 0) rfl (.inl (by kernel_rfl)) (by kernel_rfl) (by kernel_rfl)) (da_last de_int (fun _ _ z => by cases z)) (fun _ _ z => by cases z)) rfl rfl (len_cons len_last))) (da_cons de_int (da_last de_int (fun _ _ z => by cases z)) (fun _ _ z => by cases z)) (fun _ _ z => by cases z))))) dss_nil)
    (dss_one (ds_retZ (de_tup (da_cons de_int (da_cons (de_mul (de_sub (de_pow de_int de_int) de_int) (de_sub (de_mul de_int (de_call g_l_pull.at (show 1 ≤ 1 by decide) (by kernel_rfl) (by kernel_rfl) (da_cons (de_var (i := 0) rfl (.inl (by kernel_rfl)) (by kernel_rfl) (by kernel_rfl)) (da_last de_int (fun _ _ z => by cases z)) (fun _ _ z => by cases z)) rfl rfl (len_cons len_last))) de_int)) (da_last (de_mul (de_sub (de_pow de_int de_int) de_int) (de_sub (de_call g_l_pull.at (show 1 ≤ 1 by decide) (by kernel_rfl) (by kernel_rfl) (da_cons (de_var (i := 0) rfl (.inl (by kernel_rfl)) (by kernel_rfl) (by kernel_rfl)) (da_last de_int (fun _ _ z => by cases z)) (fun _ _ z => by cases z)) rfl rfl (len_cons len_last)) de_int)) (fun _ _ z => by cases z)) (fun _ _ z => by cases z)) (fun _ _ z => by cases z))))))))
theorem g_l_grid (E : Env S) : Good S "_law_grid" 1 F_l_grid [] 2 := good_fn (N := ["_law_bag_here", "_law_way"]) (ps := ["_law_bag_here"]) (k := 1) (db := B_l_grid) E.k_l_grid sc_l_grid (ds_l_grid E) bn_l_grid rfl
theorem sc_l_spot : FnScope ["_law_bag_here", "_law_grid_here", "_law_wide", "_law_across", "_law_north", "_law_first"] ["_law_bag_here", "_law_grid_here"] (defScope (top 13)) := ⟨rfl, rfl, rfl, by decide +kernel, rfl, by decide +kernel, by decide +kernel⟩
theorem bn_l_spot : BindN "_law_spot" (top 13) ["_law_bag_here", "_law_grid_here"] := (fun _ _ _ _ _ _ us hl => match us, hl with | [_, _], _ => rfl)
theorem ds_l_spot (E : Env S) : DSs (S.at ["_law_bag_here", "_law_grid_here", "_law_wide", "_law_across", "_law_north", "_law_first"] (defScope (top 13)) 1) (defBody (top 13)) B_l_spot := by
  have g_l_pull := g_l_pull E
  exact (dss_cons (ds_unpT (dg_tup (dgs_cons (dg_nm (i := 2) rfl (.inl (by kernel_rfl)) (.inl rfl)) (dgs_cons (dg_nm (i := 3) rfl (.inl (by kernel_rfl)) (.inl rfl)) (dgs_cons (dg_nm (i := 4) rfl (.inl (by kernel_rfl)) (.inl rfl)) dgs_nil (fun _ _ z => by cases z)) (fun _ _ z => by cases z)) (fun _ _ z => by cases z)) rfl rfl) (de_var (i := 1) rfl (.inl (by kernel_rfl)) (by kernel_rfl) (by kernel_rfl)) rfl)
    (dss_cons (ds_setZ (i := 5) rfl (.inl (by kernel_rfl)) (.inl rfl) (de_sub (de_add (de_var (i := 3) rfl (.inl (by kernel_rfl)) (by kernel_rfl) (by kernel_rfl)) (de_call g_l_pull.at (show 1 ≤ 1 by decide) (by kernel_rfl) (by kernel_rfl) (da_cons (de_var (i := 0) rfl (.inl (by kernel_rfl)) (by kernel_rfl) (by kernel_rfl)) (da_last (de_add (de_mul de_int (de_var (i := 2) rfl (.inl (by kernel_rfl)) (by kernel_rfl) (by kernel_rfl))) de_int) (fun _ _ z => by cases z)) (fun _ _ z => by cases z)) rfl rfl (len_cons len_last))) (de_var (i := 2) rfl (.inl (by kernel_rfl)) (by kernel_rfl) (by kernel_rfl))) rfl)
    (dss_one (ds_retZ (de_tup (da_cons (de_var (i := 5) rfl (.inl (by kernel_rfl)) (by kernel_rfl) (by kernel_rfl)) (da_last (de_sub (de_add (de_var (i := 4) rfl (.inl (by kernel_rfl)) (by kernel_rfl) (by kernel_rfl)) (de_call g_l_pull.at (show 1 ≤ 1 by decide) (by kernel_rfl) (by kernel_rfl) (da_cons (de_var (i := 0) rfl (.inl (by kernel_rfl)) (by kernel_rfl) (by kernel_rfl)) (da_last (de_add (de_mul de_int (de_var (i := 2) rfl (.inl (by kernel_rfl)) (by kernel_rfl) (by kernel_rfl))) de_int) (fun _ _ z => by cases z)) (fun _ _ z => by cases z)) rfl rfl (len_cons len_last))) (de_var (i := 2) rfl (.inl (by kernel_rfl)) (by kernel_rfl) (by kernel_rfl))) (fun _ _ z => by cases z)) (fun _ _ z => by cases z)))))))
theorem g_l_spot (E : Env S) : Good S "_law_spot" 2 F_l_spot [] 2 := good_fn (N := ["_law_bag_here", "_law_grid_here", "_law_wide", "_law_across", "_law_north", "_law_first"]) (ps := ["_law_bag_here", "_law_grid_here"]) (k := 1) (db := B_l_spot) E.k_l_spot sc_l_spot (ds_l_spot E) bn_l_spot rfl
theorem sc_law : FnScope ["_law_script", "_law_bag_here", "_law_turn", "_law_grid_here", "_law_a", "_law_b", "_law_c", "_law_way", "_law_times_so", "_law_many", "_law_room", "_law_due", "_law_k", "_law_one"] ["_law_script"] (defScope (top 14)) := ⟨rfl, rfl, rfl, by decide +kernel, rfl, by decide +kernel, by decide +kernel⟩
theorem bn_law : BindN "law" (top 14) ["_law_script"] := (fun _ _ _ _ _ _ us hl => match us, hl with | [_], _ => rfl)
theorem ds_law (E : Env S) : DSs (S.at ["_law_script", "_law_bag_here", "_law_turn", "_law_grid_here", "_law_a", "_law_b", "_law_c", "_law_way", "_law_times_so", "_law_many", "_law_room", "_law_due", "_law_k", "_law_one"] (defScope (top 14)) 5) (defBody (top 14)) B_law := by
  have g_l_bag := g_l_bag E
  have g_l_grid := g_l_grid E
  have g_l_spot := g_l_spot E
  have g_l_pull := g_l_pull E
  have g_l_wider := g_l_wider E
  have g_l_cross := g_l_cross E
  have g_l_same := g_l_same E 4
  have g_side := g_side E
  have g_on_piece := g_on_piece E
  have g_l_touch := g_l_touch E
  exact (dss_cons (ds_set (i := 1) rfl (.inr (by kernel_rfl)) (.inl rfl) (de_call g_l_bag.at (show 1 ≤ 5 by decide) (by kernel_rfl) (by kernel_rfl) (da_last (de_var (i := 0) rfl (.inl (by kernel_rfl)) (by kernel_rfl) (by kernel_rfl)) (fun _ _ z => by cases z)) rfl rfl len_last) rfl)
    (dss_pub (i := 1) (dss_cons (ds_for (di_rng1 (da_last de_int (fun _ _ z => by cases z)) (fun _ _ z => by cases z) (by kernel_rfl) E.b_range) (dg_nm (i := 2) rfl (.inl (by kernel_rfl)) (.inl rfl)) (dss_cons (ds_setZ (i := 3) rfl (.inr (by kernel_rfl)) (.inl rfl) (de_call g_l_grid.at (show 2 ≤ 5 by decide) (by kernel_rfl) (by kernel_rfl) (da_last (de_var (i := 1) rfl (.inr (.inl (by kernel_rfl))) (by kernel_rfl) (by kernel_rfl)) (fun _ _ z => by cases z)) rfl rfl len_last) rfl)
    (dss_cons (ds_unpT (dg_tup (dgs_cons (dg_nm (i := 4) rfl (.inl (by kernel_rfl)) (.inl rfl)) (dgs_cons (dg_nm (i := 5) rfl (.inl (by kernel_rfl)) (.inl rfl)) (dgs_cons (dg_nm (i := 6) rfl (.inl (by kernel_rfl)) (.inl rfl)) dgs_nil (fun _ _ z => by cases z)) (fun _ _ z => by cases z)) (fun _ _ z => by cases z)) rfl rfl) (de_lc (own := [("_law_k", 12)]) (di_rng1 (da_last de_int (fun _ _ z => by cases z)) (fun _ _ z => by cases z) (by kernel_rfl) E.b_range) (dg_nm (i := 12) rfl (.inl (by kernel_rfl)) (.inr (by kernel_rfl))) dif_nil (de_call g_l_spot.at.blk (show 2 ≤ 5 by decide) (by kernel_rfl) (by kernel_rfl) (da_cons (de_var (i := 1) rfl (.inr (.inl (by kernel_rfl))) (by kernel_rfl) (by kernel_rfl)) (da_last (de_var (i := 3) rfl (.inr (.inl (by kernel_rfl))) (by kernel_rfl) (by kernel_rfl)) (fun _ _ z => by cases z)) (fun _ _ z => by cases z)) rfl rfl (len_cons len_last)) (blk_ok (by kernel_rfl)) (by decide +kernel) rfl) rfl)
    (dss_cons (ds_if (dt_c ci_eq (de_call g_l_pull.at (show 1 ≤ 5 by decide) (by kernel_rfl) (by kernel_rfl) (da_cons (de_var (i := 1) rfl (.inr (.inl (by kernel_rfl))) (by kernel_rfl) (by kernel_rfl)) (da_last de_int (fun _ _ z => by cases z)) (fun _ _ z => by cases z)) rfl rfl (len_cons len_last)) de_int rfl) (dss_one (ds_setZ (i := 5) rfl (.inl (by kernel_rfl)) (.inl rfl) (de_var (i := 4) rfl (.inl (by kernel_rfl)) (by kernel_rfl) (by kernel_rfl)) rfl)) dss_nil)
    (dss_cons (ds_setZ (i := 7) rfl (.inl (by kernel_rfl)) (.inl rfl) (de_call g_l_pull.at (show 1 ≤ 5 by decide) (by kernel_rfl) (by kernel_rfl) (da_cons (de_var (i := 1) rfl (.inr (.inl (by kernel_rfl))) (by kernel_rfl) (by kernel_rfl)) (da_last de_int (fun _ _ z => by cases z)) (fun _ _ z => by cases z)) rfl rfl (len_cons len_last)) rfl)
    (dss_cons (ds_if (dt_c ci_lt (de_var (i := 7) rfl (.inl (by kernel_rfl)) (by kernel_rfl) (by kernel_rfl)) de_int rfl) (dss_cons (ds_setZ (i := 8) rfl (.inl (by kernel_rfl)) (.inl rfl) (de_ixs (de_lst (da_cons de_int (da_last (de_sub de_int de_int) (fun _ _ z => by cases z)) (fun _ _ z => by cases z))) (de_var (i := 7) rfl (.inl (by kernel_rfl)) (by kernel_rfl) (by kernel_rfl)) rfl) rfl)
    (dss_one (ds_setZ (i := 6) rfl (.inl (by kernel_rfl)) (.inl rfl) (de_tup (da_cons (de_add (de_ixs (de_var (i := 4) rfl (.inl (by kernel_rfl)) (by kernel_rfl) (by kernel_rfl)) de_int rfl) (de_mul (de_var (i := 8) rfl (.inl (by kernel_rfl)) (by kernel_rfl) (by kernel_rfl)) (de_sub (de_ixs (de_var (i := 5) rfl (.inl (by kernel_rfl)) (by kernel_rfl) (by kernel_rfl)) de_int rfl) (de_ixs (de_var (i := 4) rfl (.inl (by kernel_rfl)) (by kernel_rfl) (by kernel_rfl)) de_int rfl)))) (da_last (de_add (de_ixs (de_var (i := 4) rfl (.inl (by kernel_rfl)) (by kernel_rfl) (by kernel_rfl)) de_int rfl) (de_mul (de_var (i := 8) rfl (.inl (by kernel_rfl)) (by kernel_rfl) (by kernel_rfl)) (de_sub (de_ixs (de_var (i := 5) rfl (.inl (by kernel_rfl)) (by kernel_rfl) (by kernel_rfl)) de_int rfl) (de_ixs (de_var (i := 4) rfl (.inl (by kernel_rfl)) (by kernel_rfl) (by kernel_rfl)) de_int rfl)))) (fun _ _ z => by cases z)) (fun _ _ z => by cases z))) rfl))) dss_nil)
    (dss_cons (ds_setZ (i := 9) rfl (.inr (by kernel_rfl)) (.inl rfl) (de_ixs (de_lst (da_cons de_int (da_last (de_pow de_int de_int) (fun _ _ z => by cases z)) (fun _ _ z => by cases z))) (bi_int (by kernel_rfl) E.b_int (de_c ci_eq (de_call g_l_pull.at (show 1 ≤ 5 by decide) (by kernel_rfl) (by kernel_rfl) (da_cons (de_var (i := 1) rfl (.inr (.inl (by kernel_rfl))) (by kernel_rfl) (by kernel_rfl)) (da_last de_int (fun _ _ z => by cases z)) (fun _ _ z => by cases z)) rfl rfl (len_cons len_last)) de_int rfl) rfl) rfl) rfl)
    (dss_cons (ds_unpT (dg_tup (dgs_cons (dg_nm (i := 4) rfl (.inl (by kernel_rfl)) (.inl rfl)) (dgs_cons (dg_nm (i := 5) rfl (.inl (by kernel_rfl)) (.inl rfl)) (dgs_cons (dg_nm (i := 6) rfl (.inl (by kernel_rfl)) (.inl rfl)) dgs_nil (fun _ _ z => by cases z)) (fun _ _ z => by cases z)) (fun _ _ z => by cases z)) rfl rfl) (de_lc (own := [("_law_one", 13)]) (di_val (de_tup (da_cons (de_var (i := 4) rfl (.inl (by kernel_rfl)) (by kernel_rfl) (by kernel_rfl)) (da_cons (de_var (i := 5) rfl (.inl (by kernel_rfl)) (by kernel_rfl) (by kernel_rfl)) (da_last (de_var (i := 6) rfl (.inl (by kernel_rfl)) (by kernel_rfl) (by kernel_rfl)) (fun _ _ z => by cases z)) (fun _ _ z => by cases z)) (fun _ _ z => by cases z)))) (dg_nm (i := 13) rfl (.inl (by kernel_rfl)) (.inr (by kernel_rfl))) dif_nil (de_call g_l_wider.at.blk (show 1 ≤ 5 by decide) (by kernel_rfl) (by kernel_rfl) (da_cons (de_var (i := 13) rfl (.inl (by kernel_rfl)) (by kernel_rfl) (by kernel_rfl)) (da_last (de_var (i := 9) rfl (.inr (.inl (by kernel_rfl))) (by kernel_rfl) (by kernel_rfl)) (fun _ _ z => by cases z)) (fun _ _ z => by cases z)) rfl rfl (len_cons len_last)) (blk_ok (by kernel_rfl)) (by decide +kernel) rfl) rfl)
    (dss_cons (ds_setZ (i := 10) rfl (.inl (by kernel_rfl)) (.inl rfl) (de_call g_l_cross.at (show 1 ≤ 5 by decide) (by kernel_rfl) (by kernel_rfl) (da_cons (de_var (i := 4) rfl (.inl (by kernel_rfl)) (by kernel_rfl) (by kernel_rfl)) (da_cons (de_var (i := 5) rfl (.inl (by kernel_rfl)) (by kernel_rfl) (by kernel_rfl)) (da_last (de_var (i := 6) rfl (.inl (by kernel_rfl)) (by kernel_rfl) (by kernel_rfl)) (fun _ _ z => by cases z)) (fun _ _ z => by cases z)) (fun _ _ z => by cases z)) rfl rfl (len_cons (len_cons len_last))) rfl)
    (dss_cons (ds_setZ (i := 11) rfl (.inl (by kernel_rfl)) (.inl rfl) (de_if (dt_c ci_lt (de_var (i := 10) rfl (.inl (by kernel_rfl)) (by kernel_rfl) (by kernel_rfl)) de_int rfl) (de_neg de_int) (bi_int (by kernel_rfl) E.b_int (de_c ci_gt (de_var (i := 10) rfl (.inl (by kernel_rfl)) (by kernel_rfl) (by kernel_rfl)) de_int rfl) rfl)) rfl)
    (dss_cons (ds_if (dt_not (dt_val (de_call g_l_same.at (show 5 ≤ 5 by decide) (by kernel_rfl) (by kernel_rfl) (da_cons (de_lst (da_cons (de_call g_side.at (show 2 ≤ 5 by decide) (by kernel_rfl) (by kernel_rfl) (da_cons (de_var (i := 4) rfl (.inl (by kernel_rfl)) (by kernel_rfl) (by kernel_rfl)) (da_cons (de_var (i := 5) rfl (.inl (by kernel_rfl)) (by kernel_rfl) (by kernel_rfl)) (da_last (de_var (i := 6) rfl (.inl (by kernel_rfl)) (by kernel_rfl) (by kernel_rfl)) (fun _ _ z => by cases z)) (fun _ _ z => by cases z)) (fun _ _ z => by cases z)) rfl rfl (len_cons (len_cons len_last))) (da_last (de_call g_side.at (show 2 ≤ 5 by decide) (by kernel_rfl) (by kernel_rfl) (da_cons (de_var (i := 5) rfl (.inl (by kernel_rfl)) (by kernel_rfl) (by kernel_rfl)) (da_cons (de_var (i := 4) rfl (.inl (by kernel_rfl)) (by kernel_rfl) (by kernel_rfl)) (da_last (de_var (i := 6) rfl (.inl (by kernel_rfl)) (by kernel_rfl) (by kernel_rfl)) (fun _ _ z => by cases z)) (fun _ _ z => by cases z)) (fun _ _ z => by cases z)) rfl rfl (len_cons (len_cons len_last))) (fun _ _ z => by cases z)) (fun _ _ z => by cases z))) (da_last (de_lst (da_cons (de_var (i := 11) rfl (.inl (by kernel_rfl)) (by kernel_rfl) (by kernel_rfl)) (da_last (de_sub de_int (de_var (i := 11) rfl (.inl (by kernel_rfl)) (by kernel_rfl) (by kernel_rfl))) (fun _ _ z => by cases z)) (fun _ _ z => by cases z))) (fun _ _ z => by cases z)) (fun _ _ z => by cases z)) rfl rfl (len_cons len_last)) rfl)) (dss_one (ds_retZ de_bl)) dss_nil)
    (dss_one (ds_if (dt_not (dt_val (de_call g_l_same.at (show 5 ≤ 5 by decide) (by kernel_rfl) (by kernel_rfl) (da_cons (de_lst (da_cons (de_call g_on_piece.at (show 3 ≤ 5 by decide) (by kernel_rfl) (by kernel_rfl) (da_cons (de_var (i := 6) rfl (.inl (by kernel_rfl)) (by kernel_rfl) (by kernel_rfl)) (da_last (de_tup (da_cons (de_var (i := 4) rfl (.inl (by kernel_rfl)) (by kernel_rfl) (by kernel_rfl)) (da_last (de_var (i := 5) rfl (.inl (by kernel_rfl)) (by kernel_rfl) (by kernel_rfl)) (fun _ _ z => by cases z)) (fun _ _ z => by cases z))) (fun _ _ z => by cases z)) (fun _ _ z => by cases z)) rfl rfl (len_cons len_last)) (da_last (de_call g_on_piece.at (show 3 ≤ 5 by decide) (by kernel_rfl) (by kernel_rfl) (da_cons (de_var (i := 4) rfl (.inl (by kernel_rfl)) (by kernel_rfl) (by kernel_rfl)) (da_last (de_tup (da_cons (de_var (i := 4) rfl (.inl (by kernel_rfl)) (by kernel_rfl) (by kernel_rfl)) (da_last (de_var (i := 5) rfl (.inl (by kernel_rfl)) (by kernel_rfl) (by kernel_rfl)) (fun _ _ z => by cases z)) (fun _ _ z => by cases z))) (fun _ _ z => by cases z)) (fun _ _ z => by cases z)) rfl rfl (len_cons len_last)) (fun _ _ z => by cases z)) (fun _ _ z => by cases z))) (da_last (de_lst (da_cons (de_call g_l_touch.at (show 2 ≤ 5 by decide) (by kernel_rfl) (by kernel_rfl) (da_cons (de_var (i := 4) rfl (.inl (by kernel_rfl)) (by kernel_rfl) (by kernel_rfl)) (da_cons (de_var (i := 5) rfl (.inl (by kernel_rfl)) (by kernel_rfl) (by kernel_rfl)) (da_last (de_var (i := 6) rfl (.inl (by kernel_rfl)) (by kernel_rfl) (by kernel_rfl)) (fun _ _ z => by cases z)) (fun _ _ z => by cases z)) (fun _ _ z => by cases z)) rfl rfl (len_cons (len_cons len_last))) (da_last de_bl (fun _ _ z => by cases z)) (fun _ _ z => by cases z))) (fun _ _ z => by cases z)) (fun _ _ z => by cases z)) rfl rfl (len_cons len_last)) rfl)) (dss_one (ds_retZ de_bl)) dss_nil)))))))))))) rfl)
    (dss_one (ds_retZ de_bl)))))
theorem g_law (E : Env S) : Good S "law" 1 F_law [] 6 := good_fn (N := ["_law_script", "_law_bag_here", "_law_turn", "_law_grid_here", "_law_a", "_law_b", "_law_c", "_law_way", "_law_times_so", "_law_many", "_law_room", "_law_due", "_law_k", "_law_one"]) (ps := ["_law_script"]) (k := 5) (db := B_law) E.k_law sc_law (ds_law E) bn_law rfl
end
end L01

set_option Elab.async false
set_option linter.all false
set_option maxRecDepth 100000
set_option autoImplicit false
namespace L01
open PySem PySem.Spec L2 Hx
/-- the bag's cell -/
abbrev BgD (xs : List Int) (i h s n : Int) : D := .con .lst [.con .lst (xs.map D.int), .int i, .int h, .int s, .int n]
def Bg (st : Store) (c : Nat) (xs : List Int) (i h s n : Int) : Prop := st[c]? = some (.c .z, BgD xs i h s n)
section
variable {st : Store} {c : Nat} {xs : List Int} {i h s n x : Int}
theorem Bg.lk (e : Bg st c xs i h s n) : lk st (.ref c) = BgD xs i h s n := lk_bag e
theorem Bg.lt (e : Bg st c xs i h s n) : c < st.length := (List.getElem?_eq_some_iff.mp e).1
theorem Bg.put {xs' : List Int} {i' h' s' n' : Int} (e : Bg st c xs i h s n) : Bg (st.set c (.c .z, BgD xs' i' h' s' n')) c xs' i' h' s' n' := get_set e
theorem pull0 (e : Bg st c xs i h s n) (a1 : 0 ≤ i) (a2 : 0 ≤ h) (a3 : 0 ≤ s) (a4 : s < 2147483647) {many : Int} : ∃ i' h' s' st1 v, B_l_pull_0 [some (.z, .ref c), some (.z, .int many), none, none, none] st = .nx [some (.z, .ref c), some (.z, .int many), v, none, none] st1 ∧
    Bg st1 c xs i' h' s' n ∧ 0 ≤ i' ∧ 0 ≤ h' ∧ 0 ≤ s' ∧ s' < 2147483647 ∧ Fro1 c st st1 := by
  have e0 := e.lk
  have hl := e.lt
  by_cases hc : h = 0 ∧ i < xs.length
  · obtain ⟨hc1, hc2⟩ := hc
    subst hc1
    obtain ⟨x, ex⟩ := atI_map a1 hc2
    by_cases hx : x ≥ 1000000000000000000
    · refine ⟨i + 1, x, s, _, some (.z, .int x), ?_, e.put, by omega, by omega, a3, a4, Fro1.set⟩
      obtain ⟨hl', e⟩ := List.getElem?_eq_some_iff.mp e
      simp [B_l_pull_0, B_l_pull_0t_0, B_l_pull_0t_1, B_l_pull_0t_2, e0, e, hc2, ex, ixN, powOk, hx, hl]
    · have hm : 0 ≤ (s * 40503 + x.fmod 2147483563 + 1).fmod 2147483629 ∧ (s * 40503 + x.fmod 2147483563 + 1).fmod 2147483629 < 2147483629 := ⟨Int.fmod_nonneg_of_pos _ (by decide), Int.fmod_lt_of_pos _ (by decide)⟩
      refine ⟨i + 1, 0, (s * 40503 + x.fmod 2147483563 + 1).fmod 2147483629, _, some (.z, .int x), ?_, e.put, by omega, a2, hm.1, by omega, Fro1.set⟩
      have m1 : mulOk s 40503 = true := Sm.ok (n := 40) (m := 20) (by unfold Sm; omega) (by unfold Sm; decide) (by decide) (by decide)
      obtain ⟨hl', e⟩ := List.getElem?_eq_some_iff.mp e
      simp [B_l_pull_0, B_l_pull_0t_0, B_l_pull_0t_1, B_l_pull_0t_2, B_l_pull_0t_2e_0, e0, e, hc2, ex, ixN, powOk, hx, m1, hl]
  · refine ⟨i, h, s, st, none, ?_, e, a1, a2, a3, a4, Fro1.refl⟩
    by_cases h0 : h = 0
    · have : ¬ i < xs.length := fun z => hc ⟨h0, z⟩
      simp [B_l_pull_0, e0, h0, this]
    · simp [B_l_pull_0, e0, h0]
theorem f_l_pull {k : Nat} {many : Int} (B : Bag k st c) (hk : k < 2 ^ 100) (hm : 0 < many) (hs : Sm 1000 many) :
    ∃ g st', F_l_pull [(.z, .ref c), (.z, .int many)] st = .ok .z false (.int g) st' ∧ 0 ≤ g ∧ g < many ∧ Bag (k + 1) st' c ∧ Fro1 c st st' := by
  obtain ⟨xs, i, h, s, n, e, a1, a2, a3, a4, a5, a6⟩ := B.ex
  obtain ⟨i, h, s, st1, v, q, e, a1, a2, a3, a4, fr⟩ := pull0 (many := many) e a1 a2 a3 a4
  have e0 := e.lk
  have hl := e.lt
  have hne : many ≠ 0 := by omega
  by_cases h0 : h > 0
  · have dk : divOk many = true := divOk_of hs hne (by decide) (by decide)
    refine ⟨h.fmod many, st1.set c (.c .z, BgD xs i (h.fdiv many) s n), ?_, Int.fmod_nonneg_of_pos _ hm, Int.fmod_lt_of_pos _ hm, ⟨xs, i, h.fdiv many, s, n, e.put, a1, ?_, a3, a4, a5, by omega⟩, fr.trans Fro1.set⟩
    · obtain ⟨hl', e⟩ := List.getElem?_eq_some_iff.mp e
      simp [F_l_pull, B_l_pull, q, B_l_pull_1, B_l_pull_1t_0, B_l_pull_1t_1, e0, e, h0, dk, hne, ixN, hl]
    · rw [Int.fdiv_eq_ediv_of_nonneg _ (by omega)]
      exact Int.ediv_nonneg a2 (by omega)
  · have hb : ∀ y : Int, 0 ≤ y.fmod 2147483629 ∧ y.fmod 2147483629 < 2147483629 := fun y => ⟨Int.fmod_nonneg_of_pos _ (by decide), Int.fmod_lt_of_pos _ (by decide)⟩
    have s1 : Sm 32 s := by unfold Sm; omega
    have s2 : Sm 101 n := by unfold Sm; omega
    have s3 : Sm 101 (n + 1) := by unfold Sm; omega
    have r1 : 0 ≤ s.fmod 8191 ∧ s.fmod 8191 < 8191 := ⟨Int.fmod_nonneg_of_pos _ (by decide), Int.fmod_lt_of_pos _ (by decide)⟩
    have s4 : Sm 20 (s.fmod 8191 + 5) := by unfold Sm; omega
    have m1 := s1.ok s1 (by decide) (by decide)
    have m2 : mulOk 48271 (n + 1) = true := Sm.ok (n := 20) (by unfold Sm; decide) s3 (by decide) (by decide)
    have m3 : mulOk (48271 * (n + 1)) (s.fmod 8191 + 5) = true := Sm.ok (n := 121) (Sm.mul (n := 20) (by unfold Sm; decide) s3) s4 (by decide) (by decide)
    have m4 : mulOk (n + 1) (n + 1) = true := s3.ok s3 (by decide) (by decide)
    have m5 : mulOk ((n + 1) * (n + 1)) (n + 1) = true := (s3.mul s3).ok s3 (by decide) (by decide)
    let z := s * s + 48271 * (n + 1) * (s.fmod 8191 + 5) + (n + 1) * (n + 1) * (n + 1) + 12345
    have hz := hb z
    have r2 : 0 ≤ (z.fmod 2147483629).fmod 7919 ∧ (z.fmod 2147483629).fmod 7919 < 7919 := ⟨Int.fmod_nonneg_of_pos _ (by decide), Int.fmod_lt_of_pos _ (by decide)⟩
    have m6 : mulOk ((z.fmod 2147483629).fmod 7919) 37 = true := Sm.ok (n := 20) (m := 10) (by unfold Sm; omega) (by unfold Sm; decide) (by decide) (by decide)
    refine ⟨((z.fmod 2147483629).fdiv 71 + (z.fmod 2147483629).fmod 7919 * 37).fmod many, st1.set c (.c .z, BgD xs i h (z.fmod 2147483629) (n + 1)), ?_, Int.fmod_nonneg_of_pos _ hm, Int.fmod_lt_of_pos _ hm, ⟨xs, i, h, z.fmod 2147483629, n + 1, e.put, a1, a2, hz.1, by omega, by omega, by omega⟩, fr.trans Fro1.set⟩
    obtain ⟨hl', e⟩ := List.getElem?_eq_some_iff.mp e
    have d71 : divOk 71 = true := by decide
    simp [F_l_pull, B_l_pull, q, B_l_pull_1, B_l_pull_2, B_l_pull_3, B_l_pull_4, B_l_pull_5, e0, e, h0, hne, ixN, hl, m1, m2, m3, m4, m5, m6, d71, z]
end
end L01

set_option Elab.async false
set_option linter.all false
set_option maxRecDepth 100000
set_option autoImplicit false
namespace L01
open PySem PySem.Spec L2 Hx
theorem cut63 (ds : List D) : cutD ds none (some 63) = ds.take 63 := by
  unfold cutD HT.sIx
  simp
theorem bag_loop {d0 : D} {st : Store} : ∀ (ys : List Int) (s : Int) (v : Option (Fr × D)), 0 ≤ s → s < 2147483647 → ∃ s' v', forGo (.nm 2) B_l_bag_1b [] (ys.map D.int) [some (.z, d0), some (.z, .int s), v] st = .nx [some (.z, d0), some (.z, .int s'), v'] st ∧ 0 ≤ s' ∧ s' < 2147483647
  | [], s, v, h0, h1 => ⟨s, v, rfl, h0, h1⟩
  | y :: ys, s, v, h0, h1 => by
    have hm : ∀ z : Int, 0 ≤ z.fmod 2147483647 ∧ z.fmod 2147483647 < 2147483647 := fun z => ⟨Int.fmod_nonneg_of_pos _ (by decide), Int.fmod_lt_of_pos _ (by decide)⟩
    have m1 : mulOk s 48271 = true := Sm.ok (n := 40) (m := 20) (by unfold Sm; omega) (by unfold Sm; decide) (by decide) (by decide)
    obtain ⟨s', v', e, a, b⟩ := bag_loop (d0 := d0) (st := st) ys ((s * 48271 + y.fmod 2147483629 + 7).fmod 2147483647) (some (.z, .int y)) (hm _).1 (hm _).2
    refine ⟨s', v', ?_, a, b⟩
    have hb : B_l_bag_1b [some (.z, d0), some (.z, .int s), some (.z, .int y)] st = .nx [some (.z, d0), some (.z, .int ((s * 48271 + y.fmod 2147483629 + 7).fmod 2147483647)), some (.z, .int y)] st := by
      simp [B_l_bag_1b, B_l_bag_1b_0, m1]
    simp [forGo, hb, e, killE]
theorem f_l_bag (ns : List Int) (hl : ns.length ≤ 63) {st : Store} : ∃ s, F_l_bag [(.z, .con .frl (ns.map D.int))] st = .ok (.c .z) false (BgD ns 0 0 s 0) st ∧ 0 ≤ s ∧ s < 2147483647 := by
  have ht : (ns.map D.int).take 63 = ns.map D.int := List.take_of_length_le (by simpa using hl)
  obtain ⟨s', v', e, a, b⟩ := bag_loop (d0 := .con .frl (ns.map D.int)) (st := st) ns (31 + ns.length) none (by omega) (by omega)
  refine ⟨s', ?_, a, b⟩
  simp [F_l_bag, B_l_bag, B_l_bag_0, B_l_bag_1, B_l_bag_2, cut63, ht, dFor, e]
/-! ### the same -/
theorem strOk_of {x : Str} : True := trivial
def Plain : Nat → D → Prop
  | 0, _ => False
  | _ + 1, .non => True
  | _ + 1, .bl _ => True
  | _ + 1, .int _ => True
  | m + 1, .con .tup ds => ds.length ≤ 1000 ∧ ∀ d ∈ ds, Plain m d
  | m + 1, .con .lst ds => ds.length ≤ 1000 ∧ ∀ d ∈ ds, Plain m d
  | _, _ => False
theorem same_loop {rec : Fn} {k1 k2 : Kd} {ds : List D} {st : Store} (h1 : k1.seq = true) (h2 : k2.seq = true) (hr : ∀ d ∈ ds, rec [(.z, d), (.z, d)] st = .ok .z false (.bl true) st) : ∀ (is : List Nat) (acc : List D), (∀ i ∈ is, i < ds.length) →
    lcGo (.nm 2) dYes (dCall rec [] (dCons (dOp oIx (dCons (dVar 0) (dLast (dVar 2)))) (dLast (dOp oIx (dCons (dVar 1) (dLast (dVar 2))))))) (is.map fun (i : Nat) => D.int (0 + (i : Int))) [some (.z, .con k1 ds), some (.z, .con k2 ds), none] st acc = .ok (.c .z) false (.con .lst (acc ++ is.map fun _ => .bl true)) st
  | [], acc, _ => by simp [lcGo]
  | i :: is, acc, hi => by
    have hlt : i < ds.length := hi i (by simp)
    have ha : atI ds (i : Int) = some ds[i] := atI_nat (List.getElem?_eq_getElem hlt)
    have := same_loop h1 h2 hr is (acc ++ [.bl true]) fun j hj => hi j (by simp [hj])
    rw [List.map_cons, lcGo]
    have hrr := hr ds[i] (List.getElem_mem hlt)
    simp [dYes, ha, hrr, h1, h2] at this ⊢
    exact this
theorem bools_true (l : List Nat) : bools (l.map fun _ => D.bl true) = some (l.map fun _ => true) := by
  induction l with
  | nil => rfl
  | cons a l ih => show (bools (l.map fun _ => D.bl true)).map (true :: ·) = _; rw [ih]; rfl
theorem same_refl : ∀ (m : Nat) (d : D) (st : Store), Plain m d → F_l_same m [(.z, d), (.z, d)] st = .ok .z false (.bl true) st
  | 0, d, st, h => by cases d <;> exact h.elim
  | m + 1, d, st, h => by
    cases d with
    | non => simp [F_l_same, B_l_same, B_l_same_0, B_l_same_0t_0]
    | bl b => simp [F_l_same, B_l_same, B_l_same_0, B_l_same_1, B_l_same_1t_0]
    | int i => simp [F_l_same, B_l_same, B_l_same_0, B_l_same_1, B_l_same_2, B_l_same_2t_0]
    | str s => exact h.elim
    | fnv s => exact h.elim
    | ref s => exact h.elim
    | con k ds =>
      have hl : ds.length ≤ 1000 ∧ ∀ d ∈ ds, Plain m d := by cases k <;> first | exact h | exact h.elim
      have hk : k = .tup ∨ k = .lst := by cases k <;> first | exact .inl rfl | exact .inr rfl | exact h.elim
      have L := same_loop (rec := F_l_same m) (k1 := k) (k2 := k) (ds := ds) (st := st) (by rcases hk with rfl | rfl <;> rfl) (by rcases hk with rfl | rfl <;> rfl) (fun d hd => same_refl m d st (hl.2 d hd)) (List.range ds.length) [] fun i hi => List.mem_range.mp hi
      have s62 : small62 (ds.length : Int) = true := by simp [small62]; omega
      have rg : rngItems 0 (ds.length : Int) = (List.range ds.length).map fun (i : Nat) => D.int (0 + (i : Int)) := by simp [rngItems]
      have hb := bools_true (List.range ds.length)
      have hlen : (ds.length ≤ 16777215) := by omega
      rcases hk with rfl | rfl
      · simp at L hlen
        simp [F_l_same, B_l_same, B_l_same_0, B_l_same_1, B_l_same_2, B_l_same_3, B_l_same_4, dLc, s62, rg, nonesAt, hlen, L, hb]
      · simp at L hlen
        simp [F_l_same, B_l_same, B_l_same_0, B_l_same_1, B_l_same_2, B_l_same_3, B_l_same_4, dLc, s62, rg, nonesAt, hlen, L, hb]
end L01

set_option Elab.async false
set_option linter.all false
set_option maxRecDepth 100000
set_option autoImplicit false
namespace L01
open PySem PySem.Spec L2 Hx
section
variable {st : Store} {c : Nat} {k : Nat}
theorem pow6 : powOk 10 6 = true := by decide
theorem f_l_grid (B : Bag k st c) (hk : k + 3 < 2 ^ 100) : ∃ w a b st', F_l_grid [(.z, .ref c)] st = .ok .z false (.con .tup [.int w, .int a, .int b]) st' ∧ 0 ≤ w ∧ w ≤ 61 ∧ -1000000 ≤ a ∧ a ≤ 1000000 ∧ -1000000 ≤ b ∧ b ≤ 1000000 ∧ Bag (k + 3) st' c ∧ Fro1 c st st' := by
  obtain ⟨g, s1, e1, g1, g2, B1, f1⟩ := f_l_pull (many := 6) B (by omega) (by decide) (by unfold Sm; decide)
  by_cases h4 : g < 4
  · refine ⟨4, 0, 0, s1, ?_, by omega, by omega, by omega, by omega, by omega, by omega, B1.mono (by omega), f1⟩
    simp [F_l_grid, B_l_grid, B_l_grid_0, B_l_grid_1, B_l_grid_1t_0, e1, h4]
  by_cases h5 : g = 4
  · obtain ⟨g', s2, e2, g3, g4, B2, f2⟩ := f_l_pull (many := 60) B1 (by omega) (by decide) (by unfold Sm; decide)
    refine ⟨1 + g', 0, 0, s2, ?_, by omega, by omega, by omega, by omega, by omega, by omega, B2.mono (by omega), f1.trans f2⟩
    simp [F_l_grid, B_l_grid, B_l_grid_0, B_l_grid_1, B_l_grid_2, B_l_grid_2t_0, e1, h5, e2]
  · obtain ⟨g', s2, e2, g3, g4, B2, f2⟩ := f_l_pull (many := 2) B1 (by omega) (by decide) (by unfold Sm; decide)
    obtain ⟨g'', s3, e3, g5, g6, B3, f3⟩ := f_l_pull (many := 3) B2 (by omega) (by decide) (by unfold Sm; decide)
    have m1 : mulOk 999995 (2 * g' - 1) = true := Sm.ok (n := 20) (m := 20) (by unfold Sm; decide) (by unfold Sm; omega) (by decide) (by decide)
    have m2 : mulOk 999995 (g'' - 1) = true := Sm.ok (n := 20) (m := 20) (by unfold Sm; decide) (by unfold Sm; omega) (by decide) (by decide)
    have m3 : mulOk 2 g' = true := Sm.ok (n := 20) (m := 20) (by unfold Sm; decide) (by unfold Sm; omega) (by decide) (by decide)
    refine ⟨5, 999995 * (2 * g' - 1), 999995 * (g'' - 1), s3, ?_, by omega, by omega, by omega, by omega, by omega, by omega, B3.mono (by omega), (f1.trans f2).trans f3⟩
    simp [F_l_grid, B_l_grid, B_l_grid_0, B_l_grid_1, B_l_grid_2, B_l_grid_3, e1, h4, h5, e2, e3, pow6, m1, m2, m3]
theorem f_l_spot {w a b : Int} (B : Bag k st c) (hk : k + 3 < 2 ^ 100) (h0 : 0 ≤ w) (h1 : w ≤ 61) (h2 : -1000000 ≤ a) (h3 : a ≤ 1000000) (h4 : -1000000 ≤ b) (h5 : b ≤ 1000000) :
    ∃ x y st', F_l_spot [(.z, .ref c), (.z, .con .tup [.int w, .int a, .int b])] st = .ok .z false (P2 x y) st' ∧ -1000100 ≤ x ∧ x ≤ 1000100 ∧ -1000100 ≤ y ∧ y ≤ 1000100 ∧ Bag (k + 2) st' c ∧ Fro1 c st st' := by
  obtain ⟨g, s1, e1, g1, g2, B1, f1⟩ := f_l_pull (many := 2 * w + 1) B (by omega) (by omega) (Sm.mono (n := 20) (by unfold Sm; omega) (by decide))
  obtain ⟨g', s2, e2, g3, g4, B2, f2⟩ := f_l_pull (many := 2 * w + 1) B1 (by omega) (by omega) (Sm.mono (n := 20) (by unfold Sm; omega) (by decide))
  have m3 : mulOk 2 w = true := Sm.ok (n := 20) (m := 20) (by unfold Sm; decide) (by unfold Sm; omega) (by decide) (by decide)
  refine ⟨a + g - w, b + g' - w, s2, ?_, by omega, by omega, by omega, by omega, B2, f1.trans f2⟩
  simp [F_l_spot, B_l_spot, B_l_spot_1, B_l_spot_2, zs, e1, e2, m3]
theorem f_l_wider {x y m : Int} (hx : Sm 300 x) (hy : Sm 300 y) (hm : Sm 300 m) : F_l_wider [(.z, P2 x y), (.z, .int m)] st = .ok .z false (P2 (x * m) (y * m)) st := by
  have m1 := hx.ok hm (by decide) (by decide)
  have m2 := hy.ok hm (by decide) (by decide)
  simp [F_l_wider, B_l_wider, B_l_wider_0, m1, m2]
/-- the cross product -/
def crs (ax ay bx bY cx cy : Int) : Int := (bx - ax) * (cy - ay) - (bY - ay) * (cx - ax)
def sg (r : Int) : Int := (if 0 < r then 1 else 0) - (if r < 0 then 1 else 0)
def wthn (l n h : Int) : Bool := decide ((if h < l then h else l) ≤ n) && decide (n ≤ (if h > l then h else l))
variable {ax ay bx bY cx cy : Int}
theorem f_corner_room (h1 : Sm 300 ax) (h2 : Sm 300 ay) (h3 : Sm 300 bx) (h4 : Sm 300 bY) (h5 : Sm 300 cx) (h6 : Sm 300 cy) :
    F_corner_room [(.z, P2 ax ay), (.z, P2 bx bY), (.z, P2 cx cy)] st = .ok .z false (.int (crs ax ay bx bY cx cy)) st := by
  have m1 := (h3.sub h1).ok (h6.sub h2) (by decide) (by decide)
  have m2 := (h4.sub h2).ok (h5.sub h1) (by decide) (by decide)
  simp [F_corner_room, B_corner_room, B_corner_room_0, crs, m1, m2]
theorem f_l_cross (h1 : Sm 300 ax) (h2 : Sm 300 ay) (h3 : Sm 300 bx) (h4 : Sm 300 bY) (h5 : Sm 300 cx) (h6 : Sm 300 cy) :
    F_l_cross [(.z, P2 ax ay), (.z, P2 bx bY), (.z, P2 cx cy)] st = .ok .z false (.int (crs ax ay bx bY cx cy)) st := by
  have m1 := (h3.sub h1).ok (h6.sub h2) (by decide) (by decide)
  have m2 := (h4.sub h2).ok (h5.sub h1) (by decide) (by decide)
  simp [F_l_cross, B_l_cross, B_l_cross_0, crs, m1, m2]
theorem f_side (h1 : Sm 300 ax) (h2 : Sm 300 ay) (h3 : Sm 300 bx) (h4 : Sm 300 bY) (h5 : Sm 300 cx) (h6 : Sm 300 cy) :
    F_side [(.z, P2 ax ay), (.z, P2 bx bY), (.z, P2 cx cy)] st = .ok .z false (.int (sg (crs ax ay bx bY cx cy))) st := by
  have e := f_corner_room (st := st) h1 h2 h3 h4 h5 h6
  simp [F_side, B_side, B_side_0, B_side_1, e, sg]
theorem f_is_within {l n h : Int} : F_is_within [(.z, .int l), (.z, .int n), (.z, .int h)] st = .ok .z false (.bl (wthn l n h)) st := by
  by_cases hh : (if h < l then h else l) ≤ n
  · simp [F_is_within, B_is_within, B_is_within_0, hh, wthn]
  · simp [F_is_within, B_is_within, B_is_within_0, hh, wthn]
theorem sg0 {r : Int} : sg r = 0 ↔ r = 0 := by
  unfold sg
  constructor
  · intro h
    split at h <;> split at h <;> omega
  · intro h
    subst h
    rfl
def onP (ax ay bx bY cx cy : Int) : Bool := decide (crs ax ay bx bY cx cy = 0) && (wthn ax cx bx && wthn ay cy bY)
theorem f_on_piece (h1 : Sm 300 ax) (h2 : Sm 300 ay) (h3 : Sm 300 bx) (h4 : Sm 300 bY) (h5 : Sm 300 cx) (h6 : Sm 300 cy) :
    F_on_piece [(.z, P2 cx cy), (.z, .con .tup [P2 ax ay, P2 bx bY])] st = .ok .z false (.bl (onP ax ay bx bY cx cy)) st := by
  have e := f_side (st := st) h1 h2 h3 h4 h5 h6
  have w1 := f_is_within (st := st) (l := ax) (n := cx) (h := bx)
  have w2 := f_is_within (st := st) (l := ay) (n := cy) (h := bY)
  by_cases h0 : crs ax ay bx bY cx cy = 0
  · have hs := sg0.mpr h0
    cases hw : wthn ax cx bx <;> simp [F_on_piece, B_on_piece, B_on_piece_1, B_on_piece_2, zs, e, hs, w1, w2, h0, onP, hw, show sg 0 = 0 from rfl]
  · have hs : sg (crs ax ay bx bY cx cy) ≠ 0 := fun z => h0 (sg0.mp z)
    simp [F_on_piece, B_on_piece, B_on_piece_1, B_on_piece_2, zs, e, hs, h0, onP]
theorem f_l_touch (h1 : Sm 300 ax) (h2 : Sm 300 ay) (h3 : Sm 300 bx) (h4 : Sm 300 bY) (h5 : Sm 300 cx) (h6 : Sm 300 cy) :
    F_l_touch [(.z, P2 ax ay), (.z, P2 bx bY), (.z, P2 cx cy)] st = .ok .z false (.bl (onP ax ay bx bY cx cy)) st := by
  have e := f_l_cross (st := st) h1 h2 h3 h4 h5 h6
  by_cases h0 : crs ax ay bx bY cx cy = 0
  · by_cases q1 : (if bx < ax then bx else ax) ≤ cx
    · by_cases q2 : cx ≤ (if bx > ax then bx else ax)
      · by_cases q3 : (if bY < ay then bY else ay) ≤ cy
        · simp [F_l_touch, B_l_touch, B_l_touch_0, B_l_touch_1, e, h0, onP, wthn, q1, q2, q3]
        · simp [F_l_touch, B_l_touch, B_l_touch_0, B_l_touch_1, e, h0, onP, wthn, q1, q2, q3]
      · simp [F_l_touch, B_l_touch, B_l_touch_0, B_l_touch_1, e, h0, onP, wthn, q1, q2]
    · simp [F_l_touch, B_l_touch, B_l_touch_0, B_l_touch_1, e, h0, onP, wthn, q1]
  · simp [F_l_touch, B_l_touch, B_l_touch_0, B_l_touch_1, e, h0, onP]
theorem crs_turn : crs bx bY ax ay cx cy = - crs ax ay bx bY cx cy := by
  unfold crs
  grind
theorem crs_self : crs ax ay bx bY ax ay = 0 := by
  unfold crs
  grind
theorem onP_self : onP ax ay bx bY ax ay = true := by
  unfold onP wthn
  rw [crs_self]
  simp
  refine ⟨⟨?_, ?_⟩, ?_, ?_⟩ <;> split <;> omega
end
end L01

set_option Elab.async false
set_option linter.all false
set_option maxRecDepth 100000
set_option autoImplicit false
namespace L01
open PySem PySem.Spec L2 Hx
section
variable {st : Store} {k : Nat} {scr : D} {v2 v3 v4 v5 v6 v7 v8 v9 v10 v11 : Option (Fr × D)} {ax ay bx bY cx cy : Int}
theorem rg3 : rngItems 0 3 = [.int 0, .int 1, .int 2] := rfl
theorem step1 (B : Bag k st 0) (hk : k + 20 < 2 ^ 100) {w a b : Int} (h0 : 0 ≤ w) (h1 : w ≤ 61) (h2 : -1000000 ≤ a) (h3 : a ≤ 1000000) (h4 : -1000000 ≤ b) (h5 : b ≤ 1000000) :
    ∃ ax ay bx bY cx cy st', B_law_1b_1 [some (.z, scr), some (.z, .ref 0), v2, some (.z, .con .tup [.int w, .int a, .int b]), v4, v5, v6, v7, v8, v9, v10, v11, none, none] st = .nx [some (.z, scr), some (.z, .ref 0), v2, some (.z, .con .tup [.int w, .int a, .int b]), some (.z, P2 ax ay), some (.z, P2 bx bY), some (.z, P2 cx cy), v7, v8, v9, v10, v11, none, none] st' ∧
      Bag (k + 6) st' 0 ∧ -1000100 ≤ ax ∧ ax ≤ 1000100 ∧ -1000100 ≤ ay ∧ ay ≤ 1000100 ∧ -1000100 ≤ bx ∧ bx ≤ 1000100 ∧ -1000100 ≤ bY ∧ bY ≤ 1000100 ∧ -1000100 ≤ cx ∧ cx ≤ 1000100 ∧ -1000100 ≤ cy ∧ cy ≤ 1000100 := by
  obtain ⟨ax, ay, s1, e1, a1, a2, a3, a4, B1, f1⟩ := f_l_spot B (by omega) h0 h1 h2 h3 h4 h5
  obtain ⟨bx, bY, s2, e2, b1, b2, b3, b4, B2, f2⟩ := f_l_spot B1 (by omega) h0 h1 h2 h3 h4 h5
  obtain ⟨cx, cy, s3, e3, c1, c2, c3, c4, B3, f3⟩ := f_l_spot B2 (by omega) h0 h1 h2 h3 h4 h5
  refine ⟨ax, ay, bx, bY, cx, cy, s3, ?_, B3.mono (by omega), a1, a2, a3, a4, b1, b2, b3, b4, c1, c2, c3, c4⟩
  have s62 : small62 3 = true := by decide
  simp [B_law_1b_1, dLc, s62, rg3, nonesAt, lcGo, dYes, e1, e2, e3]
theorem step2 (B : Bag k st 0) (hk : k + 20 < 2 ^ 100) : ∃ x y st', B_law_1b_2 [some (.z, scr), some (.z, .ref 0), v2, v3, some (.z, P2 ax ay), some (.z, P2 bx bY), v6, v7, v8, v9, v10, v11, none, none] st = .nx [some (.z, scr), some (.z, .ref 0), v2, v3, some (.z, P2 ax ay), some (.z, P2 x y), v6, v7, v8, v9, v10, v11, none, none] st' ∧
      Bag (k + 1) st' 0 ∧ (x = ax ∧ y = ay ∨ x = bx ∧ y = bY) := by
  obtain ⟨g, s1, e1, g1, g2, B1, f1⟩ := f_l_pull (many := 5) B (by omega) (by decide) (by unfold Sm; decide)
  by_cases h : g = 0
  · refine ⟨ax, ay, s1, ?_, B1, .inl ⟨rfl, rfl⟩⟩
    simp [B_law_1b_2, e1, h]
  · refine ⟨bx, bY, s1, ?_, B1, .inr ⟨rfl, rfl⟩⟩
    simp [B_law_1b_2, e1, h]
theorem step3 (B : Bag k st 0) (hk : k + 20 < 2 ^ 100) : ∃ g st', B_law_1b_3 [some (.z, scr), some (.z, .ref 0), v2, v3, v4, v5, v6, v7, v8, v9, v10, v11, none, none] st = .nx [some (.z, scr), some (.z, .ref 0), v2, v3, v4, v5, v6, some (.z, .int g), v8, v9, v10, v11, none, none] st' ∧ Bag (k + 1) st' 0 ∧ 0 ≤ g := by
  obtain ⟨g, s1, e1, g1, g2, B1, f1⟩ := f_l_pull (many := 6) B (by omega) (by decide) (by unfold Sm; decide)
  exact ⟨g, s1, by simp [B_law_1b_3, e1], B1, g1⟩
theorem step4 {g : Int} (g1 : 0 ≤ g) (a1 : -1000100 ≤ ax) (a2 : ax ≤ 1000100) (a3 : -1000100 ≤ ay) (a4 : ay ≤ 1000100) (b1 : -1000100 ≤ bx) (b2 : bx ≤ 1000100) (b3 : -1000100 ≤ bY) (b4 : bY ≤ 1000100) (c1 : -1000100 ≤ cx) (c2 : cx ≤ 1000100) (c3 : -1000100 ≤ cy) (c4 : cy ≤ 1000100) :
    ∃ x y v8', B_law_1b_4 [some (.z, scr), some (.z, .ref 0), v2, v3, some (.z, P2 ax ay), some (.z, P2 bx bY), some (.z, P2 cx cy), some (.z, .int g), v8, v9, v10, v11, none, none] st = .nx [some (.z, scr), some (.z, .ref 0), v2, v3, some (.z, P2 ax ay), some (.z, P2 bx bY), some (.z, P2 x y), some (.z, .int g), v8', v9, v10, v11, none, none] st ∧
      -10000000 ≤ x ∧ x ≤ 10000000 ∧ -10000000 ≤ y ∧ y ≤ 10000000 := by
  by_cases h : g < 2
  · have hg : g = 0 ∨ g = 1 := by omega
    rcases hg with rfl | rfl
    · have m1 : mulOk 2 (bx - ax) = true := Sm.ok (n := 30) (m := 30) (by unfold Sm; decide) (by unfold Sm; omega) (by decide) (by decide)
      have m2 : mulOk 2 (bY - ay) = true := Sm.ok (n := 30) (m := 30) (by unfold Sm; decide) (by unfold Sm; omega) (by decide) (by decide)
      refine ⟨ax + 2 * (bx - ax), ay + 2 * (bY - ay), some (.z, .int 2), ?_, by omega, by omega, by omega, by omega⟩
      simp [B_law_1b_4, B_law_1b_4t_0, B_law_1b_4t_1, m1, m2]
    · have m1 : mulOk (-1) (bx - ax) = true := Sm.ok (n := 30) (m := 30) (by unfold Sm; decide) (by unfold Sm; omega) (by decide) (by decide)
      have m2 : mulOk (-1) (bY - ay) = true := Sm.ok (n := 30) (m := 30) (by unfold Sm; decide) (by unfold Sm; omega) (by decide) (by decide)
      refine ⟨ax + -1 * (bx - ax), ay + -1 * (bY - ay), some (.z, .int (-1)), ?_, by omega, by omega, by omega, by omega⟩
      simp [B_law_1b_4, B_law_1b_4t_0, B_law_1b_4t_1, m1, m2]
  · refine ⟨cx, cy, v8, ?_, by omega, by omega, by omega, by omega⟩
    simp [B_law_1b_4, h]
theorem step5 (B : Bag k st 0) (hk : k + 20 < 2 ^ 100) : ∃ m st', B_law_1b_5 [some (.z, scr), some (.z, .ref 0), v2, v3, v4, v5, v6, v7, v8, v9, v10, v11, none, none] st = .nx [some (.z, scr), some (.z, .ref 0), v2, v3, v4, v5, v6, v7, v8, some (.z, .int m), v10, v11, none, none] st' ∧ Bag (k + 1) st' 0 ∧ Sm 100 m := by
  obtain ⟨g, s1, e1, g1, g2, B1, f1⟩ := f_l_pull (many := 4) B (by omega) (by decide) (by unfold Sm; decide)
  have p22 : powOk 10 22 = true := by decide
  by_cases h : g = 0
  · exact ⟨10 ^ 22, s1, by simp [B_law_1b_5, e1, h, p22], B1, by unfold Sm; decide⟩
  · exact ⟨1, s1, by simp [B_law_1b_5, e1, h, p22], B1, by unfold Sm; decide⟩
theorem step6 {m : Int} (hm : Sm 100 m) (h1 : Sm 100 ax) (h2 : Sm 100 ay) (h3 : Sm 100 bx) (h4 : Sm 100 bY) (h5 : Sm 100 cx) (h6 : Sm 100 cy) :
    B_law_1b_6 [some (.z, scr), some (.z, .ref 0), v2, v3, some (.z, P2 ax ay), some (.z, P2 bx bY), some (.z, P2 cx cy), v7, v8, some (.z, .int m), v10, v11, none, none] st =
      .nx [some (.z, scr), some (.z, .ref 0), v2, v3, some (.z, P2 (ax * m) (ay * m)), some (.z, P2 (bx * m) (bY * m)), some (.z, P2 (cx * m) (cy * m)), v7, v8, some (.z, .int m), v10, v11, none, none] st := by
  have w1 := f_l_wider (st := st) (h1.mono (m := 300) (by decide)) (h2.mono (m := 300) (by decide)) (hm.mono (m := 300) (by decide))
  have w2 := f_l_wider (st := st) (h3.mono (m := 300) (by decide)) (h4.mono (m := 300) (by decide)) (hm.mono (m := 300) (by decide))
  have w3 := f_l_wider (st := st) (h5.mono (m := 300) (by decide)) (h6.mono (m := 300) (by decide)) (hm.mono (m := 300) (by decide))
  simp [B_law_1b_6, dLc, nonesAt, lcGo, dYes, w1, w2, w3]
def due (r : Int) : Int := if r < 0 then -1 else if r > 0 then 1 else 0
theorem due_sg (r : Int) : due r = sg r := by
  unfold due sg
  repeat' split
  all_goals omega
theorem sg_neg (r : Int) : sg (-r) = 0 - sg r := by
  unfold sg
  repeat' split
  all_goals omega
theorem pl2 {a b : Int} : Plain 4 (.con .lst [.int a, .int b]) := ⟨by simp, fun d hd => by
  simp at hd
  rcases hd with rfl | rfl <;> trivial⟩
theorem pb2 {a b : Bool} : Plain 4 (.con .lst [.bl a, .bl b]) := ⟨by simp, fun d hd => by
  simp at hd
  rcases hd with rfl | rfl <;> trivial⟩
theorem step7 (h1 : Sm 300 ax) (h2 : Sm 300 ay) (h3 : Sm 300 bx) (h4 : Sm 300 bY) (h5 : Sm 300 cx) (h6 : Sm 300 cy) :
    B_law_1b_7 [some (.z, scr), some (.z, .ref 0), v2, v3, some (.z, P2 ax ay), some (.z, P2 bx bY), some (.z, P2 cx cy), v7, v8, v9, v10, v11, none, none] st =
      .nx [some (.z, scr), some (.z, .ref 0), v2, v3, some (.z, P2 ax ay), some (.z, P2 bx bY), some (.z, P2 cx cy), v7, v8, v9, some (.z, .int (crs ax ay bx bY cx cy)), v11, none, none] st := by
  simp [B_law_1b_7, f_l_cross h1 h2 h3 h4 h5 h6]
theorem step8 {r : Int} : B_law_1b_8 [some (.z, scr), some (.z, .ref 0), v2, v3, v4, v5, v6, v7, v8, v9, some (.z, .int r), v11, none, none] st =
      .nx [some (.z, scr), some (.z, .ref 0), v2, v3, v4, v5, v6, v7, v8, v9, some (.z, .int r), some (.z, .int (due r)), none, none] st := by
  by_cases h : r < 0
  · simp [B_law_1b_8, h, due]
  · by_cases h' : 0 < r
    · simp [B_law_1b_8, h, h', due]
    · simp [B_law_1b_8, h, h', due]
theorem step9 (h1 : Sm 300 ax) (h2 : Sm 300 ay) (h3 : Sm 300 bx) (h4 : Sm 300 bY) (h5 : Sm 300 cx) (h6 : Sm 300 cy) :
    B_law_1b_9 [some (.z, scr), some (.z, .ref 0), v2, v3, some (.z, P2 ax ay), some (.z, P2 bx bY), some (.z, P2 cx cy), v7, v8, v9, v10, some (.z, .int (due (crs ax ay bx bY cx cy))), none, none] st =
      .nx [some (.z, scr), some (.z, .ref 0), v2, v3, some (.z, P2 ax ay), some (.z, P2 bx bY), some (.z, P2 cx cy), v7, v8, v9, v10, some (.z, .int (due (crs ax ay bx bY cx cy))), none, none] st := by
  have e1 := f_side (st := st) h1 h2 h3 h4 h5 h6
  have e2 := f_side (st := st) h3 h4 h1 h2 h5 h6
  rw [crs_turn, sg_neg] at e2
  rw [due_sg]
  have e3 := same_refl 4 _ st (pl2 (a := sg (crs ax ay bx bY cx cy)) (b := 0 - sg (crs ax ay bx bY cx cy)))
  simp only [Int.zero_sub] at e2 e3
  simp [B_law_1b_9, e1, e2, e3]
theorem step10 (h1 : Sm 300 ax) (h2 : Sm 300 ay) (h3 : Sm 300 bx) (h4 : Sm 300 bY) (h5 : Sm 300 cx) (h6 : Sm 300 cy) :
    B_law_1b_10 [some (.z, scr), some (.z, .ref 0), v2, v3, some (.z, P2 ax ay), some (.z, P2 bx bY), some (.z, P2 cx cy), v7, v8, v9, v10, v11, none, none] st =
      .nx [some (.z, scr), some (.z, .ref 0), v2, v3, some (.z, P2 ax ay), some (.z, P2 bx bY), some (.z, P2 cx cy), v7, v8, v9, v10, v11, none, none] st := by
  have e1 := f_on_piece (st := st) h1 h2 h3 h4 h5 h6
  have e2 := f_on_piece (st := st) h1 h2 h3 h4 h1 h2
  have e3 := f_l_touch (st := st) h1 h2 h3 h4 h5 h6
  rw [onP_self] at e2
  have e4 := same_refl 4 _ st (pb2 (a := onP ax ay bx bY cx cy) (b := true))
  simp [B_law_1b_10, e1, e2, e3, e4]
end
end L01

set_option Elab.async false
set_option linter.all false
set_option maxRecDepth 100000
set_option autoImplicit false
namespace L01
open PySem PySem.Spec L2 Hx
theorem sm_of {i : Int} (h1 : -10000000 ≤ i) (h2 : i ≤ 10000000) : Sm 100 i := Sm.mono (n := 30) (by unfold Sm; omega) (by decide)
theorem seq_nx {a b : DenS} {env e1 : Hx.Env} {st s1 : Store} (h : a env st = .nx e1 s1) : dSeq a b env st = b e1 s1 := by
  unfold dSeq
  rw [h]
theorem body {st : Store} {k : Nat} {scr : D} {v2 v3 v4 v5 v6 v7 v8 v9 v10 v11 : Option (Fr × D)} (B : Bag k st 0) (hk : k + 40 < 2 ^ 100) :
    ∃ w3 w4 w5 w6 w7 w8 w9 w10 w11 st', B_law_1b [some (.z, scr), some (.z, .ref 0), v2, v3, v4, v5, v6, v7, v8, v9, v10, v11, none, none] st = .nx [some (.z, scr), some (.z, .ref 0), v2, w3, w4, w5, w6, w7, w8, w9, w10, w11, none, none] st' ∧ Bag (k + 20) st' 0 := by
  obtain ⟨w, a, b, s0, e0, h0, h1, h2, h3, h4, h5, B0, _⟩ := f_l_grid B (by omega)
  have q0 : dSetZ 3 (dCall F_l_grid [] (dLast (dVar 1))) [some (.z, scr), some (.z, .ref 0), v2, v3, v4, v5, v6, v7, v8, v9, v10, v11, none, none] st = .nx [some (.z, scr), some (.z, .ref 0), v2, some (.z, .con .tup [.int w, .int a, .int b]), v4, v5, v6, v7, v8, v9, v10, v11, none, none] s0 := by simp [e0]
  obtain ⟨ax, ay, bx, bY, cx, cy, s1, q1, B1, a1, a2, a3, a4, b1, b2, b3, b4, c1, c2, c3, c4⟩ := step1 (scr := scr) (v2 := v2) (v4 := v4) (v5 := v5) (v6 := v6) (v7 := v7) (v8 := v8) (v9 := v9) (v10 := v10) (v11 := v11) B0 (by omega) h0 h1 h2 h3 h4 h5
  obtain ⟨x, y, s2, q2, B2, hx⟩ := step2 (scr := scr) (v2 := v2) (v3 := some (.z, .con .tup [.int w, .int a, .int b])) (ax := ax) (ay := ay) (bx := bx) (bY := bY) (v6 := some (.z, P2 cx cy)) (v7 := v7) (v8 := v8) (v9 := v9) (v10 := v10) (v11 := v11) B1 (by omega)
  have x1 : -1000100 ≤ x := by rcases hx with ⟨e, _⟩ | ⟨e, _⟩ <;> omega
  have x2 : x ≤ 1000100 := by rcases hx with ⟨e, _⟩ | ⟨e, _⟩ <;> omega
  have y1 : -1000100 ≤ y := by rcases hx with ⟨_, e⟩ | ⟨_, e⟩ <;> omega
  have y2 : y ≤ 1000100 := by rcases hx with ⟨_, e⟩ | ⟨_, e⟩ <;> omega
  obtain ⟨g, s3, q3, B3, g0⟩ := step3 (scr := scr) (v2 := v2) (v3 := some (.z, .con .tup [.int w, .int a, .int b])) (v4 := some (.z, P2 ax ay)) (v5 := some (.z, P2 x y)) (v6 := some (.z, P2 cx cy)) (v7 := v7) (v8 := v8) (v9 := v9) (v10 := v10) (v11 := v11) B2 (by omega)
  obtain ⟨cx', cy', v8', q4, d1, d2, d3, d4⟩ := step4 (scr := scr) (st := s3) (v2 := v2) (v3 := some (.z, .con .tup [.int w, .int a, .int b])) (v8 := v8) (v9 := v9) (v10 := v10) (v11 := v11) g0 a1 a2 a3 a4 x1 x2 y1 y2 c1 c2 c3 c4
  obtain ⟨m, s5, q5, B5, hm⟩ := step5 (scr := scr) (v2 := v2) (v3 := some (.z, .con .tup [.int w, .int a, .int b])) (v4 := some (.z, P2 ax ay)) (v5 := some (.z, P2 x y)) (v6 := some (.z, P2 cx' cy')) (v7 := some (.z, .int g)) (v8 := v8') (v9 := v9) (v10 := v10) (v11 := v11) B3 (by omega)
  have sa := sm_of (i := ax) (by omega) (by omega)
  have sa' := sm_of (i := ay) (by omega) (by omega)
  have sb := sm_of (i := x) (by omega) (by omega)
  have sb' := sm_of (i := y) (by omega) (by omega)
  have sc := sm_of (i := cx') (by omega) (by omega)
  have sc' := sm_of (i := cy') (by omega) (by omega)
  have q6 := step6 (scr := scr) (st := s5) (v2 := v2) (v3 := some (.z, .con .tup [.int w, .int a, .int b])) (v7 := some (.z, .int g)) (v8 := v8') (v10 := v10) (v11 := v11) hm sa sa' sb sb' sc sc'
  have t1 := (sa.mul hm).mono (m := 300) (by decide)
  have t2 := (sa'.mul hm).mono (m := 300) (by decide)
  have t3 := (sb.mul hm).mono (m := 300) (by decide)
  have t4 := (sb'.mul hm).mono (m := 300) (by decide)
  have t5 := (sc.mul hm).mono (m := 300) (by decide)
  have t6 := (sc'.mul hm).mono (m := 300) (by decide)
  have q7 := step7 (scr := scr) (st := s5) (v2 := v2) (v3 := some (.z, .con .tup [.int w, .int a, .int b])) (v7 := some (.z, .int g)) (v8 := v8') (v9 := some (.z, .int m)) (v10 := v10) (v11 := v11) t1 t2 t3 t4 t5 t6
  have q8 := step8 (scr := scr) (st := s5) (v2 := v2) (v3 := some (.z, .con .tup [.int w, .int a, .int b])) (v4 := some (.z, P2 (ax * m) (ay * m))) (v5 := some (.z, P2 (x * m) (y * m))) (v6 := some (.z, P2 (cx' * m) (cy' * m))) (v7 := some (.z, .int g)) (v8 := v8') (v9 := some (.z, .int m)) (v11 := v11) (r := crs (ax * m) (ay * m) (x * m) (y * m) (cx' * m) (cy' * m))
  have q9 := step9 (scr := scr) (st := s5) (v2 := v2) (v3 := some (.z, .con .tup [.int w, .int a, .int b])) (v7 := some (.z, .int g)) (v8 := v8') (v9 := some (.z, .int m)) (v10 := some (.z, .int (crs (ax * m) (ay * m) (x * m) (y * m) (cx' * m) (cy' * m)))) t1 t2 t3 t4 t5 t6
  have q10 := step10 (scr := scr) (st := s5) (v2 := v2) (v3 := some (.z, .con .tup [.int w, .int a, .int b])) (v7 := some (.z, .int g)) (v8 := v8') (v9 := some (.z, .int m)) (v10 := some (.z, .int (crs (ax * m) (ay * m) (x * m) (y * m) (cx' * m) (cy' * m)))) (v11 := some (.z, .int (due (crs (ax * m) (ay * m) (x * m) (y * m) (cx' * m) (cy' * m))))) t1 t2 t3 t4 t5 t6
  have hh := (seq_nx (b := dSeq B_law_1b_1 (dSeq B_law_1b_2 (dSeq B_law_1b_3 (dSeq B_law_1b_4 (dSeq B_law_1b_5 (dSeq B_law_1b_6 (dSeq B_law_1b_7 (dSeq B_law_1b_8 (dSeq B_law_1b_9 B_law_1b_10))))))))) q0).trans <| (seq_nx q1).trans <| (seq_nx q2).trans <| (seq_nx q3).trans <| (seq_nx q4).trans <| (seq_nx q5).trans <| (seq_nx q6).trans <| (seq_nx q7).trans <| (seq_nx q8).trans <| (seq_nx q9).trans q10
  exact ⟨_, _, _, _, _, _, _, _, _, s5, hh, B5.mono (by omega)⟩
theorem loop {scr : D} : ∀ (is : List D) {st : Store} {k : Nat} {v2 v3 v4 v5 v6 v7 v8 v9 v10 v11 : Option (Fr × D)}, Bag k st 0 → k + 20 * is.length + 40 < 2 ^ 100 →
    ∃ w2 w3 w4 w5 w6 w7 w8 w9 w10 w11 st', forGo (.nm 2) B_law_1b [] is [some (.z, scr), some (.z, .ref 0), v2, v3, v4, v5, v6, v7, v8, v9, v10, v11, none, none] st = .nx [some (.z, scr), some (.z, .ref 0), w2, w3, w4, w5, w6, w7, w8, w9, w10, w11, none, none] st'
  | [], st, k, v2, v3, v4, v5, v6, v7, v8, v9, v10, v11, B, hk => ⟨v2, v3, v4, v5, v6, v7, v8, v9, v10, v11, st, rfl⟩
  | d :: is, st, k, v2, v3, v4, v5, v6, v7, v8, v9, v10, v11, B, hk => by
    rw [List.length_cons] at hk
    obtain ⟨w3, w4, w5, w6, w7, w8, w9, w10, w11, s1, q, B1⟩ := body (scr := scr) (v2 := some (.z, d)) (v3 := v3) (v4 := v4) (v5 := v5) (v6 := v6) (v7 := v7) (v8 := v8) (v9 := v9) (v10 := v10) (v11 := v11) B (by omega)
    obtain ⟨u2, u3, u4, u5, u6, u7, u8, u9, u10, u11, s2, r⟩ := loop (scr := scr) is (v2 := some (.z, d)) (v3 := w3) (v4 := w4) (v5 := w5) (v6 := w6) (v7 := w7) (v8 := w8) (v9 := w9) (v10 := w10) (v11 := w11) B1 (by omega)
    refine ⟨u2, u3, u4, u5, u6, u7, u8, u9, u10, u11, s2, ?_⟩
    rw [← r]
    simp [forGo, q, killE]
theorem f_law (ns : List Int) (hl : ns.length ≤ 63) : ∃ st, F_law [(.z, .con .frl (ns.map D.int))] [] = .ok .z false (.bl true) st := by
  obtain ⟨s, e, h0, h1⟩ := f_l_bag ns hl (st := [])
  have B : Bag 0 [(.c .z, BgD ns 0 0 s 0)] 0 := ⟨ns, 0, 0, s, 0, rfl, by omega, by omega, h0, h1, by omega, by omega⟩
  have s62 : small62 8 = true := by decide
  have rg : (rngItems 0 8).length = 8 := rfl
  obtain ⟨w2, w3, w4, w5, w6, w7, w8, w9, w10, w11, st', q⟩ := loop (scr := .con .frl (ns.map D.int)) (rngItems 0 8) (v2 := none) (v3 := none) (v4 := none) (v5 := none) (v6 := none) (v7 := none) (v8 := none) (v9 := none) (v10 := none) (v11 := none) B (by rw [rg]; decide)
  refine ⟨st', ?_⟩
  simp [F_law, B_law, e, dFor, s62, q]
end L01

set_option Elab.async false
set_option linter.all false
set_option maxRecDepth 100000
set_option maxHeartbeats 0
set_option autoImplicit false
namespace L01
open PySem PySem.Spec L2 Hx
open PyProof.Rows hiding St
def dd_corner_room : He.DefD := ⟨("corner_room", none), "corner_room", "corner_room", defArgs (top 1), defBody (top 1), defScope (top 1), [], []⟩
def dd_side : He.DefD := ⟨("side", none), "side", "side", defArgs (top 2), defBody (top 2), defScope (top 2), [], []⟩
def dd_is_within : He.DefD := ⟨("is_within", none), "is_within", "is_within", defArgs (top 3), defBody (top 3), defScope (top 3), [], []⟩
def dd_on_piece : He.DefD := ⟨("on_piece", none), "on_piece", "on_piece", defArgs (top 4), defBody (top 4), defScope (top 4), [], []⟩
def dd_l_bag : He.DefD := ⟨("_law_bag", none), "_law_bag", "_law_bag", defArgs (top 6), defBody (top 6), defScope (top 6), [], []⟩
def dd_l_pull : He.DefD := ⟨("_law_pull", none), "_law_pull", "_law_pull", defArgs (top 7), defBody (top 7), defScope (top 7), [], []⟩
def dd_l_same : He.DefD := ⟨("_law_same", none), "_law_same", "_law_same", defArgs (top 8), defBody (top 8), defScope (top 8), [], []⟩
def dd_l_cross : He.DefD := ⟨("_law_cross", none), "_law_cross", "_law_cross", defArgs (top 9), defBody (top 9), defScope (top 9), [], []⟩
def dd_l_touch : He.DefD := ⟨("_law_touch", none), "_law_touch", "_law_touch", defArgs (top 10), defBody (top 10), defScope (top 10), [], []⟩
def dd_l_wider : He.DefD := ⟨("_law_wider", none), "_law_wider", "_law_wider", defArgs (top 11), defBody (top 11), defScope (top 11), [], []⟩
def dd_l_grid : He.DefD := ⟨("_law_grid", none), "_law_grid", "_law_grid", defArgs (top 12), defBody (top 12), defScope (top 12), [], []⟩
def dd_l_spot : He.DefD := ⟨("_law_spot", none), "_law_spot", "_law_spot", defArgs (top 13), defBody (top 13), defScope (top 13), [], []⟩
def dd_law : He.DefD := ⟨("law", none), "law", "law", defArgs (top 14), defBody (top 14), defScope (top 14), [], []⟩
def hfn : List He.DefD := [dd_corner_room, dd_side, dd_is_within, dd_on_piece, dd_l_bag, dd_l_pull, dd_l_same, dd_l_cross, dd_l_touch, dd_l_wider, dd_l_grid, dd_l_spot, dd_law]
def hfa : List He.Fa := [.glo "corner_room", .glo "side", .glo "is_within", .glo "on_piece", .glo "_law_bag", .glo "_law_pull", .glo "_law_same", .glo "_law_cross", .glo "_law_touch", .glo "_law_wider", .glo "_law_grid", .glo "_law_spot", .glo "law", .free "all", .free "bool", .free "int", .free "isinstance", .free "len", .free "list", .free "max", .free "min", .free "range", .free "str", .free "tuple"]
def hloose : List Str := ["corner_room", "side", "is_within", "on_piece", "_law_bag", "_law_pull", "_law_same", "_law_cross", "_law_touch", "_law_wider", "_law_grid", "_law_spot"]
abbrev hR : PySem.W.OpenRow := PySem.W.OpenLaw.row PySem.Challenge.rw_hueshade_k01_sides_of_places
abbrev hH : PySem.W.Hook := He.hookD 4 hfa hfn
def hob (s : PySem.W.SharedT) : He.AlD := He.obsDG 4 hfa hfn (HandSHeadRun.getT s)
theorem hob_eq (s : PySem.W.SharedT) : hob s = hH.obs s.abs := He.obsDG_eq (HandSHeadRun.getT_eq s)
theorem hrun (w : World) : HandSHeadRun.RunEq hR (PySem.W.view hR.prog [14]) hH hob 20000 hloose w := by
  intro os
  kernel_rfl
theorem env_of {P : Program} {w : World} {K : PySem.W.Frag} {h : Heap} {mg : Str → Option Value} {base : Heap} (X : K.In h) (Gn : h.Ns mainGlobals mg) (c : He.SaysD hfa hfn K) : Env (S0 P w K mg base) where
  b_all := He.free_ok X Gn (c.fact 13 (f := .free "all") rfl)
  b_bool := He.free_ok X Gn (c.fact 14 (f := .free "bool") rfl)
  b_int := He.free_ok X Gn (c.fact 15 (f := .free "int") rfl)
  b_isinstance := He.free_ok X Gn (c.fact 16 (f := .free "isinstance") rfl)
  b_len := He.free_ok X Gn (c.fact 17 (f := .free "len") rfl)
  b_list := He.free_ok X Gn (c.fact 18 (f := .free "list") rfl)
  b_max := He.free_ok X Gn (c.fact 19 (f := .free "max") rfl)
  b_min := He.free_ok X Gn (c.fact 20 (f := .free "min") rfl)
  b_range := He.free_ok X Gn (c.fact 21 (f := .free "range") rfl)
  b_str := He.free_ok X Gn (c.fact 22 (f := .free "str") rfl)
  b_tuple := He.free_ok X Gn (c.fact 23 (f := .free "tuple") rfl)
  k_corner_room := kn_of c X Gn 0 0 (d := dd_corner_room) rfl rfl
  k_side := kn_of c X Gn 1 1 (d := dd_side) rfl rfl
  k_is_within := kn_of c X Gn 2 2 (d := dd_is_within) rfl rfl
  k_on_piece := kn_of c X Gn 3 3 (d := dd_on_piece) rfl rfl
  k_l_bag := kn_of c X Gn 4 4 (d := dd_l_bag) rfl rfl
  k_l_pull := kn_of c X Gn 5 5 (d := dd_l_pull) rfl rfl
  k_l_same := kn_of c X Gn 6 6 (d := dd_l_same) rfl rfl
  k_l_cross := kn_of c X Gn 7 7 (d := dd_l_cross) rfl rfl
  k_l_touch := kn_of c X Gn 8 8 (d := dd_l_touch) rfl rfl
  k_l_wider := kn_of c X Gn 9 9 (d := dd_l_wider) rfl rfl
  k_l_grid := kn_of c X Gn 10 10 (d := dd_l_grid) rfl rfl
  k_l_spot := kn_of c X Gn 11 11 (d := dd_l_spot) rfl rfl
  k_law := kn_of c X Gn 12 12 (d := dd_law) rfl rfl
theorem facts {P : Program} {w : World} {K : PySem.W.Frag} {h : Heap} {mg : Str → Option Value} {f : Addr} (X : K.In h) (Gn : h.Ns mainGlobals mg) (hfa0 : mg ("law" : Str) = some (.ref f)) (c : He.SaysD hfa hfn K) :
    ∃ fd : FuncData, (∀ (s : Shared) (v : Value), BindsTo s fd ⟨[v], []⟩ [("_law_script", v)]) ∧ ∀ base : Heap, K.In base → base.Ns mainGlobals mg → FnOk P w K mg base (L2.CX P w) 6 f fd ["_law_script"] (SpF (S0 P w K mg base).G 1 F_law) := by
  obtain ⟨fd, F⟩ := c.def_ 12 (d := dd_law) rfl
  have e := hfa0.symm.trans (He.glo_ok X Gn (c.fact 12 (f := .glo "law") rfl))
  cases e
  have b := FunD.bindsA (ps := ["_law_script"]) F bn_law
  exact ⟨fd, fun s v => b s [v] rfl, fun base _ _ => ok_fn (S := (S0 P w K mg base).at ["_law_script", "_law_bag_here", "_law_turn", "_law_grid_here", "_law_a", "_law_b", "_law_c", "_law_way", "_law_times_so", "_law_many", "_law_room", "_law_due", "_law_k", "_law_one"] (defScope (top 14)) 5) F sc_law (ds_law (env_of X Gn c)) rfl⟩
end L01
open PySem PySem.W PySem.Calls PyProof.Rows
theorem PySem.Challenge.cw_hueshade_k01_sides_of_places_holds : PySem.Challenge.rw_hueshade_k01_sides_of_places.Holds := by
  w_on; o_law
  refine HandSHeadRun.head_any (r := OpenLaw.row PySem.Challenge.rw_hueshade_k01_sides_of_places) (q := view (OpenLaw.row PySem.Challenge.rw_hueshade_k01_sides_of_places).prog [14]) (H := L01.hH) (ob := L01.hob) (M := 20000) (loose := L01.hloose) (d := HandSHeadRun.topDef (OpenLaw.row PySem.Challenge.rw_hueshade_k01_sides_of_places).prog 14) (kwd := []) L01.hob_eq
    (by kernel_rfl) (fun s => by kernel_rfl) L01.hrun (by kernel_rfl) (by kernel_rfl) (by kernel_rfl) (by rfl) (by first | assumption | decide +kernel) (by decide +kernel) ⟨rfl, rfl, rfl, rfl, rfl, by decide +kernel⟩ ?hw ?hc
  case hw => w_witness2
  case hc =>
    refine Hx.law_end (l := PySem.Challenge.rw_hueshade_k01_sides_of_places) (n := 63) (k := 6) (x := "_law_script") rfl (by decide) (by kernel_rfl) ⟨rfl, by decide, by decide⟩ ?F
    intro w mg fa h Y Gn hmg0
    obtain ⟨K, KX, c⟩ := Y
    have hmg : mg ("law" : PySem.Str) = some (.ref fa) := by
      have e : (HandSHeadRun.topDef (OpenLaw.row PySem.Challenge.rw_hueshade_k01_sides_of_places).prog 14).name = ("law" : PySem.Str) := by kernel_rfl
      rw [← e]
      exact hmg0
    obtain ⟨fd, hb, hF⟩ := L01.facts (P := (PySem.Challenge.rw_hueshade_k01_sides_of_places).prog) (w := w) KX Gn hmg c
    exact ⟨K, fd, _, KX, hb, fun H a ns hl hS => by
      obtain ⟨st, e⟩ := L01.f_law ns hl
      exact Hx.law_sp (G := ⟨K, fun _ => 0, fun _ => [], fun _ => .non⟩) hS e, hF⟩

