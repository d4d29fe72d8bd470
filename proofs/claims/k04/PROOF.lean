import PyProof.Rows.All
import Wide.All
import OpenK.AllK
import Wide.FinOn
import HandS.ForMost
import HandS.Exc
import HandS.Defaults
import HandS.Wide
import HandS.CallSlots
import HandS.WordsExc
import HandS.Style
import HandS.NoneIn
import HandS.TupAny
import HandS.IsInst
import KE.KStateDown
import HandS.Head0
import HandS.Head1
import HandS.Head2
import HandS.HeadEnd
import HandS.HeadHook1
import HandS.HeadHook2
import Lean
import PySem.Challenge.RW_hueshade_k04_whole_figures_moved_and_tur
set_option Elab.async false
set_option linter.all false
set_option maxRecDepth 100000
set_option autoImplicit false
/-! F1: data trees, ownership marks, how a value stands for a tree in a heap. -/
namespace Hx
open PySem PySem.Spec L2
open PyProof.Rows hiding St

inductive Kd
  | tup | lst | frl | dik (ks : List Key) | dit (ks : List (List Key)) | ins (c : Nat)
  deriving DecidableEq
inductive D
  | non | bl (b : Bool) | int (i : Int) | str (s : Str) | fnv (k : Nat) | ref (i : Nat) | con (k : Kd) (ds : List D)
  deriving Inhabited
/-- z: shared, never changed again. c f: owned, its items are f. t, o: of a tuple, of an instance by place -/
inductive Fr
  | z | c (f : Fr) | t (fs : List Fr) | o (fs : List Fr)
  deriving Inhabited
abbrev Fp := Addr → Nat
structure Sg where
  K : PySem.W.Frag
  cls : Nat → Addr
  fld : Nat → List Str
  fn : Nat → V
abbrev Env := List (Option (Fr × D))
abbrev Store := List (Fr × D)

def Scal (G : Sg) : V → D → Prop
  | .non, .non => True
  | .bl a, .bl b => a = b
  | .int a, .int b => a = b
  | .str a, .str b => a = b
  | x, .fnv k => x = G.fn k
  | _, _ => False
/-- the object of a container -/
def IsO (G : Sg) : Kd → List V → HO → Prop
  | .tup, vs, o => o = .tup vs
  | .lst, vs, o => o = .lst vs
  | .frl, vs, o => ∃ ob, o = .frz ob (.lst vs)
  | .dik ks, vs, o => o = .dK (ks.zip vs) ∧ ks.length = vs.length
  | .dit ks, vs, o => o = .dT (ks.zip vs) ∧ ks.length = vs.length
  | .ins c, vs, o => ∃ dx, o = .ins (G.cls c) dx ((G.fld c).zip vs) ∧ vs.length ≤ (G.fld c).length
/-- a dict may be locked while a loop walks it -/
def Rdk (H : Hp) (p : Addr) : Kd → HO → Prop
  | .dik _, o => Rd H p o
  | .dit _, o => Rd H p o
  | _, o => H p = some o
def isDct : HO → Bool
  | .dK _ => true
  | .dT _ => true
  | .frz _ (.dK _) => true
  | .frz _ (.dT _) => true
  | _ => false
def Shr (G : Sg) (Fz : Addr → Prop) (H : Hp) (p : Addr) (k : Kd) (vs : List V) : Prop :=
  match k with
  | .tup => SqT G.K H p vs
  | .frl => (Fz p ∧ Rd H p (.lst vs)) ∨ (SqL G.K (fun _ => none) p vs)
  | k => Fz p ∧ ∃ o, Rdk H p k o ∧ IsO G k vs o
def Own (G : Sg) (H : Hp) (p : Addr) (k : Kd) (vs : List V) : Prop := (k ≠ .tup ∧ k ≠ .frl) ∧ ∃ o, H p = some o ∧ IsO G k vs o
def zs (n : Nat) : List Fr := List.replicate n .z

mutual
inductive Rep (G : Sg) (Fz : Addr → Prop) (am : List Addr) (H : Hp) : Fr → V → D → Fp → Prop
  | sc {v d n} : Scal G v d → (∀ q, n q = 0) → Rep G Fz am H .z v d n
  | rf {i p n} : am[i]? = some p → (∀ q, n q = 0) → Rep G Fz am H .z (.ref p) (.ref i) n
  | zz {p k vs ds n} : Shr G Fz H p k vs → Reps G Fz am H (zs ds.length) vs ds n → (∀ q, n q = 0) → Rep G Fz am H .z (.ref p) (.con k ds) n
  | tp {p vs ds fs n} : SqT G.K H p vs → Reps G Fz am H fs vs ds n → Rep G Fz am H (.t fs) (.ref p) (.con .tup ds) n
  | cc {p k vs ds f n m} : Own G H p k vs → Reps G Fz am H (List.replicate ds.length f) vs ds m → (∀ q, n q = m q + if q = p then 1 else 0) → Rep G Fz am H (.c f) (.ref p) (.con k ds) n
  | oo {p c vs ds fs n m} : Own G H p (.ins c) vs → Reps G Fz am H fs vs ds m → (∀ q, n q = m q + if q = p then 1 else 0) → Rep G Fz am H (.o fs) (.ref p) (.con (.ins c) ds) n
inductive Reps (G : Sg) (Fz : Addr → Prop) (am : List Addr) (H : Hp) : List Fr → List V → List D → Fp → Prop
  | nil {n} : (∀ q, n q = 0) → Reps G Fz am H [] [] [] n
  | cons {f v d fs vs ds n1 n2 n} : Rep G Fz am H f v d n1 → Reps G Fz am H fs vs ds n2 → (∀ q, n q = n1 q + n2 q) → Reps G Fz am H (f :: fs) (v :: vs) (d :: ds) n
end

section
variable {G : Sg} {Fz Fz' : Addr → Prop} {am am' : List Addr} {H H' : Hp}

/-- the shared part stays -/
structure Ext (Fz : Addr → Prop) (am : List Addr) (H : Hp) (Fz' : Addr → Prop) (am' : List Addr) (H' : Hp) : Prop where
  fz : ∀ p, Fz p → Fz' p
  cl : ∀ (i : Nat) (p : Addr), am[i]? = some p → am'[i]? = some p
  rd : ∀ p u, Fz p → Rd H p u → Rd H' p u
  st : ∀ p u, Fz p → H p = some u → isDct u = false → H' p = some u
  tp : ∀ p xs, Rd H p (.tup xs) → Rd H' p (.tup xs)
theorem Ext.refl : Ext Fz am H Fz am H := ⟨fun _ h => h, fun _ _ h => h, fun _ _ _ h => h, fun _ _ _ h _ => h, fun _ _ h => h⟩
theorem Ext.trans {Fz2 : Addr → Prop} {am2 : List Addr} {H2 : Hp} (a : Ext Fz am H Fz' am' H') (b : Ext Fz' am' H' Fz2 am2 H2) : Ext Fz am H Fz2 am2 H2 :=
  ⟨fun p h => b.fz p (a.fz p h), fun i p h => b.cl i p (a.cl i p h), fun p u h1 h2 => b.rd p u (a.fz p h1) (a.rd p u h1 h2), fun p u h1 h2 h3 => b.st p u (a.fz p h1) (a.st p u h1 h2 h3) h3, fun p xs h => b.tp p xs (a.tp p xs h)⟩
theorem Ext.sqt (E : Ext Fz am H Fz' am' H') {K : PySem.W.Frag} {p : Addr} {vs : List V} (h : SqT K H p vs) : SqT K H' p vs := h.imp (E.tp _ _) fun x => x
theorem Ext.shr (E : Ext Fz am H Fz' am' H') {p : Addr} {k : Kd} {vs : List V} (h : Shr G Fz H p k vs) : Shr G Fz' H' p k vs := by
  cases k with
  | tup => exact E.sqt h
  | dik ks => obtain ⟨h1, o, h2, h3⟩ := h; exact ⟨E.fz _ h1, o, E.rd _ _ h1 h2, h3⟩
  | dit ks => obtain ⟨h1, o, h2, h3⟩ := h; exact ⟨E.fz _ h1, o, E.rd _ _ h1 h2, h3⟩
  | lst => obtain ⟨h1, o, h2, h3⟩ := h; exact ⟨E.fz _ h1, o, E.st _ _ h1 h2 (by cases h3; rfl), h3⟩
  | frl => exact h.imp (fun ⟨h1, h2⟩ => ⟨E.fz _ h1, E.rd _ _ h1 h2⟩) id
  | ins c => obtain ⟨h1, o, h2, h3⟩ := h; exact ⟨E.fz _ h1, o, E.st _ _ h1 h2 (by obtain ⟨dx, e, _⟩ := h3; subst e; rfl), h3⟩

mutual
theorem Rep.ext {f : Fr} {v : V} {d : D} {n : Fp} (E : Ext Fz am H Fz' am' H') (r : Rep G Fz am H f v d n) (k : ∀ p o, 0 < n p → H p = some o → H' p = some o) : Rep G Fz' am' H' f v d n :=
  match r with
  | .sc h1 h2 => .sc h1 h2
  | .rf h1 h2 => .rf (E.cl _ _ h1) h2
  | .zz h1 h2 h3 => .zz (E.shr h1) (Reps.ext E h2 k) h3
  | .tp h1 h2 => .tp (E.sqt h1) (Reps.ext E h2 k)
  | .cc ⟨t, o, h1, h2⟩ h3 h4 => .cc ⟨t, o, k _ _ (by rw [h4]; simp) h1, h2⟩ (Reps.ext E h3 fun p o hp => k p o (by rw [h4]; omega)) h4
  | .oo ⟨t, o, h1, h2⟩ h3 h4 => .oo ⟨t, o, k _ _ (by rw [h4]; simp) h1, h2⟩ (Reps.ext E h3 fun p o hp => k p o (by rw [h4]; omega)) h4
theorem Reps.ext {fs : List Fr} {vs : List V} {ds : List D} {n : Fp} (E : Ext Fz am H Fz' am' H') (r : Reps G Fz am H fs vs ds n) (k : ∀ p o, 0 < n p → H p = some o → H' p = some o) : Reps G Fz' am' H' fs vs ds n :=
  match r with
  | .nil h => .nil h
  | .cons h1 h2 h3 => .cons (Rep.ext E h1 fun p o hp => k p o (by rw [h3]; omega)) (Reps.ext E h2 fun p o hp => k p o (by rw [h3]; omega)) h3
end

/-- footprints by value -/
theorem Rep.fp {f : Fr} {v : V} {d : D} {n m : Fp} (r : Rep G Fz am H f v d n) (h : ∀ q, n q = m q) : Rep G Fz am H f v d m := by
  have e : n = m := funext h
  exact e ▸ r
theorem Reps.fp {f : List Fr} {v : List V} {d : List D} {n m : Fp} (r : Reps G Fz am H f v d n) (h : ∀ q, n q = m q) : Reps G Fz am H f v d m := by
  have e : n = m := funext h
  exact e ▸ r

theorem Rep.z0 {v : V} {d : D} {n : Fp} (r : Rep G Fz am H .z v d n) : ∀ q, n q = 0 := by
  cases r with
  | sc _ h => exact h
  | rf _ h => exact h
  | zz _ _ h => exact h
theorem Reps.z0 : ∀ {k : Nat} {vs : List V} {ds : List D} {n : Fp}, Reps G Fz am H (zs k) vs ds n → ∀ q, n q = 0
  | 0, _, _, _, r => by
    cases r with
    | nil h => exact h
  | k + 1, _, _, _, r => by
    have e : zs (k + 1) = .z :: zs k := List.replicate_succ
    rw [e] at r
    cases r with
    | cons h1 h2 h3 => intro q; rw [h3, h1.z0, Reps.z0 h2]
theorem Reps.len {fs : List Fr} {vs : List V} {ds : List D} {n : Fp} (r : Reps G Fz am H fs vs ds n) : fs.length = ds.length ∧ vs.length = ds.length := by
  match r with
  | .nil _ => exact ⟨rfl, rfl⟩
  | .cons _ h _ => have := h.len; exact ⟨congrArg Nat.succ this.1, congrArg Nat.succ this.2⟩

/-- an owned address stands -/
theorem own_there {p0 p : Addr} {k : Kd} {vs : List V} {m : Nat} (h1 : Own G H p0 k vs) (ih : 0 < m → ∃ o, H p = some o) (hp : 0 < m + if p = p0 then 1 else 0) : ∃ o, H p = some o := by
  by_cases e : p = p0
  · subst e
    obtain ⟨_, o, h, _⟩ := h1
    exact ⟨o, h⟩
  · simp [e] at hp
    exact ih hp
mutual
theorem Rep.there {f : Fr} {v : V} {d : D} {n : Fp} (r : Rep G Fz am H f v d n) (p : Addr) (hp : 0 < n p) : ∃ o, H p = some o :=
  match r with
  | .sc _ h => by rw [h] at hp; omega
  | .rf _ h => by rw [h] at hp; omega
  | .zz _ _ h => by rw [h] at hp; omega
  | .tp _ h => Reps.there h p hp
  | .cc h1 h2 h3 => own_there h1 (Reps.there h2 p) (h3 p ▸ hp)
  | .oo h1 h2 h3 => own_there h1 (Reps.there h2 p) (h3 p ▸ hp)
theorem Reps.there {fs : List Fr} {vs : List V} {ds : List D} {n : Fp} (r : Reps G Fz am H fs vs ds n) (p : Addr) (hp : 0 < n p) : ∃ o, H p = some o :=
  match r with
  | .nil h => by rw [h] at hp; omega
  | .cons (n1 := n1) h1 h2 h3 => if e : 0 < n1 p then Rep.there h1 p e else Reps.there h2 p (by rw [h3] at hp; omega)
end
/-- an owned address holds no tuple, is not the dict of an instance -/
def OwnK : HO → Prop
  | .lst _ => True
  | .dK _ => True
  | .dT _ => True
  | .ins _ _ _ => True
  | _ => False
theorem own_kind {p0 p : Addr} {k : Kd} {vs : List V} {m : Nat} (h1 : Own G H p0 k vs) (ih : 0 < m → ∃ o, H p = some o ∧ OwnK o) (hp : 0 < m + if p = p0 then 1 else 0) : ∃ o, H p = some o ∧ OwnK o := by
  by_cases e : p = p0
  · subst e
    obtain ⟨t, o, h, i⟩ := h1
    refine ⟨o, h, ?_⟩
    cases k with
    | tup => exact absurd rfl t.1
    | frl => exact absurd rfl t.2
    | lst => cases i; trivial
    | dik ks => obtain ⟨e, _⟩ := i; subst e; trivial
    | dit ks => obtain ⟨e, _⟩ := i; subst e; trivial
    | ins c => obtain ⟨dx, e, _⟩ := i; subst e; trivial
  · simp [e] at hp
    exact ih hp
mutual
theorem Rep.kind {f : Fr} {v : V} {d : D} {n : Fp} (r : Rep G Fz am H f v d n) (p : Addr) (hp : 0 < n p) : ∃ o, H p = some o ∧ OwnK o :=
  match r with
  | .sc _ h => by rw [h] at hp; omega
  | .rf _ h => by rw [h] at hp; omega
  | .zz _ _ h => by rw [h] at hp; omega
  | .tp _ h => Reps.kind h p hp
  | .cc h1 h2 h3 => own_kind h1 (Reps.kind h2 p) (h3 p ▸ hp)
  | .oo h1 h2 h3 => own_kind h1 (Reps.kind h2 p) (h3 p ▸ hp)
theorem Reps.kind {fs : List Fr} {vs : List V} {ds : List D} {n : Fp} (r : Reps G Fz am H fs vs ds n) (p : Addr) (hp : 0 < n p) : ∃ o, H p = some o ∧ OwnK o :=
  match r with
  | .nil h => by rw [h] at hp; omega
  | .cons (n1 := n1) h1 h2 h3 => if e : 0 < n1 p then Rep.kind h1 p e else Reps.kind h2 p (by rw [h3] at hp; omega)
end
/-! ### owned things become shared -/
def Fro (Fz : Addr → Prop) (n : Fp) : Addr → Prop := fun p => Fz p ∨ 0 < n p
theorem own_shr {p0 : Addr} {k : Kd} {vs : List V} (h1 : Own G H p0 k vs) (hz : Fz p0) : Shr G Fz H p0 k vs := by
  obtain ⟨t, o, h, i⟩ := h1
  cases k with
  | tup => exact absurd rfl t.1
  | frl => exact absurd rfl t.2
  | dik ks => exact ⟨hz, o, .inl h, i⟩
  | dit ks => exact ⟨hz, o, .inl h, i⟩
  | _ => exact ⟨hz, o, h, i⟩
theorem Reps.zlen {vs : List V} {ds : List D} {n : Fp} {k : Nat} (h : Reps G Fz am H (zs k) vs ds n) : Reps G Fz am H (zs ds.length) vs ds n := by
  have e : k = ds.length := by have := h.len.1; simpa [zs] using this
  rw [← e]; exact h
mutual
theorem Rep.frz {f : Fr} {v : V} {d : D} {n : Fp} (r : Rep G Fz am H f v d n) (hz : ∀ p, Fz p → Fz' p) (hn : ∀ p, 0 < n p → Fz' p) : Rep G Fz' am H .z v d (fun _ => 0) :=
  match r with
  | .sc h1 _ => .sc h1 fun _ => rfl
  | .rf h1 _ => .rf h1 fun _ => rfl
  | .zz h1 h2 h3 => .zz (Ext.shr (am := am) (am' := am) ⟨hz, fun _ _ h => h, fun _ _ _ h => h, fun _ _ _ h _ => h, fun _ _ h => h⟩ h1) (Reps.frz h2 hz fun p hp => hn p (by rw [h3]; rw [h2.z0] at hp; omega)) fun _ => rfl
  | .tp h1 h2 => .zz (k := .tup) h1 (Reps.frz h2 hz hn) fun _ => rfl
  | .cc h1 h2 h3 => .zz (own_shr h1 (hn _ (by rw [h3]; simp))) (Reps.frz h2 hz fun p hp => hn p (by rw [h3]; omega)) fun _ => rfl
  | .oo h1 h2 h3 => .zz (own_shr h1 (hn _ (by rw [h3]; simp))) (Reps.frz h2 hz fun p hp => hn p (by rw [h3]; omega)) fun _ => rfl
theorem Reps.frz {fs : List Fr} {vs : List V} {ds : List D} {n : Fp} (r : Reps G Fz am H fs vs ds n) (hz : ∀ p, Fz p → Fz' p) (hn : ∀ p, 0 < n p → Fz' p) : Reps G Fz' am H (zs ds.length) vs ds (fun _ => 0) :=
  match r with
  | .nil _ => .nil fun _ => rfl
  | .cons h1 h2 h3 => .cons (Rep.frz h1 hz fun p hp => hn p (by rw [h3]; omega)) (Reps.frz h2 hz fun p hp => hn p (by rw [h3]; omega)) fun _ => rfl
end
end
end Hx

set_option Elab.async false
set_option linter.all false
set_option maxRecDepth 100000
set_option autoImplicit false
/-! F2: the state relation. -/
namespace Hx
open PySem PySem.Spec L2
open PyProof.Rows hiding St

/-- what can be read of a value whose items are shared -/
def RdO (G : Sg) (H : Hp) (p : Addr) (k : Kd) (vs : List V) : Prop :=
  match k with
  | .tup => SqT G.K H p vs
  | .frl => SqL G.K H p vs
  | k => ∃ o, Rdk H p k o ∧ IsO G k vs o
def View (G : Sg) (Fz : Addr → Prop) (am : List Addr) (H : Hp) (v : V) : D → Prop
  | .con k ds => ∃ p vs, v = .ref p ∧ RdO G H p k vs ∧ Reps G Fz am H (zs ds.length) vs ds (fun _ => 0)
  | .ref i => ∃ p, v = .ref p ∧ am[i]? = some p
  | d => Scal G v d
def Fr.isz : Fr → Bool
  | .z => true
  | _ => false
def Fr.flat : Fr → Bool
  | .z => true
  | .c f => f.isz
  | .t fs => fs.all Fr.isz
  | .o fs => fs.all Fr.isz
theorem Fr.isz_eq {f : Fr} (h : f.isz = true) : f = .z := by cases f <;> first | rfl | cases h
theorem all_isz : ∀ {fs : List Fr}, fs.all Fr.isz = true → fs = zs fs.length
  | [], _ => rfl
  | f :: fs, h => by
    simp only [List.all_cons, Bool.and_eq_true] at h
    rw [Fr.isz_eq h.1]
    show Fr.z :: fs = zs (fs.length + 1)
    rw [show zs (fs.length + 1) = Fr.z :: zs fs.length from List.replicate_succ, ← all_isz h.2]
section
variable {G : Sg} {Fz Fz' : Addr → Prop} {am am' : List Addr} {H H' : Hp}
theorem Reps.toz {vs : List V} {ds : List D} {k : Nat} {n : Fp} (h : Reps G Fz am H (zs k) vs ds n) : Reps G Fz am H (zs ds.length) vs ds (fun _ => 0) := h.zlen.fp h.z0
theorem Rep.view {f : Fr} {v : V} {d : D} {n : Fp} (r : Rep G Fz am H f v d n) (hf : f.flat = true) : View G Fz am H v d := by
  cases r with
  | sc h1 h2 =>
    cases d with
    | ref i => cases v <;> exact h1.elim
    | con k ds => cases v <;> exact h1.elim
    | _ => exact h1
  | rf h1 h2 => exact ⟨_, rfl, h1⟩
  | @zz p k vs ds n h1 h2 h3 =>
    refine ⟨p, vs, rfl, ?_, h2.toz⟩
    cases k with
    | tup => exact h1
    | frl =>
      rcases h1 with ⟨_, h⟩ | (h | ⟨_, h⟩) | h
      · exact .inl h
      · cases h
      · cases h
      · exact .inr h
    | _ => exact h1.2
  | @tp p vs ds fs n h1 h2 =>
    refine ⟨p, vs, rfl, h1, ?_⟩
    have e := all_isz (fs := fs) hf
    rw [e] at h2
    exact h2.toz
  | @cc p k vs ds f n m h1 h2 h3 =>
    have e : f = .z := Fr.isz_eq hf
    subst e
    obtain ⟨t, o, h4, h5⟩ := h1
    refine ⟨p, vs, rfl, ?_, h2.toz⟩
    cases k with
    | tup => exact absurd rfl t.1
    | frl => exact absurd rfl t.2
    | dik ks => exact ⟨o, .inl h4, h5⟩
    | dit ks => exact ⟨o, .inl h4, h5⟩
    | _ => exact ⟨o, h4, h5⟩
  | @oo p c vs ds fs n m h1 h2 h3 =>
    obtain ⟨t, o, h4, h5⟩ := h1
    have e := all_isz (fs := fs) hf
    rw [e] at h2
    exact ⟨p, vs, rfl, ⟨o, h4, h5⟩, h2.toz⟩
end

/-- the frame's slots -/
inductive EnvR (G : Sg) (Fz : Addr → Prop) (am : List Addr) (H : Hp) : Env → St → Fp → Prop
  | nil {n} : (∀ q, n q = 0) → EnvR G Fz am H [] [] n
  | som {f d v env σ n1 n2 n} : Rep G Fz am H f v d n1 → EnvR G Fz am H env σ n2 → (∀ q, n q = n1 q + n2 q) → EnvR G Fz am H (some (f, d) :: env) (some v :: σ) n
  | non {x env σ n} : EnvR G Fz am H env σ n → EnvR G Fz am H (none :: env) (x :: σ) n
/-- a value under way; bor: it is (part of) what a slot holds -/
structure Tm where
  v : V
  f : Fr
  d : D
  bor : Bool := false
inductive TmR (G : Sg) (Fz : Addr → Prop) (am : List Addr) (H : Hp) (ne : Fp) : List Tm → Fp → Prop
  | nil {n} : (∀ q, n q = 0) → TmR G Fz am H ne [] n
  | own {f v d T n1 n2 n} : Rep G Fz am H f v d n1 → TmR G Fz am H ne T n2 → (∀ q, n q = n1 q + n2 q) → TmR G Fz am H ne (⟨v, f, d, false⟩ :: T) n
  | bor {f v d T n1 n} : Rep G Fz am H f v d n1 → (∀ q, n1 q ≤ ne q) → TmR G Fz am H ne T n → TmR G Fz am H ne (⟨v, f, d, true⟩ :: T) n
def StoR (G : Sg) (Fz : Addr → Prop) (am : List Addr) (H : Hp) (st : Store) (n : Fp) : Prop := Reps G Fz am H (st.map (·.1)) (am.map V.ref) (st.map (·.2)) n
/-- the ground of a frame: the heap at its entry, what it may change, what was shared, the cells -/
structure Gd where
  H0 : Hp
  A0 : Addr → Prop
  F0 : Addr → Prop
  am0 : List Addr
structure Rel0 (g : Gd) (Fz : Addr → Prop) (am : List Addr) (H : Hp) (tot : Fp) : Prop where
  n1 : ∀ p, tot p ≤ 1
  nz : ∀ p, 0 < tot p → ¬ Fz p
  th : ∀ p, 0 < tot p → ∃ o, H p = some o ∧ OwnK o
  zt : ∀ p, Fz p → ∃ o, H p = some o
  k : ∀ p o, g.H0 p = some o → ¬ g.A0 p → H p = some o
  f : ∀ p, 0 < tot p → g.A0 p ∨ g.H0 p = none
  z0 : ∀ p, g.F0 p → Fz p
  z1 : ∀ p, Fz p → g.F0 p ∨ g.A0 p ∨ g.H0 p = none
  a : ∀ (i : Nat) p, g.am0[i]? = some p → am[i]? = some p
/-- the state relation; B: what more is said of the shared part -/
def RlB (G : Sg) (g : Gd) (env : Env) (st : Store) (T : List Tm) (σ : St) (H : Hp) (B : (Addr → Prop) → List Addr → Prop) : Prop :=
  ∃ Fz am ne nt ns, EnvR G Fz am H env σ ne ∧ TmR G Fz am H ne T nt ∧ StoR G Fz am H st ns ∧ Rel0 g Fz am H (fun p => ne p + nt p + ns p) ∧ B Fz am
def Rl (G : Sg) (g : Gd) (env : Env) (st : Store) (T : List Tm) (σ : St) (H : Hp) : Prop := RlB G g env st T σ H fun _ _ => True

section
variable {G : Sg} {g : Gd} {Fz Fz' : Addr → Prop} {am am' : List Addr} {H H' : Hp} {env : Env} {st st' : Store} {T T' : List Tm} {σ : St} {ne nt ns n : Fp}

theorem EnvR.ext (E : Ext Fz am H Fz' am' H') (r : EnvR G Fz am H env σ n) (k : ∀ p o, 0 < n p → H p = some o → H' p = some o) : EnvR G Fz' am' H' env σ n := by
  induction r with
  | nil h => exact .nil h
  | som h1 h2 h3 ih => exact .som (h1.ext E fun p o hp => k p o (by rw [h3]; omega)) (ih fun p o hp => k p o (by rw [h3]; omega)) h3
  | non h ih => exact .non (ih k)
theorem TmR.ext (E : Ext Fz am H Fz' am' H') (r : TmR G Fz am H ne T n) (k : ∀ p o, 0 < n p → H p = some o → H' p = some o) (ke : ∀ p o, 0 < ne p → H p = some o → H' p = some o) : TmR G Fz' am' H' ne T n := by
  induction r with
  | nil h => exact .nil h
  | own h1 h2 h3 ih => exact .own (h1.ext E fun p o hp => k p o (by rw [h3]; omega)) (ih fun p o hp => k p o (by rw [h3]; omega)) h3
  | bor h1 h2 h3 ih => exact .bor (h1.ext E fun p o hp => ke p o (by have := h2 p; omega)) h2 (ih k)
theorem EnvR.len (r : EnvR G Fz am H env σ n) : env.length = σ.length := by
  induction r with
  | nil => rfl
  | som _ _ _ ih => simp [ih]
  | non _ ih => simp [ih]
theorem EnvR.get (r : EnvR G Fz am H env σ n) : ∀ {i : Nat} {f : Fr} {d : D}, env[i]? = some (some (f, d)) → ∃ v m, σ[i]? = some (some v) ∧ Rep G Fz am H f v d m ∧ ∀ q, m q ≤ n q := by
  induction r with
  | nil h => intro i f d e; simp at e
  | @som f' d' v env σ n1 n2 n h1 h2 h3 ih =>
    intro i f d e
    cases i with
    | zero =>
      simp at e
      obtain ⟨rfl, rfl⟩ := e
      exact ⟨v, n1, by simp, h1, fun q => by rw [h3]; omega⟩
    | succ i =>
      obtain ⟨v, m, e1, e2, e3⟩ := ih (i := i) (f := f) (d := d) (by simpa using e)
      exact ⟨v, m, by simpa using e1, e2, fun q => by rw [h3]; have := e3 q; omega⟩
  | @non x env σ n h ih =>
    intro i f d e
    cases i with
    | zero => simp at e
    | succ i =>
      obtain ⟨v, m, e1, e2, e3⟩ := ih (i := i) (f := f) (d := d) (by simpa using e)
      exact ⟨v, m, by simpa using e1, e2, e3⟩
/-- a slot is stored; what it held goes -/
theorem EnvR.set {f : Fr} {v : V} {d : D} {m : Fp} (h : Rep G Fz am H f v d m) (r : EnvR G Fz am H env σ n) : ∀ (i : Nat), ∃ n', EnvR G Fz am H (env.set i (some (f, d))) (σ.set i (some v)) n' ∧ ∀ q, n' q ≤ n q + m q := by
  induction r with
  | nil h0 => intro i; exact ⟨_, .nil h0, fun q => by omega⟩
  | @som f' d' v' env σ n1 n2 n h1 h2 h3 ih =>
    intro i
    cases i with
    | zero => exact ⟨_, .som h h2 (n := fun q => m q + n2 q) fun _ => rfl, fun q => by rw [h3]; omega⟩
    | succ i =>
      obtain ⟨n', e1, e2⟩ := ih i
      exact ⟨_, .som h1 e1 (n := fun q => n1 q + n' q) fun _ => rfl, fun q => by rw [h3]; have := e2 q; omega⟩
  | @non x env σ n h2 ih =>
    intro i
    cases i with
    | zero => exact ⟨_, .som h h2 (n := fun q => m q + n q) fun _ => rfl, fun q => by omega⟩
    | succ i =>
      obtain ⟨n', e1, e2⟩ := ih i
      exact ⟨n', .non e1, e2⟩
/-- a slot is forgotten -/
theorem EnvR.kill (r : EnvR G Fz am H env σ n) : ∀ (i : Nat) (y : St) , y.length = σ.length → (∀ j, j ≠ i → y[j]? = σ[j]?) → ∃ n', EnvR G Fz am H (env.set i none) y n' ∧ ∀ q, n' q ≤ n q := by
  induction r with
  | nil h0 =>
    intro i y hy _
    have e : y = [] := List.length_eq_zero_iff.mp hy
    subst e
    exact ⟨_, .nil h0, fun q => Nat.le_refl _⟩
  | @som f' d' v' env σ n1 n2 n h1 h2 h3 ih =>
    intro i y hy hs
    cases y with
    | nil => simp at hy
    | cons y0 y =>
      cases i with
      | zero =>
        have e : y = σ := by
          apply List.ext_getElem?
          intro j
          have := hs (j + 1) (by omega)
          simpa using this
        subst e
        exact ⟨n2, .non h2, fun q => by rw [h3]; omega⟩
      | succ i =>
        have e0 : y0 = some v' := by
          have := hs 0 (by omega)
          simpa using this
        subst e0
        obtain ⟨n', e1, e2⟩ := ih i y (by simpa using hy) fun j hj => by
          have := hs (j + 1) (by omega)
          simpa using this
        exact ⟨_, .som h1 e1 (n := fun q => n1 q + n' q) fun _ => rfl, fun q => by rw [h3]; have := e2 q; omega⟩
  | @non x env σ n h2 ih =>
    intro i y hy hs
    cases y with
    | nil => simp at hy
    | cons y0 y =>
      cases i with
      | zero =>
        have e : y = σ := by
          apply List.ext_getElem?
          intro j
          have := hs (j + 1) (by omega)
          simpa using this
        subst e
        exact ⟨n, .non h2, fun q => Nat.le_refl _⟩
      | succ i =>
        obtain ⟨n', e1, e2⟩ := ih i y (by simpa using hy) fun j hj => by
          have := hs (j + 1) (by omega)
          simpa using this
        exact ⟨n', .non e1, e2⟩
/-- freezing a slot -/
theorem EnvR.frz (r : EnvR G Fz am H env σ n) : ∀ {i : Nat} {f : Fr} {d : D}, env[i]? = some (some (f, d)) → ∃ m n' : Fp, (∀ q, n q = m q + n' q) ∧
    ∀ Fz', (∀ p, Fz p → Fz' p) → (∀ p, 0 < m p → Fz' p) → EnvR G Fz' am H (env.set i (some (.z, d))) σ n' := by
  have up : ∀ {env : Env} {σ : St} {n : Fp} (Fz' : Addr → Prop), (∀ p, Fz p → Fz' p) → EnvR G Fz am H env σ n → EnvR G Fz' am H env σ n := fun Fz' hz r => r.ext ⟨hz, fun _ _ h => h, fun _ _ _ h => h, fun _ _ _ h _ => h, fun _ _ h => h⟩ fun _ _ _ h => h
  induction r with
  | nil h => intro i f d e; simp at e
  | @som f' d' v env σ n1 n2 n h1 h2 h3 ih =>
    intro i f d e
    cases i with
    | zero =>
      simp at e
      obtain ⟨rfl, rfl⟩ := e
      exact ⟨n1, n2, h3, fun Fz' hz hm => .som (h1.frz hz hm) (up Fz' hz h2) (n := n2) fun q => by simp⟩
    | succ i =>
      obtain ⟨m, n', e1, e2⟩ := ih (i := i) (f := f) (d := d) (by simpa using e)
      exact ⟨m, fun q => n1 q + n' q, fun q => by rw [h3, e1]; show _ = m q + (n1 q + n' q); omega, fun Fz' hz hm => .som (h1.ext ⟨hz, fun _ _ h => h, fun _ _ _ h => h, fun _ _ _ h _ => h, fun _ _ h => h⟩ fun _ _ _ h => h) (e2 Fz' hz hm) fun _ => rfl⟩
  | @non x env σ n h ih =>
    intro i f d e
    cases i with
    | zero => simp at e
    | succ i =>
      obtain ⟨m, n', e1, e2⟩ := ih (i := i) (f := f) (d := d) (by simpa using e)
      exact ⟨m, n', e1, fun Fz' hz hm => .non (e2 Fz' hz hm)⟩
/-- taking a slot's value out -/
theorem EnvR.take (r : EnvR G Fz am H env σ n) : ∀ {i : Nat} {f : Fr} {d : D}, env[i]? = some (some (f, d)) → ∃ (v : V) (m n' : Fp), σ[i]? = some (some v) ∧ Rep G Fz am H f v d m ∧ (∀ q, n q = m q + n' q) ∧ EnvR G Fz am H (env.set i none) σ n' := by
  induction r with
  | nil h => intro i f d e; simp at e
  | @som f' d' v env σ n1 n2 n h1 h2 h3 ih =>
    intro i f d e
    cases i with
    | zero =>
      simp at e
      obtain ⟨rfl, rfl⟩ := e
      exact ⟨v, n1, n2, by simp, h1, h3, .non h2⟩
    | succ i =>
      obtain ⟨v, m, n', e0, e1, e2, e3⟩ := ih (i := i) (f := f) (d := d) (by simpa using e)
      exact ⟨v, m, fun q => n1 q + n' q, by simpa using e0, e1, fun q => by rw [h3, e2]; show _ = m q + (n1 q + n' q); omega, .som h1 e3 fun _ => rfl⟩
  | @non x env σ n h ih =>
    intro i f d e
    cases i with
    | zero => simp at e
    | succ i =>
      obtain ⟨v, m, n', e0, e1, e2, e3⟩ := ih (i := i) (f := f) (d := d) (by simpa using e)
      exact ⟨v, m, n', by simpa using e0, e1, e2, .non e3⟩

/-- the total may shrink -/
theorem Rel0.less {t t' : Fp} (r : Rel0 g Fz am H t) (h : ∀ q, t' q ≤ t q) : Rel0 g Fz am H t' :=
  ⟨fun p => Nat.le_trans (h p) (r.n1 p), fun p hp => r.nz p (Nat.lt_of_lt_of_le hp (h p)), fun p hp => r.th p (Nat.lt_of_lt_of_le hp (h p)), r.zt, r.k, fun p hp => r.f p (Nat.lt_of_lt_of_le hp (h p)), r.z0, r.z1, r.a⟩
/-- part of it is shared from now on -/
theorem Rel0.froz {t t' m : Fp} (r : Rel0 g Fz am H t) (h : ∀ q, t q = m q + t' q) : Rel0 g (Fro Fz m) am H t' :=
  ⟨fun p => by have := r.n1 p; rw [h] at this; omega, fun p hp z => by
    rcases z with z | z
    · exact r.nz p (by rw [h]; omega) z
    · have := r.n1 p; rw [h] at this; omega, fun p hp => r.th p (by rw [h]; omega), fun p z => by
    rcases z with z | z
    · exact r.zt p z
    · obtain ⟨o, e, _⟩ := r.th p (by rw [h]; omega)
      exact ⟨o, e⟩, r.k, fun p hp => r.f p (by rw [h]; omega), fun p z => .inl (r.z0 p z), fun p z => by
    rcases z with z | z
    · exact r.z1 p z
    · exact .inr (r.f p (by rw [h]; omega)), r.a⟩
/-- the heap grows by new objects, some of them owned -/
theorem Rel0.grow {t t' m : Fp} (r : Rel0 g Fz am H t) (s : Same H H') (hm : ∀ p, 0 < m p → m p = 1 ∧ H p = none ∧ ∃ o, H' p = some o ∧ OwnK o) (h : ∀ q, t' q = m q + t q) : Rel0 g Fz am H' t' := by
  have key : ∀ p, 0 < m p → t p = 0 := fun p hp => by
    cases e : t p with
    | zero => rfl
    | succ k =>
      obtain ⟨o, e2, _⟩ := r.th p (by omega)
      rw [(hm p hp).2.1] at e2
      cases e2
  refine ⟨fun p => ?_, fun p hp z => ?_, fun p hp => ?_, fun p z => ?_, fun p o e na => s _ _ (r.k p o e na), fun p hp => ?_, r.z0, r.z1, r.a⟩
  · rw [h]
    by_cases e : 0 < m p
    · rw [key p e, (hm p e).1]
      omega
    · have := r.n1 p; omega
  · rw [h] at hp
    by_cases e : 0 < m p
    · obtain ⟨o, e2⟩ := r.zt p z
      rw [(hm p e).2.1] at e2
      cases e2
    · exact r.nz p (by omega) z
  · rw [h] at hp
    by_cases e : 0 < m p
    · exact (hm p e).2.2
    · obtain ⟨o, e2, e3⟩ := r.th p (by omega)
      exact ⟨o, s _ _ e2, e3⟩
  · obtain ⟨o, e⟩ := r.zt p z
    exact ⟨o, s _ _ e⟩
  · rw [h] at hp
    by_cases e : 0 < m p
    · cases e2 : g.H0 p with
      | none => exact .inr rfl
      | some o =>
        by_cases na : g.A0 p
        · exact .inl na
        · have := r.k p o e2 na
          rw [(hm p e).2.1] at this
          cases this
    · exact r.f p (by omega)
theorem Ext.same (s : Same H H') (hz : ∀ p, Fz p → Fz' p) : Ext Fz am H Fz' am H' := ⟨hz, fun _ _ h => h, fun p u _ h => h.imp (s _ _) fun ⟨o, q⟩ => ⟨o, s _ _ q⟩, fun p u _ h _ => s _ _ h, fun p xs h => h.imp (s _ _) fun ⟨o, q⟩ => ⟨o, s _ _ q⟩⟩
theorem Ext.shared (hz : ∀ p, Fz p → Fz' p) : Ext Fz am H Fz' am H := Ext.same (Same.refl H) hz
end
end Hx

set_option Elab.async false
set_option linter.all false
set_option maxRecDepth 100000
set_option autoImplicit false
/-! F3: the judgement of an expression; lists of arguments; operators. -/
namespace Hx
open PySem PySem.Spec L2
open PyProof.Rows hiding St

inductive Res
  | ok (f : Fr) (b : Bool) (d : D) (st : Store) | exc (c : Nat) (ds : List D) (st : Store) | stuck
inductive ResL
  | ok (ts : List (Fr × Bool × D)) (st : Store) | exc (c : Nat) (ds : List D) (st : Store) | stuck
inductive ResB
  | ok (b : Bool) (st : Store) | exc (c : Nat) (ds : List D) (st : Store) | stuck
abbrev Den := Env → Store → Res
abbrev DenL := Env → Store → ResL
abbrev DenB := Env → Store → ResB

structure Sx where
  P : Program
  w : World
  mg : Str → Option Value
  base : Heap
  G : Sg
  N : List Str
  sc : Scope
  k : Nat
  fnA : Bool
structure Stx (S : Sx) (X : Cx) : Prop where
  pr : X.prog = S.P
  w : X.w = S.w
  mg : X.mg = S.mg
  base : X.base = S.base
  K : X.K = S.G.K
  N : X.N = S.N
  sc : X.env.scope = S.sc
  nd : X.N.Nodup
  calm : X.calm = true
  room : Room S.k X.A
  po : PassesOwn (model X.prog X.w) X.A X.env X.xe
  fn : S.fnA = true → ∀ x, X.fn x = true

/-- what an exception's fields are -/
def ExcB (G : Sg) (H : Hp) (c : Nat) (ds : List D) (cls : Value) (dx : Option Addr) : (Addr → Prop) → List Addr → Prop := fun Fz am =>
  ∃ p fs vs, cls = .ref (G.cls c) ∧ dx = some p ∧ H p = some (.xd fs) ∧ Reps G Fz am H (zs ds.length) vs ds (fun _ => 0) ∧
    ∀ (i : Nat) (x : Str), (G.fld c)[i]? = some x → ∀ v, vs[i]? = some v → fs.lookup x = some v
section
variable (G : Sg) (g : Gd) (env : Env) (T : List Tm) (σ : St) (W : WX)
def ExcP (c : Nat) (ds : List D) (st : Store) : Prop := ∀ cls dx H', RlB G g env st [] σ H' (ExcB G H' c ds cls dx) → W cls dx σ H'
def PostE (Q : VK) : Res → Prop
  | .ok f b d st => ∀ v H', Rl G g env st (⟨v, f, d, b⟩ :: T) σ H' → Q v H'
  | .exc c ds st => ExcP G g env σ W c ds st
  | .stuck => False
def mkT : List V → List (Fr × Bool × D) → List Tm
  | v :: vs, (f, b, d) :: ts => ⟨v, f, d, b⟩ :: mkT vs ts
  | _, _ => []
def PostL (Q : List V → Hp → Prop) : ResL → Prop
  | .ok ts st => ∀ vs H', vs.length = ts.length → Rl G g env st (mkT vs ts ++ T) σ H' → Q vs H'
  | .exc c ds st => ExcP G g env σ W c ds st
  | .stuck => False
def PostB (Q : Bool → Hp → Prop) : ResB → Prop
  | .ok b st => ∀ H', Rl G g env st T σ H' → Q b H'
  | .exc c ds st => ExcP G g env σ W c ds st
  | .stuck => False
end
def noBor (T : List Tm) : Prop := ∀ a ∈ T, a.bor = false
def DE (S : Sx) (e : Expr) (den : Den) : Prop := ∀ W : WX, ∃ t : TE, (∀ X, Stx S X → Takes X W → PE X e t) ∧
  ∀ g env st T σ H Q, noBor T → Rl S.G g env st T σ H → PostE S.G g env T σ W Q (den env st) → t σ H Q
def DA (S : Sx) (es : List Expr) (den : DenL) : Prop := ∀ W : WX, ∃ t : TA, (∀ X, Stx S X → Takes X W → PA X es t) ∧
  ∀ g env st T σ H Q, noBor T → Rl S.G g env st T σ H → PostL S.G g env T σ W Q (den env st) → t σ H Q
def DT (S : Sx) (e : Expr) (den : DenB) : Prop := ∀ W : WX, ∃ t : TT, (∀ X, Stx S X → Takes X W → PT X e t) ∧
  ∀ g env st T σ H Q, noBor T → Rl S.G g env st T σ H → PostB S.G g env T σ W Q (den env st) → t σ H Q

/-! ### the relation: temporaries -/
section
variable {G : Sg} {g : Gd} {env : Env} {st st' : Store} {T T' : List Tm} {σ : St} {H H' : Hp} {B B' : (Addr → Prop) → List Addr → Prop}
theorem TmR.drop {Fz : Addr → Prop} {am : List Addr} {ne nt : Fp} {a : Tm} (r : TmR G Fz am H ne (a :: T) nt) : ∃ nt', TmR G Fz am H ne T nt' ∧ ∀ q, nt' q ≤ nt q := by
  cases r with
  | own h1 h2 h3 => exact ⟨_, h2, fun q => by rw [h3]; omega⟩
  | bor h1 h2 h3 => exact ⟨_, h3, fun q => Nat.le_refl _⟩
theorem TmR.tail {Fz : Addr → Prop} {am : List Addr} {ne nt : Fp} : ∀ {l : List Tm}, TmR G Fz am H ne (l ++ T) nt → ∃ nt', TmR G Fz am H ne T nt' ∧ ∀ q, nt' q ≤ nt q
  | [], r => ⟨_, r, fun _ => Nat.le_refl _⟩
  | a :: l, r => by
    obtain ⟨n1, r1, l1⟩ := r.drop
    obtain ⟨n2, r2, l2⟩ := TmR.tail r1
    exact ⟨n2, r2, fun q => Nat.le_trans (l2 q) (l1 q)⟩
theorem TmR.mid {Fz : Addr → Prop} {am : List Addr} {ne nt : Fp} {a : Tm} : ∀ {l : List Tm}, TmR G Fz am H ne (l ++ a :: T) nt → TmR G Fz am H ne (a :: (l ++ T)) nt
  | [], r => r
  | b :: l, r => by
    cases r with
    | own h1 h2 h3 =>
      cases TmR.mid h2 with
      | own k1 k2 k3 => exact .own k1 (.own h1 k2 fun _ => rfl) fun q => by rw [h3, k3]; omega
      | bor k1 k2 k3 => exact .bor k1 k2 (.own h1 k3 h3)
    | bor h1 h2 h3 =>
      cases TmR.mid h3 with
      | own k1 k2 k3 => exact .own k1 (.bor h1 h2 k2) k3
      | bor k1 k2 k3 => exact .bor k1 k2 (.bor h1 h2 k3)
theorem RlB.tail {l : List Tm} (r : RlB G g env st (l ++ T) σ H B) : RlB G g env st T σ H B := by
  obtain ⟨Fz, am, ne, nt, ns, h1, h2, h3, h4, h5⟩ := r
  obtain ⟨nt', k1, k2⟩ := h2.tail
  exact ⟨Fz, am, ne, nt', ns, h1, k1, h3, h4.less fun q => by have := k2 q; omega, h5⟩
theorem RlB.drop {a : Tm} (r : RlB G g env st (a :: T) σ H B) : RlB G g env st T σ H B := RlB.tail (l := [a]) r
theorem RlB.notmp (r : RlB G g env st T σ H B) : RlB G g env st [] σ H B := RlB.tail (l := T) (by rw [List.append_nil]; exact r)
theorem RlB.mid {l : List Tm} {a : Tm} (r : RlB G g env st (l ++ a :: T) σ H B) : RlB G g env st (a :: (l ++ T)) σ H B := by
  obtain ⟨Fz, am, ne, nt, ns, h1, h2, h3, h4, h5⟩ := r
  exact ⟨Fz, am, ne, nt, ns, h1, h2.mid, h3, h4, h5⟩
theorem RlB.imp (r : RlB G g env st T σ H B) (h : ∀ Fz am, B Fz am → B' Fz am) : RlB G g env st T σ H B' := by
  obtain ⟨Fz, am, ne, nt, ns, h1, h2, h3, h4, h5⟩ := r
  exact ⟨Fz, am, ne, nt, ns, h1, h2, h3, h4, h _ _ h5⟩
theorem RlB.rl (r : RlB G g env st T σ H B) : Rl G g env st T σ H := RlB.imp r fun _ _ _ => trivial
/-- a scalar comes -/
theorem Rl.scal {v : V} {d : D} (r : Rl G g env st T σ H) (h : Scal G v d) : Rl G g env st (⟨v, .z, d, false⟩ :: T) σ H := by
  obtain ⟨Fz, am, ne, nt, ns, h1, h2, h3, h4, h5⟩ := r
  exact ⟨Fz, am, ne, nt, ns, h1, .own (.sc h fun _ => rfl) h2 (n1 := fun _ => 0) fun q => by simp, h3, h4, h5⟩
theorem Rl.pushz {i : Nat} {d : D} (r : Rl G g env st T σ H) (e : env[i]? = some (some (.z, d))) : ∃ v, σ[i]? = some (some v) ∧ Rl G g env st (⟨v, .z, d, false⟩ :: T) σ H := by
  obtain ⟨Fz, am, ne, nt, ns, h1, h2, h3, h4, h5⟩ := r
  obtain ⟨v, m, e1, e2, e3⟩ := h1.get e
  exact ⟨v, e1, Fz, am, ne, nt, ns, h1, .own (e2.fp e2.z0) h2 (n1 := fun _ => 0) fun q => by simp, h3, h4, h5⟩
theorem Rl.pushb {i : Nat} {f : Fr} {d : D} (r : Rl G g env st T σ H) (e : env[i]? = some (some (f, d))) : ∃ v, σ[i]? = some (some v) ∧ Rl G g env st (⟨v, f, d, true⟩ :: T) σ H := by
  obtain ⟨Fz, am, ne, nt, ns, h1, h2, h3, h4, h5⟩ := r
  obtain ⟨v, m, e1, e2, e3⟩ := h1.get e
  exact ⟨v, e1, Fz, am, ne, nt, ns, h1, .bor e2 e3 h2, h3, h4, h5⟩
/-- an owned value under way is shared from now on -/
theorem Rl.frz {v : V} {f : Fr} {d : D} (r : Rl G g env st (⟨v, f, d, false⟩ :: T) σ H) : Rl G g env st (⟨v, .z, d, false⟩ :: T) σ H := by
  obtain ⟨Fz, am, ne, nt, ns, h1, h2, h3, h4, h5⟩ := r
  cases h2 with
  | @own _ _ _ _ n1 n2 _ k1 k2 k3 =>
    have E : Ext Fz am H (Fro Fz n1) am H := Ext.shared fun p z => .inl z
    exact ⟨Fro Fz n1, am, ne, n2, ns, h1.ext E fun _ _ _ h => h, .own (k1.frz (fun p z => .inl z) fun p z => .inr z) (k2.ext E (fun _ _ _ h => h) fun _ _ _ h => h) (n1 := fun _ => 0) (fun q => by simp), Reps.ext E h3 fun _ _ _ h => h, h4.froz fun q => by rw [k3]; omega, trivial⟩
end

/-! ### pure operations upon read values -/
abbrev Vws (G : Sg) (Fz : Addr → Prop) (am : List Addr) (H : Hp) : List V → List D → Prop := Paired (View G Fz am H)
abbrev Op := List D → Option (Fr × D)
/-- new owned things -/
def Newp (H H' : Hp) (n : Fp) : Prop := ∀ p, 0 < n p → n p = 1 ∧ H p = none ∧ ∃ o, H' p = some o ∧ OwnK o
def VOp (G : Sg) (r : List V → Hp → VK → Prop) (op : Op) : Prop := ∀ Fz am H vs ds f d Q, Vws G Fz am H vs ds → op ds = some (f, d) →
  (∀ v H' n, Same H H' → Newp H H' n → Rep G Fz am H' f v d n → Q v H') → r vs H Q
theorem VOp.imp {G : Sg} {r r' : List V → Hp → VK → Prop} {op : Op} (h : VOp G r op) (k : ∀ vs H Q, r vs H Q → r' vs H Q) : VOp G r' op := fun Fz am H vs ds f d Q h1 h2 h3 => k _ _ _ (h Fz am H vs ds f d Q h1 h2 h3)
/-- by the first that tells -/
@[simp] def orOp (a b : Op) : Op := fun ds => match a ds with
  | some r => some r
  | none => b ds
theorem VOp.or {G : Sg} {r r' : List V → Hp → VK → Prop} {a b : Op} (h : VOp G r a) (h' : VOp G r' b) : VOp G (fun vs H Q => r vs H Q ∨ r' vs H Q) (orOp a b) := fun Fz am H vs ds f d Q h1 h2 h3 => by
  unfold orOp at h2
  cases e : a ds with
  | some x =>
    rw [e] at h2
    cases h2
    exact .inl (h Fz am H vs ds f d Q h1 e h3)
  | none =>
    rw [e] at h2
    exact .inr (h' Fz am H vs ds f d Q h1 h2 h3)
theorem VOp.or1 {G : Sg} {r : List V → Hp → VK → Prop} {a b : Op} (h : VOp G r a) (h' : VOp G r b) : VOp G r (orOp a b) := (VOp.or h h').imp fun _ _ _ z => z.elim id id
theorem same_refl (H : Hp) : Same H H := fun _ _ h => h
theorem newp0 {H H' : Hp} : Newp H H' (fun _ => 0) := fun p hp => absurd hp (Nat.lt_irrefl 0)
/-- an operation whose answer is a scalar -/
theorem VOp.scalar {G : Sg} {r : List V → Hp → VK → Prop} {op : List D → Option D} (h : ∀ Fz am H vs ds d Q, Vws G Fz am H vs ds → op ds = some d → (∀ v, Scal G v d → Q v H) → r vs H Q) : VOp G r (fun ds => (op ds).map fun d => (.z, d)) := fun Fz am H vs ds f d Q h1 h2 h3 => by
  obtain ⟨d', e, e2⟩ := Option.map_eq_some_iff.mp h2
  cases e2
  exact h Fz am H vs ds d Q h1 e fun v hv => h3 v H (fun _ => 0) (same_refl H) newp0 (.sc hv fun _ => rfl)

@[simp] def flats (ts : List (Fr × Bool × D)) : Bool := ts.all fun t => t.1.flat
/-- a cell is looked into -/
def lk (st : Store) : D → D
  | .ref i => match st[i]? with
    | some (f, d) => bif f.flat then d else .ref i
    | none => .ref i
  | d => d
@[simp] def dOp (op : Op) (as : DenL) : Den := fun env st => match as env st with
  | .ok ts st' => bif flats ts then (match op (ts.map fun t => lk st' t.2.2) with
    | some (f, d) => .ok f false d st'
    | none => .stuck) else .stuck
  | .exc c ds st' => .exc c ds st'
  | .stuck => .stuck
section
variable {G : Sg} {g : Gd} {env : Env} {st st' : Store} {T T' : List Tm} {σ : St} {H H' : Hp}
theorem TmR.views {Fz : Addr → Prop} {am : List Addr} {ne nt : Fp} : ∀ {vs : List V} {ts : List (Fr × Bool × D)}, vs.length = ts.length → flats ts = true → TmR G Fz am H ne (mkT vs ts ++ T) nt → Vws G Fz am H vs (ts.map fun t => t.2.2)
  | [], [], _, _, _ => .nil
  | v :: vs, (f, b, d) :: ts, hl, hf, r => by
    simp only [flats, List.all_cons, Bool.and_eq_true] at hf
    cases b with
    | false =>
      cases r with
      | own h1 h2 h3 => exact .cons (h1.view hf.1) (TmR.views (by simpa using hl) hf.2 h2)
    | true =>
      cases r with
      | bor h1 h2 h3 => exact .cons (h1.view hf.1) (TmR.views (by simpa using hl) hf.2 h3)
theorem Reps.at {Fz : Addr → Prop} {am : List Addr} : ∀ {fs : List Fr} {vs : List V} {ds : List D} {n : Fp} {i : Nat} {f : Fr} {d : D}, Reps G Fz am H fs vs ds n → fs[i]? = some f → ds[i]? = some d → ∃ v m, vs[i]? = some v ∧ Rep G Fz am H f v d m ∧ ∀ q, m q ≤ n q
  | [], _, _, _, i, f, d, r, e1, e2 => by simp at e1
  | f0 :: fs, _, _, _, i, f, d, r, e1, e2 => by
    cases r with
    | cons h1 h2 h3 =>
      cases i with
      | zero =>
        simp at e1 e2
        subst e1 e2
        exact ⟨_, _, by simp, h1, fun q => by rw [h3]; omega⟩
      | succ i =>
        obtain ⟨v, m, a, b, c⟩ := Reps.at (i := i) (f := f) (d := d) h2 (by simpa using e1) (by simpa using e2)
        exact ⟨v, m, by simpa using a, b, fun q => by rw [h3]; have := c q; omega⟩
theorem StoR.at {Fz : Addr → Prop} {am : List Addr} {n : Fp} (r : StoR G Fz am H st n) {i : Nat} {f : Fr} {d : D} (e : st[i]? = some (f, d)) : ∃ p m, am[i]? = some p ∧ Rep G Fz am H f (.ref p) d m ∧ ∀ q, m q ≤ n q := by
  obtain ⟨v, m, a, b, c⟩ := Reps.at r (i := i) (f := f) (d := d) (by simp [e]) (by simp [e])
  rw [List.getElem?_map] at a
  obtain ⟨p, a1, a2⟩ := Option.map_eq_some_iff.mp a
  subst a2
  exact ⟨p, m, a1, b, c⟩
theorem Vws.lk {Fz : Addr → Prop} {am : List Addr} {n : Fp} (r : StoR G Fz am H st n) : ∀ {vs : List V} {ds : List D}, Vws G Fz am H vs ds → Vws G Fz am H vs (ds.map (lk st))
  | _, _, .nil => .nil
  | _, d :: _, .cons h t => .cons (by
    cases d with
    | ref i =>
      unfold Hx.lk
      dsimp only
      cases e : st[i]? with
      | none => exact h
      | some x =>
        obtain ⟨f, d⟩ := x
        dsimp only
        cases ef : f.flat with
        | false => exact h
        | true =>
          obtain ⟨p, m, a, b, _⟩ := r.at e
          obtain ⟨p', e1, e2⟩ := h
          rw [a] at e2
          cases e2
          rw [e1]
          exact b.view ef
    | _ => exact h) (Vws.lk r t)
theorem Rl.op {r : List V → Hp → VK → Prop} {op : Op} {vs : List V} {ts : List (Fr × Bool × D)} {f : Fr} {d : D} {Q : VK} (hv : VOp G r op) (R : Rl G g env st (mkT vs ts ++ T) σ H) (hl : vs.length = ts.length) (hf : flats ts = true)
    (e : op (ts.map fun t => lk st t.2.2) = some (f, d)) (hq : ∀ v H', Rl G g env st (⟨v, f, d, false⟩ :: T) σ H' → Q v H') : r vs H Q := by
  obtain ⟨Fz, am, ne, nt, ns, h1, h2, h3, h4, h5⟩ := R
  have vw := Vws.lk h3 (h2.views hl hf)
  rw [List.map_map] at vw
  refine hv Fz am H vs _ f d Q vw e fun v H' n s nn rep => hq v H' ?_
  obtain ⟨nt', k1, k2⟩ := h2.tail
  have E : Ext Fz am H Fz am H' := Ext.same s fun _ h => h
  have h4' : Rel0 g Fz am H (fun p => ne p + nt' p + ns p) := h4.less fun q => by have := k2 q; omega
  exact ⟨Fz, am, ne, fun q => n q + nt' q, ns, h1.ext E fun p o _ h => s _ _ h, .own rep (k1.ext E (fun p o _ h => s _ _ h) fun p o _ h => s _ _ h) fun _ => rfl, Reps.ext E h3 fun p o _ h => s _ _ h, h4'.grow s nn fun q => by show ne q + (n q + nt' q) + ns q = _; omega, trivial⟩
/-- one argument -/
theorem post1 {r : List V → Hp → VK → Prop} {op : Op} {W : WX} {Q : VK} {f : Fr} {b : Bool} {d : D} (hv : VOp G r op)
    (h : PostE G g env T σ W Q (dOp op (fun _ st => .ok [(f, b, d)] st) env st)) : ∀ v H', Rl G g env st (⟨v, f, d, b⟩ :: T) σ H' → r [v] H' Q := fun v H' R => by
  unfold dOp at h
  dsimp only at h
  cases hf : flats [(f, b, d)] with
  | false => rw [hf] at h; exact h.elim
  | true =>
    rw [hf] at h
    simp only [cond_true] at h
    cases e : op ([(f, b, d)].map fun t => lk st t.2.2) with
    | none => rw [e] at h; exact h.elim
    | some x =>
      obtain ⟨f', d'⟩ := x
      rw [e] at h
      exact Rl.op (vs := [v]) (ts := [(f, b, d)]) hv R rfl hf e h
end

/-! ### lists of arguments -/
@[simp] def dNil : DenL := fun _ st => .ok [] st
@[simp] def dCons (a : Den) (as : DenL) : DenL := fun env st => match a env st with
  | .ok f b d st1 => bif !b || f.isz then (match as env st1 with
    | .ok ts st2 => .ok ((f, false, d) :: ts) st2
    | .exc c ds st2 => .exc c ds st2
    | .stuck => .stuck) else .stuck
  | .exc c ds st1 => .exc c ds st1
  | .stuck => .stuck
/-- the last one may be a look -/
@[simp] def dLast (a : Den) : DenL := fun env st => match a env st with
  | .ok f b d st1 => .ok [(f, b, d)] st1
  | .exc c ds st1 => .exc c ds st1
  | .stuck => .stuck
theorem bifT {α : Type} {c : Bool} {a b : α} {P : α → Prop} (h : P (bif c then a else b)) (n : ¬ P b) : c = true ∧ P a := by
  cases c with
  | true => exact ⟨rfl, h⟩
  | false => exact (n h).elim
theorem nb_cons {T : List Tm} {v : V} {f : Fr} {d : D} (h : noBor T) : noBor (⟨v, f, d, false⟩ :: T) := fun a ha => by
  rcases List.mem_cons.mp ha with e | e
  · rw [e]
  · exact h a e
theorem Rl.unb {G : Sg} {g : Gd} {env : Env} {st : Store} {T : List Tm} {σ : St} {H : Hp} {v : V} {f : Fr} {b : Bool} {d : D} (R : Rl G g env st (⟨v, f, d, b⟩ :: T) σ H) (hb : (!b || f.isz) = true) : Rl G g env st (⟨v, f, d, false⟩ :: T) σ H := by
  cases b with
  | false => exact R
  | true =>
    have e : f = .z := Fr.isz_eq (by simpa using hb)
    subst e
    obtain ⟨Fz, am, ne, nt, ns, h1, h2, h3, h4, h5⟩ := R
    cases h2 with
    | bor k1 k2 k3 => exact ⟨Fz, am, ne, nt, ns, h1, .own (k1.fp k1.z0) k3 fun q => by simp, h3, h4, trivial⟩
section
variable {S : Sx} {e a b : Expr} {es : List Expr} {da db : Den} {das : DenL} {pos : Pos}
theorem da_nil : DA S [] dNil := fun W => ⟨_, fun X hX tk => pa_nil, fun g env st T σ H Q hT R h => h [] H rfl R⟩
theorem starNo : ∀ {e : Expr} {es : List Expr} {env : PySem.Env}, (∀ x p, e ≠ .Starred x p) → starEach (e :: es) env = (false, eval e env) :: starEach es env := fun {e es env} h => by
  cases e <;> first | rfl | exact absurd rfl (h _ _)
theorem da_cons (ha : DE S e da) (hr : DA S es das) (hs : ∀ x p, e ≠ .Starred x p) : DA S (e :: es) (dCons da das) := fun W => by
  obtain ⟨ta, pa, qa⟩ := ha W
  obtain ⟨tr, pr, qr⟩ := hr W
  refine ⟨_, fun X hX tk => pa_cons (pa X hX tk) (pr X hX tk) (starNo hs), fun g env st T σ H Q hT R h => ?_⟩
  refine qa g env st T σ H _ hT R ?_
  unfold dCons at h
  cases e1 : da env st with
  | stuck => rw [e1] at h; exact h.elim
  | exc c ds st1 => rw [e1] at h; exact h
  | ok f b d st1 =>
    rw [e1] at h
    obtain ⟨hb, h⟩ := bifT h id
    intro v H1 R1
    refine qr g env st1 _ σ H1 _ (nb_cons hT) (R1.unb hb) ?_
    cases e2 : das env st1 with
    | stuck => rw [e2] at h; exact h.elim
    | exc c ds st2 => rw [e2] at h; exact h
    | ok ts st2 =>
      rw [e2] at h
      dsimp only at h
      intro vs H2 hl R2
      exact h (v :: vs) H2 (by simp [hl]) R2.mid
theorem da_last (ha : DE S e da) (hs : ∀ x p, e ≠ .Starred x p) : DA S [e] (dLast da) := fun W => by
  obtain ⟨ta, pa, qa⟩ := ha W
  refine ⟨_, fun X hX tk => pa_cons (pa X hX tk) pa_nil (starNo hs), fun g env st T σ H Q hT R h => qa g env st T σ H _ hT R ?_⟩
  unfold dLast at h
  cases e1 : da env st with
  | stuck => rw [e1] at h; exact h.elim
  | exc c ds st1 => rw [e1] at h; exact h
  | ok f b d st1 =>
    rw [e1] at h
    exact fun v H1 R1 => h [v] H1 rfl R1
/-- two in a row -/
theorem run2 {r : List V → Hp → VK → Prop} {op : Op} {W : WX} {ta tb : TE} (hv : VOp S.G r op)
    (qa : ∀ g env st T σ H Q, noBor T → Rl S.G g env st T σ H → PostE S.G g env T σ W Q (da env st) → ta σ H Q)
    (qb : ∀ g env st T σ H Q, noBor T → Rl S.G g env st T σ H → PostE S.G g env T σ W Q (db env st) → tb σ H Q)
    (g : Gd) (env : Env) (st : Store) (T : List Tm) (σ : St) (H : Hp) (Q : VK) (hT : noBor T) (R : Rl S.G g env st T σ H) (h : PostE S.G g env T σ W Q (dOp op (dCons da (dLast db)) env st)) :
    ta σ H fun x H1 => tb σ H1 fun y H2 => r [x, y] H2 Q := by
  refine qa g env st T σ H _ hT R ?_
  unfold dOp dCons at h
  cases e1 : da env st with
  | stuck => rw [e1] at h; exact h.elim
  | exc c ds st1 => rw [e1] at h; exact h
  | ok f b d st1 =>
    rw [e1] at h
    dsimp only at h
    cases hb : (!b || f.isz) with
    | false => rw [hb] at h; exact h.elim
    | true =>
    rw [hb] at h
    intro v H1 R1
    refine qb g env st1 _ σ H1 _ (nb_cons hT) (R1.unb hb) ?_
    unfold dLast at h
    dsimp only [cond_true] at h
    cases e2 : db env st1 with
    | stuck => rw [e2] at h; exact h.elim
    | exc c ds st2 => rw [e2] at h; exact h
    | ok f2 b2 d2 st2 =>
      rw [e2] at h
      dsimp only at h
      intro v2 H2 R2
      have R3 : Rl S.G g env st2 (mkT [v, v2] [(f, false, d), (f2, b2, d2)] ++ T) σ H2 := RlB.mid (l := [_]) R2
      cases hf : flats [(f, false, d), (f2, b2, d2)] with
      | false => rw [hf] at h; exact h.elim
      | true =>
        rw [hf] at h
        simp only [cond_true] at h
        cases e3 : op ([(f, false, d), (f2, b2, d2)].map fun t => lk st2 t.2.2) with
        | none => rw [e3] at h; exact h.elim
        | some x =>
          obtain ⟨f', d'⟩ := x
          rw [e3] at h
          exact Rl.op hv R3 rfl hf e3 h
theorem run1 {r : List V → Hp → VK → Prop} {op : Op} {W : WX} {ta : TE} (hv : VOp S.G r op)
    (qa : ∀ g env st T σ H Q, noBor T → Rl S.G g env st T σ H → PostE S.G g env T σ W Q (da env st) → ta σ H Q)
    (g : Gd) (env : Env) (st : Store) (T : List Tm) (σ : St) (H : Hp) (Q : VK) (hT : noBor T) (R : Rl S.G g env st T σ H) (h : PostE S.G g env T σ W Q (dOp op (dLast da) env st)) :
    ta σ H fun x H1 => r [x] H1 Q := by
  refine qa g env st T σ H _ hT R ?_
  unfold dOp dLast at h
  cases e1 : da env st with
  | stuck => rw [e1] at h; exact h.elim
  | exc c ds st1 => rw [e1] at h; exact h
  | ok f b d st1 =>
    rw [e1] at h
    exact post1 hv h
theorem runL {r : List V → Hp → VK → Prop} {op : Op} {W : WX} {ta : TA} (hv : VOp S.G r op)
    (qa : ∀ g env st T σ H Q, noBor T → Rl S.G g env st T σ H → PostL S.G g env T σ W Q (das env st) → ta σ H Q)
    (g : Gd) (env : Env) (st : Store) (T : List Tm) (σ : St) (H : Hp) (Q : VK) (hT : noBor T) (R : Rl S.G g env st T σ H) (h : PostE S.G g env T σ W Q (dOp op das env st)) :
    ta σ H fun vs H1 => r vs H1 Q := by
  refine qa g env st T σ H _ hT R ?_
  unfold dOp at h
  cases e1 : das env st with
  | stuck => rw [e1] at h; exact h.elim
  | exc c ds st1 => rw [e1] at h; exact h
  | ok ts st1 =>
    rw [e1] at h
    dsimp only at h
    intro vs H1 hl R1
    cases hf : flats ts with
    | false => rw [hf] at h; exact h.elim
    | true =>
      rw [hf] at h
      simp only [cond_true] at h
      cases e3 : op (ts.map fun t => lk st1 t.2.2) with
      | none => rw [e3] at h; exact h.elim
      | some x =>
        obtain ⟨f', d'⟩ := x
        rw [e3] at h
        exact Rl.op hv R1 hl hf e3 h

/-! ### names, constants -/
@[simp] def dVar (i : Nat) : Den := fun env st => match env[i]? with
  | some (some (.z, d)) => .ok .z false d st
  | _ => .stuck
/-- looked at, not kept -/
@[simp] def dPk (i : Nat) : Den := fun env st => match env[i]? with
  | some (some (f, d)) => .ok f true d st
  | _ => .stuck
@[simp] def dC (d : D) : Den := fun _ st => .ok .z false d st
theorem de_pv {i : Nat} {x : Str} {p : Pos} (hN : S.N[i]? = some x) (hv : Vis S.sc x) (hd : (x == ("__debug__" : Str)) = false) (hcd : (x == ("__classdict__" : Str)) = false) {X : Cx} (hX : Stx S X) : PE X (.Name x p) (tVar i) :=
  pe_var (by rw [hX.N]; exact hN) (by rw [hX.sc]; exact hv) hd hcd
theorem de_var {i : Nat} {x : Str} {p : Pos} (hN : S.N[i]? = some x) (hv : Vis S.sc x) (hd : (x == ("__debug__" : Str)) = false) (hcd : (x == ("__classdict__" : Str)) = false) : DE S (.Name x p) (dVar i) := fun W => by
  refine ⟨_, fun X hX tk => de_pv hN hv hd hcd hX, fun g env st T σ H Q hT R h => ?_⟩
  unfold dVar at h
  split at h
  · rename_i d e
    obtain ⟨v, e1, R1⟩ := R.pushz e
    exact ⟨v, e1, h v H R1⟩
  · exact h.elim
theorem de_pk {i : Nat} {x : Str} {p : Pos} (hN : S.N[i]? = some x) (hv : Vis S.sc x) (hd : (x == ("__debug__" : Str)) = false) (hcd : (x == ("__classdict__" : Str)) = false) : DE S (.Name x p) (dPk i) := fun W => by
  refine ⟨_, fun X hX tk => de_pv hN hv hd hcd hX, fun g env st T σ H Q hT R h => ?_⟩
  unfold dPk at h
  split at h
  · rename_i f d e
    obtain ⟨v, e1, R1⟩ := R.pushb e
    exact ⟨v, e1, h v H R1⟩
  · exact h.elim
theorem de_int {i : Int} {j} {p : Pos} : DE S (.Constant (.int i) j p) (dC (.int i)) := fun W => ⟨_, fun X hX tk => pe_int, fun g env st T σ H Q hT R h => h _ H (R.scal rfl)⟩
theorem de_bl {i : Bool} {j} {p : Pos} : DE S (.Constant (.bool i) j p) (dC (.bl i)) := fun W => ⟨_, fun X hX tk => pe_bl, fun g env st T σ H Q hT R h => h _ H (R.scal rfl)⟩
theorem de_non {j} {p : Pos} : DE S (.Constant .none j p) (dC .non) := fun W => ⟨_, fun X hX tk => pe_non, fun g env st T σ H Q hT R h => h _ H (R.scal trivial)⟩
theorem de_str {i : Str} {j} {p : Pos} : DE S (.Constant (.str i) j p) (dC (.str i)) := fun W => ⟨_, fun X hX tk => pe_str, fun g env st T σ H Q hT R h => h _ H (R.scal rfl)⟩

/-! ### operators, subscripts, built-ins, by their rules -/
def l1 (r : V → Hp → VK → Prop) : List V → Hp → VK → Prop := fun vs H Q => r (vs.getD 0 .non) H Q
def l2 (r : R2) : List V → Hp → VK → Prop := fun vs H Q => r (vs.getD 0 .non) (vs.getD 1 .non) H Q
theorem de_bin {o : Operator} {r : R2} {op : Op} (ho : ∀ X, Stx S X → OpR X (binaryOp o) r) (hv : VOp S.G (l2 r) op) (ha : DE S a da) (hb : DE S b db) :
    DE S (.BinOp a o b pos) (dOp op (dCons da (dLast db))) := fun W => by
  obtain ⟨ta, pa, qa⟩ := ha W
  obtain ⟨tb, pb, qb⟩ := hb W
  exact ⟨_, fun X hX tk => pe_op (ho X hX) (pa X hX tk) (pb X hX tk), fun g env st T σ H Q hT R h => run2 hv qa qb g env st T σ H Q hT R h⟩
theorem de_un {o : UnaryOp} {r : V → Hp → VK → Prop} {op : Op} (ho : ∀ X, Stx S X → UnR X (unaryOp o) r) (hv : VOp S.G (l1 r) op) (ha : DE S a da) :
    DE S (.UnaryOp o a pos) (dOp op (dLast da)) := fun W => by
  obtain ⟨ta, pa, qa⟩ := ha W
  exact ⟨_, fun X hX tk => pe_un (ho X hX) (pa X hX tk), fun g env st T σ H Q hT R h => run1 hv qa g env st T σ H Q hT R h⟩
def notSet : Expr → Bool
  | .Set _ _ _ => false
  | _ => true
theorem marks {o : CmpOp} {e : Expr} (h : notSet e = true) : behindInMarks o e = false := by
  cases e <;> first | rfl | cases h
theorem de_cmp {o : CmpOp} {r : R2} {op : Op} (ho : ∀ X, Stx S X → OpR X (compareOp o) r) (hv : VOp S.G (l2 r) op) (ha : DE S a da) (hb : DE S b db) (hm : notSet b = true) :
    DE S (.Compare a [o] [b] pos) (dOp op (dCons da (dLast db))) := fun W => by
  obtain ⟨ta, pa, qa⟩ := ha W
  obtain ⟨tb, pb, qb⟩ := hb W
  exact ⟨_, fun X hX tk => pe_cmpR (ho X hX) (pa X hX tk) (pb X hX tk) (marks hm), fun g env st T σ H Q hT R h => run2 hv qa qb g env st T σ H Q hT R h⟩
def notSlice : Expr → Bool
  | .Slice _ _ _ _ => false
  | _ => true
theorem plainIx {e : Expr} (h : notSlice e = true) : PlainIx e := fun o i => by
  cases e <;> first | rfl | cases h
theorem de_ix {r : R2} {op : Op} (ho : ∀ X, Stx S X → IxR X r) (hv : VOp S.G (l2 r) op) (ha : DE S a da) (hb : DE S b db) (hm : notSlice b = true) :
    DE S (.Subscript a b pos) (dOp op (dCons da (dLast db))) := fun W => by
  obtain ⟨ta, pa, qa⟩ := ha W
  obtain ⟨tb, pb, qb⟩ := hb W
  exact ⟨_, fun X hX tk => pe_ix (ho X hX) (pa X hX tk) (pb X hX tk) (plainIx hm), fun g env st T σ H Q hT R h => run2 hv qa qb g env st T σ H Q hT R h⟩
theorem noStar : ∀ {es : List Expr} {env : PySem.Env} {pos : Pos}, (∀ e ∈ es, ∀ x p, e ≠ .Starred x p) → (backTo pos (starEach es env)).any (·.1) = false := fun {es} => by
  induction es with
  | nil => intro env pos _; rfl
  | cons e es ih =>
    intro env pos h
    rw [starNo (h e List.mem_cons_self)]
    have := ih (env := env) (pos := pos) fun x hx => h x (List.mem_cons_of_mem _ hx)
    simpa [backTo] using this
/-- no star among the arguments -/
def plainArgs : List Expr → Bool
  | [] => true
  | .Starred _ _ :: _ => false
  | _ :: es => plainArgs es
theorem plainArgs_ok : ∀ {es : List Expr}, plainArgs es = true → ∀ e ∈ es, ∀ x p, e ≠ .Starred x p
  | e :: es, h, e', he, x, p => by
    rcases List.mem_cons.mp he with rfl | he
    · intro z; subst z; exact Bool.noConfusion h
    · have h2 : plainArgs es = true := by
        cases e <;> first | exact h | exact Bool.noConfusion h
      exact plainArgs_ok h2 e' he x p
/-- a built-in function by its name -/
theorem de_bi {x : Str} {p : Pos} {id : String} {r : List V → Hp → VK → Prop} {op : Op} (ho : ∀ X, Stx S X → CallR X (.builtin id) r) (hv : VOp S.G r op) (hg : S.sc.names.lookup x = some .globalImplicit) (hm : S.mg x = none) (hb : bootBuiltins x = some (.builtin id)) (hn : x ≠ "__name__") (hdb : (x == ("__debug__" : Str)) = false)
    (ha : DA S (e :: es) das) (hp : plainArgs (e :: es) = true) : DE S (.Call (.Name x p) (e :: es) [] pos) (dOp op das) := fun W => by
  obtain ⟨ta, pa, qa⟩ := ha W
  have h1 := plainArgs_ok hp
  exact ⟨_, fun X hX tk => pe_callB (ho X hX) (show X.env.scope.names.lookup x = some .globalImplicit by rw [hX.sc]; exact hg) (by rw [hX.mg]; exact hm) hb (pa X hX tk) hn hdb (starNo (h1 e List.mem_cons_self)) (noStar fun y hy => h1 y (List.mem_cons_of_mem _ hy)), fun g env st T σ H Q hT R h => runL hv qa g env st T σ H Q hT R h⟩
theorem de_ty {x : Str} {p : Pos} {id : String} {r : List V → Hp → VK → Prop} {op : Op} (ho : ∀ X, Stx S X → CallR X (.type id) r) (hv : VOp S.G r op) (hg : S.sc.names.lookup x = some .globalImplicit) (hm : S.mg x = none) (hb : bootBuiltins x = some (.type id)) (hn : x ≠ "__name__") (hdb : (x == ("__debug__" : Str)) = false)
    (ha : DA S (e :: es) das) (hp : plainArgs (e :: es) = true) : DE S (.Call (.Name x p) (e :: es) [] pos) (dOp op das) := fun W => by
  obtain ⟨ta, pa, qa⟩ := ha W
  have h1 := plainArgs_ok hp
  exact ⟨_, fun X hX tk => pe_callTy (ho X hX) (show X.env.scope.names.lookup x = some .globalImplicit by rw [hX.sc]; exact hg) (by rw [hX.mg]; exact hm) hb (pa X hX tk) hn hdb (starNo (h1 e List.mem_cons_self)) (noStar fun y hy => h1 y (List.mem_cons_of_mem _ hy)), fun g env st T σ H Q hT R h => runL hv qa g env st T σ H Q hT R h⟩

/-! ### truth -/
theorem Rl.bl {G : Sg} {g : Gd} {env : Env} {st : Store} {T : List Tm} {σ : St} {H : Hp} {v : V} {f : Fr} {b c : Bool} (R : Rl G g env st (⟨v, f, .bl c, b⟩ :: T) σ H) : v = .bl c := by
  obtain ⟨Fz, am, ne, nt, ns, h1, h2, h3, h4, h5⟩ := R
  have key : ∀ {n : Fp}, Rep G Fz am H f v (.bl c) n → v = .bl c := fun {n} r => by
    cases r with
    | sc h _ => cases v <;> first | exact congrArg V.bl h | exact h.elim
  cases h2 with
  | own h _ _ => exact key h
  | bor h _ _ => exact key h
@[simp] def dB (a : Den) : DenB := fun env st => match a env st with
  | .ok _ _ (.bl c) st1 => .ok c st1
  | .ok _ _ _ _ => .stuck
  | .exc c ds st1 => .exc c ds st1
  | .stuck => .stuck
@[simp] def dOfB (a : DenB) : Den := fun env st => match a env st with
  | .ok c st1 => .ok .z false (.bl c) st1
  | .exc c ds st1 => .exc c ds st1
  | .stuck => .stuck
/-- what is wanted behind a truth value -/
theorem postB {G : Sg} {g : Gd} {env : Env} {st : Store} {T : List Tm} {σ : St} {W : WX} {Q : Bool → Hp → Prop} {a : Den} (h : PostB G g env T σ W Q (dB a env st)) : PostE G g env T σ W (fun x H1 => ∃ c, x = .bl c ∧ Q c H1) (a env st) := by
  unfold dB at h
  cases e : a env st with
  | stuck => rw [e] at h; exact h.elim
  | exc c ds st1 => rw [e] at h; exact h
  | ok f b d st1 =>
    rw [e] at h
    cases d with
    | bl c => exact fun v H1 R1 => ⟨c, R1.bl, h H1 R1.drop⟩
    | _ => exact h.elim
/-- expressions whose test is their value's -/
def plainTest : Expr → Bool
  | .UnaryOp .Not _ _ => false
  | .BoolOp _ _ _ => false
  | .IfExp _ _ _ _ => false
  | .Compare _ _ _ _ => false
  | _ => true
theorem plainTest_ok {e : Expr} (h : plainTest e = true) (env : PySem.Env) (whole : Sem Value) : isTrue e env whole = (do let v ← whole; standAt e.pos; holding [v] (truthy v)) := by
  cases e <;> first | rfl | exact Bool.noConfusion h | skip
  rename_i o x p
  cases o <;> first | rfl | exact Bool.noConfusion h
theorem dt_val (ha : DE S a da) (hp : plainTest a = true) : DT S a (dB da) := fun W => by
  obtain ⟨ta, pa, qa⟩ := ha W
  exact ⟨_, fun X hX tk => pt_val (pa X hX tk) (plainTest_ok hp X.env), fun g env st T σ H Q hT R h => qa g env st T σ H _ hT R (postB h)⟩
theorem dt_cmp {o : CmpOp} {r : R2} {op : Op} (ho : ∀ X, Stx S X → OpR X (compareOp o) r) (hv : VOp S.G (l2 r) op) (ha : DE S a da) (hb : DE S b db) (hm : notSet b = true) :
    DT S (.Compare a [o] [b] pos) (dB (dOp op (dCons da (dLast db)))) := fun W => by
  obtain ⟨ta, pa, qa⟩ := ha W
  obtain ⟨tb, pb, qb⟩ := hb W
  exact ⟨_, fun X hX tk => pt_cmpR (ho X hX) (pa X hX tk) (pb X hX tk) (marks hm), fun g env st T σ H Q hT R h => run2 hv qa qb g env st T σ H _ hT R (postB h)⟩
@[simp] def dNotB (a : DenB) : DenB := fun env st => match a env st with
  | .ok c st1 => .ok (!c) st1
  | .exc c ds st1 => .exc c ds st1
  | .stuck => .stuck
@[simp] def dAndB (a b : DenB) : DenB := fun env st => match a env st with
  | .ok true st1 => b env st1
  | .ok false st1 => .ok false st1
  | .exc c ds st1 => .exc c ds st1
  | .stuck => .stuck
@[simp] def dOrB (a b : DenB) : DenB := fun env st => match a env st with
  | .ok true st1 => .ok true st1
  | .ok false st1 => b env st1
  | .exc c ds st1 => .exc c ds st1
  | .stuck => .stuck
theorem dt_not {ta : DenB} (ha : DT S a ta) : DT S (.UnaryOp .Not a pos) (dNotB ta) := fun W => by
  obtain ⟨t, p, q⟩ := ha W
  refine ⟨_, fun X hX tk => pt_not (p X hX tk), fun g env st T σ H Q hT R h => q g env st T σ H _ hT R ?_⟩
  unfold dNotB at h
  cases e : ta env st with
  | stuck => rw [e] at h; exact h.elim
  | exc c ds st1 => rw [e] at h; exact h
  | ok c st1 => rw [e] at h; exact h
/-- and, or: tests, whatever the whole -/
def DW (S : Sx) (e : Expr) (den : DenB) : Prop := ∀ W : WX, ∃ t : TT, (∀ X, Stx S X → Takes X W → PW X e t) ∧
  ∀ g env st T σ H Q, noBor T → Rl S.G g env st T σ H → PostB S.G g env T σ W Q (den env st) → t σ H Q
theorem dt_w {ta : DenB} (ha : DW S a ta) : DT S a ta := fun W => by
  obtain ⟨t, p, q⟩ := ha W
  exact ⟨t, fun X hX tk => (p X hX tk).pt, q⟩
theorem dw_and1 {ta : DenB} (ha : DT S a ta) : DW S (.BoolOp .And [a] pos) ta := fun W => by
  obtain ⟨t, p, q⟩ := ha W
  exact ⟨t, fun X hX tk => pw_and1 (p X hX tk), q⟩
theorem dw_or1 {ta : DenB} (ha : DT S a ta) : DW S (.BoolOp .Or [a] pos) ta := fun W => by
  obtain ⟨t, p, q⟩ := ha W
  exact ⟨t, fun X hX tk => pw_or1 (p X hX tk), q⟩
theorem dw_and {ta tr : DenB} (ha : DT S a ta) (hr : DW S (.BoolOp .And (b :: es) pos) tr) : DW S (.BoolOp .And (a :: b :: es) pos) (dAndB ta tr) := fun W => by
  obtain ⟨t, p, q⟩ := ha W
  obtain ⟨t2, p2, q2⟩ := hr W
  refine ⟨_, fun X hX tk => pw_and (p X hX tk) (p2 X hX tk), fun g env st T σ H Q hT R h => q g env st T σ H _ hT R ?_⟩
  unfold dAndB at h
  cases e : ta env st with
  | stuck => rw [e] at h; exact h.elim
  | exc c ds st1 => rw [e] at h; exact h
  | ok c st1 =>
    rw [e] at h
    intro H1 R1
    cases c with
    | true => exact iteT (q2 _ _ _ _ _ _ _ hT R1 h)
    | false => exact iteF (h H1 R1)
theorem dw_or {ta tr : DenB} (ha : DT S a ta) (hr : DW S (.BoolOp .Or (b :: es) pos) tr) : DW S (.BoolOp .Or (a :: b :: es) pos) (dOrB ta tr) := fun W => by
  obtain ⟨t, p, q⟩ := ha W
  obtain ⟨t2, p2, q2⟩ := hr W
  refine ⟨_, fun X hX tk => pw_or (p X hX tk) (p2 X hX tk), fun g env st T σ H Q hT R h => q g env st T σ H _ hT R ?_⟩
  unfold dOrB at h
  cases e : ta env st with
  | stuck => rw [e] at h; exact h.elim
  | exc c ds st1 => rw [e] at h; exact h
  | ok c st1 =>
    rw [e] at h
    intro H1 R1
    cases c with
    | true => exact iteT (h H1 R1)
    | false => exact iteF (q2 _ _ _ _ _ _ _ hT R1 h)
/-! ### and, or, not, if as values -/
@[simp] def dAnd (a b : Den) : Den := fun env st => match a env st with
  | .ok _ _ (.bl true) st1 => b env st1
  | .ok _ _ (.bl false) st1 => .ok .z false (.bl false) st1
  | .ok _ _ _ _ => .stuck
  | .exc c ds st1 => .exc c ds st1
  | .stuck => .stuck
@[simp] def dOr (a b : Den) : Den := fun env st => match a env st with
  | .ok _ _ (.bl true) st1 => .ok .z false (.bl true) st1
  | .ok _ _ (.bl false) st1 => b env st1
  | .ok _ _ _ _ => .stuck
  | .exc c ds st1 => .exc c ds st1
  | .stuck => .stuck
@[simp] def dIf (c : DenB) (a b : Den) : Den := fun env st => match c env st with
  | .ok true st1 => a env st1
  | .ok false st1 => b env st1
  | .exc c ds st1 => .exc c ds st1
  | .stuck => .stuck
theorem de_one {o : BoolOp} (ha : DE S a da) : DE S (.BoolOp o [a] pos) da := fun W => by
  obtain ⟨t, p, q⟩ := ha W
  exact ⟨t, fun X hX tk => pe_one (p X hX tk), q⟩
theorem de_and (ha : DE S a da) (hr : DE S (.BoolOp .And (b :: es) pos) db) : DE S (.BoolOp .And (a :: b :: es) pos) (dAnd da db) := fun W => by
  obtain ⟨t, p, q⟩ := ha W
  obtain ⟨t2, p2, q2⟩ := hr W
  refine ⟨_, fun X hX tk => pe_and (p X hX tk) (p2 X hX tk), fun g env st T σ H Q hT R h => q g env st T σ H _ hT R ?_⟩
  unfold dAnd at h
  cases e : da env st with
  | stuck => rw [e] at h; exact h.elim
  | exc c ds st1 => rw [e] at h; exact h
  | ok f b0 d st1 =>
    rw [e] at h
    cases d with
    | bl c =>
      intro v H1 R1
      cases c with
      | true => exact ⟨true, R1.bl, iteT (q2 _ _ _ _ _ _ _ hT R1.drop h)⟩
      | false => exact ⟨false, R1.bl, iteF (h _ H1 (Rl.scal R1.drop rfl))⟩
    | _ => exact h.elim
theorem de_or (ha : DE S a da) (hr : DE S (.BoolOp .Or (b :: es) pos) db) : DE S (.BoolOp .Or (a :: b :: es) pos) (dOr da db) := fun W => by
  obtain ⟨t, p, q⟩ := ha W
  obtain ⟨t2, p2, q2⟩ := hr W
  refine ⟨_, fun X hX tk => pe_or (p X hX tk) (p2 X hX tk), fun g env st T σ H Q hT R h => q g env st T σ H _ hT R ?_⟩
  unfold dOr at h
  cases e : da env st with
  | stuck => rw [e] at h; exact h.elim
  | exc c ds st1 => rw [e] at h; exact h
  | ok f b0 d st1 =>
    rw [e] at h
    cases d with
    | bl c =>
      intro v H1 R1
      cases c with
      | true => exact ⟨true, R1.bl, iteT (h _ H1 (Rl.scal R1.drop rfl))⟩
      | false => exact ⟨false, R1.bl, iteF (q2 _ _ _ _ _ _ _ hT R1.drop h)⟩
    | _ => exact h.elim
theorem de_not (ha : DE S a da) : DE S (.UnaryOp .Not a pos) (dOfB (dNotB (dB da))) := fun W => by
  obtain ⟨t, p, q⟩ := ha W
  refine ⟨_, fun X hX tk => pe_not (p X hX tk), fun g env st T σ H Q hT R h => q g env st T σ H _ hT R ?_⟩
  unfold dOfB dNotB dB at h
  cases e : da env st with
  | stuck => rw [e] at h; exact h.elim
  | exc c ds st1 => rw [e] at h; exact h
  | ok f b0 d st1 =>
    rw [e] at h
    cases d with
    | bl c => exact fun v H1 R1 => ⟨c, R1.bl, h _ H1 (Rl.scal R1.drop rfl)⟩
    | _ => exact h.elim
theorem de_if {c : Expr} {tc : DenB} (hc : DT S c tc) (ha : DE S a da) (hb : DE S b db) : DE S (.IfExp c a b pos) (dIf tc da db) := fun W => by
  obtain ⟨t, p, q⟩ := hc W
  obtain ⟨t2, p2, q2⟩ := ha W
  obtain ⟨t3, p3, q3⟩ := hb W
  refine ⟨_, fun X hX tk => pe_ifExp (p X hX tk) (p2 X hX tk) (p3 X hX tk), fun g env st T σ H Q hT R h => q g env st T σ H _ hT R ?_⟩
  unfold dIf at h
  cases e : tc env st with
  | stuck => rw [e] at h; exact h.elim
  | exc c ds st1 => rw [e] at h; exact h
  | ok c st1 =>
    rw [e] at h
    intro H1 R1
    cases c with
    | true => exact iteT (q2 _ _ _ _ _ _ _ hT R1 h)
    | false => exact iteF (q3 _ _ _ _ _ _ _ hT R1 h)
end
end Hx

set_option Elab.async false
set_option linter.all false
set_option maxRecDepth 100000
set_option autoImplicit false
/-! F4: displays, calls. -/
namespace Hx
open PySem PySem.Spec L2
open PyProof.Rows hiding St

section
variable {G : Sg} {g : Gd} {env : Env} {st st' : Store} {T T' : List Tm} {σ : St} {H H' : Hp} {B B' : (Addr → Prop) → List Addr → Prop}
/-- what may be kept: not a look at a slot's own thing -/
@[simp] def keeps (ts : List (Fr × Bool × D)) : Bool := ts.all fun t => !t.2.1 || t.1.isz
def bare (ts : List (Fr × Bool × D)) : List (Fr × D) := ts.map fun t => (t.1, t.2.2)
theorem TmR.reps {Fz : Addr → Prop} {am : List Addr} {ne nt : Fp} : ∀ {vs : List V} {ts : List (Fr × Bool × D)}, vs.length = ts.length → keeps ts = true → TmR G Fz am H ne (mkT vs ts ++ T) nt →
    ∃ n1 n2 : Fp, Reps G Fz am H (ts.map (·.1)) vs (ts.map fun t => t.2.2) n1 ∧ TmR G Fz am H ne T n2 ∧ ∀ q, nt q = n1 q + n2 q
  | [], [], _, _, r => ⟨fun _ => 0, nt, .nil fun _ => rfl, r, fun q => by simp⟩
  | v :: vs, (f, b, d) :: ts, hl, hf, r => by
    simp only [keeps, List.all_cons, Bool.and_eq_true] at hf
    cases b with
    | false =>
      cases r with
      | @own _ _ _ _ m1 m2 _ h1 h2 h3 =>
        obtain ⟨n1, n2, k1, k2, k3⟩ := TmR.reps (by simpa using hl) hf.2 h2
        exact ⟨fun q => m1 q + n1 q, n2, .cons h1 k1 fun _ => rfl, k2, fun q => by rw [h3, k3]; show _ = m1 q + n1 q + n2 q; omega⟩
    | true =>
      cases r with
      | @bor _ _ _ _ m1 _ h1 h2 h3 =>
        obtain ⟨n1, n2, k1, k2, k3⟩ := TmR.reps (by simpa using hl) hf.2 h3
        have e : f = .z := Fr.isz_eq (by simpa using hf.1)
        subst e
        exact ⟨n1, n2, .cons h1 k1 fun q => by rw [h1.z0]; omega, k2, k3⟩
/-- values under way become shared for good -/
theorem Rl.frzL {vs : List V} {ts : List (Fr × Bool × D)} (R : Rl G g env st (mkT vs ts ++ T) σ H) (hl : vs.length = ts.length) (hk : keeps ts = true) :
    RlB G g env st T σ H fun Fz am => Reps G Fz am H (zs ts.length) vs (ts.map fun t => t.2.2) (fun _ => 0) := by
  obtain ⟨Fz, am, ne, nt, ns, h1, h2, h3, h4, h5⟩ := R
  obtain ⟨n1, n2, k1, k2, k3⟩ := h2.reps hl hk
  have E : Ext Fz am H (Fro Fz n1) am H := Ext.shared fun p z => .inl z
  refine ⟨Fro Fz n1, am, ne, n2, ns, h1.ext E fun _ _ _ h => h, k2.ext E (fun _ _ _ h => h) fun _ _ _ h => h, Reps.ext E h3 fun _ _ _ h => h, h4.froz fun q => by rw [k3]; omega, ?_⟩
  have := k1.frz (Fz' := Fro Fz n1) (fun p z => .inl z) fun p z => .inr z
  simpa using this
/-- kept as they are -/
theorem Rl.own {vs : List V} {ts : List (Fr × Bool × D)} (R : Rl G g env st (mkT vs ts ++ T) σ H) (hl : vs.length = ts.length) (hk : keeps ts = true) :
    ∃ Fz am ne n1 n2 ns, Reps G Fz am H (ts.map (·.1)) vs (ts.map fun t => t.2.2) n1 ∧ EnvR G Fz am H env σ ne ∧ TmR G Fz am H ne T n2 ∧ StoR G Fz am H st ns ∧ Rel0 g Fz am H fun p => n1 p + (ne p + n2 p + ns p) := by
  obtain ⟨Fz, am, ne, nt, ns, h1, h2, h3, h4, h5⟩ := R
  obtain ⟨n1, n2, k1, k2, k3⟩ := h2.reps hl hk
  exact ⟨Fz, am, ne, n1, n2, ns, k1, h1, k2, h3, h4.less fun q => by rw [k3]; omega⟩
/-- a new value over the old ones -/
theorem RlB.new {v : V} {f : Fr} {d : D} {n : Fp} (R : RlB G g env st T σ H B) (s : Same H H') (nn : Newp H H' n) (h : ∀ Fz am, Ext Fz am H Fz am H' → B Fz am → Rep G Fz am H' f v d n) : Rl G g env st (⟨v, f, d, false⟩ :: T) σ H' := by
  obtain ⟨Fz, am, ne, nt, ns, h1, h2, h3, h4, h5⟩ := R
  have E : Ext Fz am H Fz am H' := Ext.same s fun _ h => h
  exact ⟨Fz, am, ne, fun q => n q + nt q, ns, h1.ext E fun p o _ h => s _ _ h, .own (h Fz am E h5) (h2.ext E (fun p o _ h => s _ _ h) fun p o _ h => s _ _ h) fun _ => rfl, Reps.ext E h3 fun p o _ h => s _ _ h, h4.grow s nn fun q => by show ne q + (n q + nt q) + ns q = _; omega, trivial⟩
theorem same_upd {p : Addr} {o : HO} (h : H p = none) : Same H (upd H p o) := fun b x e => by
  rw [upd_ne (ne_of_none e h)]
  exact e
def one1 (p : Addr) : Fp := fun q => if q = p then 1 else 0
theorem newp1 {p : Addr} {o : HO} (h : H p = none) (k : OwnK o) : Newp H (upd H p o) (one1 p) := fun q hq => by
  unfold one1 at hq ⊢
  by_cases e : q = p
  · subst e
    exact ⟨if_pos rfl, h, o, upd_same, k⟩
  · rw [if_neg e] at hq
    omega
/-- a list of shared items -/
theorem rep_lst {Fz : Addr → Prop} {am : List Addr} {p : Addr} {vs : List V} {ds : List D} (E : Ext Fz am H Fz am (upd H p (.lst vs))) (h : Reps G Fz am H (zs ds.length) vs ds (fun _ => 0)) : Rep G Fz am (upd H p (.lst vs)) (.c .z) (.ref p) (.con .lst ds) (one1 p) :=
  .cc ⟨⟨by decide, by decide⟩, _, upd_same, rfl⟩ (Reps.ext E h fun q o hq => absurd hq (Nat.lt_irrefl 0)) fun q => by unfold one1; simp
theorem rep_tup {Fz : Addr → Prop} {am : List Addr} {p : Addr} {vs : List V} {ds : List D} (E : Ext Fz am H Fz am (upd H p (.tup vs))) (h : Reps G Fz am H (zs ds.length) vs ds (fun _ => 0)) : Rep G Fz am (upd H p (.tup vs)) .z (.ref p) (.con .tup ds) (fun _ => 0) :=
  .zz (k := .tup) (SqT.of upd_same) (Reps.ext E h fun q o hq => absurd hq (Nat.lt_irrefl 0)) fun _ => rfl
end

/-! ### displays -/
@[simp] def dTup (as : DenL) : Den := fun env st => match as env st with
  | .ok ts st1 => bif keeps ts && ts.length.ble 1000 then .ok .z false (.con .tup (ts.map fun t => t.2.2)) st1 else .stuck
  | .exc c ds st1 => .exc c ds st1
  | .stuck => .stuck
/-- the items stay owned -/
def dTupO (as : DenL) : Den := fun env st => match as env st with
  | .ok ts st1 => bif keeps ts && ts.length.ble 1000 then .ok (.t (ts.map (·.1))) false (.con .tup (ts.map fun t => t.2.2)) st1 else .stuck
  | .exc c ds st1 => .exc c ds st1
  | .stuck => .stuck
@[simp] def dLst (as : DenL) : Den := fun env st => match as env st with
  | .ok ts st1 => bif keeps ts && ts.length.ble 1000 then .ok (.c .z) false (.con .lst (ts.map fun t => t.2.2)) st1 else .stuck
  | .exc c ds st1 => .exc c ds st1
  | .stuck => .stuck
theorem small_len {n : Nat} (h : n.ble 1000 = true) : n ≤ sizeLine := Nat.le_trans (Nat.le_of_ble_eq_true h) (by decide)
section
variable {S : Sx} {e a b : Expr} {es : List Expr} {da db : Den} {das : DenL} {pos : Pos}
theorem de_tup {x1} (ha : DA S es das) : DE S (.Tuple es x1 pos) (dTup das) := fun W => by
  obtain ⟨t, p, q⟩ := ha W
  refine ⟨_, fun X hX tk => pe_tup (p X hX tk), fun g env st T σ H Q hT R h => q g env st T σ H _ hT R ?_⟩
  unfold dTup at h
  cases e : das env st with
  | stuck => rw [e] at h; exact h.elim
  | exc c ds st1 => rw [e] at h; exact h
  | ok ts st1 =>
    rw [e] at h
    obtain ⟨hc, h⟩ := bifT h id
    rw [Bool.and_eq_true] at hc
    intro vs H1 hl R1
    refine ⟨by rw [hl]; exact small_len hc.2, fun pA hp => h _ _ ?_⟩
    exact RlB.new (R1.frzL hl hc.1) (same_upd hp) newp0 fun Fz am E k => rep_tup E (by simpa using k)
theorem de_tupO {x1} (ha : DA S es das) : DE S (.Tuple es x1 pos) (dTupO das) := fun W => by
  obtain ⟨t, p, q⟩ := ha W
  refine ⟨_, fun X hX tk => pe_tup (p X hX tk), fun g env st T σ H Q hT R h => q g env st T σ H _ hT R ?_⟩
  unfold dTupO at h
  cases e : das env st with
  | stuck => rw [e] at h; exact h.elim
  | exc c ds st1 => rw [e] at h; exact h
  | ok ts st1 =>
    rw [e] at h
    obtain ⟨hc, h⟩ := bifT h id
    rw [Bool.and_eq_true] at hc
    intro vs H1 hl R1
    refine ⟨by rw [hl]; exact small_len hc.2, fun pA hp => h _ _ ?_⟩
    obtain ⟨Fz, am, ne, n1, n2, ns, k1, k2, k3, k4, k5⟩ := Rl.own R1 hl hc.1
    have s := same_upd (o := .tup vs) hp
    have E : Ext Fz am H1 Fz am (upd H1 pA (.tup vs)) := Ext.same s fun _ h => h
    exact ⟨Fz, am, ne, fun q => n1 q + n2 q, ns, k2.ext E fun p o _ h => s _ _ h, .own (.tp (SqT.of upd_same) (Reps.ext E k1 fun p o _ h => s _ _ h)) (k3.ext E (fun p o _ h => s _ _ h) fun p o _ h => s _ _ h) fun _ => rfl,
      Reps.ext E k4 fun p o _ h => s _ _ h, (k5.grow s (m := fun _ => 0) newp0 (t' := fun p => n1 p + (ne p + n2 p + ns p)) fun q => by simp).less fun q => by show ne q + (n1 q + n2 q) + ns q ≤ _; omega, trivial⟩
theorem de_lst (ha : DA S es das) : DE S (.List es pos) (dLst das) := fun W => by
  obtain ⟨t, p, q⟩ := ha W
  refine ⟨_, fun X hX tk => pe_lst (p X hX tk), fun g env st T σ H Q hT R h => q g env st T σ H _ hT R ?_⟩
  unfold dLst at h
  cases e : das env st with
  | stuck => rw [e] at h; exact h.elim
  | exc c ds st1 => rw [e] at h; exact h
  | ok ts st1 =>
    rw [e] at h
    obtain ⟨hc, h⟩ := bifT h id
    rw [Bool.and_eq_true] at hc
    intro vs H1 hl R1
    refine ⟨by rw [hl]; exact small_len hc.2, fun pA hp => h _ _ ?_⟩
    exact RlB.new (R1.frzL hl hc.1) (same_upd hp) (newp1 hp trivial) fun Fz am E k => rep_lst E (by simpa using k)
end

/-! ### what a def promises -/
abbrev Fn := List (Fr × D) → Store → Res
def PostF (G : Sg) (g : Gd) (Q : VK) (E : XK) : Res → Prop
  | .ok f b d st => b = false ∧ ∀ v H', Rl G g [] st [⟨v, f, d, false⟩] [] H' → Q v H'
  | .exc c ds st => ∀ cls dx H', RlB G g [] st [] [] H' (ExcB G H' c ds cls dx) → E cls dx H'
  | .stuck => False
/-- n: how many arguments -/
def SpF (G : Sg) (n : Nat) (F : Fn) : Sp := fun vs H Q E => vs.length = n ∧ ∃ Fz am as st na ns, Reps G Fz am H (as.map (·.1)) vs (as.map (·.2)) na ∧ StoR G Fz am H st ns ∧
  Rel0 ⟨H, fun p => 0 < na p + ns p, Fz, am⟩ Fz am H (fun p => na p + ns p) ∧ PostF G ⟨H, fun p => 0 < na p + ns p, Fz, am⟩ Q E (F as st)
section
variable {G : Sg} {g : Gd} {env : Env} {st st' : Store} {T T' : List Tm} {σ : St} {H H' : Hp} {B B' : (Addr → Prop) → List Addr → Prop}
theorem Rel0.base {Fz : Addr → Prop} {am : List Addr} {na ne nt ns : Fp} (h : Rel0 g Fz am H fun p => na p + (ne p + nt p + ns p)) : Rel0 ⟨H, fun p => 0 < na p + ns p, Fz, am⟩ Fz am H (fun p => na p + ns p) where
  n1 := fun p => by have := h.n1 p; omega
  nz := fun p hp => h.nz p (by omega)
  th := fun p hp => h.th p (by omega)
  zt := h.zt
  k := fun p o e _ => e
  f := fun p hp => .inl hp
  z0 := fun _ z => z
  z1 := fun _ z => .inl z
  a := fun _ _ z => z
/-- behind a call: the caller's things -/
theorem after {Fz : Addr → Prop} {am : List Addr} {na ne nt ns : Fp} (h0 : Rel0 g Fz am H fun p => na p + (ne p + nt p + ns p)) (hE : EnvR G Fz am H env σ ne) (hT : TmR G Fz am H ne T nt) {T1 : List Tm}
    (R : RlB G ⟨H, fun p => 0 < na p + ns p, Fz, am⟩ [] st' T1 [] H' B) : ∃ Fz' am' nt' ns', B Fz' am' ∧ EnvR G Fz' am' H' env σ ne ∧ TmR G Fz' am' H' ne T nt ∧ TmR G Fz' am' H' (fun _ => 0) T1 nt' ∧ StoR G Fz' am' H' st' ns' ∧ Rel0 g Fz' am' H' fun p => nt' p + (ne p + nt p + ns' p) := by
  obtain ⟨Fz', am', ne', nt', ns', k1, k2, k3, k4, k5⟩ := R
  have hne' : ∀ q, ne' q = 0 := by cases k1 with | nil h => exact h
  have notA : ∀ p, 0 < ne p + nt p → ¬ 0 < na p + ns p := fun p hp z => by have := h0.n1 p; omega
  have own : ∀ p o, 0 < ne p + nt p → H p = some o → H' p = some o := fun p o hp e => k4.k p o e (notA p hp)
  have E : Ext Fz am H Fz' am' H' := ⟨k4.z0, fun i p e => k4.a i p e, fun p u z r => by
      have na' : ¬ 0 < na p + ns p := fun q => h0.nz p (by show 0 < na p + (ne p + nt p + ns p); omega) z
      exact r.imp (fun e => k4.k _ _ e na') fun ⟨o, e⟩ => ⟨o, k4.k _ _ e na'⟩, fun p u z e _ => by
      have na' : ¬ 0 < na p + ns p := fun q => h0.nz p (by show 0 < na p + (ne p + nt p + ns p); omega) z
      exact k4.k _ _ e na', fun p xs r => by
      have na' : ¬ 0 < na p + ns p := fun q => by
        obtain ⟨o, e, ok⟩ := h0.th p (by show 0 < na p + (ne p + nt p + ns p); omega)
        rcases r with r | ⟨_, r⟩
        · rw [r] at e; cases e; exact ok
        · rw [r] at e; cases e; exact ok
      exact r.imp (fun e => k4.k _ _ e na') fun ⟨o, e⟩ => ⟨o, k4.k _ _ e na'⟩⟩
  refine ⟨Fz', am', nt', ns', k5, hE.ext E fun p o hp e => own p o (by omega) e, hT.ext E (fun p o hp e => own p o (by omega) e) fun p o hp e => own p o (by omega) e, ?_, k3, ?_⟩
  · have e0 : ne' = fun _ => 0 := funext hne'
    rw [← e0]
    exact k2
  · have there : ∀ p, 0 < ne p + nt p → ∃ o, H p = some o ∧ OwnK o := fun p hp => h0.th p (by show 0 < na p + (ne p + nt p + ns p); omega)
    have disj : ∀ p, 0 < ne p + nt p → nt' p + ns' p = 0 := fun p hp => by
      rcases Nat.eq_zero_or_pos (nt' p + ns' p) with z | z
      · exact z
      · rcases k4.f p (by show 0 < ne' p + nt' p + ns' p; omega) with q | q
        · exact absurd q (notA p hp)
        · obtain ⟨o, e, _⟩ := there p hp
          rw [show H p = none from q] at e; cases e
    refine ⟨fun p => ?_, fun p hp z => ?_, fun p hp => ?_, k4.zt, fun p o e na' => ?_, fun p hp => ?_, fun p z => k4.z0 p (h0.z0 p z), fun p z => ?_, fun i p e => k4.a i p (h0.a i p e)⟩
    · show nt' p + (ne p + nt p + ns' p) ≤ 1
      by_cases q : 0 < ne p + nt p
      · have := disj p q
        have := h0.n1 p
        omega
      · have := k4.n1 p
        omega
    · by_cases q : 0 < ne p + nt p
      · rcases k4.z1 p z with y | y | y
        · exact h0.nz p (by show 0 < na p + (ne p + nt p + ns p); omega) y
        · exact notA p q y
        · obtain ⟨o, e, _⟩ := there p q
          rw [show H p = none from y] at e; cases e
      · exact k4.nz p (by omega) z
    · by_cases q : 0 < ne p + nt p
      · obtain ⟨o, e, ok⟩ := there p q
        exact ⟨o, own p o q e, ok⟩
      · exact k4.th p (by omega)
    · have e1 := h0.k p o e na'
      refine k4.k p o e1 fun q => ?_
      rcases h0.f p (by show 0 < na p + (ne p + nt p + ns p); omega) with y | y
      · exact na' y
      · rw [y] at e; cases e
    · by_cases q : 0 < ne p + nt p
      · exact h0.f p (by show 0 < na p + (ne p + nt p + ns p); omega)
      · rcases k4.f p (by omega) with y | y
        · exact h0.f p (by have y : 0 < na p + ns p := y; show 0 < na p + (ne p + nt p + ns p); omega)
        · cases e : g.H0 p with
          | none => exact .inr rfl
          | some o =>
            by_cases na' : g.A0 p
            · exact .inl na'
            · have := h0.k p o e na'
              rw [show H p = none from y] at this; cases this
    · rcases k4.z1 p z with y | y | y
      · exact h0.z1 p y
      · exact .inr (h0.f p (by have y : 0 < na p + ns p := y; show 0 < na p + (ne p + nt p + ns p); omega))
      · cases e : g.H0 p with
        | none => exact .inr (.inr rfl)
        | some o =>
          by_cases na' : g.A0 p
          · exact .inr (.inl na')
          · have := h0.k p o e na'
            rw [show H p = none from y] at this; cases this
end
end Hx

set_option Elab.async false
set_option linter.all false
set_option maxRecDepth 100000
set_option autoImplicit false
/-! F5: calls of defs. -/
namespace Hx
open PySem PySem.Spec L2
open PyProof.Rows hiding St

section
variable {G : Sg} {g : Gd} {env : Env} {st st' : Store} {T T' : List Tm} {σ : St} {H H' : Hp} {B B' : (Addr → Prop) → List Addr → Prop}
theorem TmR.up {Fz : Addr → Prop} {am : List Addr} {ne ne' nt : Fp} (r : TmR G Fz am H ne T nt) (h : ∀ q, ne q ≤ ne' q) : TmR G Fz am H ne' T nt := by
  induction r with
  | nil h => exact .nil h
  | own h1 h2 h3 ih => exact .own h1 ih h3
  | bor h1 h2 h3 ih => exact .bor h1 (fun q => Nat.le_trans (h2 q) (h q)) ih
theorem TmR.app {Fz : Addr → Prop} {am : List Addr} {ne n2 : Fp} (r2 : TmR G Fz am H ne T n2) : ∀ {l : List Tm} {n1 n : Fp}, TmR G Fz am H ne l n1 → (∀ q, n q = n1 q + n2 q) → TmR G Fz am H ne (l ++ T) n := by
  intro l n1 n r hn
  induction r generalizing n with
  | nil h =>
    have e : n = n2 := funext fun q => by rw [hn, h]; simp
    rw [e]
    exact r2
  | @own f v d T' m1 m2 m h1 h2 h3 ih => exact .own h1 (ih (n := fun q => m2 q + n2 q) fun q => rfl) fun q => by rw [hn, h3]; omega
  | @bor f v d T' m1 m h1 h2 h3 ih => exact .bor h1 h2 (ih hn)
theorem join {Fz : Addr → Prop} {am : List Addr} {na ne nt ns : Fp} (h0 : Rel0 g Fz am H fun p => na p + (ne p + nt p + ns p)) (hE : EnvR G Fz am H env σ ne) (hT : TmR G Fz am H ne T nt) {T1 : List Tm}
    (R : RlB G ⟨H, fun p => 0 < na p + ns p, Fz, am⟩ [] st' T1 [] H' B) : RlB G g env st' (T1 ++ T) σ H' B := by
  obtain ⟨Fz', am', nt', ns', h1, h2, h3, h4, h5, h6⟩ := after h0 hE hT R
  exact ⟨Fz', am', ne, fun q => nt' q + nt q, ns', h2, TmR.app h3 (h4.up fun q => Nat.zero_le _) fun _ => rfl, h5, h6.less fun q => by show ne q + (nt' q + nt q) + ns' q ≤ _; omega, h1⟩
theorem Reps.app {Fz : Addr → Prop} {am : List Addr} {fs' : List Fr} {vs' : List V} {ds' : List D} (r2 : Reps G Fz am H fs' vs' ds' (fun _ => 0)) : ∀ {fs : List Fr} {vs : List V} {ds : List D} {n : Fp}, Reps G Fz am H fs vs ds n → Reps G Fz am H (fs ++ fs') (vs ++ vs') (ds ++ ds') n
  | _, _, _, _, .nil h => r2.fp fun q => (h q).symm
  | _, _, _, _, .cons h1 h2 h3 => .cons h1 (Reps.app r2 h2) h3
end

/-- what is known of a def: n parameters, dd: the last ones' defaults -/
structure Good (S : Sx) (x : Str) (n : Nat) (F : Fn) (dd : List D) (k : Nat) : Prop where
  ex : ∃ f fd ps ds dvs, FnOk S.P S.w S.G.K S.mg S.base (L2.CX S.P S.w) k f fd ps (SpF S.G n F) ∧ S.mg x = some (.ref f) ∧ PySem.W.keepIn S.G.K (.ref f) = true ∧ Binds S.G.K fd ps ds ∧ Vals dvs ds ∧
    ∀ Fz am H, Reps S.G Fz am H (zs dd.length) dvs dd (fun _ => 0)
@[simp] def fin : Res → Res
  | .ok f false d st => .ok f false d st
  | .ok _ true _ _ => .stuck
  | r => r
@[simp] def zd (ds : List D) : List (Fr × D) := ds.map fun d => (.z, d)
@[simp] def dCall (F : Fn) (dd : List D) (as : DenL) : Den := fun env st => match as env st with
  | .ok ts st1 => bif keeps ts then fin (F (zd ((ts.map fun t => t.2.2) ++ dd)) st1) else .stuck
  | .exc c ds st1 => .exc c ds st1
  | .stuck => .stuck
/-- owned things are handed over -/
def dCallM (F : Fn) (dd : List D) (as : DenL) : Den := fun env st => match as env st with
  | .ok ts st1 => bif keeps ts then fin (F (bare ts ++ zd dd) st1) else .stuck
  | .exc c ds st1 => .exc c ds st1
  | .stuck => .stuck
theorem zd_fst (ds : List D) : (zd ds).map (·.1) = zs ds.length := by
  induction ds with
  | nil => rfl
  | cons d ds ih => show Fr.z :: (zd ds).map (·.1) = zs (ds.length + 1); rw [ih]; rfl
theorem zd_snd (ds : List D) : (zd ds).map (·.2) = ds := by
  induction ds with
  | nil => rfl
  | cons d ds ih => show d :: (zd ds).map (·.2) = _; rw [ih]
section
variable {S : Sx} {e a b : Expr} {es : List Expr} {da db : Den} {das : DenL} {pos : Pos}
/-- the promise, from the relation -/
theorem sp_of {n : Nat} {F : Fn} {g : Gd} {env : Env} {st : Store} {T : List Tm} {σ : St} {H : Hp} {Q : VK} {W : WX} {vs : List V} {ts : List (Fr × Bool × D)} {dd : List D} {dvs : List V}
    (hd : ∀ Fz am H, Reps S.G Fz am H (zs dd.length) dvs dd (fun _ => 0)) (hn : ts.length + dd.length = n) (R : Rl S.G g env st (mkT vs ts ++ T) σ H) (hl : vs.length = ts.length) (hk : keeps ts = true)
    (h : PostE S.G g env T σ W Q (fin (F (zd ((ts.map fun t => t.2.2) ++ dd)) st))) : SpF S.G n F (vs ++ dvs) H Q (WE W σ) := by
  obtain ⟨Fz, am, ne, nt, ns, h1, h2, h3, h4, h5⟩ := Rl.frzL R hl hk
  have hd0 := hd Fz am H
  refine ⟨by rw [List.length_append, hl, (hd0.len).2, hn], Fz, am, zd ((ts.map fun t => t.2.2) ++ dd), st, fun _ => 0, ns, ?_, h3, ?_, ?_⟩
  · rw [zd_fst, zd_snd, List.length_append, List.length_map]
    rw [show zs (ts.length + dd.length) = zs ts.length ++ zs dd.length by unfold zs; rw [List.replicate_append_replicate]]
    exact Reps.app hd0 h5
  · exact Rel0.base (g := g) (ne := ne) (nt := nt) (h4.less fun q => by omega)
  · have h4' : Rel0 g Fz am H fun p => (fun _ => 0) p + (ne p + nt p + ns p) := h4.less fun q => by show 0 + (ne q + nt q + ns q) ≤ _; omega
    cases e : F (zd ((ts.map fun t => t.2.2) ++ dd)) st with
    | stuck => rw [e] at h; exact h.elim
    | exc c ds st1 =>
      rw [e] at h
      exact fun cls dx H' R1 => h cls dx H' (join (T := T) h4' h1 h2 R1).notmp
    | ok f b d st1 =>
      rw [e] at h
      cases b with
      | true => exact h.elim
      | false => exact ⟨rfl, fun v H' R1 => h v H' (join h4' h1 h2 R1)⟩
theorem de_call {x : Str} {p : Pos} {n k : Nat} {F : Fn} {dd : List D} (hG : Good S x n F dd k) (hk : k ≤ S.k) (hg : S.sc.names.lookup x = some .globalImplicit) (hdb : (x == ("__debug__" : Str)) = false) (ha : DA S (e :: es) das) (hp : plainArgs (e :: es) = true) (hn : (e :: es).length + dd.length = n) (hlen : ∀ env st ts st1, das env st = .ok ts st1 → ts.length = (e :: es).length) :
    DE S (.Call (.Name x p) (e :: es) [] pos) (dCall F dd das) := fun W => by
  obtain ⟨ta, pa, qa⟩ := ha W
  obtain ⟨f, fd, ps, ds, dvs, hF, hm, hkp, hb, hv, hd⟩ := hG.ex
  have h1 := plainArgs_ok hp
  have hF' : ∀ X, Stx S X → FnOk X.prog X.w X.K X.mg X.base (L2.CX X.prog X.w) k f fd ps (SpF S.G n F) := fun X hX => by rw [hX.pr, hX.w, hX.mg, hX.base, hX.K]; exact hF
  refine ⟨_, fun X hX tk => pe_callSD (E := WE W) (hF' X hX) (hX.room.mono hk) (show X.env.scope.names.lookup x = some .globalImplicit by rw [hX.sc]; exact hg) (by rw [hX.mg]; exact hm) (by rw [hX.K]; exact hkp) (by rw [hX.K]; exact hb) hv (fun σ => passAt tk σ) (pa X hX tk) hdb
    (starNo (h1 e List.mem_cons_self)) (noStar fun y hy => h1 y (List.mem_cons_of_mem _ hy)), fun g env st T σ H Q hT R h => qa g env st T σ H _ hT R ?_⟩
  unfold dCall at h
  cases e1 : das env st with
  | stuck => rw [e1] at h; exact h.elim
  | exc c ds st1 => rw [e1] at h; exact h
  | ok ts st1 =>
    rw [e1] at h
    obtain ⟨hc, h⟩ := bifT h id
    intro vs H1 hl R1
    exact sp_of hd (by rw [hlen env st ts st1 e1]; exact hn) R1 hl hc h
theorem pe_call0S {X : Cx} {x : Str} {p : Pos} {k : Nat} {f : Addr} {fd : FuncData} {ps : List Str} {sp : Sp} {dvs : List V} {ds : List Value} {E : St → XK} (F : FnOk X.prog X.w X.K X.mg X.base (L2.CX X.prog X.w) k f fd ps sp) (hr : Room k X.A) (hg : Gl X x) (hm : X.mg x = some (.ref f)) (hk : PySem.W.keepIn X.K (.ref f) = true)
    (hb : Binds X.K fd ps ds) (hd : Vals dvs ds) (hx : ∀ σ, PassesAt (L2.CX X.prog X.w) X σ (E σ)) (hdb : (x == ("__debug__" : Str)) = false) : PE X (.Call (.Name x p) [] [] pos) (tCallSD sp dvs E tNil) := by
  refine ⟨fun pins s σ H Q I h => ?_⟩
  refine wpAny_Call_Name_kw (ld_glob I hg hm ?_ hdb)
  exact PySem.W.callWith_K0 I.kIn hk (run_fnSD (us := []) F hr hb hd (hx σ) I .nil h)
theorem de_call0 {x : Str} {p : Pos} {n k : Nat} {F : Fn} {dd : List D} (hG : Good S x n F dd k) (hk : k ≤ S.k) (hg : S.sc.names.lookup x = some .globalImplicit) (hdb : (x == ("__debug__" : Str)) = false) (hn : dd.length = n) :
    DE S (.Call (.Name x p) [] [] pos) (dCall F dd dNil) := fun W => by
  obtain ⟨f, fd, ps, ds, dvs, hF, hm, hkp, hb, hv, hd⟩ := hG.ex
  have hF' : ∀ X, Stx S X → FnOk X.prog X.w X.K X.mg X.base (L2.CX X.prog X.w) k f fd ps (SpF S.G n F) := fun X hX => by rw [hX.pr, hX.w, hX.mg, hX.base, hX.K]; exact hF
  refine ⟨_, fun X hX tk => pe_call0S (E := WE W) (hF' X hX) (hX.room.mono hk) (show X.env.scope.names.lookup x = some .globalImplicit by rw [hX.sc]; exact hg) (by rw [hX.mg]; exact hm) (by rw [hX.K]; exact hkp) (by rw [hX.K]; exact hb) hv (fun σ => passAt tk σ) hdb, fun g env st T σ H Q hT R h => ?_⟩
  unfold dCall dNil at h
  exact sp_of (vs := []) (ts := []) hd (by simpa using hn) R rfl rfl h
/-- how many arguments come -/
theorem len_cons {n : Nat} (h : ∀ env st ts st1, das env st = .ok ts st1 → ts.length = n) : ∀ env st ts st1, dCons da das env st = .ok ts st1 → ts.length = n + 1 := fun env st ts st1 e => by
  unfold dCons at e
  cases e1 : da env st with
  | stuck => rw [e1] at e; cases e
  | exc c ds s => rw [e1] at e; cases e
  | ok f b d s =>
    rw [e1] at e
    dsimp only at e
    cases hb : (!b || f.isz) with
    | false => rw [hb] at e; cases e
    | true =>
    rw [hb] at e
    dsimp only [cond_true] at e
    cases e2 : das env s with
    | stuck => rw [e2] at e; cases e
    | exc c ds s => rw [e2] at e; cases e
    | ok ts' s' =>
      rw [e2] at e
      injection e with e3 e4
      rw [← e3, List.length_cons, h env s ts' s' e2]
theorem len_last : ∀ env st ts st1, dLast da env st = .ok ts st1 → ts.length = 1 := fun env st ts st1 e => by
  unfold dLast at e
  cases e1 : da env st with
  | stuck => rw [e1] at e; cases e
  | exc c ds s => rw [e1] at e; cases e
  | ok f b d s =>
    rw [e1] at e
    injection e with e3 e4
    rw [← e3]; rfl
theorem len_nil : ∀ env st ts st1, dNil env st = .ok ts st1 → ts.length = 0 := fun env st ts st1 e => by
  unfold dNil at e
  injection e with e1 e2
  rw [← e1]; rfl
end
end Hx

set_option Elab.async false
set_option linter.all false
set_option maxRecDepth 100000
set_option autoImplicit false
/-! F6: statements without loops. -/
namespace Hx
open PySem PySem.Spec L2
open PyProof.Rows hiding St

inductive ResS
  | nx (env : Env) (st : Store) | rt (f : Fr) (d : D) (st : Store) | bk (env : Env) (st : Store) | ct (env : Env) (st : Store)
  | exc (c : Nat) (ds : List D) (env : Env) (st : Store) | stuck
abbrev DenS := Env → Store → ResS
section
variable (G : Sg) (g : Gd) (T : List Tm) (W : WX)
def PostS (D : Ends) : ResS → Prop
  | .nx env st => ∀ σ' H', Rl G g env st T σ' H' → D.nx σ' H'
  | .rt f d st => ∀ v H', Rl G g [] st [⟨v, f, d, false⟩] [] H' → D.rt v H'
  | .bk env st => ∀ σ' H', Rl G g env st T σ' H' → D.bk σ' H'
  | .ct env st => ∀ σ' H', Rl G g env st T σ' H' → D.ct σ' H'
  | .exc c ds env st => ∀ σ', ExcP G g env σ' W c ds st
  | .stuck => False
end
def DS (S : Sx) (s : Stmt) (den : DenS) : Prop := ∀ W : WX, ∃ t : TS, (∀ X, Stx S X → Takes X W → PS X s t) ∧
  ∀ g env st T σ H D, noBor T → Rl S.G g env st T σ H → PostS S.G g T W D (den env st) → t D σ H
def DSs (S : Sx) (s : List Stmt) (den : DenS) : Prop := ∀ W : WX, ∃ t : TS, (∀ X, Stx S X → Takes X W → PSs X s t) ∧
  ∀ g env st T σ H D, noBor T → Rl S.G g env st T σ H → PostS S.G g T W D (den env st) → t D σ H

section
variable {G : Sg} {g : Gd} {env : Env} {st st' : Store} {T T' : List Tm} {σ : St} {H H' : Hp} {B B' : (Addr → Prop) → List Addr → Prop}
theorem TmR.nb {Fz : Addr → Prop} {am : List Addr} {ne ne' nt : Fp} (r : TmR G Fz am H ne T nt) (h : noBor T) : TmR G Fz am H ne' T nt := by
  induction r with
  | nil h0 => exact .nil h0
  | own h1 h2 h3 ih => exact .own h1 (ih fun a ha => h a (List.mem_cons_of_mem _ ha)) h3
  | bor h1 h2 h3 ih => exact absurd (h _ List.mem_cons_self) (by simp)
/-- the slots go: what is handed back -/
theorem Rl.ret {v : V} {f : Fr} {b : Bool} {d : D} (R : Rl G g env st (⟨v, f, d, b⟩ :: T) σ H) (hb : (!b || f.isz) = true) : Rl G g [] st [⟨v, f, d, false⟩] [] H := by
  obtain ⟨Fz, am, ne, nt, ns, h1, h2, h3, h4, h5⟩ := R
  cases h2 with
  | @own _ _ _ _ n1 n2 _ k1 k2 k3 => exact ⟨Fz, am, fun _ => 0, n1, ns, .nil fun _ => rfl, .own k1 (.nil (n := fun _ => 0) fun _ => rfl) fun q => by simp, h3, h4.less fun q => by show 0 + n1 q + ns q ≤ _; rw [k3]; omega, trivial⟩
  | @bor _ _ _ _ n1 _ k1 k2 k3 =>
    have e : f = .z := Fr.isz_eq (by simpa using hb)
    subst e
    exact ⟨Fz, am, fun _ => 0, n1, ns, .nil fun _ => rfl, .own k1 (.nil (n := fun _ => 0) fun _ => rfl) fun q => by simp, h3, h4.less fun q => by show 0 + n1 q + ns q ≤ _; rw [k1.z0]; omega, trivial⟩
theorem Rl.retmv {i : Nat} {f : Fr} {d : D} (R : Rl G g env st T σ H) (e : env[i]? = some (some (f, d))) : ∃ v, σ[i]? = some (some v) ∧ Rl G g [] st [⟨v, f, d, false⟩] [] H := by
  obtain ⟨Fz, am, ne, nt, ns, h1, h2, h3, h4, h5⟩ := R
  obtain ⟨v, m, n', e0, e1, e2, e3⟩ := h1.take e
  exact ⟨v, e0, Fz, am, fun _ => 0, m, ns, .nil fun _ => rfl, .own e1 (.nil (n := fun _ => 0) fun _ => rfl) fun q => by simp, h3, h4.less fun q => by show 0 + m q + ns q ≤ _; rw [e2]; omega, trivial⟩
/-- a value is stored -/
theorem Rl.store {v : V} {f : Fr} {b : Bool} {d : D} (R : Rl G g env st (⟨v, f, d, b⟩ :: T) σ H) (hb : (!b || f.isz) = true) (hT : noBor T) (i : Nat) : Rl G g (env.set i (some (f, d))) st T (σ.set i (some v)) H := by
  obtain ⟨Fz, am, ne, nt, ns, h1, h2, h3, h4, h5⟩ := R
  cases h2 with
  | @own _ _ _ _ n1 n2 _ k1 k2 k3 =>
    obtain ⟨n', r1, r2⟩ := EnvR.set k1 h1 i
    exact ⟨Fz, am, n', n2, ns, r1, k2.nb hT, h3, h4.less fun q => by rw [k3]; have := r2 q; omega, trivial⟩
  | @bor _ _ _ _ n1 _ k1 k2 k3 =>
    have e : f = .z := Fr.isz_eq (by simpa using hb)
    subst e
    obtain ⟨n', r1, r2⟩ := EnvR.set k1 h1 i
    exact ⟨Fz, am, n', nt, ns, r1, k3.nb hT, h3, h4.less fun q => by have := r2 q; rw [k1.z0] at this; omega, trivial⟩
theorem Rl.kill (R : Rl G g env st T σ H) (hT : noBor T) (i : Nat) : Rl G g (env.set i none) st T σ H := by
  obtain ⟨Fz, am, ne, nt, ns, h1, h2, h3, h4, h5⟩ := R
  obtain ⟨n', r1, r2⟩ := h1.kill i σ rfl fun j _ => rfl
  exact ⟨Fz, am, n', nt, ns, r1, h2.nb hT, h3, h4.less fun q => by have := r2 q; omega, trivial⟩
def killE (ks : List Nat) (env : Env) : Env := ks.foldl (fun e i => e.set i none) env
theorem Rl.kills (hT : noBor T) : ∀ {ks : List Nat} {env : Env}, Rl G g env st T σ H → Rl G g (killE ks env) st T σ H
  | [], _, R => R
  | k :: ks, env, R => Rl.kills hT (ks := ks) (env := env.set k none) (R.kill hT k)
/-- a slot's own thing is shared from now on -/
theorem Rl.frzS {i : Nat} {f : Fr} {d : D} (R : Rl G g env st T σ H) (hT : noBor T) (e : env[i]? = some (some (f, d))) : Rl G g (env.set i (some (.z, d))) st T σ H := by
  obtain ⟨Fz, am, ne, nt, ns, h1, h2, h3, h4, h5⟩ := R
  obtain ⟨m, n', r1, r2⟩ := h1.frz e
  have E : Ext Fz am H (Fro Fz m) am H := Ext.shared fun p z => .inl z
  exact ⟨Fro Fz m, am, n', nt, ns, r2 _ (fun p z => .inl z) fun p z => .inr z, (h2.nb (ne' := n') hT).ext E (fun _ _ _ h => h) fun _ _ _ h => h, Reps.ext E h3 fun _ _ _ h => h, h4.froz fun q => by rw [r1]; omega, trivial⟩
end

/-! ### rows of statements -/
@[simp] def dSkip : DenS := fun env st => .nx env st
@[simp] def dSeq (a b : DenS) : DenS := fun env st => match a env st with
  | .nx env1 st1 => b env1 st1
  | r => r
section
variable {S : Sx} {e a b : Expr} {es : List Expr} {da db : Den} {das : DenL} {pos : Pos} {s : Stmt} {ss : List Stmt} {ts tr : DenS}
theorem dss_nil : DSs S [] dSkip := fun W => ⟨_, fun X hX tk => pss_nil, fun g env st T σ H D hT R h => h σ H R⟩
theorem PostS.seq {G : Sg} {g : Gd} {T : List Tm} {W : WX} {D : Ends} {t : TS} {r : ResS} {k : DenS} (h : PostS G g T W D (match r with | .nx env1 st1 => k env1 st1 | r => r))
    (q : ∀ env st σ H, Rl G g env st T σ H → PostS G g T W D (k env st) → t D σ H) : PostS G g T W { D with nx := t D } r := by
  cases r with
  | nx env1 st1 => exact fun σ' H' R => q env1 st1 σ' H' R h
  | rt f d st1 => exact h
  | bk env1 st1 => exact h
  | ct env1 st1 => exact h
  | exc c ds env1 st1 => exact h
  | stuck => exact h
theorem dss_cons (hs : DS S s ts) (hr : DSs S ss tr) : DSs S (s :: ss) (dSeq ts tr) := fun W => by
  obtain ⟨t, p, q⟩ := hs W
  obtain ⟨t2, p2, q2⟩ := hr W
  refine ⟨_, fun X hX tk => pss_cons (p X hX tk) (p2 X hX tk), fun g env st T σ H D hT R h => q g env st T σ H _ hT R ?_⟩
  exact PostS.seq h fun env st σ H R h => q2 g env st T σ H D hT R h
theorem dss_one (hs : DS S s ts) : DSs S [s] ts := fun W => by
  obtain ⟨t, p, q⟩ := hs W
  exact ⟨_, fun X hX tk => pss_one (p X hX tk), q⟩
/-- a slot is shared ahead of the statement -/
def dFrz (i : Nat) (k : DenS) : DenS := fun env st => match env[i]? with
  | some (some (_, d)) => k (env.set i (some (.z, d))) st
  | _ => .stuck
theorem dss_frz {i : Nat} (hr : DSs S ss tr) : DSs S ss (dFrz i tr) := fun W => by
  obtain ⟨t, p, q⟩ := hr W
  refine ⟨t, p, fun g env st T σ H D hT R h => ?_⟩
  unfold dFrz at h
  split at h
  · rename_i f d e
    exact q g _ st T σ H D hT (R.frzS hT e) h
  · exact h.elim
def dKill (ks : List Nat) (k : DenS) : DenS := fun env st => k (killE ks env) st
theorem dss_kill {ks : List Nat} (hr : DSs S ss tr) : DSs S ss (dKill ks tr) := fun W => by
  obtain ⟨t, p, q⟩ := hr W
  exact ⟨t, p, fun g env st T σ H D hT R h => q g _ st T σ H D hT (R.kills hT) h⟩

/-! ### simple statements -/
theorem ds_pass : DS S (.Pass pos) dSkip := fun W => ⟨_, fun X hX tk => ps_pass, fun g env st T σ H D hT R h => h σ H R⟩
theorem ds_doc {x j p} : DS S (.Expr (.Constant (.str x) j p) pos) dSkip := fun W => ⟨_, fun X hX tk => ps_doc, fun g env st T σ H D hT R h => h σ H R⟩
def dBrk : DenS := fun env st => .bk env st
def dCnt : DenS := fun env st => .ct env st
theorem ds_break : DS S (.Break pos) dBrk := fun W => ⟨_, fun X hX tk => ps_break, fun g env st T σ H D hT R h => h σ H R⟩
theorem ds_continue : DS S (.Continue pos) dCnt := fun W => ⟨_, fun X hX tk => ps_continue, fun g env st T σ H D hT R h => h σ H R⟩
@[simp] def dRet (a : Den) : DenS := fun env st => match a env st with
  | .ok f b d st1 => bif !b || f.isz then .rt f d st1 else .stuck
  | .exc c ds st1 => .exc c ds env st1
  | .stuck => .stuck
/-- what is returned is shared for good -/
@[simp] def dRetZ (a : Den) : DenS := fun env st => match a env st with
  | .ok f b d st1 => bif !b || f.isz then .rt .z d st1 else .stuck
  | .exc c ds st1 => .exc c ds env st1
  | .stuck => .stuck
def dRetMv (i : Nat) : DenS := fun env st => match env[i]? with
  | some (some (f, d)) => .rt f d st
  | _ => .stuck
def dRetMvZ (i : Nat) : DenS := fun env st => match env[i]? with
  | some (some (_, d)) => .rt .z d st
  | _ => .stuck
def dRetN : DenS := fun _ st => .rt .z .non st
theorem ds_ret (ha : DE S a da) : DS S (.Return (some a) pos) (dRet da) := fun W => by
  obtain ⟨t, p, q⟩ := ha W
  refine ⟨_, fun X hX tk => ps_ret (p X hX tk), fun g env st T σ H D hT R h => q g env st T σ H _ hT R ?_⟩
  unfold dRet at h
  cases e : da env st with
  | stuck => rw [e] at h; exact h.elim
  | exc c ds st1 => rw [e] at h; exact h σ
  | ok f b d st1 =>
    rw [e] at h
    obtain ⟨hc, h⟩ := bifT h id
    exact fun v H1 R1 => h v H1 (R1.ret hc)
theorem ds_retZ (ha : DE S a da) : DS S (.Return (some a) pos) (dRetZ da) := fun W => by
  obtain ⟨t, p, q⟩ := ha W
  refine ⟨_, fun X hX tk => ps_ret (p X hX tk), fun g env st T σ H D hT R h => q g env st T σ H _ hT R ?_⟩
  unfold dRetZ at h
  cases e : da env st with
  | stuck => rw [e] at h; exact h.elim
  | exc c ds st1 => rw [e] at h; exact h σ
  | ok f b d st1 =>
    rw [e] at h
    obtain ⟨hc, h⟩ := bifT h id
    exact fun v H1 R1 => h v H1 (R1.ret hc).frz
theorem ds_retMv {i : Nat} {x : Str} {p : Pos} (hN : S.N[i]? = some x) (hv : Vis S.sc x) (hd : (x == ("__debug__" : Str)) = false) (hcd : (x == ("__classdict__" : Str)) = false) : DS S (.Return (some (.Name x p)) pos) (dRetMv i) := fun W => by
  refine ⟨_, fun X hX tk => ps_ret (de_pv hN hv hd hcd hX), fun g env st T σ H D hT R h => ?_⟩
  unfold dRetMv at h
  split at h
  · rename_i f d e
    obtain ⟨v, e1, R1⟩ := Rl.retmv R e
    exact ⟨v, e1, h v H R1⟩
  · exact h.elim
theorem ds_retMvZ {i : Nat} {x : Str} {p : Pos} (hN : S.N[i]? = some x) (hv : Vis S.sc x) (hd : (x == ("__debug__" : Str)) = false) (hcd : (x == ("__classdict__" : Str)) = false) : DS S (.Return (some (.Name x p)) pos) (dRetMvZ i) := fun W => by
  refine ⟨_, fun X hX tk => ps_ret (de_pv hN hv hd hcd hX), fun g env st T σ H D hT R h => ?_⟩
  unfold dRetMvZ at h
  split at h
  · rename_i f d e
    obtain ⟨v, e1, R1⟩ := Rl.retmv R e
    exact ⟨v, e1, h v H R1.frz⟩
  · exact h.elim
theorem ds_retN : DS S (.Return none pos) dRetN := fun W => ⟨_, fun X hX tk => ps_retN, fun g env st T σ H D hT R h => h _ H (Rl.ret (Rl.scal (v := .non) (d := .non) R trivial) rfl)⟩
def notComp : Expr → Bool
  | .ListComp _ _ _ _ => false
  | .SetComp _ _ _ _ => false
  | .DictComp _ _ _ _ _ => false
  | _ => true
theorem swaps_no {e : Expr} {t : Option Expr} {l : Nat} {env : PySem.Env} (h : notComp e = true) : swapsWith e t l env = pure false := by
  cases e <;> first | rfl | cases h
def dDrop (a : Den) : DenS := fun env st => match a env st with
  | .ok _ _ _ st1 => .nx env st1
  | .exc c ds st1 => .exc c ds env st1
  | .stuck => .stuck
theorem ds_expr (ha : DE S a da) (hc : notComp a = true) : DS S (.Expr a pos) (dDrop da) := fun W => by
  obtain ⟨t, p, q⟩ := ha W
  refine ⟨_, fun X hX tk => ps_expr (p X hX tk) (swaps_no hc), fun g env st T σ H D hT R h => q g env st T σ H _ hT R ?_⟩
  unfold dDrop at h
  cases e : da env st with
  | stuck => rw [e] at h; exact h.elim
  | exc c ds st1 => rw [e] at h; exact h σ
  | ok f b d st1 =>
    rw [e] at h
    exact fun v H1 R1 => h σ H1 R1.drop
@[simp] def dIfS (c : DenB) (a b : DenS) : DenS := fun env st => match c env st with
  | .ok true st1 => a env st1
  | .ok false st1 => b env st1
  | .exc c ds st1 => .exc c ds env st1
  | .stuck => .stuck
theorem ds_if {c : Expr} {tc : DenB} {sa sb : List Stmt} {ta tb : DenS} (hc : DT S c tc) (ha : DSs S sa ta) (hb : DSs S sb tb) : DS S (.If c sa sb pos) (dIfS tc ta tb) := fun W => by
  obtain ⟨t, p, q⟩ := hc W
  obtain ⟨t2, p2, q2⟩ := ha W
  obtain ⟨t3, p3, q3⟩ := hb W
  refine ⟨_, fun X hX tk => ps_if (p X hX tk) (p2 X hX tk) (p3 X hX tk), fun g env st T σ H D hT R h => q g env st T σ H _ hT R ?_⟩
  unfold dIfS at h
  cases e : tc env st with
  | stuck => rw [e] at h; exact h.elim
  | exc c ds st1 => rw [e] at h; exact h σ
  | ok c st1 =>
    rw [e] at h
    intro H1 R1
    cases c with
    | true => exact iteT (q2 _ _ _ _ _ _ _ hT R1 h)
    | false => exact iteF (q3 _ _ _ _ _ _ _ hT R1 h)
@[simp] def dSet (i : Nat) (a : Den) : DenS := fun env st => match a env st with
  | .ok f b d st1 => bif !b || f.isz then .nx (env.set i (some (f, d))) st1 else .stuck
  | .exc c ds st1 => .exc c ds env st1
  | .stuck => .stuck
/-- the value is shared from now on -/
@[simp] def dSetZ (i : Nat) (a : Den) : DenS := fun env st => match a env st with
  | .ok f b d st1 => bif !b || f.isz then .nx (env.set i (some (.z, d))) st1 else .stuck
  | .exc c ds st1 => .exc c ds env st1
  | .stuck => .stuck
theorem dset_run {i : Nat} {W : WX} {t : TE} (q : ∀ g env st T σ H Q, noBor T → Rl S.G g env st T σ H → PostE S.G g env T σ W Q (da env st) → t σ H Q)
    (g : Gd) (env : Env) (st : Store) (T : List Tm) (σ : St) (H : Hp) (D : Ends) (hT : noBor T) (R : Rl S.G g env st T σ H) (h : PostS S.G g T W D (dSet i da env st)) : tAsg t (gName i) D σ H := by
  refine q g env st T σ H _ hT R ?_
  unfold dSet at h
  cases e : da env st with
  | stuck => rw [e] at h; exact h.elim
  | exc c ds st1 => rw [e] at h; exact h σ
  | ok f b d st1 =>
    rw [e] at h
    obtain ⟨hc, h⟩ := bifT h id
    exact fun v H1 R1 => h _ H1 (R1.store hc hT i)
theorem dsetZ_run {i : Nat} {W : WX} {t : TE} (q : ∀ g env st T σ H Q, noBor T → Rl S.G g env st T σ H → PostE S.G g env T σ W Q (da env st) → t σ H Q)
    (g : Gd) (env : Env) (st : Store) (T : List Tm) (σ : St) (H : Hp) (D : Ends) (hT : noBor T) (R : Rl S.G g env st T σ H) (h : PostS S.G g T W D (dSetZ i da env st)) : tAsg t (gName i) D σ H := by
  refine q g env st T σ H _ hT R ?_
  unfold dSetZ at h
  cases e : da env st with
  | stuck => rw [e] at h; exact h.elim
  | exc c ds st1 => rw [e] at h; exact h σ
  | ok f b d st1 =>
    rw [e] at h
    obtain ⟨hc, h⟩ := bifT h id
    intro v H1 R1
    refine h _ H1 ?_
    cases b with
    | false => exact Rl.store (b := false) R1.frz rfl hT i
    | true =>
      have e : f = .z := Fr.isz_eq (by simpa using hc)
      subst e
      exact Rl.store R1 rfl hT i
theorem stx_fn {X : Cx} (hX : Stx S X) {x : Str} (hf : S.fnA = true ∨ S.sc.names.lookup x = some .local) : X.fn x = true ∨ X.env.scope.names.lookup x = some .local := by
  rcases hf with h | h
  · exact .inl (hX.fn h x)
  · rw [hX.sc]; exact .inr h
theorem ds_set {i : Nat} {x : Str} {p : Pos} (hN : S.N[i]? = some x) (hx : Loc S.sc x) (hf : S.fnA = true ∨ S.sc.names.lookup x = some .local) (ha : DE S a da) (hc : notComp a = true) : DS S (.Assign [.Name x p] a pos) (dSet i da) := fun W => by
  obtain ⟨t, p, q⟩ := ha W
  exact ⟨_, fun X hX tk => ps_set hX.nd (by rw [hX.N]; exact hN) (by rw [hX.sc]; exact hx) (p X hX tk) (swaps_no hc) (stx_fn hX hf), fun g env st T σ H D hT R h => dset_run q g env st T σ H D hT R h⟩
theorem ds_setZ {i : Nat} {x : Str} {p : Pos} (hN : S.N[i]? = some x) (hx : Loc S.sc x) (hf : S.fnA = true ∨ S.sc.names.lookup x = some .local) (ha : DE S a da) (hc : notComp a = true) : DS S (.Assign [.Name x p] a pos) (dSetZ i da) := fun W => by
  obtain ⟨t, p, q⟩ := ha W
  exact ⟨_, fun X hX tk => ps_set hX.nd (by rw [hX.N]; exact hN) (by rw [hX.sc]; exact hx) (p X hX tk) (swaps_no hc) (stx_fn hX hf), fun g env st T σ H D hT R h => dsetZ_run q g env st T σ H D hT R h⟩
end

/-! ### targets -/
inductive Pat
  | nm (i : Nat) | tp (ps : List Pat)
/-- the parts of a tuple, of a list -/
@[simp] def kidsP : Fr → D → Option (List Fr × List D)
  | .z, .con .tup ds => some (zs ds.length, ds)
  | .t fs, .con .tup ds => some (fs, ds)
  | .z, .con .lst ds => some (zs ds.length, ds)
  | .c f, .con .lst ds => some (List.replicate ds.length f, ds)
  | _, _ => none
mutual
@[simp] def bindP : Pat → Fr → D → Env → Option Env
  | .nm i, f, d, env => some (env.set i (some (f, d)))
  | .tp ps, f, d, env => match kidsP f d with
    | some (fs, ds) => bindPs ps fs ds env
    | none => none
@[simp] def bindPs : List Pat → List Fr → List D → Env → Option Env
  | [], [], [], env => some env
  | p :: ps, f :: fs, d :: ds, env => (bindP p f d env).bind fun env1 => bindPs ps fs ds env1
  | _, _, _, _ => none
end
mutual
def Pat.slots : Pat → List Nat
  | .nm i => [i]
  | .tp ps => Pat.slotsL ps
def Pat.slotsL : List Pat → List Nat
  | [] => []
  | p :: ps => p.slots ++ Pat.slotsL ps
end
/-- only these slots differ -/
def Dif (l : List Nat) (σ σ' : St) : Prop := σ'.length = σ.length ∧ ∀ j, j ∉ l → σ'[j]? = σ[j]?
def DG (S : Sx) (tg : Expr) (p : Pat) : Prop := ∃ t : TG, (∀ X, Stx S X → PG X tg t) ∧
  ∀ g env st T σ H v f d env' Q, noBor T → Rl S.G g env st (⟨v, f, d, false⟩ :: T) σ H → bindP p f d env = some env' → (∀ σ' H', Dif p.slots σ σ' → Rl S.G g env' st T σ' H' → Q σ' H') → t v σ H Q
def mkF : List V → List Fr → List D → List Tm
  | v :: vs, f :: fs, d :: ds => ⟨v, f, d, false⟩ :: mkF vs fs ds
  | _, _, _ => []
def DGs (S : Sx) (tgs : List Expr) (ps : List Pat) : Prop := ∃ t : TGs, (∀ X, Stx S X → PGs X tgs t) ∧
  ∀ g env st T σ H vs fs ds env' Q, noBor T → vs.length = ds.length → Rl S.G g env st (mkF vs fs ds ++ T) σ H → bindPs ps fs ds env = some env' → (∀ σ' H', Dif (Pat.slotsL ps) σ σ' → Rl S.G g env' st T σ' H' → Q σ' H') → t vs σ H Q
theorem mkF_nb : ∀ {vs : List V} {fs : List Fr} {ds : List D}, noBor (mkF vs fs ds)
  | v :: vs, f :: fs, d :: ds => fun a ha => by
    rcases List.mem_cons.mp (show a ∈ ⟨v, f, d, false⟩ :: mkF vs fs ds from ha) with e | e
    · rw [e]
    · exact mkF_nb a e
  | [], _, _ => fun a ha => by cases ha
  | _ :: _, [], _ => fun a ha => by cases ha
  | _ :: _, _ :: _, [] => fun a ha => by cases ha
theorem nb_app {T T' : List Tm} (h : noBor T) (h' : noBor T') : noBor (T ++ T') := fun a ha => (List.mem_append.mp ha).elim (h a) (h' a)
section
variable {S : Sx}
theorem Dif.refl {l : List Nat} {σ : St} : Dif l σ σ := ⟨rfl, fun _ _ => rfl⟩
theorem Dif.app {l l' : List Nat} {σ σ1 σ2 : St} (h : Dif l σ σ1) (h' : Dif l' σ1 σ2) : Dif (l ++ l') σ σ2 := ⟨h'.1.trans h.1, fun j hj => by
  rw [List.mem_append, not_or] at hj
  rw [h'.2 j hj.2, h.2 j hj.1]⟩
theorem dg_nm {i : Nat} {x : Str} {p : Pos} (hN : S.N[i]? = some x) (hx : Loc S.sc x) (hf : S.fnA = true ∨ S.sc.names.lookup x = some .local) : DG S (.Name x p) (.nm i) :=
  ⟨_, fun X hX => pg_name hX.nd (by rw [hX.N]; exact hN) (by rw [hX.sc]; exact hx) (stx_fn hX hf), fun g env st T σ H v f d env' Q hT R e h => by
    cases e
    exact h _ H ⟨by simp, fun j hj => List.getElem?_set_ne fun z => hj (by rw [← z]; exact List.mem_singleton.mpr rfl)⟩ (R.store rfl hT i)⟩
theorem dgs_nil : DGs S [] [] := ⟨_, fun X hX => pgs_nil, fun g env st T σ H vs fs ds env' Q hT hl R e h => by
  cases ds with
  | cons d ds => cases fs <;> simp [bindPs] at e
  | nil =>
    have : vs = [] := List.length_eq_zero_iff.mp hl
    subst this
    cases fs with
    | cons f fs => simp [bindPs] at e
    | nil =>
      simp [bindPs] at e
      subst e
      exact ⟨rfl, h σ H Dif.refl R⟩⟩
theorem assignNo {tg : Expr} {tgs : List Expr} {env : PySem.Env} (h : ∀ x p, tg ≠ .Starred x p) : assignEach (tg :: tgs) env = (false, assign tg env) :: assignEach tgs env := by
  cases tg <;> first | rfl | exact absurd rfl (h _ _)
theorem assignEach_ok {env : PySem.Env} : ∀ {tgs : List Expr}, (∀ e ∈ tgs, ∀ x p, e ≠ .Starred x p) → (assignEach tgs env).length = tgs.length ∧ (assignEach tgs env).findIdx? (·.1) = none
  | [], _ => ⟨rfl, rfl⟩
  | tg :: tgs, h => by
    obtain ⟨h1, h2⟩ := assignEach_ok (env := env) (tgs := tgs) fun e he => h e (List.mem_cons_of_mem _ he)
    rw [assignNo (h tg List.mem_cons_self)]
    refine ⟨by rw [List.length_cons, List.length_cons, h1], ?_⟩
    rw [List.findIdx?_cons, h2]
    rfl
theorem dgs_cons {tg : Expr} {tgs : List Expr} {p : Pat} {ps : List Pat} (h1 : DG S tg p) (h2 : DGs S tgs ps) (hs : ∀ x q, tg ≠ .Starred x q) : DGs S (tg :: tgs) (p :: ps) := by
  obtain ⟨t, pt, q⟩ := h1
  obtain ⟨t2, pt2, q2⟩ := h2
  refine ⟨_, fun X hX => pgs_cons (pt X hX) (pt2 X hX) (by rw [assignNo hs]; rfl), fun g env st T σ H vs fs ds env' Q hT hl R e h => ?_⟩
  cases fs with
  | nil => cases ds <;> simp [bindPs] at e
  | cons f fs =>
    cases ds with
    | nil => simp [bindPs] at e
    | cons d ds =>
      cases vs with
      | nil => simp at hl
      | cons v vs =>
        rw [bindPs] at e
        obtain ⟨env1, e1, e2⟩ := Option.bind_eq_some_iff.mp e
        refine ⟨v, vs, rfl, q g env st (mkF vs fs ds ++ T) σ H v f d env1 _ (nb_app mkF_nb hT) R e1 fun σ' H' D' R' => ?_⟩
        exact q2 g env1 st T σ' H' vs fs ds env' Q hT (by simpa using hl) R' e2 fun σ2 H2 D2 R2 => h σ2 H2 (D'.app D2) R2
theorem tm_of_reps {G : Sg} {Fz : Addr → Prop} {am : List Addr} {H : Hp} {ne n2 : Fp} {T : List Tm} (h : TmR G Fz am H ne T n2) : ∀ {fs : List Fr} {vs : List V} {ds : List D} {n1 n : Fp}, Reps G Fz am H fs vs ds n1 → (∀ q, n q = n1 q + n2 q) → TmR G Fz am H ne (mkF vs fs ds ++ T) n
  | _, _, _, n1, n, .nil h0, hn => by
    have e : n = n2 := funext fun q => by rw [hn, h0]; simp
    rw [e]; exact h
  | _, _, _, n1, n, .cons (n2 := m2) h1 h2 h3, hn => .own h1 (tm_of_reps h h2 (n := fun q => m2 q + n2 q) fun _ => rfl) fun q => by rw [hn, h3]; omega
theorem Rl.open {G : Sg} {g : Gd} {env : Env} {st : Store} {T : List Tm} {σ : St} {H : Hp} {v : V} {f : Fr} {ds : List D} (R : Rl G g env st (⟨v, f, .con .tup ds, false⟩ :: T) σ H) :
    ∃ a vs fs, v = .ref a ∧ SqT G.K H a vs ∧ vs.length = ds.length ∧ ((f = .z ∧ fs = zs ds.length) ∨ f = .t fs) ∧ Rl G g env st (mkF vs fs ds ++ T) σ H := by
  obtain ⟨Fz, am, ne, nt, ns, h1, h2, h3, h4, h5⟩ := R
  cases h2 with
  | @own _ _ _ _ n1 n2 _ k1 k2 k3 =>
    cases k1 with
    | sc h _ => cases v <;> exact h.elim
    | @zz p k vs _ n a1 a2 a3 => exact ⟨p, vs, zs ds.length, rfl, a1, a2.len.2, .inl ⟨rfl, rfl⟩, Fz, am, ne, nt, ns, h1, tm_of_reps k2 a2 k3, h3, h4, trivial⟩
    | @tp p vs _ fs n a1 a2 => exact ⟨p, vs, fs, rfl, a1, a2.len.2, .inr rfl, Fz, am, ne, nt, ns, h1, tm_of_reps k2 a2 k3, h3, h4, trivial⟩
    | cc a1 _ _ => exact absurd rfl a1.1.1
theorem Rl.openL {G : Sg} {g : Gd} {env : Env} {st : Store} {T : List Tm} {σ : St} {H : Hp} {v : V} {f : Fr} {ds : List D} (R : Rl G g env st (⟨v, f, .con .lst ds, false⟩ :: T) σ H) :
    ∃ a vs f0, v = .ref a ∧ SqL G.K H a vs ∧ vs.length = ds.length ∧ ((f = .z ∧ f0 = .z) ∨ f = .c f0) ∧ Rl G g env st (mkF vs (List.replicate ds.length f0) ds ++ T) σ H := by
  obtain ⟨Fz, am, ne, nt, ns, h1, h2, h3, h4, h5⟩ := R
  cases h2 with
  | @own _ _ _ _ n1 n2 _ k1 k2 k3 =>
    cases k1 with
    | sc h _ => cases v <;> exact h.elim
    | @zz p k vs _ n a1 a2 a3 =>
      obtain ⟨_, o, b1, b2⟩ := a1
      subst b2
      exact ⟨p, vs, .z, rfl, SqL.of b1, a2.len.2, .inl ⟨rfl, rfl⟩, Fz, am, ne, nt, ns, h1, tm_of_reps k2 a2 k3, h3, h4, trivial⟩
    | @cc p k vs _ f0 n m a1 a2 a3 =>
      obtain ⟨_, o, b1, b2⟩ := a1
      subst b2
      exact ⟨p, vs, f0, rfl, SqL.of b1, a2.len.2, .inr rfl, Fz, am, ne, fun q => m q + n2 q, ns, h1, tm_of_reps k2 a2 fun _ => rfl, h3, h4.less fun q => by show ne q + (m q + n2 q) + ns q ≤ _; rw [k3, a3]; omega, trivial⟩
theorem PG.or {X : Cx} {tg : Expr} {t t' : TG} (h : PG X tg t) (h' : PG X tg t') : PG X tg fun v σ H Q => t v σ H Q ∨ t' v σ H Q :=
  ⟨fun pins s σ H v u Q I r hw => hw.elim (h.run pins s σ H v u Q I r) (h'.run pins s σ H v u Q I r)⟩
theorem bindPs_len : ∀ {ps : List Pat} {fs : List Fr} {ds : List D} {env env' : Env}, bindPs ps fs ds env = some env' → ps.length = ds.length
  | [], [], [], _, _, _ => rfl
  | p :: ps, f :: fs, d :: ds, env, env', h => by
    rw [bindPs] at h
    obtain ⟨env1, _, e2⟩ := Option.bind_eq_some_iff.mp h
    rw [List.length_cons, List.length_cons, bindPs_len e2]
  | [], [], _ :: _, _, _, h => by simp [bindPs] at h
  | [], _ :: _, _, _, _, h => by simp [bindPs] at h
  | _ :: _, [], _, _, _, h => by simp [bindPs] at h
  | _ :: _, _ :: _, [], _, _, h => by simp [bindPs] at h
theorem dg_tup {es : List Expr} {k : Nat} {p : Pos} {ps : List Pat} (h : DGs S es ps) (hp : plainArgs es = true) (hl : es.length = ps.length) : DG S (.Tuple es k p) (.tp ps) := by
  obtain ⟨t, pt, q⟩ := h
  have aa := fun env => assignEach_ok (env := env) (plainArgs_ok hp)
  refine ⟨fun v σ H Q => gTup S.G.K es.length t v σ H Q ∨ gUnl S.G.K es.length t v σ H Q, fun X hX => by rw [← hX.K]; exact PG.or (pg_tup hX.calm (pt X hX) (aa X.env).1 (aa X.env).2) (pg_unl hX.calm (pt X hX) (aa X.env).1 (aa X.env).2), fun g env st T σ H v f d env' Q hT R e hq => ?_⟩
  cases d with
  | con kd ds =>
    cases kd with
    | tup =>
      obtain ⟨a, vs, fs, e1, e2, e3, e4, R1⟩ := R.open
      have eb : bindPs ps fs ds env = some env' := by
        rcases e4 with ⟨rfl, rfl⟩ | rfl <;> simpa [bindP, kidsP] using e
      exact .inl ⟨a, vs, e1, e2, by rw [e3, hl, bindPs_len eb], q g env st T σ H vs fs ds env' Q hT e3 R1 eb hq⟩
    | lst =>
      obtain ⟨a, vs, f0, e1, e2, e3, e4, R1⟩ := R.openL
      have eb : bindPs ps (List.replicate ds.length f0) ds env = some env' := by
        rcases e4 with ⟨rfl, rfl⟩ | rfl <;> simpa [bindP, kidsP, zs] using e
      exact .inr ⟨a, vs, e1, e2, by rw [e3, hl, bindPs_len eb], q g env st T σ H vs _ ds env' Q hT e3 R1 eb hq⟩
    | _ => cases f <;> simp [bindP, kidsP] at e
  | _ => cases f <;> simp [bindP, kidsP] at e
@[simp] def dUnp (p : Pat) (a : Den) : DenS := fun env st => match a env st with
  | .ok f b d st1 => bif !b || f.isz then (match bindP p f d env with
    | some env1 => .nx env1 st1
    | none => .stuck) else .stuck
  | .exc c ds st1 => .exc c ds env st1
  | .stuck => .stuck
/-- what the value is, it is swapped or not -/
def noSwap : Expr → Bool
  | .Tuple _ _ _ => false
  | _ => true
theorem noSwap_ok {ts : List Expr} {e : Expr} {env : PySem.Env} (h : noSwap e = true) : swappedStores ts e env = pure none := by
  unfold swappedStores
  cases e <;> first | exact Bool.noConfusion h | (cases ts with
    | nil => rfl
    | cons t ts => cases ts <;> cases t <;> rfl)
theorem ds_unp {tg e : Expr} {p : Pat} {da : Den} {pos : Pos} (hg : DG S tg p) (ha : DE S e da) (hc : notComp e = true) (hw : noSwap e = true) (hst : ∀ x q, tg ≠ .Starred x q) : DS S (.Assign [tg] e pos) (dUnp p da) := fun W => by
  obtain ⟨t, pt, q⟩ := ha W
  obtain ⟨t2, pt2, q2⟩ := hg
  refine ⟨_, fun X hX tk => ps_asg (pt X hX tk) (pt2 X hX) (swaps_no hc) (noSwap_ok hw) (by rw [assignNo hst]; rfl), fun g env st T σ H D hT R h => q g env st T σ H _ hT R ?_⟩
  unfold dUnp at h
  cases e : da env st with
  | stuck => rw [e] at h; exact h.elim
  | exc c ds st1 => rw [e] at h; exact h σ
  | ok f b d st1 =>
    rw [e] at h
    obtain ⟨hc, h⟩ := bifT h id
    cases e2 : bindP p f d env with
    | none => rw [e2] at h; exact h.elim
    | some env1 =>
      rw [e2] at h
      exact fun v H1 R1 => q2 g env st1 T σ H1 v f d env1 _ hT (R1.unb hc) e2 fun σ' H' _ R' => h σ' H' R'
end
end Hx

set_option Elab.async false
set_option linter.all false
set_option maxRecDepth 100000
set_option autoImplicit false
/-! F7: loops, comprehensions. -/
namespace Hx
open PySem PySem.Spec L2
open PyProof.Rows hiding St

inductive ResI
  | ok (items : List D) (st : Store) | exc (c : Nat) (ds : List D) (st : Store) | stuck
abbrev DenI := Env → Store → ResI
/-- what an iterator gives, item by item -/
structure ItOk (G : Sg) (g : Gd) (J : It) (keep : List Tm) (items : List D) : Prop where
  nb : noBor keep
  go : ∀ i env st T σ H, Rl G g env st (keep ++ T) σ H → i < items.length → J.go i H
  yld : ∀ i env st T σ H x H' d, Rl G g env st (keep ++ T) σ H → J.yld i H x H' → items[i]? = some d → Rl G g env st (⟨x, .z, d, false⟩ :: (keep ++ T)) σ H'
  stop : ∀ i env st T σ H, Rl G g env st (keep ++ T) σ H → items.length ≤ i → J.stop i H
def PostI (G : Sg) (g : Gd) (env : Env) (T : List Tm) (σ : St) (W : WX) (R : It → Hp → Prop) : ResI → Prop
  | .ok items st => ∀ J H' keep, ItOk G g J keep items → Rl G g env st (keep ++ T) σ H' → R J H'
  | .exc c ds st => ExcP G g env σ W c ds st
  | .stuck => False
def DI (S : Sx) (tg it : Expr) (den : DenI) : Prop := ∀ W : WX, ∃ wi : TI, (∀ X, Stx S X → Takes X W → PI X tg it wi) ∧
  ∀ g env st T σ H R, noBor T → Rl S.G g env st T σ H → PostI S.G g env T σ W R (den env st) → wi σ H R

theorem PI.or {X : Cx} {tg e : Expr} {w1 w2 : TI} (h1 : PI X tg e w1) (h2 : PI X tg e w2) : PI X tg e fun σ H R => w1 σ H R ∨ w2 σ H R :=
  ⟨fun pins s σ H R I h => h.elim (h1.run pins s σ H R I) (h2.run pins s σ H R I)⟩
theorem reps_get {G : Sg} {Fz : Addr → Prop} {am : List Addr} {H : Hp} : ∀ {k : Nat} {vs : List V} {ds : List D} {n : Fp} {i : Nat} {v : V} {d : D}, Reps G Fz am H (zs k) vs ds n → vs[i]? = some v → ds[i]? = some d → Rep G Fz am H .z v d (fun _ => 0)
  | 0, _, _, _, i, v, d, r, e1, e2 => by
    cases r with
    | nil h => simp at e2
  | k + 1, _, _, _, i, v, d, r, e1, e2 => by
    have e : zs (k + 1) = .z :: zs k := List.replicate_succ
    rw [e] at r
    cases r with
    | cons h1 h2 h3 =>
      cases i with
      | zero =>
        simp at e1 e2
        subst e1 e2
        exact h1.fp h1.z0
      | succ i => exact reps_get (i := i) h2 (by simpa using e1) (by simpa using e2)
section
variable {G : Sg} {g : Gd} {env : Env} {st st' : Store} {T T' : List Tm} {σ : St} {H H' : Hp}
theorem Rl.pz {v : V} {d : D} (R : Rl G g env st T σ H) (h : ∀ Fz am ne nt, EnvR G Fz am H env σ ne → TmR G Fz am H ne T nt → Rep G Fz am H .z v d (fun _ => 0)) : Rl G g env st (⟨v, .z, d, false⟩ :: T) σ H := by
  obtain ⟨Fz, am, ne, nt, ns, h1, h2, h3, h4, h5⟩ := R
  exact ⟨Fz, am, ne, nt, ns, h1, .own (h Fz am ne nt h1 h2) h2 (n1 := fun _ => 0) fun q => by simp, h3, h4, trivial⟩
/-- a shared list under way -/
theorem lst_at {a : Addr} {ds : List D} (R : Rl G g env st (⟨.ref a, .z, .con .lst ds, false⟩ :: T) σ H) : ∃ vs, H a = some (.lst vs) ∧ vs.length = ds.length := by
  obtain ⟨Fz, am, ne, nt, ns, h1, h2, h3, h4, h5⟩ := R
  cases h2 with
  | own k1 k2 k3 =>
    cases k1 with
    | sc h _ => exact h.elim
    | zz a1 a2 a3 =>
      obtain ⟨_, o, b1, b2⟩ := a1
      subst b2
      exact ⟨_, b1, a2.len.2⟩
theorem lst_item {a : Addr} {ds : List D} {vs : List V} {i : Nat} {x : V} {d : D} (R : Rl G g env st (⟨.ref a, .z, .con .lst ds, false⟩ :: T) σ H) (ha : H a = some (.lst vs)) (e1 : vs[i]? = some x) (e2 : ds[i]? = some d) : Rl G g env st (⟨x, .z, d, false⟩ :: (⟨.ref a, .z, .con .lst ds, false⟩ :: T)) σ H :=
  R.pz fun Fz am ne nt _ h2 => by
    cases h2 with
    | own k1 k2 k3 =>
      cases k1 with
      | sc h _ => exact h.elim
      | zz a1 a2 a3 =>
        obtain ⟨_, o, b1, b2⟩ := a1
        subst b2
        have b1 : H a = some (.lst _) := b1
        rw [ha] at b1
        cases b1
        exact reps_get a2 e1 e2
theorem it_list {a : Addr} {ds : List D} : ItOk G g (Itl G.K a) [⟨.ref a, .z, .con .lst ds, false⟩] ds where
  nb := fun x hx => by rw [List.mem_singleton.mp hx]
  go := fun i env st T σ H R hi => by
    obtain ⟨vs, e1, e2⟩ := lst_at R
    exact ⟨_, _, SqL.of e1, List.getElem?_eq_getElem (by rw [e2]; exact hi)⟩
  yld := fun i env st T σ H x H' d R y e => by
    obtain ⟨rfl, y⟩ := y
    obtain ⟨vs, e1, e2⟩ := lst_at R
    exact lst_item R e1 (y _ (SqL.of e1)) e
  stop := fun i env st T σ H R hi => by
    obtain ⟨vs, e1, e2⟩ := lst_at R
    exact ⟨_, SqL.of e1, by rw [e2]; exact hi⟩
theorem tup_at {a : Addr} {ds : List D} (R : Rl G g env st (⟨.ref a, .z, .con .tup ds, false⟩ :: T) σ H) : ∃ vs, SqT G.K H a vs ∧ vs.length = ds.length ∧ ∀ (i : Nat) (x : V) (d : D), vs[i]? = some x → ds[i]? = some d → Rl G g env st (⟨x, .z, d, false⟩ :: (⟨.ref a, .z, .con .tup ds, false⟩ :: T)) σ H := by
  obtain ⟨Fz, am, ne, nt, ns, h1, h2, h3, h4, h5⟩ := R
  cases id h2 with
  | own k1 k2 k3 =>
    cases k1 with
    | sc h _ => exact h.elim
    | @zz _ _ vs _ _ a1 a2 a3 =>
      exact ⟨vs, a1, a2.len.2, fun i x d e1 e2 => ⟨Fz, am, ne, nt, ns, h1, .own (reps_get a2 e1 e2) h2 (n1 := fun _ => 0) fun q => by simp, h3, h4, trivial⟩⟩
theorem it_tup {a : Addr} {ds : List D} : ItOk G g (Itt G.K a) [⟨.ref a, .z, .con .tup ds, false⟩] ds where
  nb := fun x hx => by rw [List.mem_singleton.mp hx]
  go := fun i env st T σ H R hi => by
    obtain ⟨vs, e1, e2, _⟩ := tup_at R
    exact ⟨_, _, e1, List.getElem?_eq_getElem (by rw [e2]; exact hi)⟩
  yld := fun i env st T σ H x H' d R y e => by
    obtain ⟨rfl, y⟩ := y
    obtain ⟨vs, e1, e2, e3⟩ := tup_at R
    exact e3 i x d (y _ e1) e
  stop := fun i env st T σ H R hi => by
    obtain ⟨vs, e1, e2, _⟩ := tup_at R
    exact ⟨_, e1, by rw [e2]; exact hi⟩
theorem it_rng {lo : Int} {n : Nat} : ItOk G g (Itr lo n) [] ((List.range n).map fun (i : Nat) => D.int (lo + (i : Int))) where
  nb := fun x hx => by cases hx
  go := fun i env st T σ H R hi => by show i < n; simpa using hi
  yld := fun i env st T σ H x H' d R y e => by
    obtain ⟨rfl, rfl⟩ := y
    obtain ⟨h1, h2⟩ := List.getElem?_eq_some_iff.mp e
    simp at h2
    subst h2
    exact Rl.scal R rfl
  stop := fun i env st T σ H R hi => by show n ≤ i; simpa using hi
end
@[simp] def dIv (a : Den) : DenI := fun env st => match a env st with
  | .ok f b (.con .lst ds) st1 => bif !b || f.isz then .ok ds st1 else .stuck
  | .ok f b (.con .tup ds) st1 => bif !b || f.isz then .ok ds st1 else .stuck
  | .ok _ _ _ _ => .stuck
  | .exc c ds st1 => .exc c ds st1
  | .stuck => .stuck
section
variable {S : Sx} {e a b tg : Expr} {es : List Expr} {da db : Den} {das : DenL} {pos p : Pos}
theorem line24 {n : Nat} (h : n.ble 16777216 = true) : n ≤ sizeLine := Nat.le_trans (Nat.le_of_ble_eq_true h) (by decide)
theorem di_val (ha : DE S a da) : DI S tg a (dIv da) := fun W => by
  obtain ⟨t, p, q⟩ := ha W
  refine ⟨fun σ H R => iList S.G.K t σ H R ∨ iTup S.G.K t σ H R, fun X hX tk => by rw [← hX.K]; exact PI.or (pi_list (p X hX tk)) (pi_tup (p X hX tk)), fun g env st T σ H R0 hT R h => ?_⟩
  unfold dIv at h
  cases e : da env st with
  | stuck => rw [e] at h; exact h.elim
  | exc c ds st1 => rw [e] at h; exact .inl (q g env st T σ H _ hT R (by rw [e]; exact h))
  | ok f b d st1 =>
    rw [e] at h
    cases d with
    | con k ds =>
      cases k with
      | lst =>
        obtain ⟨hc, h⟩ := bifT h id
        refine .inl (q g env st T σ H _ hT R ?_)
        rw [e]
        intro v H1 R1
        have R2 := (R1.unb hc).frz
        obtain ⟨a, vs, f0, rfl, e2, _⟩ := Rl.openL R2
        exact ⟨a, rfl, ⟨vs, e2⟩, h _ H1 _ it_list R2⟩
      | tup =>
        obtain ⟨hc, h⟩ := bifT h id
        refine .inr (q g env st T σ H _ hT R ?_)
        rw [e]
        intro v H1 R1
        have R2 := (R1.unb hc).frz
        obtain ⟨a, vs, f0, rfl, e2, _⟩ := Rl.open R2
        exact ⟨a, rfl, ⟨vs, e2⟩, h _ H1 _ it_tup R2⟩
      | _ => exact h.elim
    | _ => exact h.elim
/-- range(n), range(m, n) -/
def rngItems (lo hi : Int) : List D := (List.range (hi - lo).toNat).map fun (i : Nat) => D.int (lo + (i : Int))
def small62 (j : Int) : Bool := decide (-16777216 ≤ j) && decide (j ≤ 16777216)
@[simp] def dRng1 (as : DenL) : DenI := fun env st => match as env st with
  | .ok ts st1 => (match ts with
    | [(_, _, .int j)] => bif small62 j then .ok (rngItems 0 j) st1 else .stuck
    | _ => .stuck)
  | .exc c ds st1 => .exc c ds st1
  | .stuck => .stuck
@[simp] def dRng2 (as : DenL) : DenI := fun env st => match as env st with
  | .ok ts st1 => (match ts with
    | [(_, _, .int i), (_, _, .int j)] => bif small62 i && small62 j then .ok (rngItems i j) st1 else .stuck
    | _ => .stuck)
  | .exc c ds st1 => .exc c ds st1
  | .stuck => .stuck
theorem Rl.int {G : Sg} {g : Gd} {env : Env} {st : Store} {T : List Tm} {σ : St} {H : Hp} {v : V} {f : Fr} {b : Bool} {c : Int} (R : Rl G g env st (⟨v, f, .int c, b⟩ :: T) σ H) : v = .int c := by
  obtain ⟨Fz, am, ne, nt, ns, h1, h2, h3, h4, h5⟩ := R
  have key : ∀ {n : Fp}, Rep G Fz am H f v (.int c) n → v = .int c := fun {n} r => by
    cases r with
    | sc h _ => cases v <;> first | exact congrArg V.int h | exact h.elim
  cases h2 with
  | own h _ _ => exact key h
  | bor h _ _ => exact key h
theorem small62_ok {j : Int} (h : small62 j = true) : (-(2 ^ 62) ≤ j ∧ j < 2 ^ 62) ∧ (-16777216 ≤ j ∧ j ≤ 16777216) := by
  unfold small62 at h
  rw [Bool.and_eq_true] at h
  have h1 := of_decide_eq_true h.1
  have h2 := of_decide_eq_true h.2
  omega
theorem di_rng1 (ha : DA S [a] das) (hs : ∀ x q, a ≠ .Starred x q) (hg : S.sc.names.lookup ("range" : Str) = some .globalImplicit) (hm : S.mg "range" = none) : DI S tg (.Call (.Name "range" p) [a] [] pos) (dRng1 das) := fun W => by
  obtain ⟨t, pt, q⟩ := ha W
  refine ⟨_, fun X hX tk => pi_range1 (show X.env.scope.names.lookup ("range" : Str) = some .globalImplicit by rw [hX.sc]; exact hg) (by rw [hX.mg]; exact hm) (pt X hX tk) (by rw [starNo hs]; rfl), fun g env st T σ H R0 hT R h => q g env st T σ H _ hT R ?_⟩
  unfold dRng1 at h
  cases e : das env st with
  | stuck => rw [e] at h; exact h.elim
  | exc c ds st1 => rw [e] at h; exact h
  | ok ts st1 =>
    rw [e] at h
    intro vs H1 hl R1
    dsimp only at h
    split at h
    · rename_i f b j
      obtain ⟨hc, h⟩ := bifT h id
      match vs, hl with
      | [v], _ =>
        have ev : v = .int j := Rl.int R1
        subst ev
        have hb := (small62_ok hc).1
        refine ⟨j, rfl, hb.1, hb.2, ?_⟩
        have it := it_rng (G := S.G) (g := g) (lo := 0) (n := j.toNat)
        unfold rngItems at h
        rw [show (j - 0).toNat = j.toNat by congr 1; omega] at h
        exact h _ H1 [] it (RlB.drop R1)
    · exact h.elim
theorem di_rng2 (ha : DA S [a, b] das) (hs : ∀ x q, a ≠ .Starred x q) (hs2 : ∀ x q, b ≠ .Starred x q) (hg : S.sc.names.lookup ("range" : Str) = some .globalImplicit) (hm : S.mg "range" = none) : DI S tg (.Call (.Name "range" p) [a, b] [] pos) (dRng2 das) := fun W => by
  obtain ⟨t, pt, q⟩ := ha W
  refine ⟨_, fun X hX tk => pi_range2 (show X.env.scope.names.lookup ("range" : Str) = some .globalImplicit by rw [hX.sc]; exact hg) (by rw [hX.mg]; exact hm) (pt X hX tk) (by rw [starNo hs, starNo hs2]; rfl) (by rw [starNo hs2]; rfl), fun g env st T σ H R0 hT R h => q g env st T σ H _ hT R ?_⟩
  unfold dRng2 at h
  cases e : das env st with
  | stuck => rw [e] at h; exact h.elim
  | exc c ds st1 => rw [e] at h; exact h
  | ok ts st1 =>
    rw [e] at h
    intro vs H1 hl R1
    dsimp only at h
    split at h
    · rename_i f b i f2 b2 j
      obtain ⟨hc, h⟩ := bifT h id
      rw [Bool.and_eq_true] at hc
      match vs, hl with
      | [v, v2], _ =>
        have ev : v = .int i := Rl.int R1
        have ev2 : v2 = .int j := Rl.int (RlB.drop R1)
        subst ev ev2
        have hb := (small62_ok hc.1).1
        have hb2 := (small62_ok hc.2).1
        refine ⟨i, j, rfl, ⟨hb.1, hb.2, hb2.1, hb2.2⟩, ?_⟩
        exact h _ H1 [] (it_rng (G := S.G) (g := g) (lo := i) (n := (j - i).toNat)) (RlB.drop (RlB.drop R1))
    · exact h.elim

/-! ### for -/
def forGo (p : Pat) (body : DenS) (ks : List Nat) : List D → DenS
  | [], env, st => .nx env st
  | d :: ds, env, st => match bindP p .z d env with
    | none => .stuck
    | some env1 => match body env1 st with
      | .nx env2 st2 => forGo p body ks ds (killE ks env2) st2
      | .ct env2 st2 => forGo p body ks ds (killE ks env2) st2
      | .bk env2 st2 => .nx (killE ks env2) st2
      | r => r
def dFor (it : DenI) (p : Pat) (body : DenS) (ks : List Nat) : DenS := fun env st => match it env st with
  | .ok items st1 => forGo p body ks items env st1
  | .exc c ds st1 => .exc c ds env st1
  | .stuck => .stuck
theorem notSet_fold {e : Expr} {env : PySem.Env} (h : notSet e = true) (x : Value) : foldedSetIterable e env x = pure x := by
  cases e <;> first | rfl | cases h
theorem ds_for {it : Expr} {di : DenI} {p : Pat} {body : List Stmt} {db : DenS} {ks : List Nat} (hi : DI S tg it di) (hg : DG S tg p) (hb : DSs S body db) (hs : notSet it = true) : DS S (.For tg it body [] pos) (dFor di p db ks) := fun W => by
  obtain ⟨wi, pi, qi⟩ := hi W
  obtain ⟨tg', pg, qg⟩ := hg
  obtain ⟨tb, pb, qb⟩ := hb W
  refine ⟨tFor wi tg' tb, fun X hX tk => ps_for hX.po hX.calm (pi X hX tk) (pg X hX) (pb X hX tk) (notSet_fold hs), fun g env st T σ H D hT R h => qi g env st T σ H _ hT R ?_⟩
  unfold dFor at h
  cases e : di env st with
  | stuck => rw [e] at h; exact h.elim
  | exc c ds st1 => rw [e] at h; exact h σ
  | ok items st1 =>
    rw [e] at h
    intro J H1 keep IO R1
    have nbT : noBor (keep ++ T) := nb_app IO.nb hT
    refine ⟨fun i m σ H => ∃ env st, m = items.length - i ∧ i ≤ items.length ∧ Rl S.G g env st (keep ++ T) σ H ∧ PostS S.G g T W D (forGo p db ks (items.drop i) env st), ⟨items.length, env, st1, by omega, Nat.zero_le _, R1, by simpa using h⟩, ?_⟩
    rintro i m σ H ⟨env, st, rfl, hi, R, h⟩
    by_cases hlt : i < items.length
    · refine .inr ⟨IO.go i env st T σ H R hlt, fun σ' H' => ∃ env st, i + 1 ≤ items.length ∧ Rl S.G g env st (keep ++ T) σ' H' ∧ PostS S.G g T W D (forGo p db ks (items.drop (i + 1)) env st), fun σ' H' ⟨env, st, h1, h2, h3⟩ => ⟨items.length - (i + 1), by omega, env, st, rfl, h1, h2, h3⟩, fun x H' y => ?_⟩
      have ei : items[i]? = some items[i] := List.getElem?_eq_getElem hlt
      have R2 := IO.yld i env st T σ H x H' _ R y ei
      rw [List.drop_eq_getElem_cons hlt] at h
      unfold forGo at h
      cases eb : bindP p .z items[i] env with
      | none => rw [eb] at h; exact h.elim
      | some env1 =>
        rw [eb] at h
        refine qg g env st (keep ++ T) σ H' x .z items[i] env1 _ nbT R2 eb fun σ' H'' _ R3 => ?_
        refine qb g env1 st (keep ++ T) σ' H'' _ nbT R3 ?_
        dsimp only at h
        cases er : db env1 st with
        | stuck => rw [er] at h; exact h.elim
        | rt f d st2 => rw [er] at h; exact h
        | exc c ds env2 st2 => rw [er] at h; exact h
        | nx env2 st2 => rw [er] at h; exact fun σ3 H3 R4 => ⟨_, st2, hlt, R4.kills nbT, h⟩
        | ct env2 st2 => rw [er] at h; exact fun σ3 H3 R4 => ⟨_, st2, hlt, R4.kills nbT, h⟩
        | bk env2 st2 => rw [er] at h; exact fun σ3 H3 R4 => h σ3 H3 (Rl.kills hT (RlB.tail R4))
    · have e : i = items.length := by omega
      subst e
      rw [List.drop_length] at h
      exact .inl ⟨IO.stop _ env st T σ H R (Nat.le_refl _), h σ H (RlB.tail R)⟩

/-! ### while -/
def whileGo (c : DenB) (body : DenS) (ks : List Nat) : Nat → DenS
  | 0, _, _ => .stuck
  | n + 1, env, st => match c env st with
    | .ok true st1 => (match body env st1 with
      | .nx env2 st2 => whileGo c body ks n (killE ks env2) st2
      | .ct env2 st2 => whileGo c body ks n (killE ks env2) st2
      | .bk env2 st2 => .nx (killE ks env2) st2
      | r => r)
    | .ok false st1 => .nx env st1
    | .exc c ds st1 => .exc c ds env st1
    | .stuck => .stuck
def dWhile (mu : Env → Store → Nat) (c : DenB) (body : DenS) (ks : List Nat) : DenS := fun env st => whileGo c body ks (mu env st) env st
theorem ds_while {c : Expr} {dc : DenB} {body : List Stmt} {db : DenS} {ks : List Nat} {mu : Env → Store → Nat} (hc : DT S c dc) (hb : DSs S body db) : DS S (.While c body [] pos) (dWhile mu dc db ks) := fun W => by
  obtain ⟨tc, pc, qc⟩ := hc W
  obtain ⟨tb, pb, qb⟩ := hb W
  refine ⟨tWhile tc tb, fun X hX tk => ps_while hX.po (pc X hX tk) (pb X hX tk), fun g env st T σ H D hT R h => ?_⟩
  refine ⟨fun m σ H => ∃ env st, Rl S.G g env st T σ H ∧ PostS S.G g T W D (whileGo dc db ks m env st), ⟨_, env, st, R, h⟩, ?_⟩
  rintro m σ H ⟨env, st, R, h⟩
  cases m with
  | zero => exact h.elim
  | succ n =>
    refine qc g env st T σ H _ hT R ?_
    unfold whileGo at h
    cases e : dc env st with
    | stuck => rw [e] at h; exact h.elim
    | exc c ds st1 => rw [e] at h; exact h σ
    | ok c st1 =>
      rw [e] at h
      intro H1 R1
      cases c with
      | false => exact h σ H1 R1
      | true =>
        refine ⟨fun σ' H' => ∃ env st, Rl S.G g env st T σ' H' ∧ PostS S.G g T W D (whileGo dc db ks n env st), fun σ' H' q => ⟨n, by omega, q⟩, ?_⟩
        refine qb g env st1 T σ H1 _ hT R1 ?_
        dsimp only at h
        cases er : db env st1 with
        | stuck => rw [er] at h; exact h.elim
        | rt f d st2 => rw [er] at h; exact h
        | exc c ds env2 st2 => rw [er] at h; exact h
        | nx env2 st2 => rw [er] at h; exact fun σ3 H3 R4 => ⟨_, st2, R4.kills hT, h⟩
        | ct env2 st2 => rw [er] at h; exact fun σ3 H3 R4 => ⟨_, st2, R4.kills hT, h⟩
        | bk env2 st2 => rw [er] at h; exact fun σ3 H3 R4 => h σ3 H3 (R4.kills hT)

/-! ### list comprehensions -/
def dYes : DenB := fun _ st => .ok true st
def lcGo (p : Pat) (c : DenB) (el : Den) : List D → Env → Store → List D → Res
  | [], _, st, acc => .ok (.c .z) false (.con .lst acc) st
  | d :: ds, env, st, acc => match bindP p .z d env with
    | none => .stuck
    | some env1 => match c env1 st with
      | .ok false st1 => lcGo p c el ds env st1 acc
      | .ok true st1 => (match el env1 st1 with
        | .ok f b d' st2 => bif !b || f.isz then lcGo p c el ds env st2 (acc ++ [d']) else .stuck
        | _ => .stuck)
      | _ => .stuck
def nonesAt (own : List Nat) (env : Env) : Bool := own.all fun i => match env[i]? with
  | some none => true
  | _ => false
def dLc (it : DenI) (own : List Nat) (p : Pat) (c : DenB) (el : Den) : Den := fun env st => match it env st with
  | .ok items st1 => bif nonesAt own env && items.length.ble 16777215 then lcGo p c el items env st1 [] else .stuck
  | .exc c ds st1 => .exc c ds st1
  | .stuck => .stuck
/-- within a comprehension's block -/
def Sx.blk (S : Sx) (scope : Scope) : Sx := { S with sc := relS scope S.sc, fnA := false }
theorem stx_blk {X : Cx} (hX : Stx S X) (s : Shared) (H : Hp) (scope : Scope) (C : Addr) (cl : List (Str × Addr)) (fp : List Addr) : Stx (S.blk scope) (X.blk s H scope (compEnvC scope cl C X.env) fp) where
  pr := hX.pr
  w := hX.w
  mg := hX.mg
  base := hX.base
  K := hX.K
  N := hX.N
  sc := by show relS scope X.env.scope = relS scope S.sc; rw [hX.sc]
  nd := hX.nd
  calm := hX.calm
  room := hX.room
  po := PassesOwn.never
  fn := fun h => Bool.noConfusion h
theorem wipe_at {j : Nat} : ∀ (τ : St) (ow : List Nat), j ∈ ow → (wipe τ ow)[j]? = if j < τ.length then some none else none := by
  intro τ ow
  induction ow with
  | nil => intro h; cases h
  | cons v vs ih =>
    intro h
    unfold wipe
    by_cases e : v = j
    · subst e
      rw [List.getElem?_set]
      simp [wipe_length]
    · rw [List.getElem?_set_ne e]
      rcases List.mem_cons.mp h with z | z
      · exact absurd z.symm e
      · exact ih z
theorem wipe_dif {σ σ2 : St} {l own : List Nat} (h : Dif l σ σ2) (hl : ∀ i ∈ l, i ∈ own) : wipe σ2 own = wipe σ own := by
  apply List.ext_getElem?
  intro j
  by_cases hj : j ∈ own
  · rw [wipe_at σ2 own hj, wipe_at σ own hj, h.1]
  · rw [wipe_out hj, wipe_out hj]
    exact h.2 j fun z => hj (hl j z)
theorem EnvR.resig {G : Sg} {Fz : Addr → Prop} {am : List Addr} {H : Hp} {env : Env} {σ : St} {n : Fp} (r : EnvR G Fz am H env σ n) : ∀ {σ' : St}, σ'.length = σ.length → (∀ (i : Nat) x, env[i]? = some (some x) → σ'[i]? = σ[i]?) → EnvR G Fz am H env σ' n := by
  induction r with
  | nil h =>
    intro σ' hl _
    have e : σ' = [] := List.length_eq_zero_iff.mp hl
    subst e
    exact .nil h
  | @som f d v env σ n1 n2 n h1 h2 h3 ih =>
    intro σ' hl hs
    cases σ' with
    | nil => simp at hl
    | cons y σ' =>
      have e : y = some v := by simpa using hs 0 (f, d) (by simp)
      subst e
      exact .som h1 (ih (by simpa using hl) fun i x e => by simpa using hs (i + 1) x (by simpa using e)) h3
  | @non x env σ n h ih =>
    intro σ' hl hs
    cases σ' with
    | nil => simp at hl
    | cons y σ' => exact .non (ih (by simpa using hl) fun i x e => by simpa using hs (i + 1) x (by simpa using e))
theorem EnvR.weak {G : Sg} {Fz : Addr → Prop} {am : List Addr} {H : Hp} {env : Env} {σ : St} {n : Fp} (r : EnvR G Fz am H env σ n) : ∀ {env' : Env} {σ'' : St}, env'.length = env.length → σ''.length = σ.length →
    (∀ (i : Nat) x, env'[i]? = some (some x) → env[i]? = some (some x) ∧ σ''[i]? = σ[i]?) → ∃ n', EnvR G Fz am H env' σ'' n' ∧ ∀ q, n' q ≤ n q := by
  induction r with
  | nil h =>
    intro env' σ'' h1 h2 _
    have e : σ'' = [] := List.length_eq_zero_iff.mp h2
    have e2 : env' = [] := List.length_eq_zero_iff.mp h1
    subst e e2
    exact ⟨_, .nil h, fun _ => Nat.le_refl _⟩
  | @som f d v env σ n1 n2 n h1 h2 h3 ih =>
    intro env' σ'' hl hs hx
    cases σ'' with
    | nil => simp at hs
    | cons y σ'' =>
    cases env' with
    | nil => simp at hl
    | cons w env' =>
      obtain ⟨n', k1, k2⟩ := ih (env' := env') (σ'' := σ'') (by simpa using hl) (by simpa using hs) fun i x e => by simpa using hx (i + 1) x (by simpa using e)
      cases w with
      | none => exact ⟨n', .non k1, fun q => by have := k2 q; rw [h3]; omega⟩
      | some w =>
        obtain ⟨e1, e2⟩ := hx 0 w (by simp)
        simp at e1 e2
        subst e1 e2
        exact ⟨_, .som h1 k1 (n := fun q => n1 q + n' q) fun _ => rfl, fun q => by have := k2 q; rw [h3]; omega⟩
  | @non x env σ n h ih =>
    intro env' σ'' hl hs hx
    cases σ'' with
    | nil => simp at hs
    | cons y σ'' =>
    cases env' with
    | nil => simp at hl
    | cons w env' =>
      obtain ⟨n', k1, k2⟩ := ih (env' := env') (σ'' := σ'') (by simpa using hl) (by simpa using hs) fun i x e => by simpa using hx (i + 1) x (by simpa using e)
      cases w with
      | none => exact ⟨n', .non k1, k2⟩
      | some w =>
        obtain ⟨e1, e2⟩ := hx 0 w (by simp)
        simp at e1
mutual
theorem bindP_dif : ∀ (p : Pat) {f : Fr} {d : D} {env env' : Env}, bindP p f d env = some env' → env'.length = env.length ∧ ∀ j, j ∉ p.slots → env'[j]? = env[j]?
  | .nm i, f, d, env, env', h => by
    cases h
    exact ⟨by simp, fun j hj => List.getElem?_set_ne fun z => hj (by rw [← z]; exact List.mem_singleton.mpr rfl)⟩
  | .tp ps, f, d, env, env', h => by
    unfold bindP at h
    cases e : kidsP f d with
    | none => rw [e] at h; cases h
    | some x => rw [e] at h; exact bindPs_dif ps h
theorem bindPs_dif : ∀ (ps : List Pat) {fs : List Fr} {ds : List D} {env env' : Env}, bindPs ps fs ds env = some env' → env'.length = env.length ∧ ∀ j, j ∉ Pat.slotsL ps → env'[j]? = env[j]?
  | [], [], [], env, env', h => by
    simp [bindPs] at h
    subst h
    exact ⟨rfl, fun _ _ => rfl⟩
  | p :: ps, f :: fs, d :: ds, env, env', h => by
    rw [bindPs] at h
    obtain ⟨env1, e1, e2⟩ := Option.bind_eq_some_iff.mp h
    have a := bindP_dif p e1
    have b := bindPs_dif ps e2
    refine ⟨b.1.trans a.1, fun j hj => ?_⟩
    have hj' : j ∉ p.slots ++ Pat.slotsL ps := hj
    rw [List.mem_append, not_or] at hj'
    rw [b.2 j hj'.2, a.2 j hj'.1]
  | [], [], _ :: _, _, _, h => by simp [bindPs] at h
  | [], _ :: _, _, _, _, h => by simp [bindPs] at h
  | _ :: _, [], _, _, _, h => by simp [bindPs] at h
  | _ :: _, _ :: _, [], _, _, h => by simp [bindPs] at h
end
theorem nones_wipe {own : List Nat} {env : Env} (h : nonesAt own env = true) (σ : St) : ∀ (i : Nat) x, env[i]? = some (some x) → (wipe σ own)[i]? = σ[i]? := fun i x e => wipe_out fun hi => by
  have := List.all_eq_true.mp h i hi
  rw [e] at this
  cases this
/-- a value put back among the others -/
theorem TmR.dim {G : Sg} {Fz : Addr → Prop} {am : List Addr} {H : Hp} {ne : Fp} {T : List Tm} {a : Tm} : ∀ {l : List Tm} {nt : Fp}, TmR G Fz am H ne (a :: (l ++ T)) nt → TmR G Fz am H ne (l ++ a :: T) nt
  | [], _, r => r
  | b :: l, _, r => by
    cases r with
    | @own _ _ _ _ n1 n2 _ h1 h2 h3 =>
      cases h2 with
      | @own _ _ _ _ m1 m2 _ k1 k2 k3 => exact .own k1 (TmR.dim (.own h1 k2 (n := fun q => n1 q + m2 q) fun _ => rfl)) fun q => by rw [h3, k3]; omega
      | @bor _ _ _ _ m1 _ k1 k2 k3 => exact .bor k1 k2 (TmR.dim (.own h1 k3 h3))
    | bor h1 h2 h3 =>
      cases h3 with
      | own k1 k2 k3 => exact .own k1 (TmR.dim (.bor h1 h2 k2)) k3
      | bor k1 k2 k3 => exact .bor k1 k2 (TmR.dim (.bor h1 h2 k3))
theorem wipe_wipe {σ σ2 : St} {l own : List Nat} (h : Dif l (wipe σ own) σ2) (hl : ∀ i ∈ l, i ∈ own) : wipe σ2 own = wipe σ own := by
  rw [wipe_dif h hl]
  apply List.ext_getElem?
  intro j
  by_cases hj : j ∈ own
  · rw [wipe_at _ _ hj, wipe_at _ _ hj, wipe_length]
  · rw [wipe_out hj]
theorem Rl.resig {G : Sg} {g : Gd} {env : Env} {st : Store} {T : List Tm} {σ σ' : St} {H : Hp} (R : Rl G g env st T σ H) (hl : σ'.length = σ.length) (hs : ∀ (i : Nat) x, env[i]? = some (some x) → σ'[i]? = σ[i]?) : Rl G g env st T σ' H := by
  obtain ⟨Fz, am, ne, nt, ns, h1, h2, h3, h4, h5⟩ := R
  exact ⟨Fz, am, ne, nt, ns, h1.resig hl hs, h2, h3, h4, h5⟩
end
/-! ### writing at an owned address -/
section
variable {G : Sg} {g : Gd} {env : Env} {st st' : Store} {T T' : List Tm} {σ : St} {H H' : Hp} {Fz : Addr → Prop} {am : List Addr} {tot : Fp} {A : Addr} {o : HO}
theorem Rel0.wext (r : Rel0 g Fz am H tot) (hA : 0 < tot A) : Ext Fz am H Fz am (upd H A o) := by
  have nz : ∀ p, Fz p → p ≠ A := fun p z e => r.nz A hA (by rw [← e]; exact z)
  obtain ⟨oA, eA, kA⟩ := r.th A hA
  refine ⟨fun _ h => h, fun _ _ h => h, fun p u z h => ?_, fun p u z h _ => ?_, fun p xs h => ?_⟩
  · exact h.imp (fun h => by rw [upd_ne (nz p z)]; exact h) fun ⟨w, h⟩ => ⟨w, by rw [upd_ne (nz p z)]; exact h⟩
  · rw [upd_ne (nz p z)]; exact h
  · have ne : p ≠ A := fun e => by
      subst e
      rcases h with h | ⟨_, h⟩
      · rw [eA] at h; cases h; exact kA
      · rw [eA] at h; cases h; exact kA
    exact h.imp (fun h => by rw [upd_ne ne]; exact h) fun ⟨w, h⟩ => ⟨w, by rw [upd_ne ne]; exact h⟩
theorem Rel0.wrel (r : Rel0 g Fz am H tot) (hA : 0 < tot A) (ok : OwnK o) : Rel0 g Fz am (upd H A o) tot := by
  refine ⟨r.n1, r.nz, fun p hp => ?_, fun p z => ?_, fun p u e na => ?_, r.f, r.z0, r.z1, r.a⟩
  · by_cases e : p = A
    · subst e; exact ⟨o, upd_same, ok⟩
    · rw [upd_ne e]; exact r.th p hp
  · rw [upd_ne fun e => r.nz A hA (by rw [← e]; exact z)]; exact r.zt p z
  · have h := r.k p u e na
    by_cases q : p = A
    · subst q
      rcases r.f p hA with y | y
      · exact absurd y na
      · rw [y] at e; cases e
    · rw [upd_ne q]; exact h
theorem upd_keep {n : Fp} (h : n A = 0) : ∀ p u, 0 < n p → H p = some u → upd H A o p = some u := fun p u hp e => by
  rw [upd_ne fun q => by subst q; omega]; exact e
theorem Reps.snoc {fs : List Fr} {vs : List V} {ds : List D} {n m k : Fp} {f : Fr} {v : V} {d : D} (h : Reps G Fz am H fs vs ds n) (r : Rep G Fz am H f v d m) (hk : ∀ q, k q = n q + m q) : Reps G Fz am H (fs ++ [f]) (vs ++ [v]) (ds ++ [d]) k := by
  match fs, vs, ds, h with
  | [], [], [], .nil h0 => exact .cons r (.nil (n := fun _ => 0) fun _ => rfl) fun q => by rw [hk, h0]; simp
  | _ :: _, _ :: _, _ :: _, .cons (n1 := n1) (n2 := n2) h1 h2 h3 => exact .cons h1 (Reps.snoc h2 r (k := fun q => n2 q + m q) fun _ => rfl) fun q => by rw [hk, h3]; omega
/-- the list grows -/
theorem Rl.appT {x : V} {ds : List D} {d : D} (R : Rl G g env st (⟨.ref A, .c .z, .con .lst ds, false⟩ :: ⟨x, .z, d, false⟩ :: T) σ H) :
    ∃ acc, H A = some (.lst acc) ∧ acc.length = ds.length ∧ Rl G g env st (⟨.ref A, .c .z, .con .lst (ds ++ [d]), false⟩ :: T) σ (upd H A (.lst (acc ++ [x]))) := by
  obtain ⟨Fz, am, ne, nt, ns, h1, h2, h3, h4, h5⟩ := R
  cases h2 with
  | @own _ _ _ _ n1 n2 _ k1 k2 k3 =>
    cases k2 with
    | @own _ _ _ _ m1 m2 _ j1 j2 j3 =>
      cases k1 with
      | @cc _ _ vs _ _ _ m a1 a2 a3 =>
        obtain ⟨_, o, b1, b2⟩ := a1
        subst b2
        have hA : 0 < ne A + nt A + ns A := by rw [k3, a3]; simp; omega
        have le := h4.n1 A
        have zA : ne A = 0 ∧ m2 A = 0 ∧ ns A = 0 ∧ m A = 0 := by rw [k3, a3, j3] at le; simp at le; omega
        have E := h4.wext (o := .lst (vs ++ [x])) hA
        have m0 := Reps.z0 (k := ds.length) a2
        refine ⟨vs, b1, a2.len.2, Fz, am, ne, fun q => n1 q + m2 q, ns, h1.ext E (upd_keep zA.1), .own (.cc (m := fun _ => 0) ⟨by decide, _, upd_same, rfl⟩ ?_ fun q => by rw [a3, m0]) (j2.ext E (upd_keep zA.2.1) (upd_keep zA.1)) fun _ => rfl, Reps.ext E h3 (upd_keep zA.2.2.1), (h4.wrel (o := .lst (vs ++ [x])) hA trivial).less fun q => by show ne q + (n1 q + m2 q) + ns q ≤ _; rw [k3, j3]; omega, trivial⟩
        have s := Reps.snoc (k := fun _ => 0) (a2.fp m0 (m := fun _ => 0)) (j1.fp j1.z0 (m := fun _ => 0)) fun _ => rfl
        have s2 := Reps.ext E s fun p u hp => absurd hp (Nat.lt_irrefl 0)
        have e : List.replicate ds.length Fr.z ++ [Fr.z] = List.replicate (ds ++ [d]).length Fr.z := by rw [List.length_append]; exact List.replicate_append_replicate (n := ds.length) (m := 1)
        rw [← e]
        exact s2
end
section
variable {S : Sx} {e a b tg : Expr} {es : List Expr} {da db : Den} {das : DenL} {pos p : Pos}
/-- the reading of a comprehension -/
theorem lc_run {di : DenI} {p : Pat} {own : List Nat} {c : DenB} {el : Den} {W : WX} {wi : TI} {tg' : TG} {tt : TT} {te : TE}
    (qi : ∀ g env st T σ H R, noBor T → Rl S.G g env st T σ H → PostI S.G g env T σ W R (di env st) → wi σ H R)
    (qg : ∀ g env st T σ H v f d env' Q, noBor T → Rl S.G g env st (⟨v, f, d, false⟩ :: T) σ H → bindP p f d env = some env' → (∀ σ' H', Dif p.slots σ σ' → Rl S.G g env' st T σ' H' → Q σ' H') → tg' v σ H Q)
    (qt : ∀ g env st T σ H Q, noBor T → Rl S.G g env st T σ H → PostB S.G g env T σ (fun _ _ _ _ => False) Q (c env st) → tt σ H Q)
    (qe : ∀ g env st T σ H Q, noBor T → Rl S.G g env st T σ H → PostE S.G g env T σ (fun _ _ _ _ => False) Q (el env st) → te σ H Q)
    (ho : ∀ i ∈ p.slots, i ∈ own)
    (g : Gd) (env : Env) (st : Store) (T : List Tm) (σ : St) (H : Hp) (Q : VK) (hT : noBor T) (R : Rl S.G g env st T σ H) (h : PostE S.G g env T σ W Q (dLc di own p c el env st)) : tLc wi tg' tt te own σ H Q := by
  refine qi g env st T σ H _ hT R ?_
  unfold dLc at h
  cases e : di env st with
  | stuck => rw [e] at h; exact h.elim
  | exc c ds st1 => rw [e] at h; exact h
  | ok items st1 =>
    rw [e] at h
    obtain ⟨hc, h⟩ := bifT h id
    rw [Bool.and_eq_true] at hc
    intro J H1 keep IO R1 A hA
    have nbA : ∀ ds, noBor (keep ++ (⟨.ref A, .c .z, .con .lst ds, false⟩ :: T)) := fun ds => nb_app IO.nb (nb_cons hT)
    have line : 16777215 < sizeLine := by decide
    have hlen := Nat.le_of_ble_eq_true hc.2
    have outside : ∀ (i : Nat) x, env[i]? = some (some x) → i ∉ own := fun i x e hi => by
      have := List.all_eq_true.mp hc.1 i hi
      rw [e] at this
      cases this
    have R2 : Rl S.G g env st1 (keep ++ (⟨.ref A, .c .z, .con .lst [], false⟩ :: T)) (wipe σ own) (upd H1 A (.lst [])) := by
      have r := RlB.new (B := fun _ _ => True) (v := .ref A) (f := .c .z) (d := .con .lst []) (n := one1 A) R1 (same_upd hA) (newp1 (o := .lst []) hA trivial) fun Fz am E _ => rep_lst E (.nil fun _ => rfl)
      have r2 : Rl S.G g env st1 (keep ++ (⟨.ref A, .c .z, .con .lst [], false⟩ :: T)) σ (upd H1 A (.lst [])) := by
        obtain ⟨Fz, am, ne, nt, ns, h1, h2, h3, h4, h5⟩ := r
        exact ⟨Fz, am, ne, nt, ns, h1, h2.dim, h3, h4, h5⟩
      exact r2.resig (wipe_length _ _) (nones_wipe hc.1 σ)
    refine ⟨fun i m H => ∃ st acc, m = items.length - i ∧ i ≤ items.length ∧ acc.length ≤ i ∧ Rl S.G g env st (keep ++ (⟨.ref A, .c .z, .con .lst acc, false⟩ :: T)) (wipe σ own) H ∧ PostE S.G g env T σ W Q (lcGo p c el (items.drop i) env st acc),
      ⟨items.length, st1, [], by omega, Nat.zero_le _, Nat.le_refl _, R2, by simpa using h⟩, ?_⟩
    rintro i m H ⟨st, acc, rfl, hi, hacc, R, h⟩
    by_cases hlt : i < items.length
    · refine .inr ⟨IO.go i env st _ _ H R hlt, fun H' => ∃ st acc, i + 1 ≤ items.length ∧ acc.length ≤ i + 1 ∧ Rl S.G g env st (keep ++ (⟨.ref A, .c .z, .con .lst acc, false⟩ :: T)) (wipe σ own) H' ∧ PostE S.G g env T σ W Q (lcGo p c el (items.drop (i + 1)) env st acc),
        fun H' ⟨st, acc, h1, h2, h3, h4⟩ => ⟨items.length - (i + 1), by omega, st, acc, rfl, h1, h2, h3, h4⟩, fun x H' y => ?_⟩
      have ei : items[i]? = some items[i] := List.getElem?_eq_getElem hlt
      have R3 := IO.yld i env st _ _ H x H' _ R y ei
      rw [List.drop_eq_getElem_cons hlt] at h
      unfold lcGo at h
      cases eb : bindP p .z items[i] env with
      | none => rw [eb] at h; exact h.elim
      | some env1 =>
        rw [eb] at h
        refine qg g env st _ _ H' x .z items[i] env1 _ (nbA acc) R3 eb fun σ' H'' D' R4 => ⟨wipe_wipe D' ho, ?_⟩
        refine qt g env1 st _ σ' H'' _ (nbA acc) R4 ?_
        dsimp only at h
        cases ec : c env1 st with
        | stuck => rw [ec] at h; exact h.elim
        | exc c ds st2 => rw [ec] at h; exact h.elim
        | ok b st2 =>
          rw [ec] at h
          intro H3 R5
          have back : ∀ {st : Store} {ds : List D} {H4 : Hp}, Rl S.G g env1 st (keep ++ (⟨.ref A, .c .z, .con .lst ds, false⟩ :: T)) σ' H4 → Rl S.G g env st (keep ++ (⟨.ref A, .c .z, .con .lst ds, false⟩ :: T)) (wipe σ own) H4 := fun {st ds H4} r => by
            obtain ⟨Fz, am, ne, nt, ns, h1, h2, h3, h4, h5⟩ := r
            have bd := bindP_dif p eb
            obtain ⟨n', k1, k2⟩ := h1.weak (env' := env) (σ'' := wipe σ own) bd.1.symm D'.1.symm fun i x e => ⟨by rw [bd.2 i fun z => outside i x e (ho i z)]; exact e, (D'.2 i fun z => outside i x e (ho i z)).symm⟩
            exact ⟨Fz, am, n', nt, ns, k1, h2.nb (nbA ds), h3, h4.less fun q => by have := k2 q; omega, trivial⟩
          cases b with
          | false => exact iteF ⟨st2, acc, hlt, by omega, back R5, h⟩
          | true =>
            refine iteT (qe g env1 st2 _ σ' H3 _ (nbA acc) R5 ?_)
            dsimp only at h
            cases ee : el env1 st2 with
            | stuck => rw [ee] at h; exact h.elim
            | exc c ds st3 => rw [ee] at h; exact h.elim
            | ok f b d' st3 =>
              rw [ee] at h
              obtain ⟨hb, h⟩ := bifT h id
              intro y' H4 R6
              have R7 := (R6.unb hb).frz
              obtain ⟨vs, e1, e2, R8⟩ := Rl.appT (RlB.mid (l := ⟨y', .z, d', false⟩ :: keep) R7)
              refine ⟨vs, e1, by rw [e2]; omega, st3, acc ++ [d'], hlt, by rw [List.length_append]; simp; omega, back (by
                obtain ⟨Fz, am, ne, nt, ns, h1, h2, h3, h4, h5⟩ := R8
                exact ⟨Fz, am, ne, nt, ns, h1, h2.dim, h3, h4, h5⟩), h⟩
    · have e : i = items.length := by omega
      subst e
      rw [List.drop_length] at h
      refine .inl ⟨IO.stop _ env st _ _ H R (Nat.le_refl _), h _ H ?_⟩
      exact Rl.resig (RlB.tail R) (by rw [wipe_length]) fun i x e => (nones_wipe hc.1 σ i x e).symm
end
end Hx

set_option Elab.async false
set_option linter.all false
set_option maxRecDepth 100000
set_option autoImplicit false
/-! F8: comprehensions as expressions, the rule for a def. -/
namespace Hx
open PySem PySem.Spec L2
open PyProof.Rows hiding St
section
variable {S : Sx} {e a b tg it elt : Expr} {ifs : List Expr} {es : List Expr} {da db el : Den} {das : DenL} {pos p' : Pos} {p : Pat} {di : DenI} {c : DenB} {scope : Scope} {own : List (Str × Nat)}
/-- the tests of a comprehension -/
def DIf (S : Sx) (ifs : List Expr) (c : DenB) : Prop := ∃ tt : TT, (∀ X, Stx S X → Takes X (fun _ _ _ _ => False) → PTs X ifs tt) ∧
  ∀ g env st T σ H Q, noBor T → Rl S.G g env st T σ H → PostB S.G g env T σ (fun _ _ _ _ => False) Q (c env st) → tt σ H Q
theorem dif_nil : DIf S [] dYes := ⟨_, fun X hX tk => pts_nil, fun g env st T σ H Q hT R h => h H R⟩
theorem dif_one (h : DT S a c) : DIf S [a] c := by
  obtain ⟨t, p, q⟩ := h fun _ _ _ _ => False
  exact ⟨t, fun X hX tk => pts_one (p X hX tk), q⟩
theorem de_lc (hi : DI S tg it di) (hg : DG (S.blk scope) tg p) (hc : DIf (S.blk scope) ifs c) (he : DE (S.blk scope) elt el) (ok : BlkOk S.N S.sc scope own) (ho : ∀ i ∈ p.slots, i ∈ own.map (·.2)) (hs : notSet it = true) :
    DE S (.ListComp elt [⟨tg, it, ifs, 0⟩] scope pos) (dLc di (own.map (·.2)) p c el) := fun W => by
  obtain ⟨wi, pi, qi⟩ := hi W
  obtain ⟨tg', pg, qg⟩ := hg
  obtain ⟨tt, pt, qt⟩ := hc
  obtain ⟨te, pe, qe⟩ := he fun _ _ _ _ => False
  refine ⟨tLc wi tg' tt te (own.map (·.2)), fun X hX tk => pe_lc hX.calm hX.nd (pi X hX tk) (by rw [hX.N, hX.sc]; exact ok) (fun s H C cl fp => pg _ (stx_blk hX s H scope C cl fp)) (fun s H C cl fp => pt _ (stx_blk hX s H scope C cl fp) L2.takes0) (fun s H C cl fp => pe _ (stx_blk hX s H scope C cl fp) L2.takes0) (notSet_fold hs),
    fun g env st T σ H Q hT R h => lc_run qi qg qt qe ho g env st T σ H Q hT R h⟩
theorem lcset_pre (hi : DI S tg it di) (hg : DG (S.blk scope) tg p) (hc : DIf (S.blk scope) ifs c) (he : DE (S.blk scope) elt el) (ok : BlkOk S.N S.sc scope own) (ho : ∀ i ∈ p.slots, i ∈ own.map (·.2)) (hs : notSet it = true)
    {i : Nat} {y : Str} {py spos : Pos} (hN : S.N[i]? = some y) (hyl : S.sc.names.lookup y = some .local) (hl : (py.line == pos.line) = true) (hk : S.sc.kind = .function) (ha : (scope.names.any fun (n, k) => n == y && (k == .local || k == .cell)) = false) (W : WX) :
    ∃ te : TE, (∀ X, Stx S X → Takes X W → PS X (.Assign [.Name y py] (.ListComp elt [⟨tg, it, ifs, 0⟩] scope pos) spos) (tAsg te (gName i))) ∧
      ∀ g env st T σ H Q, noBor T → Rl S.G g env st T σ H → PostE S.G g env T σ W Q (dLc di (own.map (·.2)) p c el env st) → te σ H Q := by
  obtain ⟨wi, pi, qi⟩ := hi W
  obtain ⟨tg', pg, qg⟩ := hg
  obtain ⟨tt, pt, qt⟩ := hc
  obtain ⟨te, pe, qe⟩ := he fun _ _ _ _ => False
  refine ⟨tLc wi tg' tt te (own.map (·.2)), fun X hX tk => ps_setLc hX.calm hX.nd (by rw [hX.N]; exact hN) (by rw [hX.sc]; exact hyl) (sw_true (by rw [hX.sc]; exact hk) (by rw [hX.sc]; exact hyl) hl ha) (pi X hX tk) (by rw [hX.N, hX.sc]; exact ok) (fun s H C cl fp => pg _ (stx_blk hX s H scope C cl fp)) (fun s H C cl fp => pt _ (stx_blk hX s H scope C cl fp) L2.takes0) (fun s H C cl fp => pe _ (stx_blk hX s H scope C cl fp) L2.takes0) (notSet_fold hs),
    fun g env st T σ H Q hT R h => lc_run qi qg qt qe ho g env st T σ H Q hT R h⟩
/-- name = [..] on one line, the name a local -/
theorem ds_setLc (hi : DI S tg it di) (hg : DG (S.blk scope) tg p) (hc : DIf (S.blk scope) ifs c) (he : DE (S.blk scope) elt el) (ok : BlkOk S.N S.sc scope own) (ho : ∀ i ∈ p.slots, i ∈ own.map (·.2)) (hs : notSet it = true)
    {i : Nat} {y : Str} {py spos : Pos} (hN : S.N[i]? = some y) (hyl : S.sc.names.lookup y = some .local) (hl : (py.line == pos.line) = true) (hk : S.sc.kind = .function) (ha : (scope.names.any fun (n, k) => n == y && (k == .local || k == .cell)) = false) :
    DS S (.Assign [.Name y py] (.ListComp elt [⟨tg, it, ifs, 0⟩] scope pos) spos) (dSet i (dLc di (own.map (·.2)) p c el)) := fun W => by
  obtain ⟨te, p, q⟩ := lcset_pre hi hg hc he ok ho hs hN hyl hl hk ha W
  exact ⟨_, p, fun g env st T σ H D hT R h => dset_run q g env st T σ H D hT R h⟩
theorem ds_setLcZ (hi : DI S tg it di) (hg : DG (S.blk scope) tg p) (hc : DIf (S.blk scope) ifs c) (he : DE (S.blk scope) elt el) (ok : BlkOk S.N S.sc scope own) (ho : ∀ i ∈ p.slots, i ∈ own.map (·.2)) (hs : notSet it = true)
    {i : Nat} {y : Str} {py spos : Pos} (hN : S.N[i]? = some y) (hyl : S.sc.names.lookup y = some .local) (hl : (py.line == pos.line) = true) (hk : S.sc.kind = .function) (ha : (scope.names.any fun (n, k) => n == y && (k == .local || k == .cell)) = false) :
    DS S (.Assign [.Name y py] (.ListComp elt [⟨tg, it, ifs, 0⟩] scope pos) spos) (dSetZ i (dLc di (own.map (·.2)) p c el)) := fun W => by
  obtain ⟨te, p, q⟩ := lcset_pre hi hg hc he ok ho hs hN hyl hl hk ha W
  exact ⟨_, p, fun g env st T σ H D hT R h => dsetZ_run q g env st T σ H D hT R h⟩
/-- a variable or cell: a comprehension stored in a name that is a cell goes the plain way -/
theorem swaps_cell {elt : Expr} {gs : List Comprehension} {scope : Scope} {pos py : Pos} {y : Str} {l : Nat} {env : PySem.Env} (h : env.scope.names.lookup y = some .cell) : swapsWith (.ListComp elt gs scope pos) (some (.Name y py)) l env = pure false := by
  unfold swapsWith
  have h2 : (env.kindOf y == some .local) = false := by
    show (env.scope.names.lookup y == some .local) = false
    rw [h]; rfl
  simp only [h2, Bool.and_false, Bool.false_and]
theorem ds_setC {i : Nat} {x : Str} {p q : Pos} {elt : Expr} {gs : List Comprehension} {scope : Scope} (hN : S.N[i]? = some x) (hx : S.sc.names.lookup x = some .cell) (hf : S.fnA = true) (ha : DE S (.ListComp elt gs scope q) da) : DS S (.Assign [.Name x p] (.ListComp elt gs scope q) pos) (dSet i da) := fun W => by
  obtain ⟨t, p, q⟩ := ha W
  exact ⟨_, fun X hX tk => ps_set hX.nd (by rw [hX.N]; exact hN) (by rw [hX.sc]; exact .inr hx) (p X hX tk) (swaps_cell (by rw [hX.sc]; exact hx)) (stx_fn hX (.inl hf)), fun g env st T σ H D hT R h => dset_run q g env st T σ H D hT R h⟩
theorem ds_setCZ {i : Nat} {x : Str} {p q : Pos} {elt : Expr} {gs : List Comprehension} {scope : Scope} (hN : S.N[i]? = some x) (hx : S.sc.names.lookup x = some .cell) (hf : S.fnA = true) (ha : DE S (.ListComp elt gs scope q) da) : DS S (.Assign [.Name x p] (.ListComp elt gs scope q) pos) (dSetZ i da) := fun W => by
  obtain ⟨t, p, q⟩ := ha W
  exact ⟨_, fun X hX tk => ps_set hX.nd (by rw [hX.N]; exact hN) (by rw [hX.sc]; exact .inr hx) (p X hX tk) (swaps_cell (by rw [hX.sc]; exact hx)) (stx_fn hX (.inl hf)), fun g env st T σ H D hT R h => dsetZ_run q g env st T σ H D hT R h⟩
end

/-! ### a def -/
@[simp] def start0 (n : Nat) (as : List (Fr × D)) : Env := as.map some ++ List.replicate (n - as.length) none
/-- what the body of a def comes to -/
@[simp] def dBody (n : Nat) (b : DenS) : Fn := fun as st => match b (start0 n as) st with
  | .rt f d st1 => .ok f false d st1
  | .nx _ st1 => .ok .z false .non st1
  | .exc c ds _ st1 => .exc c ds st1
  | _ => .stuck
theorem env_start {G : Sg} {Fz : Addr → Prop} {am : List Addr} {H : Hp} {m : Nat} : ∀ {as : List (Fr × D)} {vs : List V} {n : Fp}, Reps G Fz am H (as.map (·.1)) vs (as.map (·.2)) n →
    EnvR G Fz am H (as.map some ++ List.replicate m none) (vs.map some ++ List.replicate m none) n := by
  intro as
  induction as with
  | nil =>
    intro vs n r
    cases r with
    | nil h =>
      show EnvR G Fz am H (List.replicate m none) (List.replicate m none) n
      induction m with
      | zero => exact .nil h
      | succ m ih => rw [List.replicate_succ, List.replicate_succ]; exact .non ih
  | cons a as ih =>
    intro vs n r
    obtain ⟨f, d⟩ := a
    cases r with
    | cons h1 h2 h3 => exact .som h1 (ih h2) h3
/-- what stands of a def behind the top -/
theorem ok_fn {S : Sx} {x qual : Str} {params : Arguments} {body : List Stmt} {dvs : List V} {kws : List (Str × V)} {f : Addr} {fd : FuncData} {ps : List Str} {db : DenS} (F : FunD S.G.K x qual params body S.sc dvs kws f fd) (Sc : FnScope S.N ps S.sc) (hb : DSs S body db) (hf : S.fnA = true) :
    FnOk S.P S.w S.G.K S.mg S.base (L2.CX S.P S.w) (S.k + 1) f fd ps (SpF S.G ps.length (dBody S.N.length db)) := by
  refine F.ok Sc (fun vs H Q E h => h.1) fun cdv A outer s H vs Q E hr h => ?_
  obtain ⟨hl, Fz, am, as, st, na, ns, h1, h2, h3, h4⟩ := h
  obtain ⟨t, pt, qt⟩ := hb fun cls d _ H => E cls d H
  have hX : Stx S (cxOf (L2.CX S.P S.w) S.P S.w S.G.K S.mg S.base S.N qual S.sc f cdv A outer s H E) := ⟨rfl, rfl, rfl, rfl, rfl, rfl, rfl, Sc.nd, rfl, hr, passes_of rfl, fun _ _ => rfl⟩
  refine ⟨t, pt _ hX (takes_of rfl rfl rfl rfl), ?_⟩
  have la : as.length = vs.length := by have := h1.len; simpa using this.2.symm
  refine qt ⟨H, fun p => 0 < na p + ns p, Fz, am⟩ (start0 S.N.length as) st [] (L2.start S.N vs) H _ (fun a ha => by cases ha) ⟨Fz, am, na, fun _ => 0, ns, ?_, .nil fun _ => rfl, h2, h3.less fun q => by show na q + 0 + ns q ≤ _; omega, trivial⟩ ?_
  · unfold start0 L2.start
    rw [la]
    exact env_start h1
  · unfold dBody at h4
    cases e : db (start0 S.N.length as) st with
    | stuck => rw [e] at h4; exact h4.elim
    | bk env1 st1 => rw [e] at h4; exact h4.elim
    | ct env1 st1 => rw [e] at h4; exact h4.elim
    | rt f d st1 => rw [e] at h4; exact h4.2
    | nx env1 st1 => rw [e] at h4; exact fun σ' H' R => h4.2 .non H' (Rl.ret (b := false) (Rl.scal (v := .non) (d := .non) R trivial) rfl)
    | exc c ds env1 st1 =>
      rw [e] at h4
      intro σ' cls dx H' R
      refine h4 cls dx H' ?_
      obtain ⟨Fz', am', ne, nt, ns', k1, k2, k3, k4, k5⟩ := R
      cases k2 with
      | nil h0 => exact ⟨Fz', am', fun _ => 0, fun _ => 0, ns', .nil fun _ => rfl, .nil fun _ => rfl, k3, k4.less fun q => by show 0 + 0 + ns' q ≤ _; omega, k5⟩
end Hx

set_option Elab.async false
set_option linter.all false
set_option maxRecDepth 100000
set_option autoImplicit false
/-! F9: operators by cases. -/
namespace Hx
open PySem PySem.Spec L2
open PyProof.Rows hiding St

section
variable {G : Sg} {Fz : Addr → Prop} {am : List Addr} {H H' : Hp} {v : V}
theorem View.int {i : Int} (h : View G Fz am H v (.int i)) : v = .int i := by
  cases v <;> first | exact congrArg V.int h | exact h.elim
theorem View.bl {i : Bool} (h : View G Fz am H v (.bl i)) : v = .bl i := by
  cases v <;> first | exact congrArg V.bl h | exact h.elim
theorem View.str {i : Str} (h : View G Fz am H v (.str i)) : v = .str i := by
  cases v <;> first | exact congrArg V.str h | exact h.elim
theorem View.non (h : View G Fz am H v .non) : v = .non := by
  cases v <;> first | rfl | exact h.elim
theorem View.fnv {k : Nat} (h : View G Fz am H v (.fnv k)) : v = G.fn k := by
  cases v <;> exact h
theorem View.tup {ds : List D} (h : View G Fz am H v (.con .tup ds)) : ∃ p vs, v = .ref p ∧ SqT G.K H p vs ∧ Reps G Fz am H (zs ds.length) vs ds (fun _ => 0) := h
def Kd.seq : Kd → Bool
  | .tup => true
  | .lst => true
  | .frl => true
  | _ => false
def Kd.sq : Kd → Bool
  | .lst => true
  | .frl => true
  | _ => false
theorem View.sq {k : Kd} {ds : List D} (hk : k.sq = true) (h : View G Fz am H v (.con k ds)) : ∃ p vs, v = .ref p ∧ SqL G.K H p vs ∧ Reps G Fz am H (zs ds.length) vs ds (fun _ => 0) := by
  obtain ⟨p, vs, e, r, s⟩ := h
  cases k with
  | lst =>
    obtain ⟨o, r1, r2⟩ := r
    have e2 : o = .lst vs := r2
    subst e2
    exact ⟨p, vs, e, .inl (.inl r1), s⟩
  | frl => exact ⟨p, vs, e, r, s⟩
  | _ => cases hk
theorem View.seq {k : Kd} {ds : List D} (hk : k.seq = true) (h : View G Fz am H v (.con k ds)) : ∃ p vs, v = .ref p ∧ (SqL G.K H p vs ∨ SqT G.K H p vs) ∧ Reps G Fz am H (zs ds.length) vs ds (fun _ => 0) := by
  cases k with
  | tup =>
    obtain ⟨p, vs, e, r, s⟩ := h.tup
    exact ⟨p, vs, e, .inr r, s⟩
  | lst =>
    obtain ⟨p, vs, e, r, s⟩ := h.sq rfl
    exact ⟨p, vs, e, .inl r, s⟩
  | frl =>
    obtain ⟨p, vs, e, r, s⟩ := h.sq rfl
    exact ⟨p, vs, e, .inl r, s⟩
  | _ => cases hk
/-- a tracked list -/
theorem View.lst {ds : List D} (h : View G Fz am H v (.con .lst ds)) : ∃ p vs, v = .ref p ∧ H p = some (.lst vs) ∧ Reps G Fz am H (zs ds.length) vs ds (fun _ => 0) := by
  obtain ⟨p, vs, e, ⟨o, r1, r2⟩, s⟩ := h
  have e2 : o = .lst vs := r2
  subst e2
  exact ⟨p, vs, e, r1, s⟩
theorem View.nonI {d : D} (h : View G Fz am H v d) (hf : ∀ k, d ≠ .fnv k) : (v = .non) = (d = .non) := by
  cases d with
  | non => rw [h.non]; simp
  | fnv k => exact absurd rfl (hf k)
  | con k ds => obtain ⟨p, vs, e, _⟩ := h; subst e; simp
  | ref i => obtain ⟨p, e, _⟩ := h; subst e; simp
  | int i => rw [h.int]; simp
  | bl i => rw [h.bl]; simp
  | str i => rw [h.str]; simp
theorem Vws.two {vs : List V} {a b : D} (h : Vws G Fz am H vs [a, b]) : ∃ v w, vs = [v, w] ∧ View G Fz am H v a ∧ View G Fz am H w b := by
  cases h with
  | cons h1 h2 =>
    cases h2 with
    | cons h3 h4 => cases h4; exact ⟨_, _, rfl, h1, h3⟩
theorem Vws.one {vs : List V} {a : D} (h : Vws G Fz am H vs [a]) : ∃ v, vs = [v] ∧ View G Fz am H v a := by
  cases h with
  | cons h1 h2 => cases h2; exact ⟨_, rfl, h1⟩
theorem reps_at {ds : List D} {vs : List V} {d : D} {i : Int} (r : Reps G Fz am H (zs ds.length) vs ds (fun _ => 0)) (h : atI ds i = some d) : ∃ v, atI vs i = some v ∧ Rep G Fz am H .z v d (fun _ => 0) := by
  unfold atI at h ⊢
  rw [r.len.2]
  cases e : ixN ds.length i with
  | none => rw [e] at h; cases h
  | some j =>
    rw [e] at h
    have h2 : ds[j]? = some d := h
    have hj : j < vs.length := by rw [r.len.2]; exact (List.getElem?_eq_some_iff.mp h2).1
    exact ⟨vs[j], List.getElem?_eq_getElem hj, reps_get r (List.getElem?_eq_getElem hj) h2⟩
end

section
variable {G : Sg}
/-- an operation upon two ints -/
@[simp] def oI2 (f : Int → Int → Option D) : Op := fun ds => match ds with
  | [.int i, .int j] => (f i j).map fun d => (.z, d)
  | _ => none
theorem v_I2 {C : Int → Int → Prop} {g : Int → Int → V} {f : Int → Int → Option D} (hf : ∀ i j d, f i j = some d → C i j ∧ Scal G (g i j) d) : VOp G (l2 (rI C g)) (oI2 f) := fun Fz am H vs ds fr d Q h1 h2 h3 => by
  unfold oI2 at h2
  split at h2
  · obtain ⟨v, w, rfl, a, b⟩ := h1.two
    obtain ⟨d', e1, e2⟩ := Option.map_eq_some_iff.mp h2
    cases e2
    obtain ⟨c, s⟩ := hf _ _ _ e1
    exact ⟨_, _, a.int, b.int, c, h3 _ H _ (same_refl H) newp0 (.sc s fun _ => rfl)⟩
  · cases h2
theorem v_I0 {g : Int → Int → V} {f : Int → Int → Option D} (hf : ∀ i j d, f i j = some d → Scal G (g i j) d) : VOp G (l2 (rI0 g)) (oI2 f) :=
  (v_I2 (C := fun _ _ => True) fun i j d e => ⟨trivial, hf i j d e⟩).imp fun vs H Q ⟨i, j, a, b, _, q⟩ => ⟨i, j, a, b, q⟩
/-- an operation upon one value whose answer is a scalar -/
@[simp] def oS1 (f : D → Option D) : Op := fun ds => match ds with
  | [a] => (f a).map fun d => (.z, d)
  | _ => none
@[simp] def oS2 (f : D → D → Option D) : Op := fun ds => match ds with
  | [a, b] => (f a b).map fun d => (.z, d)
  | _ => none
theorem v_S2 {r : R2} {f : D → D → Option D} (hf : ∀ Fz am H v w a b d Q, View G Fz am H v a → View G Fz am H w b → f a b = some d → (∀ x, Scal G x d → Q x H) → r v w H Q) : VOp G (l2 r) (oS2 f) := fun Fz am H vs ds fr d Q h1 h2 h3 => by
  unfold oS2 at h2
  split at h2
  · obtain ⟨v, w, rfl, a, b⟩ := h1.two
    obtain ⟨d', e1, e2⟩ := Option.map_eq_some_iff.mp h2
    cases e2
    exact hf _ _ _ _ _ _ _ _ _ a b e1 fun x s => h3 _ H _ (same_refl H) newp0 (.sc s fun _ => rfl)
  · cases h2
theorem v_S1 {r : V → Hp → VK → Prop} {f : D → Option D} (hf : ∀ Fz am H v a d Q, View G Fz am H v a → f a = some d → (∀ x, Scal G x d → Q x H) → r v H Q) : VOp G (l1 r) (oS1 f) := fun Fz am H vs ds fr d Q h1 h2 h3 => by
  unfold oS1 at h2
  split at h2
  · obtain ⟨v, rfl, a⟩ := h1.one
    obtain ⟨d', e1, e2⟩ := Option.map_eq_some_iff.mp h2
    cases e2
    exact hf _ _ _ _ _ _ _ a e1 fun x s => h3 _ H _ (same_refl H) newp0 (.sc s fun _ => rfl)
  · cases h2
theorem v_C1 {r : List V → Hp → VK → Prop} {f : D → Option D} (hf : ∀ Fz am H v a d Q, View G Fz am H v a → f a = some d → (∀ x, Scal G x d → Q x H) → r [v] H Q) : VOp G r (oS1 f) := fun Fz am H vs ds fr d Q h1 h2 h3 => by
  unfold oS1 at h2
  split at h2
  · obtain ⟨v, rfl, a⟩ := h1.one
    obtain ⟨d', e1, e2⟩ := Option.map_eq_some_iff.mp h2
    cases e2
    exact hf _ _ _ _ _ _ _ a e1 fun x s => h3 _ H _ (same_refl H) newp0 (.sc s fun _ => rfl)
  · cases h2
theorem v_C2 {r : List V → Hp → VK → Prop} {f : D → D → Option D} (hf : ∀ Fz am H v w a b d Q, View G Fz am H v a → View G Fz am H w b → f a b = some d → (∀ x, Scal G x d → Q x H) → r [v, w] H Q) : VOp G r (oS2 f) := fun Fz am H vs ds fr d Q h1 h2 h3 => by
  unfold oS2 at h2
  split at h2
  · obtain ⟨v, w, rfl, a, b⟩ := h1.two
    obtain ⟨d', e1, e2⟩ := Option.map_eq_some_iff.mp h2
    cases e2
    exact hf _ _ _ _ _ _ _ _ _ a b e1 fun x s => h3 _ H _ (same_refl H) newp0 (.sc s fun _ => rfl)
  · cases h2

/-! ### arithmetic -/
@[simp] def oAddI : Op := oI2 fun i j => some (.int (i + j))
@[simp] def oSubI : Op := oI2 fun i j => some (.int (i - j))
def mulOk (i j : Int) : Bool := decide (i.natAbs.log2 + j.natAbs.log2 < 1000000)
@[simp] def oMulI : Op := oI2 fun i j => bif mulOk i j then some (.int (i * j)) else none
def divOk (j : Int) : Bool := decide (j ≠ 0) && decide (j.natAbs.log2 < 9000)
@[simp] def oFdiv : Op := oI2 fun i j => bif divOk j then some (.int (i.fdiv j)) else none
@[simp] def oMod : Op := oI2 fun i j => bif decide (j ≠ 0) then some (.int (i.fmod j)) else none
def powOk (i j : Int) : Bool := decide (0 ≤ j) && decide (j ≤ 1000000) && decide (i.natAbs < 18446744073709551616)
@[simp] def oPow : Op := oI2 fun i j => bif powOk i j then some (.int (i ^ j.toNat)) else none
theorem v_addI : VOp G (l2 (rI0 fun i j => .int (i + j))) oAddI := v_I0 fun i j d e => by cases e; rfl
theorem v_subI : VOp G (l2 (rI0 fun i j => .int (i - j))) oSubI := v_I0 fun i j d e => by cases e; rfl
theorem bifS {α : Type} {c : Bool} {a b : α} (h : (bif c then some a else none) = some b) : c = true ∧ a = b := by
  cases c with
  | true => exact ⟨rfl, Option.some.inj h⟩
  | false => cases h
theorem v_mulI : VOp G (l2 (rI CMulW fun i j => .int (i * j))) oMulI := v_I2 fun i j d e => by
  obtain ⟨c, e⟩ := bifS e
  subst e
  exact ⟨by simpa [mulOk, CMulW] using c, rfl⟩
def CDivF (_ j : Int) : Prop := j ≠ 0 ∧ j.natAbs.log2 < 9000
theorem op_fdivF {X : Cx} : OpR X (binaryOp .FloorDiv) (rI CDivF fun i j => .int (i.fdiv j)) := opI fun i j _ _ _ _ _ hc q => floordiv_int hc.1 q (.inl (PyProof.noPylong_of_log2 hc.2))
theorem v_fdiv : VOp G (l2 (rI CDivF fun i j => .int (i.fdiv j))) oFdiv := v_I2 fun i j d e => by
  obtain ⟨c, e⟩ := bifS e
  subst e
  simp only [divOk, Bool.and_eq_true, decide_eq_true_eq] at c
  exact ⟨c, rfl⟩
theorem v_mod : VOp G (l2 (rI (fun _ j => j ≠ 0) fun i j => .int (i.fmod j))) oMod := v_I2 fun i j d e => by
  obtain ⟨c, e⟩ := bifS e
  subst e
  exact ⟨of_decide_eq_true c, rfl⟩
theorem v_pow : VOp G (l2 (rI CPow fun i j => .int (i ^ j.toNat))) oPow := v_I2 fun i j d e => by
  obtain ⟨c, e⟩ := bifS e
  subst e
  simp only [powOk, Bool.and_eq_true, decide_eq_true_eq] at c
  exact ⟨⟨c.1.1, c.1.2, by have := c.2; omega⟩, rfl⟩
@[simp] def oNeg : Op := oS1 fun a => match a with
  | .int i => some (.int (-i))
  | _ => none
theorem v_neg : VOp G (l1 (rU fun i => .int (-i))) oNeg := v_S1 fun Fz am H v a d Q h e q => by
  split at e
  · cases e; exact ⟨_, h.int, q _ rfl⟩
  · cases e
@[simp] def oLt : Op := oI2 fun i j => some (.bl (decide (i < j)))
@[simp] def oLe : Op := oI2 fun i j => some (.bl (decide (i ≤ j)))
@[simp] def oGt : Op := oI2 fun i j => some (.bl (decide (j < i)))
@[simp] def oGe : Op := oI2 fun i j => some (.bl (decide (j ≤ i)))
theorem v_lt : VOp G (l2 (rI0 fun i j => .bl (decide (i < j)))) oLt := v_I0 fun i j d e => by cases e; rfl
theorem v_le : VOp G (l2 (rI0 fun i j => .bl (decide (i ≤ j)))) oLe := v_I0 fun i j d e => by cases e; rfl
theorem v_gt : VOp G (l2 (rI0 fun i j => .bl (decide (j < i)))) oGt := v_I0 fun i j d e => by cases e; rfl
theorem v_ge : VOp G (l2 (rI0 fun i j => .bl (decide (j ≤ i)))) oGe := v_I0 fun i j d e => by cases e; rfl

/-- bool - bool -/
def rSubB : R2 := fun x y H Q => ∃ i j, x = .bl i ∧ y = .bl j ∧ Q (.int ((if i then 1 else 0) - (if j then 1 else 0))) H
theorem op_subB {X : Cx} : OpR X (binaryOp .Sub) rSubB := by
  intro pins s σ H x y v u Q I rx ry h
  obtain ⟨i, j, rfl, rfl, q⟩ := h
  cases rx
  cases ry
  exact sub_bool ⟨.int _, H, I.tok _, ⟨_, rfl⟩, q⟩
@[simp] def oSubB : Op := oS2 fun a b => match a, b with
  | .bl i, .bl j => some (.int ((if i then 1 else 0) - (if j then 1 else 0)))
  | _, _ => none
theorem v_subB : VOp G (l2 rSubB) oSubB := v_S2 fun Fz am H v w a b d Q h1 h2 e q => by
  split at e
  · cases e; rw [h1.bl, h2.bl]; exact ⟨_, _, rfl, rfl, q _ rfl⟩
  · cases e
@[simp] def oSub : Op := orOp oSubI oSubB
/-! ### equality -/
mutual
def D.py : D → Option PyData
  | .non => some .none
  | .bl b => some (.bool b)
  | .int i => some (.int i)
  | .str s => some (.str s)
  | .con .tup ds => (D.pys ds).map PyData.tuple
  | .con .lst ds => (D.pys ds).map PyData.list
  | .con .frl ds => (D.pys ds).map PyData.list
  | _ => none
def D.pys : List D → Option (List PyData)
  | [] => some []
  | d :: ds => match D.py d, D.pys ds with
    | some a, some b => some (a :: b)
    | _, _ => none
end
section
variable {Fz : Addr → Prop} {am : List Addr} {H : Hp}
mutual
theorem rep_dp : ∀ (d : D) {f : Fr} {v : V} {n : Fp} {e : PyData}, Rep G Fz am H f v d n → d.py = some e → Dp G.K H v e
  | .non, f, v, n, e, r, h => by
    cases r with
    | sc s _ => unfold D.py at h; cases h; cases v <;> first | exact .non | exact s.elim
  | .bl b, f, v, n, e, r, h => by
    cases r with
    | sc s _ => unfold D.py at h; cases h; cases v <;> first | (cases (show _ = b from s); exact .bl _) | exact s.elim
  | .int b, f, v, n, e, r, h => by
    cases r with
    | sc s _ => unfold D.py at h; cases h; cases v <;> first | (cases (show _ = b from s); exact .int _) | exact s.elim
  | .str b, f, v, n, e, r, h => by
    cases r with
    | sc s _ => unfold D.py at h; cases h; cases v <;> first | (cases (show _ = b from s); exact .str _) | exact s.elim
  | .fnv k, f, v, n, e, r, h => by unfold D.py at h; cases h
  | .ref k, f, v, n, e, r, h => by unfold D.py at h; cases h
  | .con .tup ds, f, v, n, e, r, h => by
    unfold D.py at h
    obtain ⟨es, e1, e2⟩ := Option.map_eq_some_iff.mp h
    subst e2
    cases r with
    | sc s _ => cases v <;> exact s.elim
    | zz a b c => exact .tup a (reps_dp ds b e1)
    | tp a b => exact .tup a (reps_dp ds b e1)
    | cc a b c => exact absurd rfl a.1.1
  | .con .lst ds, f, v, n, e, r, h => by
    unfold D.py at h
    obtain ⟨es, e1, e2⟩ := Option.map_eq_some_iff.mp h
    subst e2
    cases r with
    | sc s _ => cases v <;> exact s.elim
    | zz a b c =>
      obtain ⟨_, o, a1, a2⟩ := a
      have e2 : o = .lst _ := a2
      subst e2
      exact .lst (.inl (.inl a1)) (reps_dp ds b e1)
    | cc a b c =>
      obtain ⟨_, o, a1, a2⟩ := a
      have e2 : o = .lst _ := a2
      subst e2
      exact .lst (.inl (.inl a1)) (reps_dp ds b e1)
  | .con .frl ds, f, v, n, e, r, h => by
    unfold D.py at h
    obtain ⟨es, e1, e2⟩ := Option.map_eq_some_iff.mp h
    subst e2
    cases r with
    | sc s _ => cases v <;> exact s.elim
    | zz a b c =>
      refine .lst ?_ (reps_dp ds b e1)
      rcases a with ⟨_, h⟩ | (h | ⟨_, h⟩) | h
      · exact .inl h
      · cases h
      · cases h
      · exact .inr h
    | cc a b c => exact absurd rfl a.1.2
  | .con (.dik ks) ds, f, v, n, e, r, h => by unfold D.py at h; cases h
  | .con (.dit ks) ds, f, v, n, e, r, h => by unfold D.py at h; cases h
  | .con (.ins c) ds, f, v, n, e, r, h => by unfold D.py at h; cases h
theorem reps_dp : ∀ (ds : List D) {fs : List Fr} {vs : List V} {n : Fp} {es : List PyData}, Reps G Fz am H fs vs ds n → D.pys ds = some es → DpAll G.K H vs es
  | [], fs, vs, n, es, r, h => by
    cases r
    unfold D.pys at h
    cases h
    exact .nil
  | d :: ds, fs, vs, n, es, r, h => by
    unfold D.pys at h
    split at h
    · rename_i a b ea eb
      cases h
      cases r with
      | cons r1 r2 _ => exact .cons (rep_dp d r1 ea) (reps_dp ds r2 eb)
    · cases h
end
theorem view_dp {d : D} {v : V} {e : PyData} (h : View G Fz am H v d) (he : d.py = some e) : Dp G.K H v e := by
  have main : ∀ {k : Kd} {ds : List D}, k.seq = true → View G Fz am H v (.con k ds) → ∀ {es}, D.pys ds = some es → ((k = .tup → Dp G.K H v (.tuple es)) ∧ (k.sq = true → Dp G.K H v (.list es))) := fun {k ds} hk h {es} e1 => by
    constructor
    · intro e
      subst e
      obtain ⟨p, vs, rfl, r, s⟩ := h.tup
      exact .tup r (reps_dp ds s e1)
    · intro e
      obtain ⟨p, vs, rfl, r, s⟩ := h.sq e
      exact .lst r (reps_dp ds s e1)
  cases d with
  | non => unfold D.py at he; cases he; rw [h.non]; exact .non
  | bl b => unfold D.py at he; cases he; rw [h.bl]; exact .bl _
  | int b => unfold D.py at he; cases he; rw [h.int]; exact .int _
  | str b => unfold D.py at he; cases he; rw [h.str]; exact .str _
  | fnv k => unfold D.py at he; cases he
  | ref k => unfold D.py at he; cases he
  | con k ds =>
    cases k with
    | tup =>
      unfold D.py at he
      obtain ⟨es, e1, e2⟩ := Option.map_eq_some_iff.mp he
      subst e2
      exact (main rfl h e1).1 rfl
    | lst =>
      unfold D.py at he
      obtain ⟨es, e1, e2⟩ := Option.map_eq_some_iff.mp he
      subst e2
      exact (main rfl h e1).2 rfl
    | frl =>
      unfold D.py at he
      obtain ⟨es, e1, e2⟩ := Option.map_eq_some_iff.mp he
      subst e2
      exact (main rfl h e1).2 rfl
    | dik ks => unfold D.py at he; cases he
    | dit ks => unfold D.py at he; cases he
    | ins c => unfold D.py at he; cases he
end
/-- equality as data -/
def eqD (a b : D) : Option Bool := match a.py, b.py with
  | some x, some y => bif SeqAt.shaped x && SeqAt.shaped y then some (PyData.eqv x y) else none
  | _, _ => none
@[simp] def oEq : Op := oS2 fun a b => (eqD a b).map D.bl
@[simp] def oNe : Op := oS2 fun a b => (eqD a b).map fun c => D.bl (!c)
theorem eqD_some {a b : D} {c : Bool} (h : eqD a b = some c) : ∃ x y, a.py = some x ∧ b.py = some y ∧ SeqAt.shaped x = true ∧ SeqAt.shaped y = true ∧ PyData.eqv x y = c := by
  unfold eqD at h
  split at h
  · rename_i x y e1 e2
    obtain ⟨c1, c2⟩ := bifS h
    rw [Bool.and_eq_true] at c1
    exact ⟨x, y, e1, e2, c1.1, c1.2, c2⟩
  · cases h
theorem v_eq : VOp G (l2 (rEqD G.K)) oEq := v_S2 fun Fz am H v w a b d Q h1 h2 e q => by
  obtain ⟨c, e1, e2⟩ := Option.map_eq_some_iff.mp e
  subst e2
  obtain ⟨x, y, a1, a2, a3, a4, a5⟩ := eqD_some e1
  exact ⟨x, y, view_dp h1 a1, view_dp h2 a2, a3, a4, q _ a5⟩
theorem v_ne : VOp G (l2 (rNeD G.K)) oNe := v_S2 fun Fz am H v w a b d Q h1 h2 e q => by
  obtain ⟨c, e1, e2⟩ := Option.map_eq_some_iff.mp e
  subst e2
  obtain ⟨x, y, a1, a2, a3, a4, a5⟩ := eqD_some e1
  refine ⟨x, y, view_dp h1 a1, view_dp h2 a2, a3, a4, q _ ?_⟩
  rw [a5]
  exact rfl
/-- is None -/
@[simp] def isN (a : D) : Option Bool := match a with
  | .non => some true
  | .fnv _ => none
  | _ => some false
@[simp] def oIsN : Op := oS2 fun a b => match b with
  | .non => (isN a).map D.bl
  | _ => none
@[simp] def oNotN : Op := oS2 fun a b => match b with
  | .non => (isN a).map fun c => D.bl (!c)
  | _ => none
theorem isN_some {a : D} {c : Bool} (h : isN a = some c) : (∀ k, a ≠ .fnv k) ∧ (a = .non ↔ c = true) := by
  cases a <;> simp_all [isN]
theorem v_isN : VOp G (l2 fun x y H Q => y = .non ∧ Q (.bl (decide (x = .non))) H) oIsN := v_S2 fun Fz am H v w a b d Q h1 h2 e q => by
  split at e
  · obtain ⟨c, e1, e2⟩ := Option.map_eq_some_iff.mp e
    subst e2
    obtain ⟨a1, a2⟩ := isN_some e1
    refine ⟨h2.non, q _ ?_⟩
    have := h1.nonI a1
    show decide (v = .non) = c
    cases c <;> simp_all
  · cases e
theorem v_notN : VOp G (l2 fun x y H Q => y = .non ∧ Q (.bl (!decide (x = .non))) H) oNotN := v_S2 fun Fz am H v w a b d Q h1 h2 e q => by
  split at e
  · obtain ⟨c, e1, e2⟩ := Option.map_eq_some_iff.mp e
    subst e2
    obtain ⟨a1, a2⟩ := isN_some e1
    refine ⟨h2.non, q _ ?_⟩
    have := h1.nonI a1
    show (!decide (v = .non)) = !c
    cases c <;> simp_all
  · cases e

/-! ### sequences -/
@[simp] def oIx : Op := fun ds => match ds with
  | [.con k xs, .int i] => bif k.seq then (atI xs i).map fun d => (.z, d) else none
  | _ => none
theorem v_ix : VOp G (l2 (rIx G.K)) oIx := fun Fz am H vs ds fr d Q h1 h2 h3 => by
  unfold oIx at h2
  split at h2
  · rename_i k xs i
    obtain ⟨v, w, rfl, a, b⟩ := h1.two
    cases hk : k.seq with
    | false => rw [hk] at h2; cases h2
    | true =>
      rw [hk] at h2
      obtain ⟨d', e1, e2⟩ := Option.map_eq_some_iff.mp h2
      cases e2
      obtain ⟨p, ys, e, r, s⟩ := a.seq hk
      obtain ⟨x, e3, r3⟩ := reps_at s e1
      have q := h3 x H _ (same_refl H) newp0 r3
      rcases r with r | r
      · exact .inl ⟨p, ys, i, x, e, b.int, r, e3, q⟩
      · exact .inr (.inl ⟨p, ys, i, x, e, b.int, r, e3, q⟩)
  · cases h2
@[simp] def oLen : Op := oS1 fun a => match a with
  | .con k xs => bif k.seq then some (.int xs.length) else none
  | _ => none
theorem v_len : VOp G (fun xs H Q => ∃ p ys, xs = [.ref p] ∧ (SqL G.K H p ys ∨ SqT G.K H p ys) ∧ Q (.int ys.length) H) oLen := v_C1 fun Fz am H v a d Q h e q => by
  split at e
  · rename_i k xs
    obtain ⟨hk, e2⟩ := bifS e
    subst e2
    obtain ⟨p, ys, rfl, r, s⟩ := h.seq hk
    refine ⟨p, ys, rfl, r, q _ ?_⟩
    show (ys.length : Int) = xs.length
    rw [s.len.2]
  · cases e
/-- a new list -/
theorem fresh_lst {Fz : Addr → Prop} {am : List Addr} {H : Hp} {vs : List V} {ds : List D} {Q : VK} (s : Reps G Fz am H (zs ds.length) vs ds (fun _ => 0))
    (h : ∀ v H' n, Same H H' → Newp H H' n → Rep G Fz am H' (.c .z) v (.con .lst ds) n → Q v H') : ∀ p, H p = none → Q (.ref p) (upd H p (.lst vs)) := fun p hp =>
  h (.ref p) _ (one1 p) (same_upd hp) (newp1 hp trivial) (rep_lst (Ext.same (same_upd hp) fun _ h => h) s)
theorem fresh_tup {Fz : Addr → Prop} {am : List Addr} {H : Hp} {vs : List V} {ds : List D} {Q : VK} (s : Reps G Fz am H (zs ds.length) vs ds (fun _ => 0))
    (h : ∀ v H' n, Same H H' → Newp H H' n → Rep G Fz am H' .z v (.con .tup ds) n → Q v H') : ∀ p, H p = none → Q (.ref p) (upd H p (.tup vs)) := fun p hp =>
  h (.ref p) _ (fun _ => 0) (same_upd hp) newp0 (rep_tup (Ext.same (same_upd hp) fun _ h => h) s)
@[simp] def oList : Op := fun ds => match ds with
  | [.con k xs] => bif k.seq then some (.c .z, .con .lst xs) else none
  | _ => none
theorem v_list : VOp G (fun xs H Q => ∃ p ys, xs = [.ref p] ∧ (SqL G.K H p ys ∨ SqT G.K H p ys) ∧ ∀ l, H l = none → Q (.ref l) (upd H l (.lst ys))) oList := fun Fz am H vs ds fr d Q h1 h2 h3 => by
  unfold oList at h2
  split at h2
  · rename_i k xs
    obtain ⟨v, rfl, a⟩ := h1.one
    obtain ⟨hk, e2⟩ := bifS h2
    cases e2
    obtain ⟨p, ys, rfl, r, s⟩ := a.seq hk
    exact ⟨p, ys, rfl, r, fresh_lst s h3⟩
  · cases h2
@[simp] def oTuple : Op := fun ds => match ds with
  | [.con k xs] => bif k.seq then some (.z, .con .tup xs) else none
  | _ => none
theorem v_tuple : VOp G (fun xs H Q => ∃ p ys, xs = [.ref p] ∧ ((SqL G.K H p ys ∧ ∀ l, H l = none → Q (.ref l) (upd H l (.tup ys))) ∨ (SqT G.K H p ys ∧ Q (.ref p) H))) oTuple := fun Fz am H vs ds fr d Q h1 h2 h3 => by
  unfold oTuple at h2
  split at h2
  · rename_i k xs
    obtain ⟨v, rfl, a⟩ := h1.one
    obtain ⟨hk, e2⟩ := bifS h2
    cases e2
    cases k with
    | tup =>
      obtain ⟨p, ys, rfl, r, s⟩ := a.tup
      exact ⟨p, ys, rfl, .inr ⟨r, h3 _ H _ (same_refl H) newp0 (.zz (k := .tup) r s fun _ => rfl)⟩⟩
    | lst =>
      obtain ⟨p, ys, rfl, r, s⟩ := a.sq rfl
      exact ⟨p, ys, rfl, .inl ⟨r, fresh_tup s h3⟩⟩
    | frl =>
      obtain ⟨p, ys, rfl, r, s⟩ := a.sq rfl
      exact ⟨p, ys, rfl, .inl ⟨r, fresh_tup s h3⟩⟩
    | _ => cases hk
  · cases h2
/-! + by cases -/
@[simp] def oAddS : Op := oS2 fun a b => match a, b with
  | .str x, .str y => bif (x.length + y.length).ble 16777216 then some (.str (x ++ y)) else none
  | _, _ => none
theorem v_addS : VOp G (l2 fun x y H Q => ∃ i j, x = .str i ∧ y = .str j ∧ i.length + j.length ≤ sizeLine ∧ Q (.str (i ++ j)) H) oAddS := v_S2 fun Fz am H v w a b d Q h1 h2 e q => by
  split at e
  · obtain ⟨hk, e2⟩ := bifS e
    subst e2
    exact ⟨_, _, h1.str, h2.str, line24 hk, q _ rfl⟩
  · cases e
@[simp] def oAddL : Op := fun ds => match ds with
  | [.con .lst xs, .con .lst ys] => bif (xs.length + ys.length).ble 16777216 then some (.c .z, .con .lst (xs ++ ys)) else none
  | _ => none
theorem Reps.cat {Fz : Addr → Prop} {am : List Addr} {H : Hp} {vs ws : List V} {xs ys : List D} (s : Reps G Fz am H (zs xs.length) vs xs (fun _ => 0)) (s2 : Reps G Fz am H (zs ys.length) ws ys (fun _ => 0)) : Reps G Fz am H (zs (xs ++ ys).length) (vs ++ ws) (xs ++ ys) (fun _ => 0) := by
  have := Reps.app s2 s
  have e : zs xs.length ++ zs ys.length = zs (xs ++ ys).length := by
    unfold zs
    rw [List.replicate_append_replicate, List.length_append]
  rw [e] at this
  exact this
theorem v_addL : VOp G (l2 rCat) oAddL := fun Fz am H vs ds fr d Q h1 h2 h3 => by
  unfold oAddL at h2
  split at h2
  · rename_i xs ys
    obtain ⟨v, w, rfl, a, b⟩ := h1.two
    obtain ⟨hk, e2⟩ := bifS h2
    cases e2
    obtain ⟨p, as, e, r, s⟩ := a.lst
    obtain ⟨p2, bs, e', r2, s2⟩ := b.lst
    exact ⟨p, p2, as, bs, e, e', r, r2, by rw [s.len.2, s2.len.2]; exact line24 hk, fresh_lst (s.cat s2) h3⟩
  · cases h2
@[simp] def oAddT : Op := fun ds => match ds with
  | [.con .tup xs, .con .tup ys] => bif (xs.length + ys.length).ble 16777216 then some (.z, .con .tup (xs ++ ys)) else none
  | _ => none
theorem Reps.nilD {Fz : Addr → Prop} {am : List Addr} {H : Hp} {fs : List Fr} {n : Fp} {vs : List V} {xs : List D} (s : Reps G Fz am H fs vs xs n) : vs = [] ↔ xs = [] := by
  constructor <;> intro e <;> subst e <;> cases s <;> rfl
theorem v_addT : VOp G (l2 (rCatA G.K)) oAddT := fun Fz am H vs ds fr d Q h1 h2 h3 => by
  unfold oAddT at h2
  split at h2
  · rename_i xs ys
    obtain ⟨v, w, rfl, a, b⟩ := h1.two
    obtain ⟨hk, e2⟩ := bifS h2
    cases e2
    obtain ⟨p, as, e, r, s⟩ := a.tup
    obtain ⟨p2, bs, e', r2, s2⟩ := b.tup
    refine ⟨p, p2, as, bs, e, e', r, r2, by rw [s.len.2, s2.len.2]; exact line24 hk, fun z => ?_, fun z z2 => ?_, fun _ _ => fresh_tup (s.cat s2) h3⟩
    · have z' := s.nilD.mp z
      subst z'
      exact h3 _ H _ (same_refl H) newp0 (.zz (k := .tup) r2 s2 fun _ => rfl)
    · have z' := s2.nilD.mp z2
      subst z'
      rw [List.append_nil] at h3
      exact h3 _ H _ (same_refl H) newp0 (.zz (k := .tup) r s fun _ => rfl)
  · cases h2
@[simp] def oAdd : Op := orOp oAddI (orOp oAddS (orOp oAddL oAddT))
/-! * by cases -/
@[simp] def oMulL : Op := fun ds => match ds with
  | [.con .lst xs, .int k] => bif decide (-16777216 ≤ k) && decide (k ≤ 16777216) && (xs.length * k.toNat).ble 16777216 then some (.c .z, .con .lst (List.replicate k.toNat xs).flatten) else none
  | _ => none
theorem Reps.rep {Fz : Addr → Prop} {am : List Addr} {H : Hp} {vs : List V} {xs : List D} (s : Reps G Fz am H (zs xs.length) vs xs (fun _ => 0)) : ∀ k : Nat, Reps G Fz am H (zs (List.replicate k xs).flatten.length) (List.replicate k vs).flatten (List.replicate k xs).flatten (fun _ => 0)
  | 0 => .nil fun _ => rfl
  | k + 1 => by
    rw [List.replicate_succ, List.replicate_succ, List.flatten_cons, List.flatten_cons]
    exact s.cat (Reps.rep s k)
theorem v_mulL : VOp G (l2 rRep) oMulL := fun Fz am H vs ds fr d Q h1 h2 h3 => by
  unfold oMulL at h2
  split at h2
  · rename_i xs k
    obtain ⟨v, w, rfl, a, b⟩ := h1.two
    obtain ⟨hk, e2⟩ := bifS h2
    cases e2
    simp only [Bool.and_eq_true, decide_eq_true_eq] at hk
    obtain ⟨p, as, e, r, s⟩ := a.lst
    exact ⟨p, k, as, e, b.int, r, by omega, by omega, by rw [s.len.2]; exact line24 hk.2, fresh_lst (s.rep _) h3⟩
  · cases h2
@[simp] def oMul : Op := orOp oMulI oMulL
/-! two ints, one -/
@[simp] def oMin2 : Op := oI2 fun i j => some (.int (if j < i then j else i))
@[simp] def oMax2 : Op := oI2 fun i j => some (.int (if j > i then j else i))
theorem v_min2 : VOp G (fun xs H Q => ∃ i j, xs = [.int i, .int j] ∧ Q (.int (if j < i then j else i)) H) oMin2 := fun Fz am H vs ds fr d Q h1 h2 h3 => by
  unfold oMin2 oI2 at h2
  split at h2
  · cases h2
    obtain ⟨v, w, rfl, a, b⟩ := h1.two
    rw [a.int, b.int]
    exact ⟨_, _, rfl, h3 _ H _ (same_refl H) newp0 (.sc rfl fun _ => rfl)⟩
  · cases h2
theorem v_max2 : VOp G (fun xs H Q => ∃ i j, xs = [.int i, .int j] ∧ Q (.int (if j > i then j else i)) H) oMax2 := fun Fz am H vs ds fr d Q h1 h2 h3 => by
  unfold oMax2 oI2 at h2
  split at h2
  · cases h2
    obtain ⟨v, w, rfl, a, b⟩ := h1.two
    rw [a.int, b.int]
    exact ⟨_, _, rfl, h3 _ H _ (same_refl H) newp0 (.sc rfl fun _ => rfl)⟩
  · cases h2
@[simp] def oAbs : Op := oS1 fun a => match a with
  | .int i => some (.int (if i < 0 then -i else i))
  | _ => none
theorem v_abs : VOp G (fun xs H Q => ∃ i, xs = [.int i] ∧ Q (.int (if i < 0 then -i else i)) H) oAbs := v_C1 fun Fz am H v a d Q h e q => by
  split at e
  · cases e; rw [h.int]; exact ⟨_, rfl, q _ rfl⟩
  · cases e
@[simp] def oInt1 : Op := oS1 fun a => match a with
  | .int i => some (.int i)
  | .bl k => some (.int (if k then 1 else 0))
  | _ => none
theorem v_int1 : VOp G (fun xs H Q => (∃ i, xs = [.int i] ∧ Q (.int i) H) ∨ ∃ k, xs = [.bl k] ∧ Q (.int (if k then 1 else 0)) H) oInt1 := v_C1 fun Fz am H v a d Q h e q => by
  split at e
  · cases e; rw [h.int]; exact .inl ⟨_, rfl, q _ rfl⟩
  · cases e; rw [h.bl]; exact .inr ⟨_, rfl, q _ rfl⟩
  · cases e
/-! all, any of a list of bools -/
theorem scal_bl {v : V} {b : Bool} (h : Scal G v (.bl b)) : v = .bl b := by cases v <;> first | exact congrArg V.bl h | exact h.elim
@[simp] def bools : List D → Option (List Bool)
  | [] => some []
  | .bl b :: ds => (bools ds).map (b :: ·)
  | _ => none
theorem bools_reps {Fz : Addr → Prop} {am : List Addr} {H : Hp} : ∀ {ds : List D} {fs : List Fr} {vs : List V} {n : Fp} {bs : List Bool}, Reps G Fz am H fs vs ds n → bools ds = some bs → vs = bs.map V.bl
  | [], _, _, _, bs, r, h => by cases r; cases h; rfl
  | .bl b :: ds, _, _, _, bs, r, h => by
    obtain ⟨bs', e1, e2⟩ := Option.map_eq_some_iff.mp h
    subst e2
    cases r with
    | cons r1 r2 _ =>
      rw [bools_reps r2 e1]
      cases r1 with
      | sc s _ => rw [scal_bl s]; rfl
@[simp] def oAll : Op := oS1 fun a => match a with
  | .con k xs => bif k.sq then (bools xs).map fun bs => .bl (bs.all id) else none
  | _ => none
@[simp] def oAny : Op := oS1 fun a => match a with
  | .con k xs => bif k.sq then (bools xs).map fun bs => .bl (bs.any id) else none
  | _ => none
theorem v_all : VOp G (rAll G.K) oAll := v_C1 fun Fz am H v a d Q h e q => by
  split at e
  · rename_i k xs
    cases hk : k.sq with
    | false => rw [hk] at e; cases e
    | true =>
      rw [hk] at e
      obtain ⟨bs, e1, e2⟩ := Option.map_eq_some_iff.mp e
      subst e2
      obtain ⟨p, vs, rfl, r, s⟩ := h.sq hk
      exact ⟨p, bs, rfl, bools_reps s e1 ▸ r, q _ rfl⟩
  · cases e
theorem v_any : VOp G (rAny G.K) oAny := v_C1 fun Fz am H v a d Q h e q => by
  split at e
  · rename_i k xs
    cases hk : k.sq with
    | false => rw [hk] at e; cases e
    | true =>
      rw [hk] at e
      obtain ⟨bs, e1, e2⟩ := Option.map_eq_some_iff.mp e
      subst e2
      obtain ⟨p, vs, rfl, r, s⟩ := h.sq hk
      exact ⟨p, bs, rfl, bools_reps s e1 ▸ r, q _ rfl⟩
  · cases e
end
end Hx

set_option Elab.async false
set_option linter.all false
set_option maxRecDepth 100000
set_option autoImplicit false
/-! F10: writing: cells, owned slots; the rules of the operators by name; slices; isinstance; chains. -/
namespace Hx
open PySem PySem.Spec L2
open PyProof.Rows hiding St

section
variable {G : Sg} {g : Gd} {env : Env} {st st' : Store} {T T' : List Tm} {σ : St} {H H' : Hp} {Fz : Addr → Prop} {am : List Addr}
theorem Reps.updAt : ∀ {fs : List Fr} {vs : List V} {ds : List D} {n : Fp} {i : Nat} {xs : List D}, Reps G Fz am H fs vs ds n → (∀ q, n q ≤ 1) → fs[i]? = some (.c .z) → ds[i]? = some (.con .lst xs) →
    ∃ A acc, vs[i]? = some (.ref A) ∧ H A = some (.lst acc) ∧ Reps G Fz am H (zs xs.length) acc xs (fun _ => 0) ∧ 0 < n A ∧
      ∀ acc' xs', Reps G Fz am H (zs xs'.length) acc' xs' (fun _ => 0) → Ext Fz am H Fz am (upd H A (.lst acc')) → Reps G Fz am (upd H A (.lst acc')) fs vs (ds.set i (.con .lst xs')) n
  | [], _, _, _, i, xs, r, _, e1, e2 => by simp at e1
  | f0 :: fs, _, _, _, i, xs, r, hn, e1, e2 => by
    cases r with
    | @cons _ _ _ _ _ _ n1 n2 _ h1 h2 h3 =>
      cases i with
      | zero =>
        simp at e1 e2
        subst e1 e2
        cases h1 with
        | @cc A _ acc _ _ _ m a1 a2 a3 =>
          obtain ⟨_, o, b1, b2⟩ := a1
          have e0 : o = .lst acc := b2
          subst e0
          have m0 := Reps.z0 (k := xs.length) a2
          have hA : 0 < n1 A := by rw [a3]; simp
          have z2 : n2 A = 0 := by have := hn A; rw [h3] at this; omega
          refine ⟨A, acc, by simp, b1, a2.fp m0, by rw [h3]; omega, fun acc' xs' s E => ?_⟩
          refine .cons (.cc (m := fun _ => 0) ⟨by decide, _, upd_same, rfl⟩ (Reps.ext E s fun p u hp => absurd hp (Nat.lt_irrefl 0)) fun q => by rw [a3, m0]) (Reps.ext E h2 (upd_keep z2)) h3
      | succ i =>
        obtain ⟨A, acc, a, b, c, d, k⟩ := Reps.updAt (i := i) (xs := xs) h2 (fun q => by have := hn q; rw [h3] at this; omega) (by simpa using e1) (by simpa using e2)
        have z1 : n1 A = 0 := by have := hn A; rw [h3] at this; omega
        exact ⟨A, acc, by simpa using a, b, c, by rw [h3]; omega, fun acc' xs' s E => .cons (Rep.ext E h1 (upd_keep z1)) (k acc' xs' s E) h3⟩
theorem StoR.updAt {ns : Fp} {c : Nat} {xs : List D} (r : StoR G Fz am H st ns) (hn : ∀ q, ns q ≤ 1) (e : st[c]? = some (.c .z, .con .lst xs)) :
    ∃ A acc, am[c]? = some A ∧ H A = some (.lst acc) ∧ Reps G Fz am H (zs xs.length) acc xs (fun _ => 0) ∧ 0 < ns A ∧
      ∀ acc' xs', Reps G Fz am H (zs xs'.length) acc' xs' (fun _ => 0) → Ext Fz am H Fz am (upd H A (.lst acc')) → StoR G Fz am (upd H A (.lst acc')) (st.set c (.c .z, .con .lst xs')) ns := by
  obtain ⟨A, acc, a, b, s, d, k⟩ := Reps.updAt (i := c) (xs := xs) r hn (by simp [e]) (by simp [e])
  refine ⟨A, acc, ?_, b, s, d, fun acc' xs' s' E => ?_⟩
  · rw [List.getElem?_map] at a
    obtain ⟨p, a1, a2⟩ := Option.map_eq_some_iff.mp a
    cases a2
    exact a1
  · have := k acc' xs' s' E
    unfold StoR
    rw [List.map_set, List.map_set]
    have e1 : (st.map (·.1)).set c (.c .z) = st.map (·.1) := by
      apply List.ext_getElem?
      intro j
      rw [List.getElem?_set]
      split
      · rename_i h
        subst h
        split
        · simp [e]
        · rename_i h; rw [List.getElem?_eq_none (by simpa using h)]
      · rfl
    show Reps G Fz am _ ((st.map (·.1)).set c (.c .z)) _ _ _
    rw [e1]
    exact this
/-- a cell is written -/
theorem Rl.wrc {x v : V} {fv : Fr} {bv : Bool} {c : Nat} {xs xs' : List D} {d : D} {fV : List V → List V} (R : Rl G g env st (⟨v, fv, .ref c, bv⟩ :: ⟨x, .z, d, false⟩ :: T) σ H) (e : st[c]? = some (.c .z, .con .lst xs))
    (up : ∀ Fz am acc, Reps G Fz am H (zs xs.length) acc xs (fun _ => 0) → Rep G Fz am H .z x d (fun _ => 0) → Reps G Fz am H (zs xs'.length) (fV acc) xs' (fun _ => 0)) :
    ∃ A acc, v = .ref A ∧ H A = some (.lst acc) ∧ acc.length = xs.length ∧ Rl G g env (st.set c (.c .z, .con .lst xs')) T σ (upd H A (.lst (fV acc))) := by
  obtain ⟨Fz, am, ne, nt, ns, h1, h2, h3, h4, h5⟩ := R
  obtain ⟨A, acc, a1, a2, a3, a4, a5⟩ := StoR.updAt h3 (fun q => by have := h4.n1 q; omega) e
  have hv : v = .ref A ∧ ∃ nt', TmR G Fz am H ne (⟨x, .z, d, false⟩ :: T) nt' ∧ ∀ q, nt' q ≤ nt q := by
    have key : ∀ {n : Fp}, Rep G Fz am H fv v (.ref c) n → v = .ref A := fun {n} r => by
      cases r with
      | sc s _ => cases v <;> exact s.elim
      | rf s _ => rw [a1] at s; cases s; rfl
    cases h2 with
    | own k1 k2 k3 => exact ⟨key k1, _, k2, fun q => by rw [k3]; omega⟩
    | bor k1 k2 k3 => exact ⟨key k1, _, k3, fun q => Nat.le_refl _⟩
  obtain ⟨hv, nt', k, kl⟩ := hv
  cases k with
  | @own _ _ _ _ n1 n2 _ j1 j2 j3 =>
    have hA : 0 < ne A + nt A + ns A := by omega
    have le := h4.n1 A
    have z1 : ne A = 0 := by omega
    have z2 : n2 A = 0 := by have := kl A; rw [j3] at this; omega
    have E := h4.wext (o := .lst (fV acc)) hA
    refine ⟨A, acc, hv, a2, a3.len.2, Fz, am, ne, n2, ns, h1.ext E (upd_keep z1), j2.ext E (upd_keep z2) (upd_keep z1), a5 _ _ (up _ _ _ a3 (j1.fp j1.z0)) E, (h4.wrel (o := .lst (fV acc)) hA trivial).less fun q => ?_, trivial⟩
    show ne q + n2 q + ns q ≤ _
    have := kl q; rw [j3] at this; omega
theorem EnvR.updAt {ne : Fp} (r : EnvR G Fz am H env σ ne) : (∀ q, ne q ≤ 1) → ∀ {i : Nat} {xs : List D}, env[i]? = some (some (.c .z, .con .lst xs)) →
    ∃ A acc, σ[i]? = some (some (.ref A)) ∧ H A = some (.lst acc) ∧ Reps G Fz am H (zs xs.length) acc xs (fun _ => 0) ∧ 0 < ne A ∧
      ∀ acc' xs', Reps G Fz am H (zs xs'.length) acc' xs' (fun _ => 0) → Ext Fz am H Fz am (upd H A (.lst acc')) → EnvR G Fz am (upd H A (.lst acc')) (env.set i (some (.c .z, .con .lst xs'))) σ ne := by
  induction r with
  | nil h => intro _ i xs e; simp at e
  | @som f' d' v env σ n1 n2 n h1 h2 h3 ih =>
    intro hn i xs e
    cases i with
    | zero =>
      simp at e
      obtain ⟨rfl, rfl⟩ := e
      cases h1 with
      | @cc A _ acc _ _ _ m a1 a2 a3 =>
        obtain ⟨_, o, b1, b2⟩ := a1
        have e0 : o = .lst acc := b2
        subst e0
        have m0 := Reps.z0 (k := xs.length) a2
        have hA : 0 < n1 A := by rw [a3]; simp
        have z2 : n2 A = 0 := by have := hn A; rw [h3] at this; omega
        refine ⟨A, acc, by simp, b1, a2.fp m0, by rw [h3]; omega, fun acc' xs' s E => ?_⟩
        exact .som (.cc (m := fun _ => 0) ⟨by decide, _, upd_same, rfl⟩ (Reps.ext E s fun p u hp => absurd hp (Nat.lt_irrefl 0)) fun q => by rw [a3, m0]) (h2.ext E (upd_keep z2)) h3
    | succ i =>
      obtain ⟨A, acc, a, b, c, d, k⟩ := ih (fun q => by have := hn q; rw [h3] at this; omega) (i := i) (xs := xs) (by simpa using e)
      have z1 : n1 A = 0 := by have := hn A; rw [h3] at this; omega
      exact ⟨A, acc, by simpa using a, b, c, by rw [h3]; omega, fun acc' xs' s E => .som (Rep.ext E h1 (upd_keep z1)) (k acc' xs' s E) h3⟩
  | @non x env σ n h ih =>
    intro hn i xs e
    cases i with
    | zero => simp at e
    | succ i =>
      obtain ⟨A, acc, a, b, c, d, k⟩ := ih hn (i := i) (xs := xs) (by simpa using e)
      exact ⟨A, acc, by simpa using a, b, c, d, fun acc' xs' s E => .non (k acc' xs' s E)⟩
/-- an owned list in a slot is written -/
theorem Rl.wre {x : V} {i : Nat} {xs xs' : List D} {d : D} {fV : List V → List V} (R : Rl G g env st (⟨x, .z, d, false⟩ :: T) σ H) (hT : noBor T) (e : env[i]? = some (some (.c .z, .con .lst xs)))
    (up : ∀ Fz am acc, Reps G Fz am H (zs xs.length) acc xs (fun _ => 0) → Rep G Fz am H .z x d (fun _ => 0) → Reps G Fz am H (zs xs'.length) (fV acc) xs' (fun _ => 0)) :
    ∃ A acc, σ[i]? = some (some (.ref A)) ∧ H A = some (.lst acc) ∧ acc.length = xs.length ∧ Rl G g (env.set i (some (.c .z, .con .lst xs'))) st T σ (upd H A (.lst (fV acc))) := by
  obtain ⟨Fz, am, ne, nt, ns, h1, h2, h3, h4, h5⟩ := R
  obtain ⟨A, acc, a1, a2, a3, a4, a5⟩ := EnvR.updAt h1 (fun q => by have := h4.n1 q; omega) e
  cases h2 with
  | @own _ _ _ _ n1 n2 _ j1 j2 j3 =>
    have hA : 0 < ne A + nt A + ns A := by omega
    have le := h4.n1 A
    have z1 : ns A = 0 := by omega
    have z2 : n2 A = 0 := by have := h4.n1 A; rw [j3] at this; omega
    have E := h4.wext (o := .lst (fV acc)) hA
    refine ⟨A, acc, a1, a2, a3.len.2, Fz, am, ne, n2, ns, a5 _ _ (up _ _ _ a3 (j1.fp j1.z0)) E, ?_, Reps.ext E h3 (upd_keep z1), (h4.wrel (o := .lst (fV acc)) hA trivial).less fun q => ?_, trivial⟩
    · exact (j2.nb hT).ext (ne := fun _ => 0) E (upd_keep z2) (fun _ _ hp => absurd hp (Nat.lt_irrefl 0)) |>.nb hT
    · show ne q + n2 q + ns q ≤ _
      rw [j3]; omega
/-- a slot's thing becomes a cell -/
theorem Rl.pub {i : Nat} {f : Fr} {k : Kd} {ds : List D} (R : Rl G g env st T σ H) (hT : noBor T) (e : env[i]? = some (some (f, .con k ds))) : Rl G g (env.set i (some (.z, .ref st.length))) (st ++ [(f, .con k ds)]) T σ H := by
  obtain ⟨Fz, am, ne, nt, ns, h1, h2, h3, h4, h5⟩ := R
  obtain ⟨v, m, n', a1, a2, a3, a4⟩ := h1.take e
  obtain ⟨p, rfl⟩ : ∃ p, v = .ref p := by
    cases a2 with
    | sc s _ => cases v <;> exact s.elim
    | zz a b c => exact ⟨_, rfl⟩
    | tp a b => exact ⟨_, rfl⟩
    | cc a b c => exact ⟨_, rfl⟩
    | oo a b c => exact ⟨_, rfl⟩
  have hl : am.length = st.length := by have := h3.len.2; simpa using this
  have E : Ext Fz am H Fz (am ++ [p]) H := ⟨fun _ h => h, fun j q h => by
    have : j < am.length := (List.getElem?_eq_some_iff.mp h).1
    rw [List.getElem?_append_left this]; exact h, fun _ _ _ h => h, fun _ _ _ h _ => h, fun _ _ h => h⟩
  have id' : ∀ {n : Fp}, ∀ (p : Addr) (o : HO), 0 < n p → H p = some o → H p = some o := fun {n} _ _ _ h => h
  obtain ⟨n2, b1, b2⟩ := EnvR.set (i := i) (v := .ref p) (f := .z) (d := .ref st.length) (m := fun _ => 0) (G := G) (Fz := Fz) (am := am ++ [p]) (H := H) (.rf (by rw [← hl]; simp) fun _ => rfl) (a4.ext E id')
  have hσ : σ.set i (some (.ref p)) = σ := by
    apply List.ext_getElem?
    intro j
    rw [List.getElem?_set]
    split
    · rename_i h
      subst h
      split
      · rw [a1]
      · rename_i h
        rw [List.getElem?_eq_none (by simpa using h)] at a1
        cases a1
    · rfl
  rw [hσ, List.set_set] at b1
  have h4' : Rel0 g Fz (am ++ [p]) H (fun p => ne p + nt p + ns p) := ⟨h4.n1, h4.nz, h4.th, h4.zt, h4.k, h4.f, h4.z0, h4.z1, fun j q h => E.cl _ _ (h4.a j q h)⟩
  refine ⟨Fz, am ++ [p], n2, nt, fun q => ns q + m q, b1, ((h2.nb (ne' := n2) hT).ext E id' id'), ?_, h4'.less fun q => ?_, trivial⟩
  · show Reps G Fz (am ++ [p]) H ((st ++ _).map (·.1)) ((am ++ [p]).map V.ref) ((st ++ _).map (·.2)) _
    rw [List.map_append, List.map_append, List.map_append]
    exact Reps.snoc (Reps.ext E h3 id') (a2.ext E id') fun _ => rfl
  · have := b2 q; have := a3 q
    show n2 q + nt q + (ns q + m q) ≤ ne q + nt q + ns q
    omega
end

section
variable {S : Sx} {e a b : Expr} {es : List Expr} {da db de di : Den} {das : DenL} {pos p : Pos} {ss : List Stmt} {tr : DenS}
/-- ghost: the thing in the slot becomes a cell -/
@[simp] def dPub (i : Nat) (k : DenS) : DenS := fun env st => match env[i]? with
  | some (some (f, .con kd ds)) => k (env.set i (some (.z, .ref st.length))) (st ++ [(f, .con kd ds)])
  | _ => .stuck
theorem dss_pub {i : Nat} (hr : DSs S ss tr) : DSs S ss (dPub i tr) := fun W => by
  obtain ⟨t, p, q⟩ := hr W
  refine ⟨t, p, fun g env st T σ H D hT R h => ?_⟩
  unfold dPub at h
  split at h
  · rename_i f kd ds e
    exact q _ _ _ _ _ _ _ hT (R.pub hT e) h
  · exact h.elim
theorem reps_set {G : Sg} {Fz : Addr → Prop} {am : List Addr} {H : Hp} {x : V} {d : D} (hx : Rep G Fz am H .z x d (fun _ => 0)) : ∀ {xs : List D} {acc : List V} (j : Nat), Reps G Fz am H (zs xs.length) acc xs (fun _ => 0) → Reps G Fz am H (zs (xs.set j d).length) (acc.set j x) (xs.set j d) (fun _ => 0)
  | [], acc, j, r => by cases r; exact .nil fun _ => rfl
  | y :: xs, acc, j, r => by
    have e : zs (y :: xs).length = .z :: zs xs.length := List.replicate_succ
    rw [e] at r
    cases r with
    | cons r1 r2 h3 =>
      have z1 := r1.z0
      have z2 := Reps.z0 r2
      cases j with
      | zero =>
        show Reps G Fz am H (zs (d :: xs).length) _ _ _
        rw [show zs (d :: xs).length = .z :: zs xs.length from List.replicate_succ]
        exact .cons hx r2 fun q => by rw [z2]
      | succ j =>
        show Reps G Fz am H (zs (y :: xs.set j d).length) _ _ _
        rw [show zs (y :: xs.set j d).length = .z :: zs (xs.set j d).length from List.replicate_succ]
        exact .cons (r1.fp z1 (m := fun _ => 0)) (reps_set hx j (r2.fp z2)) fun q => rfl
/-- c[i] = e, c a cell with a list -/
@[simp] def dPutC (a i e : Den) : DenS := fun env st => match e env st with
  | .ok fe be xe st1 => bif !be || fe.isz then (match a env st1 with
    | .ok _ ba (.ref c) st2 => bif !ba then (match i env st2 with
      | .ok _ _ (.int k) st3 => (match st3[c]? with
        | some (.c .z, .con .lst xs) => (match ixN xs.length k with
          | some j => .nx env (st3.set c (.c .z, .con .lst (xs.set j xe)))
          | none => .stuck)
        | _ => .stuck)
      | .ok _ _ _ _ => .stuck
      | .exc c ds st1 => .exc c ds env st1
      | .stuck => .stuck) else .stuck
    | .ok _ _ _ _ => .stuck
    | .exc c ds st1 => .exc c ds env st1
    | .stuck => .stuck) else .stuck
  | .exc c ds st1 => .exc c ds env st1
  | .stuck => .stuck
theorem asgSub {o i : Expr} {p : Pos} {env : PySem.Env} (h : notSlice i = true) : ∀ v, assign (.Subscript o i p) env v = (do
      let ov ← holding [v] (eval o env)
      let iv ← holding [v, ov] (eval i env)
      standAt p
      holding [v, ov, iv] (setItem ov iv v)
      release [v, ov, iv] []) := fun v => by
  cases i <;> first | rfl | cases h
theorem ds_putc {o i e : Expr} {do_ : Den} (ho : DE S o do_) (hi : DE S i di) (he : DE S e de) (hn : notSlice i = true) (hc : notComp e = true) (hw : noSwap e = true) : DS S (.Assign [.Subscript o i p] e pos) (dPutC do_ di de) := fun W => by
  obtain ⟨to, po, qo⟩ := ho W
  obtain ⟨ti, pi, qi⟩ := hi W
  obtain ⟨te, pe, qe⟩ := he W
  refine ⟨_, fun X hX tk => by
    have hs : swapsWithSole [.Subscript o i p] e pos.line X.env = pure false := swaps_no (t := some (.Subscript o i p)) (l := pos.line) (env := X.env) hc
    exact ps_asg (pe X hX tk) (pg_sub (po X hX tk) (pi X hX tk) set_list (asgSub hn)) hs (noSwap_ok hw), fun g env st T σ H D hT R h => ?_⟩
  refine qe g env st T σ H _ hT R ?_
  unfold dPutC at h
  cases e1 : de env st with
  | stuck => rw [e1] at h; exact h.elim
  | exc c ds st1 => rw [e1] at h; exact h σ
  | ok fe be xe st1 =>
  rw [e1] at h
  dsimp only at h
  obtain ⟨hb, h⟩ := bifT h id
  intro x H1 R1
  have R1' := (R1.unb hb).frz
  refine qo g env st1 _ σ H1 _ (nb_cons hT) R1' ?_
  cases e2 : do_ env st1 with
  | stuck => rw [e2] at h; exact h.elim
  | exc c ds st2 => rw [e2] at h; exact h σ
  | ok fo bo xo st2 =>
  rw [e2] at h
  cases xo with
  | ref c =>
    dsimp only at h
    obtain ⟨hb2, h⟩ := bifT h id
    intro v H2 R2
    have hb2' : bo = false := by simpa using hb2
    subst hb2'
    refine qi g env st2 _ σ H2 _ (nb_cons (nb_cons hT)) R2 ?_
    cases e3 : di env st2 with
    | stuck => rw [e3] at h; exact h.elim
    | exc c ds st3 => rw [e3] at h; exact h σ
    | ok fi bi xi st3 =>
    rw [e3] at h
    cases xi with
    | int k =>
      dsimp only at h
      intro kv H3 R3
      have ek := R3.int
      have R4 := R3.drop
      split at h
      · rename_i xs es
        split at h
        · rename_i j ej
          obtain ⟨A, acc, a1, a2, a3, R5⟩ := Rl.wrc (xs' := xs.set j xe) (fV := fun acc => acc.set j x) R4 es fun Fz am acc r hx => reps_set hx j r
          exact ⟨A, acc, k, j, a1, ek, a2, by rw [a3]; exact ej, h _ _ R5⟩
        · exact h.elim
      · exact h.elim
    | _ => exact h.elim
  | _ => exact h.elim

/-! ### the operators -/
section
variable {X : Cx}
theorem stx_op {f : Value → Value → Sem Value} {r : PySem.W.Frag → R2} (ho : ∀ X : Cx, OpR X f (r X.K)) : ∀ X, Stx S X → OpR X f (r S.G.K) := fun X hX => hX.K ▸ ho X
end
theorem de_add (ha : DE S a da) (hb : DE S b db) : DE S (.BinOp a .Add b pos) (dOp oAdd (dCons da (dLast db))) :=
  de_bin (r := fun x y H Q => rI0 (fun i j => .int (i + j)) x y H Q ∨ ((∃ i j, x = .str i ∧ y = .str j ∧ i.length + j.length ≤ sizeLine ∧ Q (.str (i ++ j)) H) ∨ (rCat x y H Q ∨ rCatA S.G.K x y H Q)))
    (fun X hX => op_add.or (op_add_str.or (op_cat.or (hX.K ▸ op_catA)))) (VOp.or v_addI (VOp.or v_addS (VOp.or v_addL v_addT))) ha hb
theorem de_sub (ha : DE S a da) (hb : DE S b db) : DE S (.BinOp a .Sub b pos) (dOp oSub (dCons da (dLast db))) :=
  de_bin (r := fun x y H Q => rI0 (fun i j => .int (i - j)) x y H Q ∨ rSubB x y H Q) (fun X hX => op_sub.or op_subB) (VOp.or v_subI v_subB) ha hb
theorem de_mul (ha : DE S a da) (hb : DE S b db) : DE S (.BinOp a .Mult b pos) (dOp oMul (dCons da (dLast db))) :=
  de_bin (r := fun x y H Q => rI CMulW (fun i j => .int (i * j)) x y H Q ∨ rRep x y H Q) (fun X hX => op_mulW.or op_rep) (VOp.or v_mulI v_mulL) ha hb
theorem de_fdiv (ha : DE S a da) (hb : DE S b db) : DE S (.BinOp a .FloorDiv b pos) (dOp oFdiv (dCons da (dLast db))) := de_bin (fun X hX => op_fdivF) v_fdiv ha hb
theorem de_mod (ha : DE S a da) (hb : DE S b db) : DE S (.BinOp a .Mod b pos) (dOp oMod (dCons da (dLast db))) := de_bin (fun X hX => op_modN) v_mod ha hb
theorem de_pow (ha : DE S a da) (hb : DE S b db) : DE S (.BinOp a .Pow b pos) (dOp oPow (dCons da (dLast db))) := de_bin (fun X hX => op_pow) v_pow ha hb
theorem de_neg (ha : DE S a da) : DE S (.UnaryOp .USub a pos) (dOp oNeg (dLast da)) := de_un (fun X hX => un_neg) v_neg ha
theorem de_ixs (ha : DE S a da) (hb : DE S b db) (hm : notSlice b = true) : DE S (.Subscript a b pos) (dOp oIx (dCons da (dLast db))) := de_ix (fun X hX => hX.K ▸ ix_seq) v_ix ha hb hm
theorem unitsOk {X : Cx} (hX : Stx S X) : X.A.units + 64 < cLine := by have := hX.room.un; omega
/-- the comparisons of the table -/
structure CmpI (S : Sx) (o : CmpOp) (op : Op) : Prop where
  ex : ∃ r : R2, (∀ X, Stx S X → OpR X (compareOp o) r) ∧ VOp S.G (l2 r) op
theorem ci_lt : CmpI S .Lt oLt := ⟨_, fun X hX => op_lt, v_lt⟩
theorem ci_le : CmpI S .LtE oLe := ⟨_, fun X hX => op_le, v_le⟩
theorem ci_gt : CmpI S .Gt oGt := ⟨_, fun X hX => op_gt, v_gt⟩
theorem ci_ge : CmpI S .GtE oGe := ⟨_, fun X hX => op_ge, v_ge⟩
theorem ci_eq : CmpI S .Eq oEq := ⟨_, fun X hX => hX.K ▸ op_eqD (unitsOk hX), v_eq⟩
theorem ci_ne : CmpI S .NotEq oNe := ⟨_, fun X hX => hX.K ▸ op_neD (unitsOk hX), v_ne⟩
theorem ci_is : CmpI S .Is oIsN := ⟨_, fun X hX => op_isN, v_isN⟩
theorem ci_isnot : CmpI S .IsNot oNotN := ⟨_, fun X hX => op_notN, v_notN⟩
theorem de_c {o : CmpOp} {op : Op} (ci : CmpI S o op) (ha : DE S a da) (hb : DE S b db) (hm : notSet b = true) : DE S (.Compare a [o] [b] pos) (dOp op (dCons da (dLast db))) := by
  obtain ⟨r, h1, h2⟩ := ci.ex
  exact de_cmp h1 h2 ha hb hm
theorem dt_c {o : CmpOp} {op : Op} (ci : CmpI S o op) (ha : DE S a da) (hb : DE S b db) (hm : notSet b = true) : DT S (.Compare a [o] [b] pos) (dB (dOp op (dCons da (dLast db)))) := by
  obtain ⟨r, h1, h2⟩ := ci.ex
  exact dt_cmp h1 h2 ha hb hm
/-! built-ins -/
theorem fresh_len : True := trivial
theorem bi_len (hg : S.sc.names.lookup ("len" : Str) = some .globalImplicit) (hm : S.mg "len" = none) (ha : DE S a da) (hp : plainArgs [a] = true) : DE S (.Call (.Name "len" p) [a] [] pos) (dOp oLen (dLast da)) :=
  de_bi (id := "len") (fun X hX => hX.K ▸ call_len_seq) v_len hg hm (by rfl) (by decide) (by decide) (da_last ha (plainArgs_ok hp _ (by simp))) hp
theorem bi_list (hg : S.sc.names.lookup ("list" : Str) = some .globalImplicit) (hm : S.mg "list" = none) (ha : DE S a da) (hp : plainArgs [a] = true) : DE S (.Call (.Name "list" p) [a] [] pos) (dOp oList (dLast da)) :=
  de_ty (id := "list") (fun X hX => hX.K ▸ call_list_of) v_list hg hm (by rfl) (by decide) (by decide) (da_last ha (plainArgs_ok hp _ (by simp))) hp
theorem bi_tuple (hg : S.sc.names.lookup ("tuple" : Str) = some .globalImplicit) (hm : S.mg "tuple" = none) (ha : DE S a da) (hp : plainArgs [a] = true) : DE S (.Call (.Name "tuple" p) [a] [] pos) (dOp oTuple (dLast da)) :=
  de_ty (id := "tuple") (fun X hX => hX.K ▸ call_tuple_of) v_tuple hg hm (by rfl) (by decide) (by decide) (da_last ha (plainArgs_ok hp _ (by simp))) hp
theorem bi_int (hg : S.sc.names.lookup ("int" : Str) = some .globalImplicit) (hm : S.mg "int" = none) (ha : DE S a da) (hp : plainArgs [a] = true) : DE S (.Call (.Name "int" p) [a] [] pos) (dOp oInt1 (dLast da)) :=
  de_ty (id := "int") (fun X hX => call_int1) v_int1 hg hm (by rfl) (by decide) (by decide) (da_last ha (plainArgs_ok hp _ (by simp))) hp
theorem bi_abs (hg : S.sc.names.lookup ("abs" : Str) = some .globalImplicit) (hm : S.mg "abs" = none) (ha : DE S a da) (hp : plainArgs [a] = true) : DE S (.Call (.Name "abs" p) [a] [] pos) (dOp oAbs (dLast da)) :=
  de_bi (id := "abs") (fun X hX => call_abs) v_abs hg hm (by rfl) (by decide) (by decide) (da_last ha (plainArgs_ok hp _ (by simp))) hp
theorem bi_all (hg : S.sc.names.lookup ("all" : Str) = some .globalImplicit) (hm : S.mg "all" = none) (ha : DE S a da) (hp : plainArgs [a] = true) : DE S (.Call (.Name "all" p) [a] [] pos) (dOp oAll (dLast da)) :=
  de_bi (id := "all") (fun X hX => hX.K ▸ cr_all hX.calm) v_all hg hm (by rfl) (by decide) (by decide) (da_last ha (plainArgs_ok hp _ (by simp))) hp
theorem bi_any (hg : S.sc.names.lookup ("any" : Str) = some .globalImplicit) (hm : S.mg "any" = none) (ha : DE S a da) (hp : plainArgs [a] = true) : DE S (.Call (.Name "any" p) [a] [] pos) (dOp oAny (dLast da)) :=
  de_bi (id := "any") (fun X hX => hX.K ▸ cr_any hX.calm) v_any hg hm (by rfl) (by decide) (by decide) (da_last ha (plainArgs_ok hp _ (by simp))) hp
theorem bi_min2 (hg : S.sc.names.lookup ("min" : Str) = some .globalImplicit) (hm : S.mg "min" = none) (ha : DE S a da) (hb : DE S b db) (hp : plainArgs [a, b] = true) : DE S (.Call (.Name "min" p) [a, b] [] pos) (dOp oMin2 (dCons da (dLast db))) :=
  de_bi (id := "min") (fun X hX => call_min2 hX.calm) v_min2 hg hm (by rfl) (by decide) (by decide) (da_cons ha (da_last hb (plainArgs_ok hp _ (by simp))) (plainArgs_ok hp _ (by simp))) hp
theorem bi_max2 (hg : S.sc.names.lookup ("max" : Str) = some .globalImplicit) (hm : S.mg "max" = none) (ha : DE S a da) (hb : DE S b db) (hp : plainArgs [a, b] = true) : DE S (.Call (.Name "max" p) [a, b] [] pos) (dOp oMax2 (dCons da (dLast db))) :=
  de_bi (id := "max") (fun X hX => call_max2 hX.calm) v_max2 hg hm (by rfl) (by decide) (by decide) (da_cons ha (da_last hb (plainArgs_ok hp _ (by simp))) (plainArgs_ok hp _ (by simp))) hp
end
end Hx

set_option Elab.async false
set_option linter.all false
set_option maxRecDepth 100000
set_option autoImplicit false
/-! F11: slices, isinstance, chains, append, unpacking of a comprehension. -/
namespace Hx
open PySem PySem.Spec L2
open PyProof.Rows hiding St

section
variable {S : Sx} {e a b c tg : Expr} {es : List Expr} {da db dc de di : Den} {das : DenL} {pos p : Pos} {ss : List Stmt} {tr : DenS}
/-! ### slices -/
def rSl (K : PySem.W.Frag) : V → Option Int → Option Int → Hp → VK → Prop := fun x lo hi H Q => rSlL K x lo hi H Q ∨ rSlA K x lo hi H Q
theorem sl_seq {X : Cx} : SlR X (rSl X.K) := sl_list.or sl_tupA
def cutD (xs : List D) (lo hi : Option Int) : List D := (xs.drop (HT.sIx xs.length 0 lo)).take (HT.sIx xs.length xs.length hi - HT.sIx xs.length 0 lo)
theorem reps_drop {G : Sg} {Fz : Addr → Prop} {am : List Addr} {H : Hp} : ∀ {xs : List D} {vs : List V} (k : Nat), Reps G Fz am H (zs xs.length) vs xs (fun _ => 0) → Reps G Fz am H (zs (xs.drop k).length) (vs.drop k) (xs.drop k) (fun _ => 0)
  | [], vs, k, r => by cases r; simpa using (show Reps G Fz am H (zs 0) [] [] (fun _ => 0) from .nil fun _ => rfl)
  | x :: xs, vs, 0, r => r
  | x :: xs, vs, k + 1, r => by
    have e : zs (x :: xs).length = .z :: zs xs.length := List.replicate_succ
    rw [e] at r
    cases r with
    | cons r1 r2 h3 => exact reps_drop k (r2.fp (Reps.z0 r2))
theorem reps_take {G : Sg} {Fz : Addr → Prop} {am : List Addr} {H : Hp} : ∀ {xs : List D} {vs : List V} (k : Nat), Reps G Fz am H (zs xs.length) vs xs (fun _ => 0) → Reps G Fz am H (zs (xs.take k).length) (vs.take k) (xs.take k) (fun _ => 0)
  | [], vs, k, r => by cases r; simpa using (show Reps G Fz am H (zs 0) [] [] (fun _ => 0) from .nil fun _ => rfl)
  | x :: xs, vs, 0, r => by simpa using (show Reps G Fz am H (zs 0) [] [] (fun _ => 0) from .nil fun _ => rfl)
  | x :: xs, vs, k + 1, r => by
    have e : zs (x :: xs).length = .z :: zs xs.length := List.replicate_succ
    rw [e] at r
    cases r with
    | cons r1 r2 h3 =>
      show Reps G Fz am H (zs (x :: xs.take k).length) _ (x :: xs.take k) _
      rw [show zs (x :: xs.take k).length = .z :: zs (xs.take k).length from List.replicate_succ]
      exact .cons (r1.fp r1.z0 (m := fun _ => 0)) (reps_take k (r2.fp (Reps.z0 r2))) fun q => rfl
theorem reps_cut {G : Sg} {Fz : Addr → Prop} {am : List Addr} {H : Hp} {xs : List D} {vs : List V} (lo hi : Option Int) (r : Reps G Fz am H (zs xs.length) vs xs (fun _ => 0)) : Reps G Fz am H (zs (cutD xs lo hi).length) (cutV vs lo hi) (cutD xs lo hi) (fun _ => 0) := by
  unfold cutV cutD
  rw [r.len.2]
  exact reps_take _ (reps_drop _ r)
@[simp] def slD (lo hi : Option Int) : D → Option (Fr × D)
  | .con .tup xs => some (.z, .con .tup (cutD xs lo hi))
  | .con k xs => bif k.sq then some (.c .z, .con .lst (cutD xs lo hi)) else none
  | _ => none
theorem sl_view {G : Sg} {Fz : Addr → Prop} {am : List Addr} {H : Hp} {v : V} {a : D} {lo hi : Option Int} {f : Fr} {d : D} {Q : VK} (h : View G Fz am H v a) (e : slD lo hi a = some (f, d))
    (h3 : ∀ v H' n, Same H H' → Newp H H' n → Rep G Fz am H' f v d n → Q v H') : rSl G.K v lo hi H Q := by
  have lst : ∀ {k : Kd} {xs : List D}, k.sq = true → View G Fz am H v (.con k xs) → f = .c .z → d = .con .lst (cutD xs lo hi) → rSl G.K v lo hi H Q := fun {k xs} hk h e1 e2 => by
    subst e1 e2
    obtain ⟨p, vs, rfl, r, s⟩ := h.sq hk
    exact .inl ⟨p, vs, rfl, r, fresh_lst (reps_cut lo hi s) h3⟩
  cases a with
  | con k xs =>
    cases k with
    | tup =>
      cases e
      obtain ⟨p, vs, rfl, r, s⟩ := h.tup
      refine .inr ⟨p, vs, rfl, r, fun w => ?_, fun _ => fresh_tup (reps_cut lo hi s) h3⟩
      have ec : cutD xs lo hi = xs := by
        unfold cutD
        rw [s.len.2] at w
        rw [w.1, w.2]
        simp
      rw [ec] at h3
      exact h3 _ H _ (same_refl H) newp0 (.zz (k := .tup) r s fun _ => rfl)
    | lst => cases e; exact lst rfl h rfl rfl
    | frl => cases e; exact lst rfl h rfl rfl
    | _ => cases e
  | _ => cases e
@[simp] def oSlL : Op := fun ds => match ds with
  | [a, .int i] => slD (some i) none a
  | _ => none
@[simp] def oSlH : Op := fun ds => match ds with
  | [a, .int i] => slD none (some i) a
  | _ => none
theorem v_slL {G : Sg} : VOp G (l2 fun x y H Q => ∃ i, y = .int i ∧ rSl G.K x (some i) none H Q) oSlL := fun Fz am H vs ds fr d Q h1 h2 h3 => by
  unfold oSlL at h2
  split at h2
  · obtain ⟨v, w, rfl, a, b⟩ := h1.two
    exact ⟨_, b.int, sl_view a h2 h3⟩
  · cases h2
theorem v_slH {G : Sg} : VOp G (l2 fun x y H Q => ∃ i, y = .int i ∧ rSl G.K x none (some i) H Q) oSlH := fun Fz am H vs ds fr d Q h1 h2 h3 => by
  unfold oSlH at h2
  split at h2
  · obtain ⟨v, w, rfl, a, b⟩ := h1.two
    exact ⟨_, b.int, sl_view a h2 h3⟩
  · cases h2
theorem de_slL {p2 : Pos} (ha : DE S a da) (hb : DE S b db) : DE S (.Subscript a (.Slice (some b) none none p2) pos) (dOp oSlL (dCons da (dLast db))) := fun W => by
  obtain ⟨ta, pa, qa⟩ := ha W
  obtain ⟨tb, pb, qb⟩ := hb W
  exact ⟨_, fun X hX tk => pe_slice (r := rSl S.G.K) (hX.K ▸ sl_seq) (pa X hX tk) (po_some (pb X hX tk)) po_none, fun g env st T σ H Q hT R h => run2 v_slL qa qb g env st T σ H Q hT R h⟩
theorem de_slH {p2 : Pos} (ha : DE S a da) (hb : DE S b db) : DE S (.Subscript a (.Slice none (some b) none p2) pos) (dOp oSlH (dCons da (dLast db))) := fun W => by
  obtain ⟨ta, pa, qa⟩ := ha W
  obtain ⟨tb, pb, qb⟩ := hb W
  exact ⟨_, fun X hX tk => pe_slice (r := rSl S.G.K) (hX.K ▸ sl_seq) (pa X hX tk) po_none (po_some (pb X hX tk)), fun g env st T σ H Q hT R h => run2 v_slH qa qb g env st T σ H Q hT R h⟩

/-! ### isinstance of built-in types -/
inductive Ty7
  | non | bl | int | str | tup | lst | dct
  deriving DecidableEq
def Ty7.nm : Ty7 → String
  | .non => "NoneType" | .bl => "bool" | .int => "int" | .str => "str" | .tup => "tuple" | .lst => "list" | .dct => "dict"
@[simp] def Ty7.isa (t u : Ty7) : Bool := decide (t = u) || (decide (t = .bl) && decide (u = .int))
theorem kit1 {K : PySem.W.Frag} (t u : Ty7) : PySem.W.kitOne K (.type t.nm) (.type u.nm) = some (t.isa u) := by
  cases t <;> cases u <;> rfl
theorem kitN {K : PySem.W.Frag} (t : Ty7) : ∀ us : List Ty7, PySem.W.kitAny K (.type t.nm) (us.map fun u => .type u.nm) = some (us.any t.isa)
  | [] => rfl
  | u :: us => by
    show (match PySem.W.kitOne K (.type t.nm) (.type u.nm) with
      | some true => some true
      | some false => PySem.W.kitAny K (.type t.nm) (us.map fun (u : Ty7) => .type u.nm)
      | none => none) = _
    rw [kit1, kitN t us, List.any_cons]
    cases t.isa u <;> rfl
@[simp] def tyD : D → Option Ty7
  | .non => some .non
  | .bl _ => some .bl
  | .int _ => some .int
  | .str _ => some .str
  | .con .tup _ => some .tup
  | .con .lst _ => some .lst
  | .con .frl _ => some .lst
  | .con (.dik _) _ => some .dct
  | _ => none
theorem tyx_of {G : Sg} {Fz : Addr → Prop} {am : List Addr} {H : Hp} {v : V} {d : D} {t : Ty7} (h : View G Fz am H v d) (e : tyD d = some t) : TyX G.K H v (.type t.nm) := by
  cases d with
  | non => cases e; rw [h.non]; exact .base .non
  | bl b => cases e; rw [h.bl]; exact .base (.bl _)
  | int b => cases e; rw [h.int]; exact .base (.int _)
  | str b => cases e; rw [h.str]; exact .base (.str _)
  | fnv k => cases e
  | ref k => cases e
  | con k ds =>
    have sq : ∀ {p : Addr} {vs : List V}, SqL G.K H p vs → TyX G.K H (.ref p) (.type Ty7.lst.nm) := fun {p vs} r => by
      rcases r with (r | ⟨o, r⟩) | ⟨o, its, n, r, c, _⟩
      · exact .base (.lst r)
      · exact .base (.frz r)
      · exact .kList r c
    cases k with
    | tup =>
      cases e
      obtain ⟨p, vs, rfl, r, s⟩ := h.tup
      rcases r with (r | ⟨o, r⟩) | ⟨o, its, n, r, c, _⟩
      · exact .base (.tup r)
      · exact .fTuple r
      · exact .kTuple r c
    | lst =>
      cases e
      obtain ⟨p, vs, rfl, r, s⟩ := View.sq (k := .lst) rfl h
      exact sq r
    | frl =>
      cases e
      obtain ⟨p, vs, rfl, r, s⟩ := View.sq (k := .frl) rfl h
      exact sq r
    | dik ks =>
      cases e
      obtain ⟨p, vs, rfl, ⟨o, r1, r2⟩, s⟩ := h
      obtain ⟨r2, _⟩ := r2
      subst r2
      rcases r1 with r1 | ⟨o, r1⟩
      · exact .base (.dK r1)
      · exact .fDict r1
    | dit ks => cases e
    | ins c => cases e
/-- the names of types -/
def TyNs (S : Sx) (es : List Expr) (us : List Ty7) : Prop := ∀ X, Stx S X → PA X es fun _ H Q => Q (us.map fun (u : Ty7) => V.ty u.nm) H
theorem tyns_nil : TyNs S [] [] := fun X hX => pa_nil
theorem tyns_cons {x : Str} {u : Ty7} {us : List Ty7} (hg : S.sc.names.lookup x = some .globalImplicit) (hm : S.mg x = none) (hb : bootBuiltins x = some (.type u.nm)) (hn : x ≠ "__name__") (hdb : (x == ("__debug__" : Str)) = false) (hr : TyNs S es us) : TyNs S (.Name x p :: es) (u :: us) := fun X hX =>
  pa_cons (pe_bltn (show X.env.scope.names.lookup x = some .globalImplicit by rw [hX.sc]; exact hg) (by rw [hX.mg]; exact hm) hb (v := .ty u.nm) rfl hn hdb) (hr X hX)
@[simp] def dIsi (us : List Ty7) (a : Den) : Den := fun env st => match a env st with
  | .ok f b d st1 => bif f.flat then (match tyD (lk st1 d) with
    | some t => .ok .z false (.bl (us.any t.isa)) st1
    | none => .stuck) else .stuck
  | .exc c ds st1 => .exc c ds st1
  | .stuck => .stuck
theorem clsv : ∀ us : List Ty7, Paired ClsV (us.map fun u => V.ty u.nm) (us.map fun u => Value.type u.nm)
  | [] => .nil
  | u :: us => .cons (.ty _) (clsv us)
/-- one look -/
theorem Rl.view1 {G : Sg} {g : Gd} {env : Env} {st : Store} {T : List Tm} {σ : St} {H : Hp} {v : V} {f : Fr} {b : Bool} {d : D} (R : Rl G g env st (⟨v, f, d, b⟩ :: T) σ H) (hf : f.flat = true) : ∃ Fz am, View G Fz am H v (lk st d) := by
  obtain ⟨Fz, am, ne, nt, ns, h1, h2, h3, h4, h5⟩ := R
  have key : ∀ {n : Fp}, Rep G Fz am H f v d n → View G Fz am H v (lk st d) := fun {n} r => by
    have h := Vws.lk h3 (vs := [v]) (ds := [d]) (.cons (r.view hf) .nil)
    cases h with
    | cons h _ => exact h
  cases h2 with
  | own k1 _ _ => exact ⟨_, _, key k1⟩
  | bor k1 _ _ => exact ⟨_, _, key k1⟩
theorem isi_pe (ha : DE S a da) {e2 : Expr} {W : WX} : True := trivial
theorem de_isi {x : Str} {q : Pos} {u : Ty7} (hg : S.sc.names.lookup ("isinstance" : Str) = some .globalImplicit) (hm : S.mg "isinstance" = none) (ha : DE S a da) (hp : plainArgs [a] = true)
    (hg2 : S.sc.names.lookup x = some .globalImplicit) (hm2 : S.mg x = none) (hb : bootBuiltins x = some (.type u.nm)) (hn : x ≠ "__name__") (hdb : (x == ("__debug__" : Str)) = false) :
    DE S (.Call (.Name "isinstance" p) [a, .Name x q] [] pos) (dIsi [u] da) := fun W => by
  obtain ⟨ta, pa, qa⟩ := ha W
  refine ⟨_, fun X hX tk => pe_callB (r := rIsi S.G.K) (hX.K ▸ call_isi) (show X.env.scope.names.lookup ("isinstance" : Str) = some .globalImplicit by rw [hX.sc]; exact hg) (by rw [hX.mg]; exact hm) (by rfl)
    (pa_cons (pa X hX tk) (tyns_cons (p := q) hg2 hm2 hb hn hdb tyns_nil X hX) (starNo (plainArgs_ok hp a (by simp)))) (by decide) (by decide) (starNo (plainArgs_ok hp a (by simp))), fun g env st T σ H Q hT R h => qa g env st T σ H _ hT R ?_⟩
  unfold dIsi at h
  cases e1 : da env st with
  | stuck => rw [e1] at h; exact h.elim
  | exc c ds st1 => rw [e1] at h; exact h
  | ok f b d st1 =>
    rw [e1] at h
    obtain ⟨hf, h⟩ := bifT h id
    intro v H1 R1
    split at h
    · rename_i t et
      obtain ⟨Fz, am, vw⟩ := R1.view1 hf
      exact ⟨v, .ty u.nm, .type t.nm, .type u.nm, [u].any t.isa, rfl, .ty _, tyx_of vw et, by rw [kit1]; simp, h _ H1 (Rl.scal R1.drop rfl)⟩
    · exact h.elim
theorem de_isiT {es : List Expr} {k : Nat} {q : Pos} {us : List Ty7} (hg : S.sc.names.lookup ("isinstance" : Str) = some .globalImplicit) (hm : S.mg "isinstance" = none) (ha : DE S a da) (hp : plainArgs [a] = true)
    (hl : us.length.ble 1000 = true) (ht : TyNs S es us) : DE S (.Call (.Name "isinstance" p) [a, .Tuple es k q] [] pos) (dIsi us da) := fun W => by
  obtain ⟨ta, pa, qa⟩ := ha W
  refine ⟨_, fun X hX tk => pe_callB (r := rIsiT S.G.K) (hX.K ▸ call_isiT) (show X.env.scope.names.lookup ("isinstance" : Str) = some .globalImplicit by rw [hX.sc]; exact hg) (by rw [hX.mg]; exact hm) (by rfl)
    (pa_cons (pa X hX tk) (pa_cons (pe_tup (ht X hX)) pa_nil) (starNo (plainArgs_ok hp a (by simp)))) (by decide) (by decide) (starNo (plainArgs_ok hp a (by simp))), fun g env st T σ H Q hT R h => qa g env st T σ H _ hT R ?_⟩
  unfold dIsi at h
  cases e1 : da env st with
  | stuck => rw [e1] at h; exact h.elim
  | exc c ds st1 => rw [e1] at h; exact h
  | ok f b d st1 =>
    rw [e1] at h
    obtain ⟨hf, h⟩ := bifT h id
    intro v H1 R1
    split at h
    · rename_i t et
      refine ⟨by simpa using small_len hl, fun p hp => ?_⟩
      have R2 : Rl S.G g env st1 (⟨v, f, d, b⟩ :: T) σ (upd H1 p (.tup (us.map fun u => V.ty u.nm))) := by
        have R3 := RlB.new (v := .non) (f := .z) (d := .non) (n := fun _ => 0) (H' := upd H1 p (.tup (us.map fun u => V.ty u.nm))) R1 (same_upd hp) newp0 fun Fz am E k => .sc trivial fun _ => rfl
        exact R3.drop
      obtain ⟨Fz, am, vw⟩ := R2.view1 hf
      exact ⟨v, p, us.map fun u => V.ty u.nm, .type t.nm, us.map fun u => .type u.nm, us.any t.isa, rfl, upd_same, clsv us, tyx_of vw et, kitN t us, h _ _ (Rl.scal R2.drop rfl)⟩
    · exact h.elim

/-! ### chains -/
theorem Rl.dup {G : Sg} {g : Gd} {env : Env} {st : Store} {T : List Tm} {σ : St} {H : Hp} {v : V} {d : D} (R : Rl G g env st (⟨v, .z, d, false⟩ :: T) σ H) : Rl G g env st (⟨v, .z, d, false⟩ :: ⟨v, .z, d, false⟩ :: T) σ H := by
  obtain ⟨Fz, am, ne, nt, ns, h1, h2, h3, h4, h5⟩ := R
  cases h2 with
  | @own _ _ _ _ n1 n2 _ k1 k2 k3 => exact ⟨Fz, am, ne, nt, ns, h1, .own (k1.fp k1.z0 (m := fun _ => 0)) (.own k1 k2 k3) fun q => by simp, h3, h4, trivial⟩
/-- a o b o' c -/
@[simp] def dChain (o o' : Op) (a b c : Den) : Den := fun env st => match a env st with
  | .ok fa ba xa st1 => bif !ba || fa.isz then (match b env st1 with
    | .ok fb bb xb st2 => bif fa.flat && fb.isz then (match o [lk st2 xa, lk st2 xb] with
      | some (.z, .bl true) => (match c env st2 with
        | .ok fc bc xc st3 => bif fc.flat then (match o' [lk st3 xb, lk st3 xc] with
          | some (f, d) => .ok f false d st3
          | none => .stuck) else .stuck
        | .exc c ds st1 => .exc c ds st1
        | .stuck => .stuck)
      | some (.z, .bl false) => .ok .z false (.bl false) st2
      | _ => .stuck) else .stuck
    | .exc c ds st1 => .exc c ds st1
    | .stuck => .stuck) else .stuck
  | .exc c ds st1 => .exc c ds st1
  | .stuck => .stuck
theorem chain_run {r r' : R2} {o o' : Op} {W : WX} {ta tb tc : TE} (hv : VOp S.G (l2 r) o) (hv' : VOp S.G (l2 r') o')
    (qa : ∀ g env st T σ H Q, noBor T → Rl S.G g env st T σ H → PostE S.G g env T σ W Q (da env st) → ta σ H Q)
    (qb : ∀ g env st T σ H Q, noBor T → Rl S.G g env st T σ H → PostE S.G g env T σ W Q (db env st) → tb σ H Q)
    (qc : ∀ g env st T σ H Q, noBor T → Rl S.G g env st T σ H → PostE S.G g env T σ W Q (dc env st) → tc σ H Q)
    (g : Gd) (env : Env) (st : Store) (T : List Tm) (σ : St) (H : Hp) (Q : VK) (hT : noBor T) (R : Rl S.G g env st T σ H) (h : PostE S.G g env T σ W Q (dChain o o' da db dc env st)) : tChain r r' ta tb tc σ H Q := by
  refine qa g env st T σ H _ hT R ?_
  unfold dChain at h
  cases e1 : da env st with
  | stuck => rw [e1] at h; exact h.elim
  | exc c ds st1 => rw [e1] at h; exact h
  | ok fa ba xa st1 =>
  rw [e1] at h
  dsimp only at h
  obtain ⟨hb, h⟩ := bifT h id
  intro v H1 R1
  refine qb g env st1 _ σ H1 _ (nb_cons hT) (R1.unb hb) ?_
  cases e2 : db env st1 with
  | stuck => rw [e2] at h; exact h.elim
  | exc c ds st2 => rw [e2] at h; exact h
  | ok fb bb xb st2 =>
  rw [e2] at h
  dsimp only at h
  obtain ⟨hf, h'⟩ := bifT h id
  clear h
  have h := h'
  clear h'
  rw [Bool.and_eq_true] at hf
  have ez := Fr.isz_eq hf.2
  subst ez
  intro w H2 R2
  have R3 := (R2.unb (by simp [Fr.isz])).dup
  have R4 : Rl S.G g env st2 (mkT [v, w] [(fa, false, xa), (.z, false, xb)] ++ (⟨w, .z, xb, false⟩ :: T)) σ H2 := by
    have := RlB.mid (l := [⟨w, .z, xb, false⟩, ⟨w, .z, xb, false⟩]) R3
    obtain ⟨Fz, am, ne, nt, ns, h1, h2, h3, h4, h5⟩ := this
    exact ⟨Fz, am, ne, nt, ns, h1, h2, h3, h4, h5⟩
  have fl : flats [(fa, false, xa), (Fr.z, false, xb)] = true := by
    show (fa.flat && (Fr.z.flat && true)) = true
    rw [hf.1]
    rfl
  cases e3 : o [lk st2 xa, lk st2 xb] with
  | none => rw [e3] at h; exact h.elim
  | some x =>
    obtain ⟨f', d'⟩ := x
    rw [e3] at h
    refine Rl.op (vs := [v, w]) hv R4 rfl fl e3 fun z H3 R5 => ?_
    split at h
    · rename_i es
      cases es
      refine ⟨true, R5.bl, ?_⟩
      rw [if_pos rfl]
      refine qc g env st2 _ σ H3 _ (nb_cons hT) R5.drop ?_
      cases e4 : dc env st2 with
      | stuck => rw [e4] at h; exact h.elim
      | exc c ds st3 => rw [e4] at h; exact h
      | ok fc bc xc st3 =>
        rw [e4] at h
        dsimp only at h
        obtain ⟨hf2, h'⟩ := bifT h id
        clear h
        have h := h'
        clear h'
        intro u H4 R6
        have R7 : Rl S.G g env st3 (mkT [w, u] [(.z, false, xb), (fc, bc, xc)] ++ T) σ H4 := RlB.mid (l := [_]) R6
        cases e5 : o' [lk st3 xb, lk st3 xc] with
        | none => rw [e5] at h; exact h.elim
        | some y =>
          obtain ⟨f2, d2⟩ := y
          rw [e5] at h
          exact Rl.op (vs := [w, u]) hv' R7 rfl (by
            show (Fr.z.flat && (fc.flat && true)) = true
            rw [hf2]
            rfl) e5 h
    · rename_i es
      cases es
      refine ⟨false, R5.bl, ?_⟩
      rw [if_neg (by decide)]
      exact h _ H3 (Rl.scal R5.drop.drop rfl)
    · exact h.elim
theorem lm2 {o o' : CmpOp} (hb : notSet b = true) (hc : notSet c = true) : lastMarks [o, o'] [b, c] = false := marks (o := o') hc
theorem de_chain {o o' : CmpOp} {op op' : Op} (ci : CmpI S o op) (ci' : CmpI S o' op') (ha : DE S a da) (hb : DE S b db) (hc : DE S c dc) (nb : notSet b = true) (nc : notSet c = true) : DE S (.Compare a [o, o'] [b, c] pos) (dChain op op' da db dc) := fun W => by
  obtain ⟨r, h1, h2⟩ := ci.ex
  obtain ⟨r', h1', h2'⟩ := ci'.ex
  obtain ⟨ta, pa, qa⟩ := ha W
  obtain ⟨tb, pb, qb⟩ := hb W
  obtain ⟨tc, pc, qc⟩ := hc W
  exact ⟨_, fun X hX tk => pe_chain (h1 X hX) (h1' X hX) (pa X hX tk) (pb X hX tk) (pc X hX tk) (lm2 nb nc), fun g env st T σ H Q hT R h => chain_run h2 h2' qa qb qc g env st T σ H Q hT R h⟩
theorem dt_chain {o o' : CmpOp} {op op' : Op} (ci : CmpI S o op) (ci' : CmpI S o' op') (ha : DE S a da) (hb : DE S b db) (hc : DE S c dc) (nb : notSet b = true) (nc : notSet c = true) : DT S (.Compare a [o, o'] [b, c] pos) (dB (dChain op op' da db dc)) := fun W => by
  obtain ⟨r, h1, h2⟩ := ci.ex
  obtain ⟨r', h1', h2'⟩ := ci'.ex
  obtain ⟨ta, pa, qa⟩ := ha W
  obtain ⟨tb, pb, qb⟩ := hb W
  obtain ⟨tc, pc, qc⟩ := hc W
  exact ⟨_, fun X hX tk => pt_chain (h1 X hX) (h1' X hX) (pa X hX tk) (pb X hX tk) (pc X hX tk) (lm2 nb nc), fun g env st T σ H Q hT R h => chain_run h2 h2' qa qb qc g env st T σ H _ hT R (postB h)⟩

/-! ### xs.append(e) -/
theorem reps_snoc {G : Sg} {Fz : Addr → Prop} {am : List Addr} {H : Hp} {x : V} {d : D} {xs : List D} {acc : List V} (r : Reps G Fz am H (zs xs.length) acc xs (fun _ => 0)) (hx : Rep G Fz am H .z x d (fun _ => 0)) : Reps G Fz am H (zs (xs ++ [d]).length) (acc ++ [x]) (xs ++ [d]) (fun _ => 0) :=
  r.cat (.cons (n1 := fun _ => 0) (n2 := fun _ => 0) hx (.nil fun _ => rfl) fun _ => rfl)
def dApp (i : Nat) (a : Den) : DenS := fun env st => match env[i]? with
  | some (some (.c .z, .con .lst xs)) => (match a env st with
    | .ok f b d st1 => bif (!b || f.isz) && xs.length.ble 1000000 then .nx (env.set i (some (.c .z, .con .lst (xs ++ [d])))) st1 else .stuck
    | .exc c ds st1 => .exc c ds env st1
    | .stuck => .stuck)
  | _ => .stuck
theorem len7 {n : Nat} (h : n.ble 1000000 = true) : n < sizeLine := Nat.lt_of_le_of_lt (Nat.le_of_ble_eq_true h) (by decide)
theorem ds_app {i : Nat} {x : Str} {q apos : Pos} (hN : S.N[i]? = some x) (hv : Vis S.sc x) (hd : (x == ("__debug__" : Str)) = false) (hcd : (x == ("__classdict__" : Str)) = false) (hl : (apos.endLine == p.line) = true) (ha : DE S a da) (hp : plainArgs [a] = true) :
    DS S (.Expr (.Call (.Attribute (.Name x q) "append" apos) [a] [] p) pos) (dApp i da) := fun W => by
  obtain ⟨ta, pa, qa⟩ := ha W
  have hs := plainArgs_ok hp a (by simp)
  have pk : ∀ X, Stx S X → Takes X W → PE X (.Call (.Attribute (.Name x q) "append" apos) [a] [] p) (tBM S.G.K "list" rAppend (tVar i) (tCons ta tNil)) := fun X hX tk => by
    have := pe_bm PySem.F.plainAttrs_list PySem.F.slot_list_append PySem.F.type_list_append mt_append (de_pv (p := q) hN hv hd hcd hX) (pa_cons (pa X hX tk) pa_nil (starNo hs)) (by rfl) (by rw [starNo hs]; rfl) hl (starNo hs)
    rw [hX.K] at this
    exact this
  refine ⟨_, fun X hX tk => ps_expr (pk X hX tk), fun g env st T σ H D hT R h => ?_⟩
  unfold dApp at h
  split at h
  · rename_i xs ei
    have ei' := ei
    obtain ⟨v, ev, R0⟩ := R.pushb ei
    have hsq : ∃ A acc, v = .ref A ∧ SqL S.G.K H A acc := by
      obtain ⟨Fz, am, vw⟩ := R0.view1 rfl
      obtain ⟨A, acc, e1, e2, _⟩ := View.sq (k := .lst) rfl vw
      exact ⟨A, acc, e1, e2⟩
    obtain ⟨A, acc, rfl, sq⟩ := hsq
    refine ⟨_, ev, .inl ⟨rfl, _, sq⟩, ?_⟩
    refine qa g env st T σ H _ hT R ?_
    cases e1 : da env st with
    | stuck => rw [e1] at h; exact h.elim
    | exc c ds st1 => rw [e1] at h; exact h σ
    | ok f b d st1 =>
      rw [e1] at h
      obtain ⟨hc, h⟩ := bifT h id
      rw [Bool.and_eq_true] at hc
      intro x H1 R1
      obtain ⟨A', acc', a1, a2, a3, R2⟩ := Rl.wre (xs' := xs ++ [d]) (fV := fun acc => acc ++ [x]) (R1.unb hc.1).frz hT ei fun Fz am acc r hx => reps_snoc r hx
      rw [ev] at a1
      cases a1
      exact ⟨A, acc', x, rfl, rfl, a2, by rw [a3]; exact len7 hc.2, h _ _ R2⟩
  · exact h.elim

/-! ### (a, b) = [.. for ..] -/
theorem ds_unpT {es : List Expr} {k : Nat} {q : Pos} {p : Pat} (hg : DG S (.Tuple es k q) p) (ha : DE S e da) (hw : noSwap e = true) : DS S (.Assign [.Tuple es k q] e pos) (dUnp p da) := fun W => by
  obtain ⟨t, pt, q⟩ := ha W
  obtain ⟨t2, pt2, q2⟩ := hg
  refine ⟨_, fun X hX tk => ps_asg (pt X hX tk) (pt2 X hX) (by cases e <;> rfl) (noSwap_ok hw) (by rfl), fun g env st T σ H D hT R h => q g env st T σ H _ hT R ?_⟩
  unfold dUnp at h
  cases e : da env st with
  | stuck => rw [e] at h; exact h.elim
  | exc c ds st1 => rw [e] at h; exact h σ
  | ok f b d st1 =>
    rw [e] at h
    obtain ⟨hc, h⟩ := bifT h id
    cases e2 : bindP p f d env with
    | none => rw [e2] at h; exact h.elim
    | some env1 =>
      rw [e2] at h
      exact fun v H1 R1 => q2 g env st1 T σ H1 v f d env1 _ hT (R1.unb hc) e2 fun σ' H' _ R' => h σ' H' R'
end
end Hx

set_option Elab.async false
set_option linter.all false
set_option maxRecDepth 100000
set_option autoImplicit false
/-! F12: defs in a row's context. -/
namespace Hx
open PySem PySem.Spec L2
open PyProof.Rows hiding St

@[reducible] def Sx.at (S : Sx) (N : List Str) (sc : Scope) (k : Nat) : Sx := ⟨S.P, S.w, S.mg, S.base, S.G, N, sc, k, true⟩
theorem Good.at {S : Sx} {x : Str} {n : Nat} {F : Fn} {dd : List D} {k : Nat} (h : Good S x n F dd k) {N : List Str} {sc : Scope} {j : Nat} : Good (S.at N sc j) x n F dd k := ⟨h.ex⟩
theorem Good.blk {S : Sx} {x : Str} {n : Nat} {F : Fn} {dd : List D} {k : Nat} (h : Good S x n F dd k) {sc : Scope} : Good (S.blk sc) x n F dd k := ⟨h.ex⟩
/-- what the top has bound: a def without defaults -/
structure Kn (S : Sx) (x : Str) (st : Stmt) : Prop where
  ex : ∃ f fd, FunD S.G.K x x (defArgs st) (defBody st) (defScope st) [] [] f fd ∧ S.mg x = some (.ref f)
def BindN (x : Str) (st : Stmt) (ps : List Str) : Prop := ∀ (kV doc pm : Value) (an : Option Addr) (cdv ct : Value) (us : List Value), us.length = ps.length → bindArgs (PySem.W.fnOf x x (defArgs st) (defBody st) (defScope st) .none kV doc pm an cdv ct) ⟨us, []⟩ = pure (ps.zip us)
theorem good_fn {S : Sx} {x : Str} {st : Stmt} {N ps : List Str} {n k : Nat} {db : DenS} (h : Kn S x st) (Sc : FnScope N ps (defScope st)) (hb : DSs (S.at N (defScope st) k) (defBody st) db) (hbind : BindN x st ps) (hn : ps.length = n) : Good S x n (dBody N.length db) [] (k + 1) := by
  subst hn
  obtain ⟨f, fd, F, hm⟩ := h.ex
  exact ⟨f, fd, ps, [], [], ok_fn (S := S.at N (defScope st) k) F Sc hb rfl, hm, F.kp, F.bindsN hbind, .nil, fun Fz am H => .nil fun _ => rfl⟩
/-- the promise that is never asked -/
theorem good_stuck {S : Sx} {x : Str} {st : Stmt} {N ps : List Str} {n k : Nat} (h : Kn S x st) (Sc : FnScope N ps (defScope st)) (hbind : BindN x st ps) (hn : ps.length = n) : Good S x n (fun _ _ => .stuck) [] (k + 1) := by
  subst hn
  obtain ⟨f, fd, F, hm⟩ := h.ex
  refine ⟨f, fd, ps, [], [], ?_, hm, F.kp, F.bindsN hbind, .nil, fun Fz am H => .nil fun _ => rfl⟩
  refine F.ok Sc (fun vs H Q E h => h.1) fun cdv A outer s H vs Q E hr h => ?_
  obtain ⟨hl, Fz, am, as, st, na, ns, h1, h2, h3, h4⟩ := h
  exact h4.elim
/-- a block's names, by a look -/
def blkB (N : List Str) (sc scope : Scope) (own : List (Str × Nat)) : Bool :=
  decide (scope.kind = .function) && scope.names.all (fun y => decide (scope.names.lookup y.1 = some y.2)) && own.all (fun p => decide (N[p.2]? = some p.1)) &&
  scope.names.all (fun y => !decide (y.2 = .free) || (decide (sc.names.lookup y.1 = some .cell) || decide (sc.names.lookup y.1 = some .free))) &&
  scope.names.all (fun y => !(decide (y.2 = .local) || decide (y.2 = .cell)) || (decide (y.1 ∈ own.map (·.1)) || !decide (y.1 ∈ N)))
theorem blk_ok {N : List Str} {sc scope : Scope} {own : List (Str × Nat)} (h : blkB N sc scope own = true) : BlkOk N sc scope own := by
  unfold blkB at h
  simp only [Bool.and_eq_true, List.all_eq_true, decide_eq_true_eq] at h
  obtain ⟨⟨⟨⟨h1, h2⟩, h3⟩, h4⟩, h5⟩ := h
  refine ⟨h1, h2, h3, fun y hy e => ?_, fun y hy e => ?_⟩
  · have := h4 y hy
    simpa [e] using this
  · have := h5 y hy
    rcases e with e | e <;> simpa [e] using this
/-- the law's own promise, of a list of ints -/
theorem law_sp {G : Sg} {F : Fn} {H : Hp} {a : Addr} {ns : List Int} {st : Store} (hS : SqL G.K H a (ns.map V.int)) (h : F [(.z, .con .frl (ns.map D.int))] [] = .ok .z false (.bl true) st) :
    SpF G 1 F [.ref a] H (fun v _ => v = .bl true) fun _ _ _ => False := by
  have its : ∀ {Fz : Addr → Prop} {am : List Addr} (ns : List Int), Reps G Fz am H (zs (ns.map D.int).length) (ns.map V.int) (ns.map D.int) (fun _ => 0) := fun {Fz am} ns => by
    induction ns with
    | nil => exact .nil fun _ => rfl
    | cons n ns ih =>
      show Reps G Fz am H (zs ((ns.map D.int).length + 1)) (V.int n :: ns.map V.int) (D.int n :: ns.map D.int) _
      rw [show zs ((ns.map D.int).length + 1) = .z :: zs (ns.map D.int).length from List.replicate_succ]
      exact .cons (n1 := fun _ => 0) (n2 := fun _ => 0) (.sc rfl fun _ => rfl) ih fun _ => rfl
  have fin : ∀ g, PostF G g (fun v _ => v = .bl true) (fun _ _ _ => False) (F [(.z, .con .frl (ns.map D.int))] []) := fun g => by
    rw [h]
    exact ⟨rfl, fun v H' R => R.bl⟩
  have fin2 : ∀ Fz : Addr → Prop, (∀ p, Fz p → ∃ o, H p = some o) → Shr G Fz H a .frl (ns.map V.int) → SpF G 1 F [.ref a] H (fun v _ => v = .bl true) fun _ _ _ => False := fun Fz hz sh => by
    refine ⟨rfl, Fz, [], [(.z, .con .frl (ns.map D.int))], [], fun _ => 0, fun _ => 0, ?_, .nil fun _ => rfl, ⟨fun p => by simp, fun p hp => absurd hp (Nat.lt_irrefl 0), fun p hp => absurd hp (Nat.lt_irrefl 0), hz, fun p o e _ => e, fun p hp => absurd hp (Nat.lt_irrefl 0), fun _ z => z, fun _ z => .inl z, fun _ _ z => z⟩, fin _⟩
    exact .cons (n1 := fun _ => 0) (n2 := fun _ => 0) (.zz (k := .frl) sh (its ns) fun _ => rfl) (.nil fun _ => rfl) fun _ => rfl
  rcases hS with r | r
  · exact fin2 (fun p => p = a) (fun p e => by
      subst e
      rcases r with r | ⟨o, r⟩
      · exact ⟨_, r⟩
      · exact ⟨_, r⟩) (.inl ⟨rfl, r⟩)
  · exact fin2 (fun _ => False) (fun p e => e.elim) (.inr (.inr r))
end Hx

set_option Elab.async false
set_option linter.all false
set_option maxRecDepth 100000
set_option autoImplicit false
/-! F13: what is never reached; stores side by side; constants of the module. -/
namespace Hx
open PySem PySem.Spec L2
open PyProof.Rows hiding St
section
variable {S : Sx} {e a b c tg : Expr} {es : List Expr} {da db dc de di : Den} {das : DenL} {pos p : Pos} {s : Stmt} {ss : List Stmt} {tr : DenS}
/-- a reading that is never asked -/
@[simp] def dNoE : Den := fun _ _ => .stuck
@[simp] def dNoS : DenS := fun _ _ => .stuck
theorem de_no : DE S e dNoE := fun W => ⟨fun _ _ _ => False, fun X hX tk => ⟨fun _ _ _ _ _ _ h => h.elim⟩, fun g env st T σ H Q hT R h => h⟩
theorem ds_no : DS S s dNoS := fun W => ⟨fun _ _ _ => False, fun X hX tk => ⟨fun _ _ _ _ _ _ h => h.elim⟩, fun g env st T σ H D hT R h => h⟩
/-- two names stored side by side -/
def starB : Expr → Bool
  | .Starred _ _ => true
  | _ => false
theorem sw2 {x y : Str} {px py pt p2 : Pos} {kt k2 : Nat} {X : Cx} (hX : Stx S X) (hk : S.sc.kind = .function) (hx : S.sc.names.lookup x = some .local) (hy : S.sc.names.lookup y = some .local) (hne : ([x, y].eraseDups.length != 2) = false) (hl : (py.line == px.line) = true)
    (hs : ([a, b].any fun | .Starred .. => true | _ => false) = false) (hf : [a, b].all (foldedForSure 8) = false) (hc : [a, b].all (constantsAlone 8) = false) :
    swappedStores [.Tuple [.Name x px, .Name y py] kt pt] (.Tuple [a, b] k2 p2) X.env = pure (some [x, y]) := by
  have k1 : X.env.kindOf x = some .local := by show X.env.scope.names.lookup x = _; rw [hX.sc]; exact hx
  have k2 : X.env.kindOf y = some .local := by show X.env.scope.names.lookup y = _; rw [hX.sc]; exact hy
  have k3 : (X.env.blockKind != .function) = false := by
    unfold Env.blockKind
    rw [hX.sc, hk]
    rfl
  unfold swappedStores
  simp [k1, k2, hl, hf, hc, hne, Expr.pos, List.filterMap]
  have k4 : X.env.blockKind = .function := by simpa using k3
  rw [if_pos k4]
  simp only [List.any_cons, List.any_nil, Bool.or_false, Bool.or_eq_false_iff] at hs
  rw [if_neg]
  rintro (h | h)
  · exact absurd (Eq.trans (Eq.symm h) hs.1) (by decide)
  · exact absurd (Eq.trans (Eq.symm h) hs.2) (by decide)
/-- a, b = e1, e2: both names local -/
@[simp] def dPar (i j : Nat) (as : DenL) : DenS := fun env st => match as env st with
  | .ok [(f, b, d), (f', b', d')] st1 => bif (!b || f.isz) && (!b' || f'.isz) then .nx ((env.set i (some (f, d))).set j (some (f', d'))) st1 else .stuck
  | .ok _ _ => .stuck
  | .exc c ds st1 => .exc c ds env st1
  | .stuck => .stuck
theorem ds_par {i j : Nat} {x y : Str} {px py pt p2 : Pos} {kt k2 : Nat} (hN : S.N[i]? = some x) (hM : S.N[j]? = some y) (hij : i ≠ j) (hk : S.sc.kind = .function) (hx : S.sc.names.lookup x = some .local) (hy : S.sc.names.lookup y = some .local) (hne : ([x, y].eraseDups.length != 2) = false) (hl : (py.line == px.line) = true)
    (hs : ([a, b].any fun | .Starred .. => true | _ => false) = false) (hf : [a, b].all (foldedForSure 8) = false) (hc : [a, b].all (constantsAlone 8) = false) (ha : DA S [a, b] das) :
    DS S (.Assign [.Tuple [.Name x px, .Name y py] kt pt] (.Tuple [a, b] k2 p2) pos) (dPar i j das) := fun W => by
  obtain ⟨t, p, q⟩ := ha W
  refine ⟨_, fun X hX tk => ps_par hX.calm hX.nd (by rw [hX.N]; exact hN) (by rw [hX.N]; exact hM) hij (by rw [hX.sc]; exact hx) (by rw [hX.sc]; exact hy) (p X hX tk) (sw2 hX hk hx hy hne hl hs hf hc), fun g env st T σ H D hT R h => q g env st T σ H _ hT R ?_⟩
  unfold dPar at h
  cases e : das env st with
  | stuck => rw [e] at h; exact h.elim
  | exc c ds st1 => rw [e] at h; exact h σ
  | ok ts st1 =>
    rw [e] at h
    intro vs H1 hvl R1
    split at h
    · rename_i f b d f' b' d' st2 e2
      cases e2
      obtain ⟨hb, h⟩ := bifT h id
      rw [Bool.and_eq_true] at hb
      match vs, hvl with
      | [v, w], _ =>
        refine ⟨v, w, rfl, h _ _ ?_⟩
        have R2 : Rl S.G g env st1 (⟨v, f, d, b⟩ :: ⟨w, f', d', b'⟩ :: T) σ H1 := R1
        have R3 := (R2.unb hb.1)
        have R4 : Rl S.G g env st1 (⟨w, f', d', b'⟩ :: ⟨v, f, d, false⟩ :: T) σ H1 := RlB.mid (l := [_]) R3
        have R5 := Rl.unb R4 hb.2
        have R6 : Rl S.G g env st1 (⟨v, f, d, false⟩ :: ⟨w, f', d', false⟩ :: T) σ H1 := RlB.mid (l := [_]) R5
        have R7 := Rl.store (b := false) R6 rfl (nb_cons hT) i
        exact Rl.store (b := false) R7 rfl hT j
    · rename_i e2; cases e2; exact h.elim
    · rename_i e2; cases e2
    · rename_i e2; cases e2
end
/-! ### constants of the module -/
structure GV (S : Sx) (x : Str) (d : D) : Prop where
  ex : ∃ v u, S.mg x = some u ∧ RelV v u ∧ ∀ Fz am H, Rep S.G Fz am H .z v d (fun _ => 0)
theorem GV.at {S : Sx} {x : Str} {d : D} (h : GV S x d) {N : List Str} {sc : Scope} {k : Nat} : GV (S.at N sc k) x d := ⟨h.ex⟩
theorem GV.blk {S : Sx} {x : Str} {d : D} (h : GV S x d) {sc : Scope} : GV (S.blk sc) x d := ⟨h.ex⟩
theorem de_glo {S : Sx} {x : Str} {p : Pos} {d : D} (h : GV S x d) (hg : S.sc.names.lookup x = some .globalImplicit) (hd : (x == ("__debug__" : Str)) = false) : DE S (.Name x p) (dC d) := fun W => by
  obtain ⟨v, u, hm, r, rep⟩ := h.ex
  exact ⟨_, fun X hX tk => pe_glob (show X.env.scope.names.lookup x = some .globalImplicit by rw [hX.sc]; exact hg) (by rw [hX.mg]; exact hm) r hd, fun g env st T σ H Q hT R h => h _ H (R.pz fun Fz am ne nt _ _ => rep Fz am H)⟩
/-- a value of the written part reads as d -/
def kval (K : PySem.W.Frag) : Nat → Value → D → Bool
  | 0, _, _ => false
  | _ + 1, .none, .non => true
  | _ + 1, .bool a, .bl b => a == b
  | _ + 1, .int i _, .int j => decide (i = j)
  | _ + 1, .str x _, .str y => decide (x = y)
  | n + 1, .ref a, .con .tup ds => match K.lookup a with
    | some ⟨.type "tuple", _, .seq its _, _⟩ => decide (its.size ≤ 1000) && decide (its.size = ds.length) && (its.toList.zip ds).all fun q => kval K n q.1 q.2
    | _ => false
  | n + 1, .ref a, .con .frl ds => match K.lookup a with
    | some ⟨.type "list", Option.none, .seq its _, _⟩ => decide (its.size ≤ 1000) && decide (its.size = ds.length) && (its.toList.zip ds).all fun q => kval K n q.1 q.2
    | _ => false
  | _, _, _ => false
section
variable {G : Sg} {Fz : Addr → Prop} {am : List Addr} {H : Hp}
theorem kvals {n : Nat} (ih : ∀ u d, kval G.K n u d = true → ∃ v, RelV v u ∧ ∀ Fz am H, Rep G Fz am H .z v d (fun _ => 0)) : ∀ (us : List Value) (ds : List D), us.length = ds.length → ((us.zip ds).all fun q => kval G.K n q.1 q.2) = true →
    ∃ vs, Vals vs us ∧ ∀ Fz am H, Reps G Fz am H (zs ds.length) vs ds (fun _ => 0)
  | [], [], _, _ => ⟨[], .nil, fun _ _ _ => .nil fun _ => rfl⟩
  | u :: us, d :: ds, hl, h => by
    rw [List.zip_cons_cons, List.all_cons, Bool.and_eq_true] at h
    obtain ⟨v, r, rep⟩ := ih u d h.1
    obtain ⟨vs, rs, reps⟩ := kvals ih us ds (by simpa using hl) h.2
    refine ⟨v :: vs, .cons r rs, fun Fz am H => ?_⟩
    rw [show zs (d :: ds).length = .z :: zs ds.length from List.replicate_succ]
    exact .cons (rep Fz am H) (reps Fz am H) fun q => rfl
theorem small1k {n : Nat} (h : n ≤ 1000) : n ≤ sizeLine := Nat.le_trans h (by decide)
theorem kval_ok : ∀ (n : Nat) (u : Value) (d : D), kval G.K n u d = true → ∃ v, RelV v u ∧ ∀ Fz am H, Rep G Fz am H .z v d (fun _ => 0)
  | 0, u, d, h => by cases h
  | n + 1, u, d, h => by
    have ih := kval_ok n
    unfold kval at h
    split at h
    · cases h
    · exact ⟨.non, rfl, fun _ _ _ => .sc trivial fun _ => rfl⟩
    · rename_i a b e1
      have := eq_of_beq h
      subst this
      exact ⟨.bl a, rfl, fun _ _ _ => .sc rfl fun _ => rfl⟩
    · rename_i i t j e1
      have := of_decide_eq_true h
      subst this
      exact ⟨.int i, ⟨t, rfl⟩, fun _ _ _ => .sc rfl fun _ => rfl⟩
    · rename_i i t j e1
      have := of_decide_eq_true h
      subst this
      exact ⟨.str i, ⟨t, rfl⟩, fun _ _ _ => .sc rfl fun _ => rfl⟩
    · rename_i m a ds e1
      split at h
      · rename_i dx its n0 sl el
        simp only [Bool.and_eq_true, decide_eq_true_eq] at h
        have em : n = m := Nat.succ.inj e1
        subst em
        obtain ⟨vs, rs, reps⟩ := kvals (kval_ok _) its.toList ds (by simpa using h.1.2) h.2
        exact ⟨.ref a, rfl, fun Fz am H => .zz (k := .tup) (.inr ⟨_, its, n0, el, rfl, rfl, small1k h.1.1, rs⟩) (reps Fz am H) fun _ => rfl⟩
      · cases h
    · rename_i m a ds e1
      split at h
      · rename_i its n0 sl el
        simp only [Bool.and_eq_true, decide_eq_true_eq] at h
        have em : n = m := Nat.succ.inj e1
        subst em
        obtain ⟨vs, rs, reps⟩ := kvals (kval_ok _) its.toList ds (by simpa using h.1.2) h.2
        exact ⟨.ref a, rfl, fun Fz am H => .zz (k := .frl) (.inr (.inr ⟨_, its, n0, el, rfl, rfl, rfl, small1k h.1.1, rs⟩)) (reps Fz am H) fun _ => rfl⟩
      · cases h
    · cases h
end
/-- a global name's value reads as d -/
def gval (K : PySem.W.Frag) (x : Str) (d : D) : Bool := match PySem.W.nsIn K mainGlobals x with
  | some (some u) => kval K 8 u d
  | _ => false
theorem gv_of {S : Sx} {h : Heap} (X : S.G.K.In h) (Gn : h.Ns mainGlobals S.mg) {x : Str} {d : D} (c : gval S.G.K x d = true) : GV S x d := by
  unfold gval at c
  split at c
  · rename_i u e
    obtain ⟨v, r, rep⟩ := kval_ok 8 u d c
    exact ⟨v, u, PySem.W.mg_of X Gn e, r, rep⟩
  · cases c
end Hx

set_option Elab.async false
set_option linter.all false
set_option maxRecDepth 100000
set_option autoImplicit false
/-! F14: defs with defaults. -/
namespace Hx
open PySem PySem.Spec L2
open PyProof.Rows hiding St
/-- scalars as values -/
def scV : D → V
  | .bl b => .bl b
  | .int i => .int i
  | .str s => .str s
  | _ => .non
def isSc : D → Bool
  | .non => true
  | .bl _ => true
  | .int _ => true
  | .str _ => true
  | _ => false
theorem sc_reps {G : Sg} : ∀ (ds : List D), ds.all isSc = true → ∀ Fz am H, Reps G Fz am H (zs ds.length) (ds.map scV) ds (fun _ => 0)
  | [], _, _, _, _ => .nil fun _ => rfl
  | d :: ds, h, Fz, am, H => by
    rw [List.all_cons, Bool.and_eq_true] at h
    rw [show zs (d :: ds).length = .z :: zs ds.length from List.replicate_succ]
    refine .cons (n1 := fun _ => 0) (n2 := fun _ => 0) (.sc ?_ fun _ => rfl) (sc_reps ds h.2 Fz am H) fun _ => rfl
    cases d <;> first | trivial | rfl | (exact Bool.noConfusion h.1)
/-- a def with defaults that are scalars -/
structure KnD (S : Sx) (x : Str) (st : Stmt) (dfl : List D) : Prop where
  ex : ∃ f fd, FunD S.G.K x x (defArgs st) (defBody st) (defScope st) (dfl.map scV) [] f fd ∧ S.mg x = some (.ref f)
def BindD (x : Str) (st : Stmt) (ps : List Str) (n m j : Nat) : Prop := ∀ (T : Addr) (kV doc pm : Value) (an : Option Addr) (cdv ct : Value) (us its : List Value), us.length = n → its.length = m →
  ∃ k, bindArgs (PySem.W.fnOf x x (defArgs st) (defBody st) (defScope st) (.ref T) kV doc pm an cdv ct) ⟨us, []⟩ = seqItems? (.ref T) >>= k ∧ k (some its.toArray) = pure (ps.zip (us ++ its.drop j))
/-- called with n arguments; the defaults behind the first j fill up -/
theorem good_fnD {S : Sx} {x : Str} {st : Stmt} {N ps : List Str} {m n j k : Nat} {db : DenS} {dfl dd : List D} (h : KnD S x st dfl) (Sc : FnScope N ps (defScope st)) (hb : DSs (S.at N (defScope st) k) (defBody st) db) (hbind : BindD x st ps n dfl.length j) (hd : dfl ≠ []) (ha : dfl.all isSc = true)
    (hdd : dfl.drop j = dd) (hn : n + dd.length = ps.length) (hm : ps.length = m) : Good S x m (dBody N.length db) dd (k + 1) := by
  subst hm hdd
  obtain ⟨f, fd, F, hmg⟩ := h.ex
  obtain ⟨ds, vd, bd⟩ := F.binds1 (ps := ps) n j (by simpa using hd) (by simpa using hn) fun T kV doc pm an cdv ct us its hu hi => hbind T kV doc pm an cdv ct us its hu (by simpa using hi)
  refine ⟨f, fd, ps, ds, (dfl.drop j).map scV, ok_fn (S := S.at N (defScope st) k) F Sc hb rfl, hmg, F.kp, bd, by rw [List.map_drop]; exact vd, fun Fz am H => sc_reps _ ?_ Fz am H⟩
  rw [List.all_eq_true] at ha ⊢
  exact fun d hd' => ha d (List.mem_of_mem_drop hd')
end Hx

set_option Elab.async false
set_option linter.all false
set_option maxRecDepth 100000
set_option autoImplicit false
/-! M0: readings made plain. -/
namespace Hx
open PySem PySem.Spec L2
abbrev P2 (x y : Int) : D := .con .tup [.int x, .int y]
theorem eqD_int {i j : Int} : eqD (.int i) (.int j) = some (i == j) := by
  simp [eqD, D.py, SeqAt.shaped, PyData.canLay0, PyData.depth, PyData.eqv]
theorem eqD_bl {i j : Bool} : eqD (.bl i) (.bl j) = some (i == j) := by
  simp [eqD, D.py, SeqAt.shaped, PyData.canLay0, PyData.depth, PyData.eqv]
/-- numbers below 2 ^ n -/
def Sm (n : Nat) (i : Int) : Prop := i.natAbs < 2 ^ n
theorem Sm.mono {n m : Nat} {i : Int} (h : Sm n i) (k : n ≤ m) : Sm m i := Nat.lt_of_lt_of_le h (Nat.pow_le_pow_right (by decide) k)
theorem Sm.mul {n m : Nat} {i j : Int} (h : Sm n i) (k : Sm m j) : Sm (n + m) (i * j) := by
  unfold Sm at *
  rw [Int.natAbs_mul, Nat.pow_add]
  exact Nat.mul_lt_mul'' h k
theorem Sm.add {n m : Nat} {i j : Int} (h : Sm n i) (k : Sm m j) : Sm (max n m + 1) (i + j) := by
  have h' := h.mono (Nat.le_max_left n m)
  have k' := k.mono (Nat.le_max_right n m)
  unfold Sm at *
  rw [Nat.pow_succ]
  omega
theorem Sm.sub {n m : Nat} {i j : Int} (h : Sm n i) (k : Sm m j) : Sm (max n m + 1) (i - j) := by
  have h' := h.mono (Nat.le_max_left n m)
  have k' := k.mono (Nat.le_max_right n m)
  unfold Sm at *
  rw [Nat.pow_succ]
  omega
theorem Sm.lg {n : Nat} {i : Int} (h : Sm n i) : i.natAbs.log2 ≤ n := Nat.lt_succ_iff.mp (PySem.Flt.log2_lt_of (Nat.succ_pos n) (h.mono (Nat.le_succ n)))
theorem Sm.ok {n m : Nat} {i j : Int} (h : Sm n i) (k : Sm m j) (a : n ≤ 400000) (b : m ≤ 400000) : mulOk i j = true := by
  have x := h.lg
  have y := k.lg
  simp only [mulOk, decide_eq_true_eq]
  omega
theorem divOk_of {n : Nat} {j : Int} (h : Sm n j) (h0 : j ≠ 0) (k : n ≤ 9000) (p : 0 < n) : divOk j = true := by
  have x : j.natAbs.log2 < n := PySem.Flt.log2_lt_of p h
  simp only [divOk, Bool.and_eq_true, decide_eq_true_eq]
  exact ⟨h0, by omega⟩
/-- the drawing bag in cell c -/
structure Bag (k : Nat) (st : Store) (c : Nat) : Prop where
  ex : ∃ (xs : List Int) (i h s n : Int), st[c]? = some (.c .z, .con .lst [.con .lst (xs.map D.int), .int i, .int h, .int s, .int n]) ∧ 0 ≤ i ∧ 0 ≤ h ∧ 0 ≤ s ∧ s < 2147483647 ∧ 0 ≤ n ∧ n ≤ k
theorem Bag.mono {k j : Nat} {st : Store} {c : Nat} (b : Bag k st c) (h : k ≤ j) : Bag j st c := by
  obtain ⟨xs, i, h', s, n, e, a1, a2, a3, a4, a5, a6⟩ := b.ex
  exact ⟨xs, i, h', s, n, e, a1, a2, a3, a4, a5, by omega⟩
/-- nothing but cell c has changed -/
structure Fro1 (c : Nat) (st st' : Store) : Prop where
  len : st'.length = st.length
  at_ : ∀ j, j ≠ c → st'[j]? = st[j]?
theorem Fro1.refl {c : Nat} {st : Store} : Fro1 c st st := ⟨rfl, fun _ _ => rfl⟩
theorem Fro1.trans {c : Nat} {s1 s2 s3 : Store} (a : Fro1 c s1 s2) (b : Fro1 c s2 s3) : Fro1 c s1 s3 := ⟨b.len.trans a.len, fun j h => (b.at_ j h).trans (a.at_ j h)⟩
theorem Fro1.set {c : Nat} {st : Store} {x : Fr × D} : Fro1 c st (st.set c x) := ⟨List.length_set, fun j h => by rw [List.getElem?_set_ne (Ne.symm h)]⟩
theorem lk_bag {st : Store} {c : Nat} {ds : List D} (e : st[c]? = some (.c .z, .con .lst ds)) : lk st (.ref c) = .con .lst ds := by
  simp [lk, e, Fr.flat, Fr.isz]
theorem get_set {st : Store} {c : Nat} {x y : Fr × D} (e : st[c]? = some x) : (st.set c y)[c]? = some y := by
  have h := (List.getElem?_eq_some_iff.mp e).1
  rw [List.getElem?_set_self h]
theorem atI_map {xs : List Int} {i : Int} (h0 : 0 ≤ i) (h : i < xs.length) : ∃ x, atI (xs.map D.int) i = some (.int x) := by
  have hl : i.toNat < xs.length := by omega
  refine ⟨xs[i.toNat], ?_⟩
  simp [atI, ixN, h0, h, hl]
/-! ### the readings, for simp -/
section
variable {i : Nat} {a b c e o : Den} {as : DenL} {t u : DenB} {s r : DenS} {env : Env} {st : Store} {d d' : D} {ds : List D} {op op' : Op} {j k : Int}
@[simp] theorem eqD_int' {i j : Int} : eqD (.int i) (.int j) = some (decide (i = j)) := by rw [eqD_int]; congr 1
@[simp] theorem eqD_bl' {i j : Bool} : eqD (.bl i) (.bl j) = some (decide (i = j)) := by rw [eqD_bl]; cases i <;> cases j <;> rfl
@[simp] theorem isz_z : Fr.isz .z = true := rfl
@[simp] theorem isz_c {f : Fr} : Fr.isz (.c f) = false := rfl
@[simp] theorem isz_t {fs : List Fr} : Fr.isz (.t fs) = false := rfl
@[simp] theorem flat_z : Fr.flat .z = true := rfl
@[simp] theorem flat_cz : Fr.flat (.c .z) = true := rfl
@[simp] theorem seq_tup : Kd.seq .tup = true := rfl
@[simp] theorem seq_lst : Kd.seq .lst = true := rfl
@[simp] theorem seq_frl : Kd.seq .frl = true := rfl
@[simp] theorem sq_lst : Kd.sq .lst = true := rfl
@[simp] theorem sq_frl : Kd.sq .frl = true := rfl
@[simp] theorem ble_dec {x y : Nat} : Nat.ble x y = decide (x ≤ y) := by rw [Bool.eq_iff_iff]; simp [Nat.ble_eq]
@[simp] theorem lk_int : lk st (.int j) = .int j := rfl
@[simp] theorem lk_bl {x : Bool} : lk st (.bl x) = .bl x := rfl
@[simp] theorem lk_non : lk st .non = .non := rfl
@[simp] theorem lk_str {x : Str} : lk st (.str x) = .str x := rfl
@[simp] theorem lk_con {x : Kd} : lk st (.con x ds) = .con x ds := rfl
theorem lk_set {c : Nat} {f : Fr} (hl : c < st.length) (hf : f.flat = true) : lk (st.set c (f, d)) (.ref c) = d := by
  have e : (st.set c (f, d))[c]? = some (f, d) := List.getElem?_set_self hl
  unfold lk
  dsimp only
  rw [e]
  show (bif f.flat then d else .ref c) = d
  rw [hf]
  rfl
@[simp] theorem lk_setc {c : Nat} (hl : c < st.length) : lk (st.set c (.c .z, d)) (.ref c) = d := lk_set hl rfl
@[simp] theorem at0 {x : D} {xs : List D} : atI (x :: xs) 0 = some x := by simp [atI, ixN]
@[simp] theorem at1 {x y : D} {xs : List D} : atI (x :: y :: xs) 1 = some y := by
  have : (1 : Int) < (xs.length : Int) + 1 + 1 := by omega
  simp [atI, ixN, this]
@[simp] theorem at2 {x y z : D} {xs : List D} : atI (x :: y :: z :: xs) 2 = some z := by
  have : (2 : Int) < (xs.length : Int) + 1 + 1 + 1 := by omega
  simp [atI, ixN, this]
@[simp] theorem at3 {x y z w : D} {xs : List D} : atI (x :: y :: z :: w :: xs) 3 = some w := by
  have : (3 : Int) < (xs.length : Int) + 1 + 1 + 1 + 1 := by omega
  simp [atI, ixN, this]
@[simp] theorem at4 {x y z w v : D} {xs : List D} : atI (x :: y :: z :: w :: v :: xs) 4 = some v := by
  have : (4 : Int) < (xs.length : Int) + 1 + 1 + 1 + 1 + 1 := by omega
  simp [atI, ixN, this]
end
end Hx

set_option Elab.async false
set_option linter.all false
set_option maxRecDepth 100000
set_option autoImplicit false
/-! M1: the head's facts, a law's end, with exceptions by world. -/
namespace Hx
open PySem PySem.Spec L2
open PyProof.Rows hiding St
/-- the context of a row's defs -/
@[reducible] def S0 (P : Program) (w : World) (K : PySem.W.Frag) (mg : Str → Option Value) (base : Heap) : Sx :=
  ⟨P, w, mg, base, ⟨K, fun _ => 0, fun _ => [], fun _ => .non⟩, [], ⟨.function, [], false, false, []⟩, 0, true⟩
theorem kn_of {fa : List He.Fa} {fn : List He.DefD} {P : Program} {w : World} {K : PySem.W.Frag} {h : Heap} {mg : Str → Option Value} {base : Heap} (c : He.SaysD fa fn K) (X : K.In h) (Gn : h.Ns mainGlobals mg) (i j : Nat) {x : Str} {st : Stmt} {d : He.DefD}
    (hd : fn[i]? = some d) (hf : fa[j]? = some (.glo x)) (e : d = ⟨(x, none), x, x, defArgs st, defBody st, defScope st, [], []⟩ := by rfl) : Kn (S0 P w K mg base) x st := by
  subst e
  obtain ⟨fd, F⟩ := c.def_ i hd
  exact ⟨_, fd, F, He.glo_ok X Gn (c.fact j hf)⟩
/-- a law's end, what its defs let out told by the world -/
theorem law_end {l : PySem.W.OpenLaw} {n k : Nat} {q : Program} {loose : List Str} {XP : (Str → Option Value) → Heap → Prop} {YP : World → Heap → Prop} {d : DefRec} {x : Str}
    (hn : l.most = some n) (hn2 : n ≤ sizeLine) (hdf : d.params.defaults = []) (hr : Room k callerA)
    (F : ∀ (w : World) (mg : Str → Option Value) (fa : Addr) (h : Heap), YP w h → h.Ns mainGlobals mg → mg d.name = some (.ref fa) → ∃ (K : PySem.W.Frag) (fd : FuncData) (sp : Sp), K.In h ∧
      (∀ (s : Shared) (u : Value), BindsTo s fd ⟨[u], []⟩ [(x, u)]) ∧ (∀ (H : Hp) (a : Addr) (ns : List Int), ns.length ≤ n → SqL K H a (ns.map V.int) → sp [.ref a] H (fun v _ => v = .bl true) fun _ _ _ => False) ∧
      ∀ base : Heap, K.In base → base.Ns mainGlobals mg → FnOk l.prog w K mg base (L2.CX l.prog w) k fa fd [x] sp) :
    PySem.W.WalkO q loose XP YP l.row.toRowW d [] (fun f vs => PySem.call f vs) := by
  refine Att.attach_call hn hdf fun w s0 s1 mg mb fa o pm cd doc a vs ns Gw Y ho hd hcd hmg hobj hints hlen hg => ?_
  obtain ⟨K, fd, sp, KX, hb, hsp, hF⟩ := F w mg fa _ Y Gw.T.g hmg
  refine law_call KX Gw.T.g Gw.T.b Gw.T.builtins Gw.T.nolimit hg hobj hints (Nat.le_trans hlen hn2) hr hF hb ?_ ?_
  · exact fun H _ hS => hsp H a ns hlen hS
  · intro H e s' z
    obtain ⟨_, _, _, _, _, _, _, _, _, _, _, _, z⟩ := z
    exact z
end Hx

set_option Elab.async false
set_option linter.all false
set_option maxRecDepth 100000
set_option autoImplicit false
/-! M2: a head that tells constants, defaults too. -/
namespace Hx
open PySem PySem.Spec L2
open PyProof.Rows hiding St
/-- the head's look, one Bool more -/
def obsX (as : (Addr → Option Obj) → List Addr) (fa : List He.Fa) (fn : List He.DefD) (ex : PySem.W.Frag → Bool) (g : Addr → Option Obj) : He.AlD × Bool :=
  (He.obsD fa fn (He.frG g (as g)), ex (He.frG g (as g)))
def hookX (as : (Addr → Option Obj) → List Addr) (fa : List He.Fa) (fn : List He.DefD) (ex : PySem.W.Frag → Bool) : PySem.W.Hook where
  α := He.AlD × Bool
  obs := fun s => obsX as fa fn ex s.heap.get?
  val := fun _ => (He.valD fn, true)
  says := fun _ h => ∃ K : PySem.W.Frag, K.In h ∧ He.SaysD fa fn K ∧ ex K = true
  of := fun _ _ e => ⟨_, He.frG_in, congrArg Prod.fst e, congrArg Prod.snd e⟩
  keeps := fun _ _ _ ⟨K, hK, c⟩ k => ⟨K, PySem.W.Frag.In.keeps hK k, c⟩
theorem obsX_eq {as : (Addr → Option Obj) → List Addr} {fa : List He.Fa} {fn : List He.DefD} {ex : PySem.W.Frag → Bool} {g : Addr → Option Obj} {s : Shared} (h : ∀ a, g a = s.heap.get? a) : obsX as fa fn ex g = (hookX as fa fn ex).obs s := by
  have e : g = s.heap.get? := funext h
  rw [e]
  rfl
/-- the constants' look -/
def constsB (cs : List (Str × D)) (K : PySem.W.Frag) : Bool := cs.all fun q => gval K q.1 q.2
theorem constsB_at {cs : List (Str × D)} {K : PySem.W.Frag} (h : constsB cs K = true) (i : Nat) {x : Str} {d : D} (e : cs[i]? = some (x, d)) : gval K x d = true :=
  List.all_eq_true.mp h (x, d) (List.mem_of_getElem? e)
/-- a scalar default as the head tells it -/
def dvOf : D → He.Dv
  | .bl b => .bl b
  | .int i => .int i
  | .str s => .str s
  | _ => .non
theorem dv_v (K : PySem.W.Frag) : ∀ ds : List D, (ds.map dvOf).map (He.Dv.v K) = ds.map scV
  | [] => rfl
  | d :: ds => by
    rw [List.map_cons, List.map_cons, List.map_cons, dv_v K ds]
    cases d <;> rfl
theorem knd_of {fa : List He.Fa} {fn : List He.DefD} {P : Program} {w : World} {K : PySem.W.Frag} {h : Heap} {mg : Str → Option Value} {base : Heap} (c : He.SaysD fa fn K) (X : K.In h) (Gn : h.Ns mainGlobals mg) (i j : Nat) {x : Str} {st : Stmt} {dfl : List D} {d : He.DefD}
    (hd : fn[i]? = some d) (hf : fa[j]? = some (.glo x)) (e : d = ⟨(x, none), x, x, defArgs st, defBody st, defScope st, dfl.map dvOf, []⟩ := by rfl) : KnD (S0 P w K mg base) x st dfl := by
  subst e
  obtain ⟨fd, F⟩ := c.def_ i hd
  have F' : FunD K x x (defArgs st) (defBody st) (defScope st) ((dfl.map dvOf).map (He.Dv.v K)) [] (He.fAd K (x, none)) fd := F
  rw [dv_v] at F'
  exact ⟨_, fd, F', He.glo_ok X Gn (c.fact j hf)⟩
end Hx

set_option Elab.async false
set_option linter.all false
set_option maxRecDepth 100000
set_option maxHeartbeats 0
set_option autoImplicit false
/-! R1: readings of defs that several laws share. -/
namespace Hx
open PySem PySem.Spec L2
@[simp] def B_common_divisor_0b_0 : DenS :=
    dPar 0 1 (dCons (dVar 1) (dLast (dOp oMod (dCons (dVar 0) (dLast (dVar 1))))))
def B_common_divisor_0b : DenS :=
    B_common_divisor_0b_0
@[simp] def B_common_divisor_0 : DenS :=
    dWhile (fun (env : Hx.Env) (_ : Store) => match env[1]? with | some (some (_, D.int b)) => b.natAbs + 1 | _ => 0) (dB (dOp oNe (dCons (dVar 1) (dLast (dC (.int 0)))))) (B_common_divisor_0b) []
@[simp] def B_common_divisor : DenS :=
    dSeq (B_common_divisor_0) (dRetZ (dOp oAbs (dLast (dVar 0))))
def F_common_divisor : Fn := dBody 2 B_common_divisor
@[simp] def B_fraction_0 : DenS :=
    dIfS (dB (dOp oEq (dCons (dVar 1) (dLast (dC (.int 0)))))) (dNoS) (dSkip)
@[simp] def B_fraction_1 : DenS :=
    dSetZ 2 (dCall F_common_divisor [] (dCons (dVar 0) (dLast (dVar 1))))
@[simp] def B_fraction_2 : DenS :=
    dIfS (dB (dOp oLt (dCons (dVar 1) (dLast (dC (.int 0)))))) (dSetZ 2 (dOp oNeg (dLast (dVar 2)))) (dSkip)
@[simp] def B_fraction_3 : DenS :=
    dRetZ (dTup (dCons (dOp oFdiv (dCons (dVar 0) (dLast (dVar 2)))) (dLast (dOp oFdiv (dCons (dVar 1) (dLast (dVar 2)))))))
@[simp] def B_fraction_t2 : DenS :=
    dSeq (B_fraction_2) (B_fraction_3)
@[simp] def B_fraction_t1 : DenS :=
    dSeq (B_fraction_1) (B_fraction_t2)
@[simp] def B_fraction : DenS :=
    dSeq (B_fraction_0) (B_fraction_t1)
def F_fraction : Fn := dBody 3 B_fraction
@[simp] def B_order_0 : DenS :=
    dSetZ 2 (dOp oSub (dCons (dOp oMul (dCons (dOp oIx (dCons (dVar 0) (dLast (dC (.int 0))))) (dLast (dOp oIx (dCons (dVar 1) (dLast (dC (.int 1)))))))) (dLast (dOp oMul (dCons (dOp oIx (dCons (dVar 1) (dLast (dC (.int 0))))) (dLast (dOp oIx (dCons (dVar 0) (dLast (dC (.int 1)))))))))))
@[simp] def B_order_1 : DenS :=
    dRetZ (dOp oSub (dCons (dOp oGt (dCons (dVar 2) (dLast (dC (.int 0))))) (dLast (dOp oLt (dCons (dVar 2) (dLast (dC (.int 0))))))))
@[simp] def B_order : DenS :=
    dSeq (B_order_0) (B_order_1)
def F_order : Fn := dBody 3 B_order
@[simp] def B_corner_room_0 : DenS :=
    dRetZ (dOp oSub (dCons (dOp oMul (dCons (dOp oSub (dCons (dOp oIx (dCons (dVar 1) (dLast (dC (.int 0))))) (dLast (dOp oIx (dCons (dVar 0) (dLast (dC (.int 0)))))))) (dLast (dOp oSub (dCons (dOp oIx (dCons (dVar 2) (dLast (dC (.int 1))))) (dLast (dOp oIx (dCons (dVar 0) (dLast (dC (.int 1))))))))))) (dLast (dOp oMul (dCons (dOp oSub (dCons (dOp oIx (dCons (dVar 1) (dLast (dC (.int 1))))) (dLast (dOp oIx (dCons (dVar 0) (dLast (dC (.int 1)))))))) (dLast (dOp oSub (dCons (dOp oIx (dCons (dVar 2) (dLast (dC (.int 0))))) (dLast (dOp oIx (dCons (dVar 0) (dLast (dC (.int 0))))))))))))))
@[simp] def B_corner_room : DenS :=
    B_corner_room_0
def F_corner_room : Fn := dBody 3 B_corner_room
@[simp] def B_side_0 : DenS :=
    dSetZ 3 (dCall F_corner_room [] (dCons (dVar 0) (dCons (dVar 1) (dLast (dVar 2)))))
@[simp] def B_side_1 : DenS :=
    dRetZ (dOp oSub (dCons (dOp oGt (dCons (dVar 3) (dLast (dC (.int 0))))) (dLast (dOp oLt (dCons (dVar 3) (dLast (dC (.int 0))))))))
@[simp] def B_side : DenS :=
    dSeq (B_side_0) (B_side_1)
def F_side : Fn := dBody 4 B_side
@[simp] def B_is_within_0 : DenS :=
    dRetZ (dChain oLe oLe (dOp oMin2 (dCons (dVar 0) (dLast (dVar 2)))) (dVar 1) (dOp oMax2 (dCons (dVar 0) (dLast (dVar 2)))))
@[simp] def B_is_within : DenS :=
    B_is_within_0
def F_is_within : Fn := dBody 3 B_is_within
@[simp] def B_on_piece_1 : DenS :=
    dIfS (dB (dOp oNe (dCons (dCall F_side [] (dCons (dVar 2) (dCons (dVar 3) (dLast (dVar 0))))) (dLast (dC (.int 0)))))) (dRetZ (dC (.bl false))) (dSkip)
@[simp] def B_on_piece_2 : DenS :=
    dRetZ (dAnd (dCall F_is_within [] (dCons (dOp oIx (dCons (dVar 2) (dLast (dC (.int 0))))) (dCons (dOp oIx (dCons (dVar 0) (dLast (dC (.int 0))))) (dLast (dOp oIx (dCons (dVar 3) (dLast (dC (.int 0))))))))) (dCall F_is_within [] (dCons (dOp oIx (dCons (dVar 2) (dLast (dC (.int 1))))) (dCons (dOp oIx (dCons (dVar 0) (dLast (dC (.int 1))))) (dLast (dOp oIx (dCons (dVar 3) (dLast (dC (.int 1))))))))))
@[simp] def B_on_piece : DenS :=
    dSeq (dUnp (.tp [.nm 2, .nm 3]) (dVar 1)) (dSeq (B_on_piece_1) (B_on_piece_2))
def F_on_piece : Fn := dBody 4 B_on_piece
@[simp] def B_cut_down_0 : DenS :=
    dIfS (dB (dOp oIsN (dCons (dVar 0) (dLast (dC .non))))) (dRetZ (dC .non)) (dSkip)
@[simp] def B_cut_down_1 : DenS :=
    dSetZ 3 (dIf (dB (dOp oGt (dCons (dCall F_order [] (dCons (dVar 1) (dLast (dOp oIx (dCons (dVar 0) (dLast (dC (.int 0)))))))) (dLast (dC (.int 0)))))) (dVar 1) (dOp oIx (dCons (dVar 0) (dLast (dC (.int 0))))))
@[simp] def B_cut_down_2 : DenS :=
    dSetZ 4 (dIf (dB (dOp oLt (dCons (dCall F_order [] (dCons (dVar 2) (dLast (dOp oIx (dCons (dVar 0) (dLast (dC (.int 1)))))))) (dLast (dC (.int 0)))))) (dVar 2) (dOp oIx (dCons (dVar 0) (dLast (dC (.int 1))))))
@[simp] def B_cut_down_3 : DenS :=
    dRetZ (dIf (dB (dOp oGt (dCons (dCall F_order [] (dCons (dVar 3) (dLast (dVar 4)))) (dLast (dC (.int 0)))))) (dC .non) (dTup (dCons (dVar 3) (dLast (dVar 4)))))
@[simp] def B_cut_down_t2 : DenS :=
    dSeq (B_cut_down_2) (B_cut_down_3)
@[simp] def B_cut_down_t1 : DenS :=
    dSeq (B_cut_down_1) (B_cut_down_t2)
@[simp] def B_cut_down : DenS :=
    dSeq (B_cut_down_0) (B_cut_down_t1)
def F_cut_down : Fn := dBody 5 B_cut_down
@[simp] def B_share_on_1 : DenS :=
    dSetZ 4 (dIf (dB (dOp oNe (dCons (dOp oIx (dCons (dVar 2) (dLast (dC (.int 0))))) (dLast (dOp oIx (dCons (dVar 3) (dLast (dC (.int 0))))))))) (dC (.int 0)) (dC (.int 1)))
@[simp] def B_share_on_2 : DenS :=
    dRetZ (dCall F_fraction [] (dCons (dOp oSub (dCons (dOp oIx (dCons (dVar 1) (dLast (dVar 4)))) (dLast (dOp oIx (dCons (dVar 2) (dLast (dVar 4))))))) (dLast (dOp oSub (dCons (dOp oIx (dCons (dVar 3) (dLast (dVar 4)))) (dLast (dOp oIx (dCons (dVar 2) (dLast (dVar 4))))))))))
@[simp] def B_share_on : DenS :=
    dSeq (dUnp (.tp [.nm 2, .nm 3]) (dVar 0)) (dSeq (B_share_on_1) (B_share_on_2))
def F_share_on : Fn := dBody 5 B_share_on
@[simp] def B_along_shares_0 : DenS :=
    dSetZ 2 (dTup (dCons (dCall F_share_on [] (dCons (dVar 1) (dLast (dOp oIx (dCons (dVar 0) (dLast (dC (.int 0)))))))) (dLast (dCall F_share_on [] (dCons (dVar 1) (dLast (dOp oIx (dCons (dVar 0) (dLast (dC (.int 1)))))))))))
@[simp] def B_along_shares_1t_0 : DenS :=
    dSetZ 2 (dTup (dCons (dOp oIx (dCons (dVar 2) (dLast (dC (.int 1))))) (dLast (dOp oIx (dCons (dVar 2) (dLast (dC (.int 0))))))))
@[simp] def B_along_shares_1 : DenS :=
    dIfS (dB (dOp oGt (dCons (dCall F_order [] (dCons (dOp oIx (dCons (dVar 2) (dLast (dC (.int 0))))) (dLast (dOp oIx (dCons (dVar 2) (dLast (dC (.int 1)))))))) (dLast (dC (.int 0)))))) (B_along_shares_1t_0) (dSkip)
@[simp] def B_along_shares_2 : DenS :=
    dRetZ (dCall F_cut_down [] (dCons (dTup (dCons (dC (.con .tup [.int 0, .int 1])) (dLast (dC (.con .tup [.int 1, .int 1]))))) (dCons (dOp oIx (dCons (dVar 2) (dLast (dC (.int 0))))) (dLast (dOp oIx (dCons (dVar 2) (dLast (dC (.int 1)))))))))
@[simp] def B_along_shares : DenS :=
    dSeq (B_along_shares_0) (dSeq (B_along_shares_1) (B_along_shares_2))
def F_along_shares : Fn := dBody 3 B_along_shares
@[simp] def B_piece_shares_1t_0 : DenS :=
    dRetZ (dIf (dB (dCall F_on_piece [] (dCons (dVar 2) (dLast (dVar 0))))) (dTup (dCons (dC (.con .tup [.int 0, .int 1])) (dLast (dC (.con .tup [.int 0, .int 1]))))) (dC .non))
@[simp] def B_piece_shares_1 : DenS :=
    dIfS (dB (dOp oEq (dCons (dVar 2) (dLast (dVar 3))))) (B_piece_shares_1t_0) (dSkip)
@[simp] def B_piece_shares_2 : DenS :=
    dSetZ 4 (dTup (dCons (dCall F_corner_room [] (dCons (dVar 2) (dCons (dVar 3) (dLast (dOp oIx (dCons (dVar 0) (dLast (dC (.int 0))))))))) (dLast (dCall F_corner_room [] (dCons (dVar 2) (dCons (dVar 3) (dLast (dOp oIx (dCons (dVar 0) (dLast (dC (.int 1))))))))))))
@[simp] def B_piece_shares_3t_0 : DenS :=
    dRetZ (dCall F_along_shares [] (dCons (dVar 0) (dLast (dVar 1))))
@[simp] def B_piece_shares_3 : DenS :=
    dIfS (dB (dOp oEq (dCons (dVar 4) (dLast (dTup (dCons (dC (.int 0)) (dLast (dC (.int 0))))))))) (B_piece_shares_3t_0) (dSkip)
@[simp] def B_piece_shares_4 : DenS :=
    dIfS (dB (dOp oGt (dCons (dOp oMul (dCons (dOp oIx (dCons (dVar 4) (dLast (dC (.int 0))))) (dLast (dOp oIx (dCons (dVar 4) (dLast (dC (.int 1)))))))) (dLast (dC (.int 0)))))) (dRetZ (dC .non)) (dSkip)
@[simp] def B_piece_shares_5 : DenS :=
    dSetZ 5 (dOp oSub (dCons (dOp oIx (dCons (dVar 4) (dLast (dC (.int 0))))) (dLast (dOp oIx (dCons (dVar 4) (dLast (dC (.int 1))))))))
@[simp] def B_piece_shares_6 : DenS :=
    dSetZ 6 (dLc (dIv (dTup (dCons (dC (.int 0)) (dLast (dC (.int 1)))))) [7] (.nm 7) (dYes) (dOp oAdd (dCons (dOp oMul (dCons (dOp oIx (dCons (dOp oIx (dCons (dVar 0) (dLast (dC (.int 0))))) (dLast (dVar 7)))) (dLast (dVar 5)))) (dLast (dOp oMul (dCons (dOp oSub (dCons (dOp oIx (dCons (dOp oIx (dCons (dVar 0) (dLast (dC (.int 1))))) (dLast (dVar 7)))) (dLast (dOp oIx (dCons (dOp oIx (dCons (dVar 0) (dLast (dC (.int 0))))) (dLast (dVar 7))))))) (dLast (dOp oIx (dCons (dVar 4) (dLast (dC (.int 0))))))))))))
@[simp] def B_piece_shares_7 : DenS :=
    dSetZ 7 (dIf (dB (dOp oNe (dCons (dOp oIx (dCons (dVar 2) (dLast (dC (.int 0))))) (dLast (dOp oIx (dCons (dVar 3) (dLast (dC (.int 0))))))))) (dC (.int 0)) (dC (.int 1)))
@[simp] def B_piece_shares_8 : DenS :=
    dSetZ 8 (dCall F_fraction [] (dCons (dOp oSub (dCons (dOp oIx (dCons (dVar 6) (dLast (dVar 7)))) (dLast (dOp oMul (dCons (dOp oIx (dCons (dVar 2) (dLast (dVar 7)))) (dLast (dVar 5))))))) (dLast (dOp oMul (dCons (dOp oSub (dCons (dOp oIx (dCons (dVar 3) (dLast (dVar 7)))) (dLast (dOp oIx (dCons (dVar 2) (dLast (dVar 7))))))) (dLast (dVar 5)))))))
@[simp] def B_piece_shares_9 : DenS :=
    dRetZ (dCall F_cut_down [] (dCons (dTup (dCons (dC (.con .tup [.int 0, .int 1])) (dLast (dC (.con .tup [.int 1, .int 1]))))) (dCons (dVar 8) (dLast (dVar 8)))))
@[simp] def B_piece_shares_t8 : DenS :=
    dSeq (B_piece_shares_8) (B_piece_shares_9)
@[simp] def B_piece_shares_t7 : DenS :=
    dSeq (B_piece_shares_7) (B_piece_shares_t8)
@[simp] def B_piece_shares_t6 : DenS :=
    dSeq (B_piece_shares_6) (B_piece_shares_t7)
@[simp] def B_piece_shares_t5 : DenS :=
    dSeq (B_piece_shares_5) (B_piece_shares_t6)
@[simp] def B_piece_shares_t4 : DenS :=
    dSeq (B_piece_shares_4) (B_piece_shares_t5)
@[simp] def B_piece_shares_t3 : DenS :=
    dSeq (B_piece_shares_3) (B_piece_shares_t4)
@[simp] def B_piece_shares_t2 : DenS :=
    dSeq (B_piece_shares_2) (B_piece_shares_t3)
@[simp] def B_piece_shares_t1 : DenS :=
    dSeq (B_piece_shares_1) (B_piece_shares_t2)
@[simp] def B_piece_shares : DenS :=
    dSeq (dUnp (.tp [.nm 2, .nm 3]) (dVar 1)) (B_piece_shares_t1)
def F_piece_shares : Fn := dBody 9 B_piece_shares
@[simp] def B_pieces_meet_0 : DenS :=
    dRetZ (dOp oNotN (dCons (dCall F_piece_shares [] (dCons (dVar 1) (dLast (dVar 0)))) (dLast (dC .non))))
@[simp] def B_pieces_meet : DenS :=
    B_pieces_meet_0
def F_pieces_meet : Fn := dBody 2 B_pieces_meet
@[simp] def B_l_bag_0 : DenS :=
    dSetZ 1 (dOp oAdd (dCons (dC (.int 31)) (dLast (dOp oLen (dLast (dOp oSlH (dCons (dVar 0) (dLast (dC (.int 63))))))))))
@[simp] def B_l_bag_1b_0 : DenS :=
    dSetZ 1 (dOp oMod (dCons (dOp oAdd (dCons (dOp oAdd (dCons (dOp oMul (dCons (dVar 1) (dLast (dC (.int 48271))))) (dLast (dOp oMod (dCons (dVar 2) (dLast (dC (.int 2147483629)))))))) (dLast (dC (.int 7))))) (dLast (dC (.int 2147483647)))))
def B_l_bag_1b : DenS :=
    B_l_bag_1b_0
@[simp] def B_l_bag_1 : DenS :=
    dFor (dIv (dOp oSlH (dCons (dVar 0) (dLast (dC (.int 63)))))) (.nm 2) (B_l_bag_1b) []
@[simp] def B_l_bag_2 : DenS :=
    dRet (dLst (dCons (dOp oList (dLast (dOp oSlH (dCons (dVar 0) (dLast (dC (.int 63))))))) (dCons (dC (.int 0)) (dCons (dC (.int 0)) (dCons (dVar 1) (dLast (dC (.int 0))))))))
@[simp] def B_l_bag : DenS :=
    dSeq (B_l_bag_0) (dSeq (B_l_bag_1) (B_l_bag_2))
def F_l_bag : Fn := dBody 3 B_l_bag
@[simp] def B_l_pull_0t_0 : DenS :=
    dSetZ 2 (dOp oIx (dCons (dOp oIx (dCons (dVar 0) (dLast (dC (.int 0))))) (dLast (dOp oIx (dCons (dVar 0) (dLast (dC (.int 1))))))))
@[simp] def B_l_pull_0t_1 : DenS :=
    dPutC (dVar 0) (dC (.int 1)) (dOp oAdd (dCons (dOp oIx (dCons (dVar 0) (dLast (dC (.int 1))))) (dLast (dC (.int 1)))))
@[simp] def B_l_pull_0t_2e_0 : DenS :=
    dPutC (dVar 0) (dC (.int 3)) (dOp oMod (dCons (dOp oAdd (dCons (dOp oAdd (dCons (dOp oMul (dCons (dOp oIx (dCons (dVar 0) (dLast (dC (.int 3))))) (dLast (dC (.int 40503))))) (dLast (dOp oMod (dCons (dVar 2) (dLast (dC (.int 2147483563)))))))) (dLast (dC (.int 1))))) (dLast (dC (.int 2147483629)))))
@[simp] def B_l_pull_0t_2 : DenS :=
    dIfS (dB (dOp oGe (dCons (dVar 2) (dLast (dOp oPow (dCons (dC (.int 10)) (dLast (dC (.int 18))))))))) (dPutC (dVar 0) (dC (.int 2)) (dVar 2)) (B_l_pull_0t_2e_0)
@[simp] def B_l_pull_0 : DenS :=
    dIfS (dAndB (dB (dOp oEq (dCons (dOp oIx (dCons (dVar 0) (dLast (dC (.int 2))))) (dLast (dC (.int 0)))))) (dB (dOp oLt (dCons (dOp oIx (dCons (dVar 0) (dLast (dC (.int 1))))) (dLast (dOp oLen (dLast (dOp oIx (dCons (dVar 0) (dLast (dC (.int 0)))))))))))) (dSeq (B_l_pull_0t_0) (dSeq (B_l_pull_0t_1) (B_l_pull_0t_2))) (dSkip)
@[simp] def B_l_pull_1t_0 : DenS :=
    dSetZ 3 (dOp oMod (dCons (dOp oIx (dCons (dVar 0) (dLast (dC (.int 2))))) (dLast (dVar 1))))
@[simp] def B_l_pull_1t_1 : DenS :=
    dPutC (dVar 0) (dC (.int 2)) (dOp oFdiv (dCons (dOp oIx (dCons (dVar 0) (dLast (dC (.int 2))))) (dLast (dVar 1))))
@[simp] def B_l_pull_1 : DenS :=
    dIfS (dB (dOp oGt (dCons (dOp oIx (dCons (dVar 0) (dLast (dC (.int 2))))) (dLast (dC (.int 0)))))) (dSeq (B_l_pull_1t_0) (dSeq (B_l_pull_1t_1) (dRetZ (dVar 3)))) (dSkip)
@[simp] def B_l_pull_2 : DenS :=
    dPutC (dVar 0) (dC (.int 4)) (dOp oAdd (dCons (dOp oIx (dCons (dVar 0) (dLast (dC (.int 4))))) (dLast (dC (.int 1)))))
@[simp] def B_l_pull_3 : DenS :=
    dSetZ 4 (dOp oAdd (dCons (dOp oMul (dCons (dOp oIx (dCons (dVar 0) (dLast (dC (.int 3))))) (dLast (dOp oIx (dCons (dVar 0) (dLast (dC (.int 3)))))))) (dLast (dOp oMul (dCons (dOp oMul (dCons (dC (.int 48271)) (dLast (dOp oIx (dCons (dVar 0) (dLast (dC (.int 4)))))))) (dLast (dOp oAdd (dCons (dOp oMod (dCons (dOp oIx (dCons (dVar 0) (dLast (dC (.int 3))))) (dLast (dC (.int 8191))))) (dLast (dC (.int 5)))))))))))
@[simp] def B_l_pull_4 : DenS :=
    dPutC (dVar 0) (dC (.int 3)) (dOp oMod (dCons (dOp oAdd (dCons (dOp oAdd (dCons (dVar 4) (dLast (dOp oMul (dCons (dOp oMul (dCons (dOp oIx (dCons (dVar 0) (dLast (dC (.int 4))))) (dLast (dOp oIx (dCons (dVar 0) (dLast (dC (.int 4)))))))) (dLast (dOp oIx (dCons (dVar 0) (dLast (dC (.int 4))))))))))) (dLast (dC (.int 12345))))) (dLast (dC (.int 2147483629)))))
@[simp] def B_l_pull_5 : DenS :=
    dRetZ (dOp oMod (dCons (dOp oAdd (dCons (dOp oFdiv (dCons (dOp oIx (dCons (dVar 0) (dLast (dC (.int 3))))) (dLast (dC (.int 71))))) (dLast (dOp oMul (dCons (dOp oMod (dCons (dOp oIx (dCons (dVar 0) (dLast (dC (.int 3))))) (dLast (dC (.int 7919))))) (dLast (dC (.int 37)))))))) (dLast (dVar 1))))
@[simp] def B_l_pull_t4 : DenS :=
    dSeq (B_l_pull_4) (B_l_pull_5)
@[simp] def B_l_pull_t3 : DenS :=
    dSeq (B_l_pull_3) (B_l_pull_t4)
@[simp] def B_l_pull_t2 : DenS :=
    dSeq (B_l_pull_2) (B_l_pull_t3)
@[simp] def B_l_pull_t1 : DenS :=
    dSeq (B_l_pull_1) (B_l_pull_t2)
@[simp] def B_l_pull : DenS :=
    dSeq (B_l_pull_0) (B_l_pull_t1)
def F_l_pull : Fn := dBody 5 B_l_pull
@[simp] def B_l_same_0t_0 (rec : Fn) : DenS :=
    dRetZ (dAnd (dOp oIsN (dCons (dVar 1) (dLast (dC .non)))) (dOp oIsN (dCons (dVar 0) (dLast (dC .non)))))
@[simp] def B_l_same_0 (rec : Fn) : DenS :=
    dIfS (dOrB (dB (dOp oIsN (dCons (dVar 1) (dLast (dC .non))))) (dB (dOp oIsN (dCons (dVar 0) (dLast (dC .non)))))) (B_l_same_0t_0 rec) (dSkip)
@[simp] def B_l_same_1t_0 (rec : Fn) : DenS :=
    dRetZ (dAnd (dIsi [.bl] (dVar 1)) (dAnd (dIsi [.bl] (dVar 0)) (dOp oEq (dCons (dVar 0) (dLast (dVar 1))))))
@[simp] def B_l_same_1 (rec : Fn) : DenS :=
    dIfS (dOrB (dB (dIsi [.bl] (dVar 1))) (dB (dIsi [.bl] (dVar 0)))) (B_l_same_1t_0 rec) (dSkip)
@[simp] def B_l_same_2t_0 (rec : Fn) : DenS :=
    dRetZ (dAnd (dOp oEq (dCons (dIsi [.int] (dVar 0)) (dLast (dIsi [.int] (dVar 1))))) (dOp oEq (dCons (dVar 0) (dLast (dVar 1)))))
@[simp] def B_l_same_2 (rec : Fn) : DenS :=
    dIfS (dB (dIsi [.int, .str] (dVar 1))) (B_l_same_2t_0 rec) (dSkip)
@[simp] def B_l_same_3 (rec : Fn) : DenS :=
    dIfS (dOrB (dB (dOp oNe (dCons (dIsi [.lst] (dVar 1)) (dLast (dIsi [.lst] (dVar 0)))))) (dB (dOp oNe (dCons (dIsi [.tup] (dVar 1)) (dLast (dIsi [.tup] (dVar 0))))))) (dRetZ (dC (.bl false))) (dSkip)
@[simp] def B_l_same_4 (rec : Fn) : DenS :=
    dRetZ (dAnd (dOp oEq (dCons (dOp oLen (dLast (dVar 0))) (dLast (dOp oLen (dLast (dVar 1)))))) (dOp oAll (dLast (dLc (dRng1 (dLast (dOp oLen (dLast (dVar 1))))) [2] (.nm 2) (dYes) (dCall rec [] (dCons (dOp oIx (dCons (dVar 0) (dLast (dVar 2)))) (dLast (dOp oIx (dCons (dVar 1) (dLast (dVar 2)))))))))))
@[simp] def B_l_same_t3 (rec : Fn) : DenS :=
    dSeq (B_l_same_3 rec) (B_l_same_4 rec)
@[simp] def B_l_same_t2 (rec : Fn) : DenS :=
    dSeq (B_l_same_2 rec) (B_l_same_t3 rec)
@[simp] def B_l_same_t1 (rec : Fn) : DenS :=
    dSeq (B_l_same_1 rec) (B_l_same_t2 rec)
@[simp] def B_l_same (rec : Fn) : DenS :=
    dSeq (B_l_same_0 rec) (B_l_same_t1 rec)
def F_l_same : Nat → Fn
  | 0 => fun _ _ => .stuck
  | m + 1 => dBody 3 (B_l_same (F_l_same m))
@[simp] def B_l_cross_0 : DenS :=
    dRetZ (dOp oSub (dCons (dOp oMul (dCons (dOp oSub (dCons (dOp oIx (dCons (dVar 1) (dLast (dC (.int 0))))) (dLast (dOp oIx (dCons (dVar 0) (dLast (dC (.int 0)))))))) (dLast (dOp oSub (dCons (dOp oIx (dCons (dVar 2) (dLast (dC (.int 1))))) (dLast (dOp oIx (dCons (dVar 0) (dLast (dC (.int 1))))))))))) (dLast (dOp oMul (dCons (dOp oSub (dCons (dOp oIx (dCons (dVar 1) (dLast (dC (.int 1))))) (dLast (dOp oIx (dCons (dVar 0) (dLast (dC (.int 1)))))))) (dLast (dOp oSub (dCons (dOp oIx (dCons (dVar 2) (dLast (dC (.int 0))))) (dLast (dOp oIx (dCons (dVar 0) (dLast (dC (.int 0))))))))))))))
@[simp] def B_l_cross : DenS :=
    B_l_cross_0
def F_l_cross : Fn := dBody 3 B_l_cross
@[simp] def B_l_touch_0 : DenS :=
    dIfS (dB (dOp oNe (dCons (dCall F_l_cross [] (dCons (dVar 0) (dCons (dVar 1) (dLast (dVar 2))))) (dLast (dC (.int 0)))))) (dRetZ (dC (.bl false))) (dSkip)
@[simp] def B_l_touch_1 : DenS :=
    dRetZ (dAnd (dChain oLe oLe (dOp oMin2 (dCons (dOp oIx (dCons (dVar 0) (dLast (dC (.int 0))))) (dLast (dOp oIx (dCons (dVar 1) (dLast (dC (.int 0)))))))) (dOp oIx (dCons (dVar 2) (dLast (dC (.int 0))))) (dOp oMax2 (dCons (dOp oIx (dCons (dVar 0) (dLast (dC (.int 0))))) (dLast (dOp oIx (dCons (dVar 1) (dLast (dC (.int 0))))))))) (dChain oLe oLe (dOp oMin2 (dCons (dOp oIx (dCons (dVar 0) (dLast (dC (.int 1))))) (dLast (dOp oIx (dCons (dVar 1) (dLast (dC (.int 1)))))))) (dOp oIx (dCons (dVar 2) (dLast (dC (.int 1))))) (dOp oMax2 (dCons (dOp oIx (dCons (dVar 0) (dLast (dC (.int 1))))) (dLast (dOp oIx (dCons (dVar 1) (dLast (dC (.int 1))))))))))
@[simp] def B_l_touch : DenS :=
    dSeq (B_l_touch_0) (B_l_touch_1)
def F_l_touch : Fn := dBody 3 B_l_touch
@[simp] def B_l_cut_0 : DenS :=
    dPar 4 5 (dCons (dCall F_l_cross [] (dCons (dVar 0) (dCons (dVar 1) (dLast (dVar 2))))) (dLast (dCall F_l_cross [] (dCons (dVar 0) (dCons (dVar 1) (dLast (dVar 3)))))))
@[simp] def B_l_cut_1 : DenS :=
    dPar 6 7 (dCons (dCall F_l_cross [] (dCons (dVar 2) (dCons (dVar 3) (dLast (dVar 0))))) (dLast (dCall F_l_cross [] (dCons (dVar 2) (dCons (dVar 3) (dLast (dVar 1)))))))
@[simp] def B_l_cut_2 : DenS :=
    dIfS (dAndB (dB (dOp oLt (dCons (dOp oMul (dCons (dVar 4) (dLast (dVar 5)))) (dLast (dC (.int 0)))))) (dB (dOp oLt (dCons (dOp oMul (dCons (dVar 6) (dLast (dVar 7)))) (dLast (dC (.int 0))))))) (dRetZ (dC (.bl true))) (dSkip)
@[simp] def B_l_cut_3 : DenS :=
    dIfS (dOrB (dB (dCall F_l_touch [] (dCons (dVar 0) (dCons (dVar 1) (dLast (dVar 2)))))) (dB (dCall F_l_touch [] (dCons (dVar 0) (dCons (dVar 1) (dLast (dVar 3))))))) (dRetZ (dC (.bl true))) (dSkip)
@[simp] def B_l_cut_4 : DenS :=
    dRetZ (dOr (dCall F_l_touch [] (dCons (dVar 2) (dCons (dVar 3) (dLast (dVar 0))))) (dCall F_l_touch [] (dCons (dVar 2) (dCons (dVar 3) (dLast (dVar 1))))))
@[simp] def B_l_cut_t3 : DenS :=
    dSeq (B_l_cut_3) (B_l_cut_4)
@[simp] def B_l_cut_t2 : DenS :=
    dSeq (B_l_cut_2) (B_l_cut_t3)
@[simp] def B_l_cut_t1 : DenS :=
    dSeq (B_l_cut_1) (B_l_cut_t2)
@[simp] def B_l_cut : DenS :=
    dSeq (B_l_cut_0) (B_l_cut_t1)
def F_l_cut : Fn := dBody 8 B_l_cut
@[simp] def B_l_grid_0 : DenS :=
    dSetZ 1 (dCall F_l_pull [] (dCons (dVar 0) (dLast (dC (.int 6)))))
@[simp] def B_l_grid_1t_0 : DenS :=
    dRetZ (dTup (dCons (dC (.int 4)) (dCons (dC (.int 0)) (dLast (dC (.int 0))))))
@[simp] def B_l_grid_1 : DenS :=
    dIfS (dB (dOp oLt (dCons (dVar 1) (dLast (dC (.int 4)))))) (B_l_grid_1t_0) (dSkip)
@[simp] def B_l_grid_2t_0 : DenS :=
    dRetZ (dTup (dCons (dOp oAdd (dCons (dC (.int 1)) (dLast (dCall F_l_pull [] (dCons (dVar 0) (dLast (dC (.int 60)))))))) (dCons (dC (.int 0)) (dLast (dC (.int 0))))))
@[simp] def B_l_grid_2 : DenS :=
    dIfS (dB (dOp oEq (dCons (dVar 1) (dLast (dC (.int 4)))))) (B_l_grid_2t_0) (dSkip)
@[simp] def B_l_grid_3 : DenS :=
    dRetZ (dTup (dCons (dC (.int 5)) (dCons (dOp oMul (dCons (dOp oSub (dCons (dOp oPow (dCons (dC (.int 10)) (dLast (dC (.int 6))))) (dLast (dC (.int 5))))) (dLast (dOp oSub (dCons (dOp oMul (dCons (dC (.int 2)) (dLast (dCall F_l_pull [] (dCons (dVar 0) (dLast (dC (.int 2)))))))) (dLast (dC (.int 1)))))))) (dLast (dOp oMul (dCons (dOp oSub (dCons (dOp oPow (dCons (dC (.int 10)) (dLast (dC (.int 6))))) (dLast (dC (.int 5))))) (dLast (dOp oSub (dCons (dCall F_l_pull [] (dCons (dVar 0) (dLast (dC (.int 3))))) (dLast (dC (.int 1))))))))))))
@[simp] def B_l_grid_t2 : DenS :=
    dSeq (B_l_grid_2) (B_l_grid_3)
@[simp] def B_l_grid_t1 : DenS :=
    dSeq (B_l_grid_1) (B_l_grid_t2)
@[simp] def B_l_grid : DenS :=
    dSeq (B_l_grid_0) (B_l_grid_t1)
def F_l_grid : Fn := dBody 2 B_l_grid
@[simp] def B_l_spot_1 : DenS :=
    dSetZ 5 (dOp oSub (dCons (dOp oAdd (dCons (dVar 3) (dLast (dCall F_l_pull [] (dCons (dVar 0) (dLast (dOp oAdd (dCons (dOp oMul (dCons (dC (.int 2)) (dLast (dVar 2)))) (dLast (dC (.int 1))))))))))) (dLast (dVar 2))))
@[simp] def B_l_spot_2 : DenS :=
    dRetZ (dTup (dCons (dVar 5) (dLast (dOp oSub (dCons (dOp oAdd (dCons (dVar 4) (dLast (dCall F_l_pull [] (dCons (dVar 0) (dLast (dOp oAdd (dCons (dOp oMul (dCons (dC (.int 2)) (dLast (dVar 2)))) (dLast (dC (.int 1))))))))))) (dLast (dVar 2)))))))
@[simp] def B_l_spot : DenS :=
    dSeq (dUnp (.tp [.nm 2, .nm 3, .nm 4]) (dVar 1)) (dSeq (B_l_spot_1) (B_l_spot_2))
def F_l_spot : Fn := dBody 6 B_l_spot
@[simp] def B_l_pair_1 : DenS :=
    dUnp (.tp [.nm 2, .nm 3, .nm 4, .nm 5]) (dLc (dRng1 (dLast (dC (.int 4)))) [7] (.nm 7) (dYes) (dCall F_l_spot [] (dCons (dVar 0) (dLast (dVar 1)))))
@[simp] def B_l_pair_2 : DenS :=
    dSetZ 6 (dCall F_l_pull [] (dCons (dVar 0) (dLast (dC (.int 9)))))
@[simp] def B_l_pair_3 : DenS :=
    dIfS (dB (dOp oEq (dCons (dVar 6) (dLast (dC (.int 0)))))) (dSetZ 4 (dVar 2)) (dSkip)
@[simp] def B_l_pair_4t_0 : DenS :=
    dPar 4 5 (dCons (dTup (dCons (dOp oSub (dCons (dOp oMul (dCons (dC (.int 2)) (dLast (dOp oIx (dCons (dVar 3) (dLast (dC (.int 0)))))))) (dLast (dOp oIx (dCons (dVar 2) (dLast (dC (.int 0)))))))) (dLast (dOp oSub (dCons (dOp oMul (dCons (dC (.int 2)) (dLast (dOp oIx (dCons (dVar 3) (dLast (dC (.int 1)))))))) (dLast (dOp oIx (dCons (dVar 2) (dLast (dC (.int 1))))))))))) (dLast (dVar 3)))
@[simp] def B_l_pair_4 : DenS :=
    dIfS (dB (dOp oEq (dCons (dVar 6) (dLast (dC (.int 1)))))) (B_l_pair_4t_0) (dSkip)
@[simp] def B_l_pair_5t_0 : DenS :=
    dPar 4 5 (dCons (dTup (dCons (dOp oSub (dCons (dOp oMul (dCons (dC (.int 2)) (dLast (dOp oIx (dCons (dVar 2) (dLast (dC (.int 0)))))))) (dLast (dOp oIx (dCons (dVar 3) (dLast (dC (.int 0)))))))) (dLast (dOp oSub (dCons (dOp oMul (dCons (dC (.int 2)) (dLast (dOp oIx (dCons (dVar 2) (dLast (dC (.int 1)))))))) (dLast (dOp oIx (dCons (dVar 3) (dLast (dC (.int 1))))))))))) (dLast (dTup (dCons (dOp oSub (dCons (dOp oMul (dCons (dC (.int 3)) (dLast (dOp oIx (dCons (dVar 3) (dLast (dC (.int 0)))))))) (dLast (dOp oMul (dCons (dC (.int 2)) (dLast (dOp oIx (dCons (dVar 2) (dLast (dC (.int 0))))))))))) (dLast (dOp oSub (dCons (dOp oMul (dCons (dC (.int 3)) (dLast (dOp oIx (dCons (dVar 3) (dLast (dC (.int 1)))))))) (dLast (dOp oMul (dCons (dC (.int 2)) (dLast (dOp oIx (dCons (dVar 2) (dLast (dC (.int 1))))))))))))))))
@[simp] def B_l_pair_5 : DenS :=
    dIfS (dB (dOp oEq (dCons (dVar 6) (dLast (dC (.int 2)))))) (B_l_pair_5t_0) (dSkip)
@[simp] def B_l_pair_6 : DenS :=
    dIfS (dB (dOp oEq (dCons (dCall F_l_pull [] (dCons (dVar 0) (dLast (dC (.int 6))))) (dLast (dC (.int 0)))))) (dSetZ 5 (dVar 4)) (dSkip)
@[simp] def B_l_pair_7 : DenS :=
    dIfS (dB (dOp oEq (dCons (dCall F_l_pull [] (dCons (dVar 0) (dLast (dC (.int 6))))) (dLast (dC (.int 0)))))) (dSetZ 3 (dVar 2)) (dSkip)
@[simp] def B_l_pair_8 : DenS :=
    dRetZ (dTup (dCons (dVar 2) (dCons (dVar 3) (dCons (dVar 4) (dLast (dVar 5))))))
@[simp] def B_l_pair_t7 : DenS :=
    dSeq (B_l_pair_7) (B_l_pair_8)
@[simp] def B_l_pair_t6 : DenS :=
    dSeq (B_l_pair_6) (B_l_pair_t7)
@[simp] def B_l_pair_t5 : DenS :=
    dSeq (B_l_pair_5) (B_l_pair_t6)
@[simp] def B_l_pair_t4 : DenS :=
    dSeq (B_l_pair_4) (B_l_pair_t5)
@[simp] def B_l_pair_t3 : DenS :=
    dSeq (B_l_pair_3) (B_l_pair_t4)
@[simp] def B_l_pair_t2 : DenS :=
    dSeq (B_l_pair_2) (B_l_pair_t3)
@[simp] def B_l_pair_t1 : DenS :=
    dSeq (B_l_pair_1) (B_l_pair_t2)
@[simp] def B_l_pair : DenS :=
    dSeq (dSetZ 1 (dCall F_l_grid [] (dLast (dVar 0)))) (B_l_pair_t1)
def F_l_pair : Fn := dBody 8 B_l_pair
@[simp] def B_l_wider_0 : DenS :=
    dRetZ (dTup (dCons (dOp oMul (dCons (dOp oIx (dCons (dVar 0) (dLast (dC (.int 0))))) (dLast (dVar 1)))) (dLast (dOp oMul (dCons (dOp oIx (dCons (dVar 0) (dLast (dC (.int 1))))) (dLast (dVar 1)))))))
@[simp] def B_l_wider : DenS :=
    B_l_wider_0
def F_l_wider : Fn := dBody 2 B_l_wider
@[simp] def B_slab_1t_0 : DenS :=
    dRetZ (dIf (dB (dChain oLe oLe (dVar 4) (dVar 1) (dVar 5))) (dVar 0) (dC .non))
@[simp] def B_slab_1 : DenS :=
    dIfS (dB (dOp oEq (dCons (dVar 2) (dLast (dC (.int 0)))))) (B_slab_1t_0) (dSkip)
@[simp] def B_slab_2 : DenS :=
    dSetZ 6 (dTup (dCons (dCall F_fraction [] (dCons (dOp oSub (dCons (dVar 4) (dLast (dVar 1)))) (dLast (dVar 2)))) (dLast (dCall F_fraction [] (dCons (dOp oSub (dCons (dVar 5) (dLast (dVar 1)))) (dLast (dVar 2)))))))
@[simp] def B_slab_3 : DenS :=
    dRetZ (dIf (dB (dOp oGt (dCons (dVar 2) (dLast (dC (.int 0)))))) (dCall F_cut_down [] (dCons (dVar 0) (dCons (dOp oIx (dCons (dVar 6) (dLast (dC (.int 0))))) (dLast (dOp oIx (dCons (dVar 6) (dLast (dC (.int 1))))))))) (dCall F_cut_down [] (dCons (dVar 0) (dCons (dOp oIx (dCons (dVar 6) (dLast (dC (.int 1))))) (dLast (dOp oIx (dCons (dVar 6) (dLast (dC (.int 0))))))))))
@[simp] def B_slab_t2 : DenS :=
    dSeq (B_slab_2) (B_slab_3)
@[simp] def B_slab_t1 : DenS :=
    dSeq (B_slab_1) (B_slab_t2)
@[simp] def B_slab : DenS :=
    dSeq (dUnp (.tp [.nm 4, .nm 5]) (dVar 3)) (B_slab_t1)
def F_slab : Fn := dBody 7 B_slab
@[simp] def B_block_shares_2 : DenS :=
    dSetZ 10 (dCall F_slab [] (dCons (dTup (dCons (dC (.con .tup [.int 0, .int 1])) (dLast (dC (.con .tup [.int 1, .int 1]))))) (dCons (dVar 2) (dCons (dOp oSub (dCons (dVar 4) (dLast (dVar 2)))) (dLast (dTup (dCons (dVar 6) (dLast (dVar 8)))))))))
@[simp] def B_block_shares_3 : DenS :=
    dSetZ 10 (dIf (dB (dOp oNotN (dCons (dVar 10) (dLast (dC .non))))) (dCall F_slab [] (dCons (dVar 10) (dCons (dVar 3) (dCons (dOp oSub (dCons (dVar 5) (dLast (dVar 3)))) (dLast (dTup (dCons (dVar 7) (dLast (dVar 9))))))))) (dC .non))
@[simp] def B_block_shares_4t_0 : DenS :=
    dRetZ (dTup (dCons (dC (.con .tup [.int 0, .int 1])) (dLast (dC (.con .tup [.int 0, .int 1])))))
@[simp] def B_block_shares_4 : DenS :=
    dIfS (dAndB (dB (dOp oNotN (dCons (dVar 10) (dLast (dC .non))))) (dB (dOp oEq (dCons (dOp oIx (dCons (dVar 1) (dLast (dC (.int 0))))) (dLast (dOp oIx (dCons (dVar 1) (dLast (dC (.int 1)))))))))) (B_block_shares_4t_0) (dSkip)
@[simp] def B_block_shares_t5 : DenS :=
    dRetZ (dVar 10)
@[simp] def B_block_shares_t4 : DenS :=
    dSeq (B_block_shares_4) (B_block_shares_t5)
@[simp] def B_block_shares_t3 : DenS :=
    dSeq (B_block_shares_3) (B_block_shares_t4)
@[simp] def B_block_shares_t2 : DenS :=
    dSeq (B_block_shares_2) (B_block_shares_t3)
@[simp] def B_block_shares_t1 : DenS :=
    dSeq (dUnp (.tp [.nm 6, .nm 7, .nm 8, .nm 9]) (dVar 0)) (B_block_shares_t2)
@[simp] def B_block_shares : DenS :=
    dSeq (dUnp (.tp [.tp [.nm 2, .nm 3], .tp [.nm 4, .nm 5]]) (dVar 1)) (B_block_shares_t1)
def F_block_shares : Fn := dBody 11 B_block_shares
@[simp] def B_block_meets_0 : DenS :=
    dRetZ (dOp oNotN (dCons (dCall F_block_shares [] (dCons (dVar 0) (dLast (dVar 1)))) (dLast (dC .non))))
@[simp] def B_block_meets : DenS :=
    B_block_meets_0
def F_block_meets : Fn := dBody 2 B_block_meets
@[simp] def B_l_one_0 : DenS :=
    dRetZ (dOp oIx (dCons (dVar 1) (dLast (dCall F_l_pull [] (dCons (dVar 0) (dLast (dOp oLen (dLast (dVar 1)))))))))
@[simp] def B_l_one : DenS :=
    B_l_one_0
def F_l_one : Fn := dBody 2 B_l_one
@[simp] def B_l_corners_1 : DenS :=
    dRetZ (dLst (dCons (dTup (dCons (dVar 1) (dLast (dVar 2)))) (dCons (dTup (dCons (dVar 3) (dLast (dVar 2)))) (dCons (dTup (dCons (dVar 3) (dLast (dVar 4)))) (dLast (dTup (dCons (dVar 1) (dLast (dVar 4)))))))))
@[simp] def B_l_corners : DenS :=
    dSeq (dUnp (.tp [.nm 1, .nm 2, .nm 3, .nm 4]) (dVar 0)) (B_l_corners_1)
def F_l_corners : Fn := dBody 5 B_l_corners
@[simp] def B_l_within_0 : DenS :=
    dRetZ (dAnd (dChain oLe oLe (dOp oIx (dCons (dVar 0) (dLast (dC (.int 0))))) (dOp oIx (dCons (dVar 1) (dLast (dC (.int 0))))) (dOp oIx (dCons (dVar 0) (dLast (dC (.int 2)))))) (dChain oLe oLe (dOp oIx (dCons (dVar 0) (dLast (dC (.int 1))))) (dOp oIx (dCons (dVar 1) (dLast (dC (.int 1))))) (dOp oIx (dCons (dVar 0) (dLast (dC (.int 3)))))))
@[simp] def B_l_within : DenS :=
    B_l_within_0
def F_l_within : Fn := dBody 2 B_l_within
@[simp] def B_l_hits_0 : DenS :=
    dIfS (dOrB (dB (dCall F_l_within [] (dCons (dVar 0) (dLast (dVar 1))))) (dB (dCall F_l_within [] (dCons (dVar 0) (dLast (dVar 2)))))) (dRetZ (dC (.bl true))) (dSkip)
@[simp] def B_l_hits_2 : DenS :=
    dRetZ (dOp oAny (dLast (dLc (dRng1 (dLast (dC (.int 4)))) [4] (.nm 4) (dYes) (dCall F_l_cut [] (dCons (dVar 1) (dCons (dVar 2) (dCons (dOp oIx (dCons (dVar 3) (dLast (dOp oSub (dCons (dVar 4) (dLast (dC (.int 1)))))))) (dLast (dOp oIx (dCons (dVar 3) (dLast (dVar 4))))))))))))
@[simp] def B_l_hits : DenS :=
    dSeq (B_l_hits_0) (dSeq (dSetZ 3 (dCall F_l_corners [] (dLast (dVar 0)))) (B_l_hits_2))
def F_l_hits : Fn := dBody 5 B_l_hits
@[simp] def B_l_block_0 : DenS :=
    dUnp (.tp [.nm 2, .nm 3]) (dCall F_l_spot [] (dCons (dVar 0) (dLast (dVar 1))))
@[simp] def B_l_block_2b_0 : DenS :=
    dApp 4 (dOp oMin2 (dCons (dOp oPow (dCons (dC (.int 10)) (dLast (dC (.int 6))))) (dLast (dOp oAdd (dCons (dVar 5) (dLast (dOp oIx (dCons (dLst (dCons (dC (.int 0)) (dCons (dCall F_l_pull [] (dCons (dVar 0) (dLast (dC (.int 3))))) (dLast (dCall F_l_pull [] (dCons (dVar 0) (dLast (dOp oAdd (dCons (dOp oIx (dCons (dVar 1) (dLast (dC (.int 0))))) (dLast (dC (.int 1)))))))))))) (dLast (dCall F_l_pull [] (dCons (dVar 0) (dLast (dC (.int 3))))))))))))))
def B_l_block_2b : DenS :=
    B_l_block_2b_0
@[simp] def B_l_block_2 : DenS :=
    dFor (dIv (dTup (dCons (dVar 2) (dLast (dVar 3))))) (.nm 5) (B_l_block_2b) []
@[simp] def B_l_block_3 : DenS :=
    dRetZ (dTup (dCons (dVar 2) (dCons (dVar 3) (dCons (dOp oIx (dCons (dVar 4) (dLast (dC (.int 0))))) (dLast (dOp oIx (dCons (dVar 4) (dLast (dC (.int 1))))))))))
@[simp] def B_l_block_t3 : DenS :=
    dFrz 4 (B_l_block_3)
@[simp] def B_l_block_t2 : DenS :=
    dSeq (B_l_block_2) (B_l_block_t3)
@[simp] def B_l_block_t1 : DenS :=
    dSeq (dSet 4 (dLst (dNil))) (B_l_block_t2)
@[simp] def B_l_block : DenS :=
    dSeq (B_l_block_0) (B_l_block_t1)
def F_l_block : Fn := dBody 6 B_l_block
@[simp] def B_l_led_0t_0 : DenS :=
    dRetZ (dTup (dCons (dOp oAdd (dCons (dOp oIx (dCons (dVar 1) (dLast (dC (.int 0))))) (dLast (dOp oIx (dCons (dVar 0) (dLast (dC (.int 1)))))))) (dLast (dOp oAdd (dCons (dOp oIx (dCons (dVar 1) (dLast (dC (.int 1))))) (dLast (dOp oIx (dCons (dVar 0) (dLast (dC (.int 2)))))))))))
@[simp] def B_l_led_0 : DenS :=
    dIfS (dB (dOp oEq (dCons (dOp oIx (dCons (dVar 0) (dLast (dC (.int 0))))) (dLast (dC (.str "move")))))) (B_l_led_0t_0) (dSkip)
@[simp] def B_l_led_1t_0 : DenS :=
    dRetZ (dTup (dCons (dOp oSub (dCons (dC (.int 0)) (dLast (dOp oIx (dCons (dVar 1) (dLast (dC (.int 1)))))))) (dLast (dOp oIx (dCons (dVar 1) (dLast (dC (.int 0))))))))
@[simp] def B_l_led_1 : DenS :=
    dIfS (dB (dOp oEq (dCons (dOp oIx (dCons (dVar 0) (dLast (dC (.int 0))))) (dLast (dC (.str "turn")))))) (B_l_led_1t_0) (dSkip)
@[simp] def B_l_led_2 : DenS :=
    dRetZ (dIf (dB (dOp oEq (dCons (dOp oIx (dCons (dVar 0) (dLast (dC (.int 0))))) (dLast (dC (.str "mirror")))))) (dTup (dCons (dOp oSub (dCons (dC (.int 0)) (dLast (dOp oIx (dCons (dVar 1) (dLast (dC (.int 0)))))))) (dLast (dOp oIx (dCons (dVar 1) (dLast (dC (.int 1)))))))) (dTup (dCons (dOp oMul (dCons (dOp oIx (dCons (dVar 1) (dLast (dC (.int 0))))) (dLast (dOp oIx (dCons (dVar 0) (dLast (dC (.int 1)))))))) (dLast (dOp oMul (dCons (dOp oIx (dCons (dVar 1) (dLast (dC (.int 1))))) (dLast (dOp oIx (dCons (dVar 0) (dLast (dC (.int 1))))))))))))
@[simp] def B_l_led : DenS :=
    dSeq (B_l_led_0) (dSeq (B_l_led_1) (B_l_led_2))
def F_l_led : Fn := dBody 2 B_l_led
@[simp] def B_l_led_block_0 : DenS :=
    dPar 2 3 (dCons (dCall F_l_led [] (dCons (dVar 0) (dLast (dOp oSlH (dCons (dVar 1) (dLast (dC (.int 2)))))))) (dLast (dCall F_l_led [] (dCons (dVar 0) (dLast (dOp oSlL (dCons (dVar 1) (dLast (dC (.int 2))))))))))
@[simp] def B_l_led_block_1 : DenS :=
    dRetZ (dTup (dCons (dOp oMin2 (dCons (dOp oIx (dCons (dVar 2) (dLast (dC (.int 0))))) (dLast (dOp oIx (dCons (dVar 3) (dLast (dC (.int 0)))))))) (dCons (dOp oMin2 (dCons (dOp oIx (dCons (dVar 2) (dLast (dC (.int 1))))) (dLast (dOp oIx (dCons (dVar 3) (dLast (dC (.int 1)))))))) (dCons (dOp oMax2 (dCons (dOp oIx (dCons (dVar 2) (dLast (dC (.int 0))))) (dLast (dOp oIx (dCons (dVar 3) (dLast (dC (.int 0)))))))) (dLast (dOp oMax2 (dCons (dOp oIx (dCons (dVar 2) (dLast (dC (.int 1))))) (dLast (dOp oIx (dCons (dVar 3) (dLast (dC (.int 1)))))))))))))
@[simp] def B_l_led_block : DenS :=
    dSeq (B_l_led_block_0) (B_l_led_block_1)
def F_l_led_block : Fn := dBody 4 B_l_led_block
end Hx

set_option Elab.async false
set_option linter.all false
set_option maxRecDepth 100000
set_option autoImplicit false
/-! N0: bounds by type classes; the plain part's base. -/
namespace Hx
open PySem PySem.Spec L2
class EqN (a b : Nat) : Prop where h : a = b
instance eqN {n : Nat} : EqN n n := ⟨rfl⟩
class LeN (a b : Nat) : Prop where h : a ≤ b
set_option synthInstance.checkSynthOrder false in
instance leN {n m k : Nat} [h : EqN m (k + n)] : LeN n m := ⟨by have := h.h; omega⟩
instance (priority := high) leNr {n : Nat} : LeN n n := ⟨Nat.le_refl n⟩
class Bd (n : outParam Nat) (i : Int) : Prop where lt : i.natAbs < 2 ^ n
class Le (n : Nat) (i : Int) : Prop where lt : i.natAbs < 2 ^ n
set_option synthInstance.checkSynthOrder false in
instance (priority := low) bdLe {n : Nat} {i : Int} [h : Le n i] : Bd n i := ⟨h.lt⟩
instance (priority := low) leBd {n m : Nat} {i : Int} [h : Bd m i] [k : LeN m n] : Le n i := ⟨Nat.lt_of_lt_of_le h.lt (Nat.pow_le_pow_right (by decide) k.h)⟩
theorem Bd.sm {n : Nat} {i : Int} (h : Bd n i) : Sm n i := h.lt
instance bdMul {n m : Nat} {i j : Int} [h : Bd n i] [k : Bd m j] : Bd (n + m) (i * j) := ⟨Sm.mul h.lt k.lt⟩
instance (priority := 900) bdAdd {n m : Nat} {i j : Int} [h : Bd n i] [k : Bd m j] : Bd (n + m + 1) (i + j) := ⟨Sm.mono (Sm.add h.lt k.lt) (by omega)⟩
instance (priority := 900) bdSub {n m : Nat} {i j : Int} [h : Bd n i] [k : Bd m j] : Bd (n + m + 1) (i - j) := ⟨Sm.mono (Sm.sub h.lt k.lt) (by omega)⟩
instance (priority := 1020) bdAddL {n m : Nat} {i j : Int} [h : Bd n i] [k : Bd m j] [l : LeN n m] : Bd (m + 1) (i + j) := ⟨Sm.mono (Sm.add h.lt k.lt) (by have := l.h; omega)⟩
instance (priority := 1020) bdSubL {n m : Nat} {i j : Int} [h : Bd n i] [k : Bd m j] [l : LeN n m] : Bd (m + 1) (i - j) := ⟨Sm.mono (Sm.sub h.lt k.lt) (by have := l.h; omega)⟩
instance (priority := 1010) bdAddR {n m : Nat} {i j : Int} [h : Bd n i] [k : Bd m j] [l : LeN m n] : Bd (n + 1) (i + j) := ⟨Sm.mono (Sm.add h.lt k.lt) (by have := l.h; omega)⟩
instance (priority := 1010) bdSubR {n m : Nat} {i j : Int} [h : Bd n i] [k : Bd m j] [l : LeN m n] : Bd (n + 1) (i - j) := ⟨Sm.mono (Sm.sub h.lt k.lt) (by have := l.h; omega)⟩
instance bdNeg {n : Nat} {i : Int} [h : Bd n i] : Bd n (-i) := ⟨by rw [Int.natAbs_neg]; exact h.lt⟩
instance (priority := high) bdL8 {k : Nat} [h : LeN k 255] : Bd 8 (no_index (OfNat.ofNat k : Int)) := ⟨Nat.lt_of_le_of_lt (show (OfNat.ofNat k : Int).natAbs ≤ 255 from h.h) (by decide)⟩
instance bdL32 {k : Nat} [h : LeN k 4294967295] : Bd 32 (no_index (OfNat.ofNat k : Int)) := ⟨Nat.lt_of_le_of_lt (show (OfNat.ofNat k : Int).natAbs ≤ 4294967295 from h.h) (by decide)⟩
instance (priority := low) bdL128 {k : Nat} [h : LeN k 340282366920938463463374607431768211455] : Bd 128 (no_index (OfNat.ofNat k : Int)) := ⟨Nat.lt_of_le_of_lt (show (OfNat.ofNat k : Int).natAbs ≤ 340282366920938463463374607431768211455 from h.h) (by decide)⟩
theorem fmod_abs {a b : Int} (h : b ≠ 0) : (a.fmod b).natAbs < b.natAbs := by
  rcases Int.lt_trichotomy b 0 with hb | hb | hb
  · have e := Int.neg_fmod_neg a b
    have h1 := Int.fmod_nonneg_of_pos (-a) (show 0 < -b by omega)
    have h2 := Int.fmod_lt_of_pos (-a) (show 0 < -b by omega)
    omega
  · exact absurd hb h
  · have := Int.fmod_nonneg_of_pos a hb
    have := Int.fmod_lt_of_pos a hb
    omega
class Nz (i : Int) : Prop where h : i ≠ 0
instance nzL {k : Nat} [h : LeN 1 k] : Nz (no_index (OfNat.ofNat k : Int)) := ⟨by have := h.h; show ((k : Nat) : Int) ≠ 0; omega⟩
instance bdFmod {n : Nat} {i j : Int} [k : Bd n j] [z : Nz j] : Bd n (i.fmod j) := ⟨Nat.lt_trans (fmod_abs z.h) k.lt⟩
theorem fdiv_abs {a b : Int} : (a.fdiv b).natAbs ≤ a.natAbs := by
  by_cases hb : b = 0
  · subst hb; simp
  have e := Int.mul_fdiv_add_fmod a b
  have hm := fmod_abs (a := a) hb
  rcases Int.lt_trichotomy b 0 with h | h | h
  · have h1 : a.fmod b ≤ 0 := by
      have e := Int.neg_fmod_neg a b
      have h1 := Int.fmod_nonneg_of_pos (-a) (show 0 < -b by omega)
      omega
    by_cases q : a.fdiv b = 0
    · omega
    · rcases Int.lt_or_gt_of_ne q with q | q
      · have : b * a.fdiv b ≥ -(a.fdiv b) := by
          have := Int.mul_le_mul_of_nonneg_left (show -b ≥ 1 by omega) (show 0 ≤ -(a.fdiv b) by omega)
          have e2 : -(a.fdiv b) * -b = b * a.fdiv b := by grind
          omega
        have h2 : b * a.fdiv b ≥ -b := by
          have := Int.mul_le_mul_of_nonneg_right (show -(a.fdiv b) ≥ 1 by omega) (show 0 ≤ -b by omega)
          have e2 : -(a.fdiv b) * -b = b * a.fdiv b := by grind
          omega
        -- b * q + r = a, r in (b, 0]
        rcases Int.lt_trichotomy (b * a.fdiv b + b) (-(a.fdiv b)) with z | z | z
        · have : (a.fdiv b + 1) * (b + 1) < 1 + 0 := by
            have e3 : (a.fdiv b + 1) * (b + 1) = b * a.fdiv b + b + a.fdiv b + 1 := by grind
            omega
          have : 0 ≤ (a.fdiv b + 1) * (b + 1) := Int.mul_nonneg_of_nonpos_of_nonpos (by omega) (by omega)
          have : (a.fdiv b + 1) * (b + 1) = b * a.fdiv b + b + a.fdiv b + 1 := by grind
          omega
        · omega
        · omega
      · have : b * a.fdiv b ≤ -(a.fdiv b) := by
          have := Int.mul_le_mul_of_nonneg_left (show -b ≥ 1 by omega) (show 0 ≤ a.fdiv b by omega)
          have e2 : a.fdiv b * -b = -(b * a.fdiv b) := by grind
          omega
        omega
  · exact absurd h hb
  · have h1 : 0 ≤ a.fmod b := Int.fmod_nonneg_of_pos a h
    by_cases q : a.fdiv b = 0
    · omega
    · rcases Int.lt_or_gt_of_ne q with q | q
      · have h2 : b * a.fdiv b ≤ a.fdiv b := by
          have := Int.mul_le_mul_of_nonneg_left (show b ≥ 1 by omega) (show 0 ≤ -(a.fdiv b) by omega)
          have e2 : -(a.fdiv b) * b = -(b * a.fdiv b) := by grind
          omega
        have h3 : (a.fdiv b + 1) * (b - 1) ≤ 0 := Int.mul_nonpos_of_nonpos_of_nonneg (by omega) (by omega)
        have e3 : (a.fdiv b + 1) * (b - 1) = b * a.fdiv b + b - a.fdiv b - 1 := by grind
        omega
      · have : b * a.fdiv b ≥ a.fdiv b := by
          have := Int.mul_le_mul_of_nonneg_left (show b ≥ 1 by omega) (show 0 ≤ a.fdiv b by omega)
          have e2 : a.fdiv b * b = b * a.fdiv b := by grind
          omega
        omega
instance bdFdiv {n : Nat} {i j : Int} [k : Bd n i] : Bd n (i.fdiv j) := ⟨Nat.lt_of_le_of_lt fdiv_abs k.lt⟩
instance (priority := 1020) bdIteL {n m : Nat} {i j : Int} {c : Prop} [Decidable c] [h : Bd n i] [k : Bd m j] [l : LeN n m] : Bd m (if c then i else j) := ⟨by
  split
  · exact Nat.lt_of_lt_of_le h.lt (Nat.pow_le_pow_right (by decide) l.h)
  · exact k.lt⟩
instance (priority := 1010) bdIteR {n m : Nat} {i j : Int} {c : Prop} [Decidable c] [h : Bd n i] [k : Bd m j] [l : LeN m n] : Bd n (if c then i else j) := ⟨by
  split
  · exact h.lt
  · exact Nat.lt_of_lt_of_le k.lt (Nat.pow_le_pow_right (by decide) l.h)⟩
instance bdIte {n m : Nat} {i j : Int} {c : Prop} [Decidable c] [h : Bd n i] [k : Bd m j] : Bd (n + m) (if c then i else j) := ⟨by
  split
  · exact Nat.lt_of_lt_of_le h.lt (Nat.pow_le_pow_right (by decide) (by omega))
  · exact Nat.lt_of_lt_of_le k.lt (Nat.pow_le_pow_right (by decide) (by omega))⟩
@[simp] theorem mulOk_bd {n m : Nat} {i j : Int} [h : Bd n i] [k : Bd m j] [z : LeN n 400000] [y : LeN m 400000] : mulOk i j = true := Sm.ok h.sm k.sm z.h y.h
@[simp] theorem divOk_bd {n : Nat} {j : Int} [h : Bd n j] [z : LeN n 9000] [y : Nz j] : divOk j = true := by
  cases n with
  | zero => have := h.lt; have := y.h; omega
  | succ n => exact divOk_of h.sm y.h z.h (Nat.succ_pos n)
theorem Le.of {n : Nat} {i : Int} (a : Int) (h1 : -a ≤ i) (h2 : i ≤ a) (h : a.natAbs < 2 ^ n) : Le n i := ⟨by omega⟩
theorem Nz.of_pos {i : Int} (h : 0 < i) : Nz i := ⟨by omega⟩
end Hx

set_option Elab.async false
set_option linter.all false
set_option maxRecDepth 100000
set_option autoImplicit false
/-! Geo: pieces, blocks and shares over rationals. -/
namespace Geo
/-- the cross product -/
def cr (ax ay bx bY cx cy : Rat) : Rat := (bx - ax) * (cy - ay) - (bY - ay) * (cx - ax)
/-- on a piece -/
def On (cx cy dx dy x y : Rat) : Prop := ∃ t : Rat, 0 ≤ t ∧ t ≤ 1 ∧ x = cx + t * (dx - cx) ∧ y = cy + t * (dy - cy)
def Bt (l n h : Rat) : Prop := (l ≤ n ∧ n ≤ h) ∨ (h ≤ n ∧ n ≤ l)
section
variable {ax ay bx bY cx cy dx dy x y : Rat}
theorem div_range {n d : Rat} (hd : d ≠ 0) (h : (0 ≤ n ∧ n ≤ d) ∨ (d ≤ n ∧ n ≤ 0)) : 0 ≤ n / d ∧ n / d ≤ 1 := by
  have e : n = (n / d) * d := by grind
  generalize n / d = q at *
  subst e
  rcases h with ⟨h1, h2⟩ | ⟨h1, h2⟩
  · have hd' : 0 < d := by grind
    constructor
    · refine Rat.not_lt.mp fun z => ?_
      have := Rat.mul_pos (show 0 < -q by grind) hd'
      grind
    · refine Rat.not_lt.mp fun z => ?_
      have := Rat.mul_pos (show 0 < q - 1 by grind) hd'
      grind
  · have hd' : 0 < -d := by grind
    constructor
    · refine Rat.not_lt.mp fun z => ?_
      have := Rat.mul_pos (show 0 < -q by grind) hd'
      grind
    · refine Rat.not_lt.mp fun z => ?_
      have := Rat.mul_pos (show 0 < q - 1 by grind) hd'
      grind
theorem mul_nn {a b : Rat} (ha : 0 ≤ a) (hb : 0 ≤ b) : 0 ≤ a * b := Rat.mul_nonneg ha hb
theorem bt_mid {l h t : Rat} (h0 : 0 ≤ t) (h1 : t ≤ 1) : Bt l (l + t * (h - l)) h := by
  unfold Bt
  by_cases hh : l ≤ h
  · have := mul_nn h0 (show 0 ≤ h - l by grind)
    have := mul_nn (show 0 ≤ 1 - t by grind) (show 0 ≤ h - l by grind)
    left; grind
  · have := mul_nn h0 (show 0 ≤ l - h by grind)
    have := mul_nn (show 0 ≤ 1 - t by grind) (show 0 ≤ l - h by grind)
    right; grind
theorem on_iff : On cx cy dx dy x y ↔ cr cx cy dx dy x y = 0 ∧ Bt cx x dx ∧ Bt cy y dy := by
  constructor
  · rintro ⟨t, h0, h1, e1, e2⟩
    subst e1 e2
    exact ⟨by unfold cr; grind, bt_mid h0 h1, bt_mid h0 h1⟩
  · rintro ⟨h, h1, h2⟩
    unfold cr at h
    by_cases hx : dx - cx = 0
    · by_cases hy : dy - cy = 0
      · refine ⟨0, by grind, by grind, ?_, ?_⟩ <;> unfold Bt at * <;> grind
      · obtain ⟨r0, r1⟩ := div_range (n := y - cy) hy (by unfold Bt at *; grind)
        refine ⟨(y - cy) / (dy - cy), r0, r1, ?_, by grind⟩
        unfold Bt at *; grind
    · obtain ⟨r0, r1⟩ := div_range (n := x - cx) hx (by unfold Bt at *; grind)
      exact ⟨(x - cx) / (dx - cx), r0, r1, by grind, by grind⟩
theorem on_turn : On dx dy cx cy x y ↔ On cx cy dx dy x y := by
  have k : ∀ {cx cy dx dy : Rat}, On cx cy dx dy x y → On dx dy cx cy x y := fun {cx cy dx dy} ⟨t, h0, h1, e1, e2⟩ => ⟨1 - t, by grind, by grind, by grind, by grind⟩
  exact ⟨k, k⟩
/-- the point at a share -/
def pt (a b s : Rat) : Rat := a + s * (b - a)
def Sh (s : Rat) : Prop := 0 ≤ s ∧ s ≤ 1
def Meets (ax ay bx bY cx cy dx dy : Rat) : Prop := ∃ s, Sh s ∧ On cx cy dx dy (pt ax bx s) (pt ay bY s)
theorem meets_iff : Meets ax ay bx bY cx cy dx dy ↔ ∃ s t, Sh s ∧ Sh t ∧ pt ax bx s = pt cx dx t ∧ pt ay bY s = pt cy dy t := by
  constructor
  · rintro ⟨s, h, t, h0, h1, e1, e2⟩
    exact ⟨s, t, h, ⟨h0, h1⟩, e1, e2⟩
  · rintro ⟨s, t, h, ⟨h0, h1⟩, e1, e2⟩
    exact ⟨s, h, t, h0, h1, e1, e2⟩
theorem meets_comm : Meets cx cy dx dy ax ay bx bY ↔ Meets ax ay bx bY cx cy dx dy := by
  rw [meets_iff, meets_iff]
  constructor
  · rintro ⟨s, t, h, h', e1, e2⟩; exact ⟨t, s, h', h, e1.symm, e2.symm⟩
  · rintro ⟨s, t, h, h', e1, e2⟩; exact ⟨t, s, h', h, e1.symm, e2.symm⟩
theorem meets_turn : Meets bx bY ax ay cx cy dx dy ↔ Meets ax ay bx bY cx cy dx dy := by
  have k : ∀ {ax ay bx bY : Rat}, Meets ax ay bx bY cx cy dx dy → Meets bx bY ax ay cx cy dx dy := fun {ax ay bx bY} ⟨s, h, o⟩ => ⟨1 - s, ⟨by have := h.2; grind, by have := h.1; grind⟩, by
    have e1 : pt bx ax (1 - s) = pt ax bx s := by unfold pt; grind
    have e2 : pt bY ay (1 - s) = pt ay bY s := by unfold pt; grind
    rw [e1, e2]; exact o⟩
  exact ⟨k, k⟩
theorem meets_turn2 : Meets ax ay bx bY dx dy cx cy ↔ Meets ax ay bx bY cx cy dx dy := by
  rw [meets_comm, meets_turn, meets_comm]
/-- by crossing or touching -/
def Cut (ax ay bx bY cx cy dx dy : Rat) : Prop :=
  (cr ax ay bx bY cx cy * cr ax ay bx bY dx dy < 0 ∧ cr cx cy dx dy ax ay * cr cx cy dx dy bx bY < 0) ∨ On ax ay bx bY cx cy ∨ On ax ay bx bY dx dy ∨ On cx cy dx dy ax ay ∨ On cx cy dx dy bx bY
theorem pt0 {a b : Rat} : pt a b 0 = a := by unfold pt; grind
theorem pt1 {a b : Rat} : pt a b 1 = b := by unfold pt; grind
theorem sh0 : Sh 0 := ⟨by grind, by grind⟩
theorem sh1 : Sh 1 := ⟨by grind, by grind⟩
/-- of unlike signs -/
theorem opp {u v : Rat} (h : u * v < 0) : (0 ≤ u ∧ u ≤ u - v) ∨ (u - v ≤ u ∧ u ≤ 0) := by
  by_cases hu : 0 ≤ u
  · left
    refine ⟨hu, ?_⟩
    by_cases hv : 0 ≤ v
    · have := mul_nn hu hv; grind
    · grind
  · right
    refine ⟨?_, by grind⟩
    by_cases hv : 0 ≤ v
    · grind
    · have := mul_nn (show 0 ≤ -u by grind) (show 0 ≤ -v by grind); grind
theorem opp_ne {u v : Rat} (h : u * v < 0) : u - v ≠ 0 := fun z => by
  have e : u = v := by grind
  subst e
  by_cases hu : 0 ≤ u
  · have := mul_nn hu hu; grind
  · have := mul_nn (show 0 ≤ -u by grind) (show 0 ≤ -u by grind); grind
theorem cut_meets (h : Cut ax ay bx bY cx cy dx dy) : Meets ax ay bx bY cx cy dx dy := by
  rcases h with ⟨h1, h2⟩ | h | h | h | h
  · have n1 := opp_ne h1
    have n2 := opp_ne h2
    obtain ⟨a0, a1⟩ := div_range n1 (opp h1)
    obtain ⟨b0, b1⟩ := div_range n2 (opp h2)
    refine ⟨_, ⟨b0, b1⟩, _, a0, a1, ?_, ?_⟩
    · have e : cr cx cy dx dy ax ay - cr cx cy dx dy bx bY = -(cr ax ay bx bY cx cy - cr ax ay bx bY dx dy) := by unfold cr; grind
      rw [e]
      generalize hw : cr ax ay bx bY cx cy - cr ax ay bx bY dx dy = w at *
      have : (cr cx cy dx dy ax ay) * (bx - ax) = -(w * (cx - ax) + cr ax ay bx bY cx cy * (dx - cx)) := by rw [← hw]; unfold cr; grind
      unfold pt
      grind
    · have e : cr cx cy dx dy ax ay - cr cx cy dx dy bx bY = -(cr ax ay bx bY cx cy - cr ax ay bx bY dx dy) := by unfold cr; grind
      rw [e]
      generalize hw : cr ax ay bx bY cx cy - cr ax ay bx bY dx dy = w at *
      have : (cr cx cy dx dy ax ay) * (bY - ay) = -(w * (cy - ay) + cr ax ay bx bY cx cy * (dy - cy)) := by rw [← hw]; unfold cr; grind
      unfold pt
      grind
  · obtain ⟨s, h0, h1, e1, e2⟩ := h
    exact ⟨s, ⟨h0, h1⟩, 0, by grind, by grind, by unfold pt; grind, by unfold pt; grind⟩
  · obtain ⟨s, h0, h1, e1, e2⟩ := h
    exact ⟨s, ⟨h0, h1⟩, 1, by grind, by grind, by unfold pt; grind, by unfold pt; grind⟩
  · exact ⟨0, sh0, by rw [pt0, pt0]; exact h⟩
  · exact ⟨1, sh1, by rw [pt1, pt1]; exact h⟩
end
end Geo

set_option Elab.async false
set_option linter.all false
set_option maxRecDepth 100000
set_option autoImplicit false
namespace Geo
section
variable {ax ay bx bY cx cy dx dy x y : Rat}
theorem conv_opp {u v t : Rat} (h0 : 0 < t) (h1 : t < 1) (h : (1 - t) * u + t * v = 0) : (u = 0 ∧ v = 0) ∨ u * v < 0 := by
  by_cases hu : u = 0
  · left
    refine ⟨hu, ?_⟩
    subst hu
    have : t * v = 0 := by grind
    rcases Rat.mul_eq_zero.mp this with z | z <;> grind
  · right
    have e : v * t = -((1 - t) * u) := by grind
    have k : (u * v) * t = -((1 - t) * (u * u)) := by grind
    have p1 : 0 < u * u := by
      by_cases hp : 0 < u
      · exact Rat.mul_pos hp hp
      · have := Rat.mul_pos (show 0 < -u by grind) (show 0 < -u by grind); grind
    have p2 := Rat.mul_pos (show 0 < 1 - t by grind) p1
    refine Rat.not_le.mp fun z => ?_
    have := mul_nn z (show 0 ≤ t by grind)
    grind
theorem meets_cut (h : Meets ax ay bx bY cx cy dx dy) : Cut ax ay bx bY cx cy dx dy := by
  obtain ⟨s, t, ⟨s0, s1⟩, ⟨t0, t1⟩, e1, e2⟩ := meets_iff.mp h
  unfold Cut
  by_cases q : s = 0
  · subst q; right; right; right; left; refine ⟨t, t0, t1, ?_, ?_⟩ <;> unfold pt at * <;> grind
  by_cases q : s = 1
  · subst q; right; right; right; right; refine ⟨t, t0, t1, ?_, ?_⟩ <;> unfold pt at * <;> grind
  by_cases q : t = 0
  · subst q; right; left; refine ⟨s, s0, s1, ?_, ?_⟩ <;> unfold pt at * <;> grind
  by_cases q : t = 1
  · subst q; right; right; left; refine ⟨s, s0, s1, ?_, ?_⟩ <;> unfold pt at * <;> grind
  have z1 : (1 - t) * cr ax ay bx bY cx cy + t * cr ax ay bx bY dx dy = 0 := by
    unfold pt at *
    unfold cr; grind
  have z2 : (1 - s) * cr cx cy dx dy ax ay + s * cr cx cy dx dy bx bY = 0 := by
    unfold pt at *
    unfold cr; grind
  have w : cr ax ay bx bY cx cy - cr ax ay bx bY dx dy = cr cx cy dx dy bx bY - cr cx cy dx dy ax ay := by unfold cr; grind
  have key : (cr ax ay bx bY cx cy = 0 ∧ cr ax ay bx bY dx dy = 0) → (cr cx cy dx dy ax ay = 0 ∧ cr cx cy dx dy bx bY = 0) → On ax ay bx bY cx cy ∨ On ax ay bx bY dx dy ∨ On cx cy dx dy ax ay ∨ On cx cy dx dy bx bY := by
    rintro ⟨u0, v0⟩ ⟨p0, q0⟩
    unfold pt at e1 e2
    by_cases hx : bx - ax = 0 ∧ bY - ay = 0
    · obtain ⟨hx, hy⟩ := hx
      right; right; left
      exact ⟨t, t0, t1, by grind, by grind⟩
    -- f = k e
    have hk : ∃ k : Rat, dx - cx = k * (bx - ax) ∧ dy - cy = k * (bY - ay) := by
      by_cases hx' : bx - ax = 0
      · have hy' : bY - ay ≠ 0 := fun z => hx ⟨hx', z⟩
        refine ⟨(dy - cy) / (bY - ay), ?_, by grind⟩
        unfold cr at u0 v0
        grind
      · refine ⟨(dx - cx) / (bx - ax), by grind, ?_⟩
        unfold cr at u0 v0
        grind
    obtain ⟨k, k1, k2⟩ := hk
    have tt := mul_nn t0 (show 0 ≤ 1 - t by grind)
    by_cases kp : 0 ≤ k
    · have tk := mul_nn t0 kp
      by_cases c : t * k ≤ s
      · left
        exact ⟨s - t * k, by grind, by grind, by grind, by grind⟩
      · right; right; left
        have k0 : k ≠ 0 := by grind
        have kpos : 0 < k := by grind
        have sk : s / k * k = s := by grind
        have n1 : 0 ≤ s / k := Rat.not_lt.mp fun z => by
          have := Rat.mul_pos (show 0 < -(s / k) by grind) kpos; grind
        have n2 : 0 ≤ t - s / k := Rat.not_lt.mp fun z => by
          have := Rat.mul_pos (show 0 < -(t - s / k) by grind) kpos; grind
        exact ⟨t - s / k, n2, by grind, by grind, by grind⟩
    · have kn : 0 < -k := by grind
      have tk := mul_nn (show 0 ≤ 1 - t by grind) (show 0 ≤ -k by grind)
      by_cases c : (1 - t) * (-k) ≤ s
      · right; left
        exact ⟨s + (1 - t) * k, by grind, by grind, by grind, by grind⟩
      · right; right; left
        have k0 : k ≠ 0 := by grind
        have sk : s / k * k = s := by grind
        have n1 : 0 ≤ -(s / k) := Rat.not_lt.mp fun z => by
          have := Rat.mul_pos (show 0 < (s / k) by grind) kn; grind
        have n2 : 0 ≤ 1 - t + s / k := Rat.not_lt.mp fun z => by
          have := Rat.mul_pos (show 0 < -(1 - t + s / k) by grind) kn; grind
        exact ⟨t - s / k, by grind, by grind, by grind, by grind⟩
  rcases conv_opp (t := t) (by grind) (by grind) z1 with h1 | h1
  · rcases conv_opp (t := s) (by grind) (by grind) z2 with h2 | h2
    · exact .inr (key h1 h2)
    · have := opp_ne h2; grind
  · rcases conv_opp (t := s) (by grind) (by grind) z2 with h2 | h2
    · have := opp_ne h1; grind
    · exact .inl ⟨h1, h2⟩
theorem cut_iff : Cut ax ay bx bY cx cy dx dy ↔ Meets ax ay bx bY cx cy dx dy := ⟨cut_meets, meets_cut⟩
/-! ### shares of a piece -/
/-- l, h: just the shares at which P holds -/
structure Span (P : Rat → Prop) (l h : Rat) : Prop where
  l0 : 0 ≤ l
  lh : l ≤ h
  h1 : h ≤ 1
  at_ : ∀ s, Sh s → (P s ↔ l ≤ s ∧ s ≤ h)
def NoSpan (P : Rat → Prop) : Prop := ∀ s, Sh s → ¬ P s
def IsSpan (P : Rat → Prop) : Option (Rat × Rat) → Prop
  | some (l, h) => Span P l h
  | none => NoSpan P
theorem Span.uniq {P : Rat → Prop} {l h l' h' : Rat} (a : Span P l h) (b : Span P l' h') : l = l' ∧ h = h' := by
  have a1 := (b.at_ l ⟨a.l0, by have := a.lh; have := a.h1; grind⟩).mp ((a.at_ l ⟨a.l0, by have := a.lh; have := a.h1; grind⟩).mpr ⟨by grind, a.lh⟩)
  have a2 := (b.at_ h ⟨by have := a.lh; have := a.l0; grind, a.h1⟩).mp ((a.at_ h ⟨by have := a.lh; have := a.l0; grind, a.h1⟩).mpr ⟨a.lh, by grind⟩)
  have b1 := (a.at_ l' ⟨b.l0, by have := b.lh; have := b.h1; grind⟩).mp ((b.at_ l' ⟨b.l0, by have := b.lh; have := b.h1; grind⟩).mpr ⟨by grind, b.lh⟩)
  have b2 := (a.at_ h' ⟨by have := b.lh; have := b.l0; grind, b.h1⟩).mp ((b.at_ h' ⟨by have := b.lh; have := b.l0; grind, b.h1⟩).mpr ⟨b.lh, by grind⟩)
  grind
theorem IsSpan.uniq {P Q : Rat → Prop} (h : ∀ s, Sh s → (P s ↔ Q s)) : ∀ {a b : Option (Rat × Rat)}, IsSpan P a → IsSpan Q b → a = b
  | none, none, _, _ => rfl
  | some (l, h1), some (l', h1'), x, y => by
    have := Span.uniq x ⟨y.l0, y.lh, y.h1, fun s hs => (h s hs).trans (y.at_ s hs)⟩
    rw [this.1, this.2]
  | none, some (l, h1), x, y => by
    have hl : Sh l := ⟨y.l0, by have := y.lh; have := y.h1; grind⟩
    exact absurd ((h l hl).mpr ((y.at_ l hl).mpr ⟨by grind, y.lh⟩)) (x l hl)
  | some (l, h1), none, x, y => by
    have hl : Sh l := ⟨x.l0, by have := x.lh; have := x.h1; grind⟩
    exact absurd ((h l hl).mp ((x.at_ l hl).mpr ⟨by grind, x.lh⟩)) (y l hl)
theorem IsSpan.some_iff {P : Rat → Prop} {a : Option (Rat × Rat)} (h : IsSpan P a) : a.isSome = true ↔ ∃ s, Sh s ∧ P s := by
  cases a with
  | none =>
    constructor
    · intro z; cases z
    · rintro ⟨s, hs, p⟩; exact absurd p (h s hs)
  | some lh =>
    obtain ⟨l, h1⟩ := lh
    refine ⟨fun _ => ?_, fun _ => rfl⟩
    have hl : Sh l := ⟨h.l0, by have := h.lh; have := h.h1; grind⟩
    exact ⟨l, hl, (h.at_ l hl).mpr ⟨by grind, h.lh⟩⟩
/-- cut down to what is given -/
def cutDown : Option (Rat × Rat) → Rat → Rat → Option (Rat × Rat)
  | none, _, _ => none
  | some (l, h), lo, hi =>
    let f := if l < lo then lo else l
    let g := if hi < h then hi else h
    if g < f then none else some (f, g)
theorem cutDown_span {P : Rat → Prop} {o : Option (Rat × Rat)} {lo hi : Rat} (h : IsSpan P o) : IsSpan (fun s => P s ∧ lo ≤ s ∧ s ≤ hi) (cutDown o lo hi) := by
  cases o with
  | none => exact fun s hs z => h s hs z.1
  | some lh =>
    obtain ⟨l, u⟩ := lh
    have h0 := h.l0
    have h1 := h.lh
    have h2 := h.h1
    have h3 := h.at_
    show IsSpan _ (if (if hi < u then hi else u) < (if l < lo then lo else l) then none else some ((if l < lo then lo else l), (if hi < u then hi else u)))
    have f1 : ∀ s, (if l < lo then lo else l) ≤ s ↔ l ≤ s ∧ lo ≤ s := fun s => by grind
    have f2 : ∀ s, s ≤ (if hi < u then hi else u) ↔ s ≤ u ∧ s ≤ hi := fun s => by grind
    have f3 : 0 ≤ (if l < lo then lo else l) := by grind
    have f4 : (if hi < u then hi else u) ≤ 1 := by grind
    generalize (if hi < u then hi else u) = g at *
    generalize (if l < lo then lo else l) = f at *
    by_cases c : g < f
    · rw [if_pos c]
      intro s hs z
      have := (h3 s hs).mp z.1
      have := (f1 s).mpr ⟨this.1, z.2.1⟩
      have := (f2 s).mpr ⟨((h3 s hs).mp z.1).2, z.2.2⟩
      grind
    · rw [if_neg c]
      exact ⟨f3, by grind, f4, fun s hs => by rw [h3 s hs, f1, f2]; grind⟩
def full : Option (Rat × Rat) := some (0, 1)
theorem full_span : IsSpan (fun _ => True) full := ⟨by grind, by grind, by grind, fun s hs => ⟨fun _ => hs, fun _ => trivial⟩⟩
theorem IsSpan.iff {P Q : Rat → Prop} {o : Option (Rat × Rat)} (h : IsSpan P o) (k : ∀ s, Sh s → (P s ↔ Q s)) : IsSpan Q o := by
  cases o with
  | none => exact fun s hs z => h s hs ((k s hs).mpr z)
  | some lh => exact ⟨h.l0, h.lh, h.h1, fun s hs => (k s hs).symm.trans (h.at_ s hs)⟩
/-- the share of a place on the line of a piece -/
def shOn (ax ay bx bY x y : Rat) : Rat := if ax ≠ bx then (x - ax) / (bx - ax) else (y - ay) / (bY - ay)
theorem shOn_at (hne : ax ≠ bx ∨ ay ≠ bY) (h : cr ax ay bx bY x y = 0) {s : Rat} : (pt ax bx s = x ∧ pt ay bY s = y) ↔ s = shOn ax ay bx bY x y := by
  unfold shOn pt cr at *
  by_cases hx : ax = bx
  · have hy : bY - ay ≠ 0 := by grind
    simp only [hx, ne_eq, not_true_eq_false, if_false]
    constructor
    · rintro ⟨e1, e2⟩; grind
    · intro e
      have : s * (bY - ay) = y - ay := by rw [e]; grind
      refine ⟨?_, by grind⟩
      have : (bY - ay) * (x - ax) = 0 := by grind
      rcases Rat.mul_eq_zero.mp this with z | z <;> grind
  · have hx' : bx - ax ≠ 0 := by grind
    simp only [hx, ne_eq, not_false_eq_true, if_true]
    constructor
    · rintro ⟨e1, e2⟩; grind
    · intro e
      have : s * (bx - ax) = x - ax := by rw [e]; grind
      exact ⟨by grind, by grind⟩
theorem cr_pt {s : Rat} : cr ax ay bx bY (pt ax bx s) (pt ay bY s) = 0 := by unfold cr pt; grind
/-- the shares of ab on cd -/
def psh (cx cy dx dy ax ay bx bY : Rat) : Option (Rat × Rat) :=
  let u := cr ax ay bx bY cx cy
  let v := cr ax ay bx bY dx dy
  if u = 0 ∧ v = 0 then
    let c := shOn ax ay bx bY cx cy
    let d := shOn ax ay bx bY dx dy
    if d < c then cutDown full d c else cutDown full c d
  else if 0 < u * v then none
  else
    let s := shOn ax ay bx bY (pt cx dx (u / (u - v))) (pt cy dy (u / (u - v)))
    cutDown full s s
theorem psh_span (hne : ax ≠ bx ∨ ay ≠ bY) : IsSpan (fun s => On cx cy dx dy (pt ax bx s) (pt ay bY s)) (psh cx cy dx dy ax ay bx bY) := by
  unfold psh
  dsimp only
  split
  · rename_i h
    obtain ⟨u0, v0⟩ := h
    obtain ⟨c1, c2⟩ := (shOn_at hne u0).mpr rfl
    obtain ⟨d1, d2⟩ := (shOn_at hne v0).mpr rfl
    generalize shOn ax ay bx bY cx cy = c at *
    generalize shOn ax ay bx bY dx dy = d at *
    have key : ∀ s, On cx cy dx dy (pt ax bx s) (pt ay bY s) ↔ ∃ t : Rat, 0 ≤ t ∧ t ≤ 1 ∧ s = c + t * (d - c) := fun s => by
      constructor
      · rintro ⟨t, t0, t1, e1, e2⟩
        refine ⟨t, t0, t1, ?_⟩
        rw [← c1, ← d1] at e1
        rw [← c2, ← d2] at e2
        unfold pt at e1 e2
        rcases hne with h | h
        · have : (s - (c + t * (d - c))) * (bx - ax) = 0 := by grind
          rcases Rat.mul_eq_zero.mp this with z | z <;> grind
        · have : (s - (c + t * (d - c))) * (bY - ay) = 0 := by grind
          rcases Rat.mul_eq_zero.mp this with z | z <;> grind
      · rintro ⟨t, t0, t1, e⟩
        refine ⟨t, t0, t1, ?_, ?_⟩
        · rw [← c1, ← d1]; unfold pt; grind
        · rw [← c2, ← d2]; unfold pt; grind
    have fin : ∀ s, (∃ t : Rat, 0 ≤ t ∧ t ≤ 1 ∧ s = c + t * (d - c)) ↔ Bt c s d := fun s => by
      constructor
      · rintro ⟨t, t0, t1, e⟩
        rw [e]; exact bt_mid t0 t1
      · intro b
        by_cases hcd : d - c = 0
        · exact ⟨0, by grind, by grind, by unfold Bt at b; grind⟩
        · obtain ⟨r0, r1⟩ := div_range (n := s - c) hcd (by unfold Bt at b; grind)
          exact ⟨(s - c) / (d - c), r0, r1, by grind⟩
    split
    · exact (cutDown_span full_span).iff fun s hs => by rw [key, fin]; unfold Bt; grind
    · exact (cutDown_span full_span).iff fun s hs => by rw [key, fin]; unfold Bt; grind
  · rename_i nz
    split
    · rename_i h
      rintro s hs ⟨t, t0, t1, e1, e2⟩
      have z : (1 - t) * cr ax ay bx bY cx cy + t * cr ax ay bx bY dx dy = 0 := by
        unfold pt at *
        unfold cr; grind
      generalize cr ax ay bx bY cx cy = u at *
      generalize cr ax ay bx bY dx dy = v at *
      by_cases q : t = 0
      · subst q; have : u = 0 := by grind
        subst this; grind
      by_cases q : t = 1
      · subst q; have : v = 0 := by grind
        subst this; grind
      rcases conv_opp (t := t) (by grind) (by grind) z with w | w
      · exact nz w
      · grind
    · rename_i h
      have rng : cr ax ay bx bY cx cy - cr ax ay bx bY dx dy ≠ 0 ∧ ((0 ≤ cr ax ay bx bY cx cy ∧ cr ax ay bx bY cx cy ≤ cr ax ay bx bY cx cy - cr ax ay bx bY dx dy) ∨ (cr ax ay bx bY cx cy - cr ax ay bx bY dx dy ≤ cr ax ay bx bY cx cy ∧ cr ax ay bx bY cx cy ≤ 0)) := by
        generalize cr ax ay bx bY cx cy = u at *
        generalize cr ax ay bx bY dx dy = v at *
        by_cases q : u * v < 0
        · exact ⟨opp_ne q, opp q⟩
        · have : u * v = 0 := by grind
          rcases Rat.mul_eq_zero.mp this with z | z <;> subst z <;> constructor <;> grind
      obtain ⟨w0, w1⟩ := rng
      obtain ⟨r0, r1⟩ := div_range w0 w1
      have hX : cr ax ay bx bY (pt cx dx (cr ax ay bx bY cx cy / (cr ax ay bx bY cx cy - cr ax ay bx bY dx dy))) (pt cy dy (cr ax ay bx bY cx cy / (cr ax ay bx bY cx cy - cr ax ay bx bY dx dy))) = 0 := by
        have : ∀ t, cr ax ay bx bY (pt cx dx t) (pt cy dy t) = cr ax ay bx bY cx cy - t * (cr ax ay bx bY cx cy - cr ax ay bx bY dx dy) := fun t => by unfold cr pt; grind
        rw [this]; grind
      have key : ∀ s t, pt ax bx s = pt cx dx t → pt ay bY s = pt cy dy t → t = cr ax ay bx bY cx cy / (cr ax ay bx bY cx cy - cr ax ay bx bY dx dy) := fun s t e1 e2 => by
        have z : t * (cr ax ay bx bY cx cy - cr ax ay bx bY dx dy) = cr ax ay bx bY cx cy := by
          unfold pt at *
          unfold cr; grind
        grind
      refine (cutDown_span full_span).iff fun s hs => ?_
      have e0 := shOn_at hne hX (s := s)
      generalize cr ax ay bx bY cx cy / (cr ax ay bx bY cx cy - cr ax ay bx bY dx dy) = t0 at *
      constructor
      · rintro ⟨_, h1, h2⟩
        have := e0.mpr (by grind)
        exact ⟨t0, r0, r1, this.1, this.2⟩
      · rintro ⟨t, _, _, e1, e2⟩
        have := key s t e1 e2
        subst this
        have := e0.mp ⟨e1, e2⟩
        exact ⟨trivial, by grind, by grind⟩
end
end Geo

set_option Elab.async false
set_option linter.all false
set_option maxRecDepth 100000
set_option autoImplicit false
namespace Geo
section
variable {ax ay bx bY l w r h x y : Rat}
def slab (o : Option (Rat × Rat)) (start step lo hi : Rat) : Option (Rat × Rat) :=
  if step = 0 then (if lo ≤ start ∧ start ≤ hi then o else none)
  else if 0 < step then cutDown o ((lo - start) / step) ((hi - start) / step) else cutDown o ((hi - start) / step) ((lo - start) / step)
theorem le_div {a b s : Rat} (hb : 0 < b) : a / b ≤ s ↔ a ≤ s * b := by
  have e : a = a / b * b := by grind
  generalize a / b = q at *
  subst e
  constructor
  · intro z
    have := mul_nn (show 0 ≤ s - q by grind) (show 0 ≤ b by grind); grind
  · intro z
    refine Rat.not_lt.mp fun k => ?_
    have := Rat.mul_pos (show 0 < q - s by grind) hb; grind
theorem div_le {a b s : Rat} (hb : 0 < b) : s ≤ a / b ↔ s * b ≤ a := by
  have e : a = a / b * b := by grind
  generalize a / b = q at *
  subst e
  constructor
  · intro z
    have := mul_nn (show 0 ≤ q - s by grind) (show 0 ≤ b by grind); grind
  · intro z
    refine Rat.not_lt.mp fun k => ?_
    have := Rat.mul_pos (show 0 < s - q by grind) hb; grind
theorem div_neg {a b : Rat} : a / b = (-a) / (-b) := by
  by_cases hb : b = 0
  · subst hb; grind
  · grind
theorem slab_span {P : Rat → Prop} {o : Option (Rat × Rat)} {start step lo hi : Rat} (k : IsSpan P o) : IsSpan (fun s => P s ∧ lo ≤ start + s * step ∧ start + s * step ≤ hi) (slab o start step lo hi) := by
  unfold slab
  by_cases hs : step = 0
  · rw [if_pos hs]
    subst hs
    by_cases c : lo ≤ start ∧ start ≤ hi
    · rw [if_pos c]
      exact k.iff fun s hs => ⟨fun p => ⟨p, by grind, by grind⟩, fun p => p.1⟩
    · rw [if_neg c]
      exact fun s hs z => c (by grind)
  · rw [if_neg hs]
    by_cases c : 0 < step
    · rw [if_pos c]
      exact (cutDown_span k).iff fun s hs => by rw [le_div c, div_le c]; grind
    · rw [if_neg c, div_neg (a := hi - start), div_neg (a := lo - start)]
      have c' : 0 < -step := by grind
      exact (cutDown_span k).iff fun s hs => by rw [le_div c', div_le c']; grind
theorem cutDown_lo {o : Option (Rat × Rat)} {lo hi l' h' : Rat} (e : cutDown o lo hi = some (l', h')) : (∃ h0, o = some (l', h0)) ∨ l' = lo := by
  cases o with
  | none => cases e
  | some lh =>
    obtain ⟨l, u⟩ := lh
    replace e : (if (if hi < u then hi else u) < (if l < lo then lo else l) then none else some ((if l < lo then lo else l), (if hi < u then hi else u))) = some (l', h') := e
    by_cases c : (if hi < u then hi else u) < (if l < lo then lo else l)
    · rw [if_pos c] at e; cases e
    · rw [if_neg c] at e
      injection e with e
      injection e with e1 e2
      by_cases c : l < lo
      · rw [if_pos c] at e1; exact .inr e1.symm
      · rw [if_neg c] at e1; subst e1; exact .inl ⟨_, rfl⟩
theorem slab_lo {o : Option (Rat × Rat)} {start step lo hi l' h' : Rat} (e : slab o start step lo hi = some (l', h')) : (∃ h0, o = some (l', h0)) ∨ start + l' * step = lo ∨ start + l' * step = hi := by
  unfold slab at e
  by_cases hs : step = 0
  · rw [if_pos hs] at e
    split at e
    · exact .inl ⟨_, e⟩
    · cases e
  · rw [if_neg hs] at e
    split at e
    · rcases cutDown_lo e with z | z
      · exact .inl z
      · right; left; grind
    · rcases cutDown_lo e with z | z
      · exact .inl z
      · right; right; grind
def InB (l w r h x y : Rat) : Prop := (l ≤ x ∧ x ≤ r) ∧ (w ≤ y ∧ y ≤ h)
/-- the shares of ab in a block -/
def bsh (l w r h ax ay bx bY : Rat) : Option (Rat × Rat) := slab (slab full ax (bx - ax) l r) ay (bY - ay) w h
theorem bsh_span : IsSpan (fun s => InB l w r h (pt ax bx s) (pt ay bY s)) (bsh l w r h ax ay bx bY) :=
  (slab_span (slab_span full_span)).iff fun s hs => by unfold InB pt; grind
theorem bsh_lo {l' h' : Rat} (e : bsh l w r h ax ay bx bY = some (l', h')) : l' = 0 ∨ (pt ax bx l' = l ∨ pt ax bx l' = r) ∨ pt ay bY l' = w ∨ pt ay bY l' = h := by
  rcases slab_lo e with ⟨h0, z⟩ | z
  · rcases slab_lo z with ⟨h0, z⟩ | z
    · injection z with z; injection z with z; exact .inl z.symm
    · exact .inr (.inl z)
  · exact .inr (.inr z)
/-- the law's own hitting -/
def Hits (l w r h ax ay bx bY : Rat) : Prop :=
  (InB l w r h ax ay ∨ InB l w r h bx bY) ∨ Cut ax ay bx bY l h l w ∨ Cut ax ay bx bY l w r w ∨ Cut ax ay bx bY r w r h ∨ Cut ax ay bx bY r h l h
def BMeets (l w r h ax ay bx bY : Rat) : Prop := ∃ s, Sh s ∧ InB l w r h (pt ax bx s) (pt ay bY s)
theorem bt_in {l n h : Rat} (k : Bt l n h) (lo hi : Rat) (a : lo ≤ l) (b : l ≤ hi) (c : lo ≤ h) (d : h ≤ hi) : lo ≤ n ∧ n ≤ hi := by
  unfold Bt at k
  grind
theorem hits_iff (lr : l ≤ r) (wh : w ≤ h) : Hits l w r h ax ay bx bY ↔ BMeets l w r h ax ay bx bY := by
  have edge : ∀ {cx cy dx dy : Rat}, InB l w r h cx cy → InB l w r h dx dy → Cut ax ay bx bY cx cy dx dy → BMeets l w r h ax ay bx bY := fun {cx cy dx dy} i j c => by
    obtain ⟨s, hs, o⟩ := cut_meets c
    obtain ⟨_, b1, b2⟩ := on_iff.mp o
    exact ⟨s, hs, bt_in b1 _ _ i.1.1 i.1.2 j.1.1 j.1.2, bt_in b2 _ _ i.2.1 i.2.2 j.2.1 j.2.2⟩
  constructor
  · rintro ((k | k) | k | k | k | k)
    · exact ⟨0, sh0, by rw [pt0, pt0]; exact k⟩
    · exact ⟨1, sh1, by rw [pt1, pt1]; exact k⟩
    · exact edge (by unfold InB; grind) (by unfold InB; grind) k
    · exact edge (by unfold InB; grind) (by unfold InB; grind) k
    · exact edge (by unfold InB; grind) (by unfold InB; grind) k
    · exact edge (by unfold InB; grind) (by unfold InB; grind) k
  · intro k
    have sp := bsh_span (ax := ax) (ay := ay) (bx := bx) (bY := bY) (l := l) (w := w) (r := r) (h := h)
    have so := sp.some_iff.mpr k
    cases e : bsh l w r h ax ay bx bY with
    | none => rw [e] at so; cases so
    | some lh =>
      obtain ⟨l', h'⟩ := lh
      rw [e] at sp
      have hl : Sh l' := ⟨sp.l0, by have := sp.lh; have := sp.h1; grind⟩
      have inb := (sp.at_ l' hl).mpr ⟨by grind, sp.lh⟩
      have mk : ∀ {cx cy dx dy : Rat}, On cx cy dx dy (pt ax bx l') (pt ay bY l') → Cut ax ay bx bY cx cy dx dy := fun {cx cy dx dy} o => meets_cut ⟨l', hl, o⟩
      obtain ⟨⟨i1, i2⟩, i3, i4⟩ := inb
      rcases bsh_lo e with z | (z | z) | z | z
      · subst z
        rw [pt0, pt0] at *
        exact .inl (.inl ⟨⟨i1, i2⟩, i3, i4⟩)
      · refine .inr (.inl (mk (on_iff.mpr ?_)))
        rw [z] at *
        exact ⟨by unfold cr; grind, by unfold Bt; grind, by unfold Bt; grind⟩
      · refine .inr (.inr (.inr (.inl (mk (on_iff.mpr ?_)))))
        rw [z] at *
        exact ⟨by unfold cr; grind, by unfold Bt; grind, by unfold Bt; grind⟩
      · refine .inr (.inr (.inl (mk (on_iff.mpr ?_))))
        rw [z] at *
        exact ⟨by unfold cr; grind, by unfold Bt; grind, by unfold Bt; grind⟩
      · refine .inr (.inr (.inr (.inr (mk (on_iff.mpr ?_)))))
        rw [z] at *
        exact ⟨by unfold cr; grind, by unfold Bt; grind, by unfold Bt; grind⟩
end
end Geo

set_option Elab.async false
set_option linter.all false
set_option maxRecDepth 100000
set_option maxHeartbeats 0
set_option autoImplicit false
/-! S1: the written texts are texts. -/
namespace Hx
open PySem PySem.Spec L2
@[simp] theorem so_0 : PyData.strOk ("" : Str) = true := by decide +kernel
@[simp] theorem so_1 : PyData.strOk (" " : Str) = true := by decide +kernel
@[simp] theorem so_2 : PyData.strOk (" / " : Str) = true := by decide +kernel
@[simp] theorem so_3 : PyData.strOk (" lamps, " : Str) = true := by decide +kernel
@[simp] theorem so_4 : PyData.strOk (" panes)" : Str) = true := by decide +kernel
@[simp] theorem so_5 : PyData.strOk (" posts, " : Str) = true := by decide +kernel
@[simp] theorem so_6 : PyData.strOk (" undo" : Str) = true := by decide +kernel
@[simp] theorem so_7 : PyData.strOk ("-" : Str) = true := by decide +kernel
@[simp] theorem so_8 : PyData.strOk ("-0" : Str) = true := by decide +kernel
@[simp] theorem so_9 : PyData.strOk ("/" : Str) = true := by decide +kernel
@[simp] theorem so_10 : PyData.strOk ("0" : Str) = true := by decide +kernel
@[simp] theorem so_11 : PyData.strOk ("0 2 0" : Str) = true := by decide +kernel
@[simp] theorem so_12 : PyData.strOk ("0 3 0" : Str) = true := by decide +kernel
@[simp] theorem so_13 : PyData.strOk ("00" : Str) = true := by decide +kernel
@[simp] theorem so_14 : PyData.strOk ("0123456789" : Str) = true := by decide +kernel
@[simp] theorem so_15 : PyData.strOk ("07" : Str) = true := by decide +kernel
@[simp] theorem so_16 : PyData.strOk ("1" : Str) = true := by decide +kernel
@[simp] theorem so_17 : PyData.strOk ("1234567890" : Str) = true := by decide +kernel
@[simp] theorem so_18 : PyData.strOk ("2 2 1" : Str) = true := by decide +kernel
@[simp] theorem so_19 : PyData.strOk ("3" : Str) = true := by decide +kernel
@[simp] theorem so_20 : PyData.strOk ("9" : Str) = true := by decide +kernel
@[simp] theorem so_21 : PyData.strOk (":" : Str) = true := by decide +kernel
@[simp] theorem so_22 : PyData.strOk ("; " : Str) = true := by decide +kernel
@[simp] theorem so_23 : PyData.strOk ("House" : Str) = true := by decide +kernel
@[simp] theorem so_24 : PyData.strOk ("House(" : Str) = true := by decide +kernel
@[simp] theorem so_25 : PyData.strOk ("Lamp" : Str) = true := by decide +kernel
@[simp] theorem so_26 : PyData.strOk ("Undo" : Str) = true := by decide +kernel
@[simp] theorem so_27 : PyData.strOk ("b" : Str) = true := by decide +kernel
@[simp] theorem so_28 : PyData.strOk ("badblock" : Str) = true := by decide +kernel
@[simp] theorem so_29 : PyData.strOk ("badchoice" : Str) = true := by decide +kernel
@[simp] theorem so_30 : PyData.strOk ("baddeed" : Str) = true := by decide +kernel
@[simp] theorem so_31 : PyData.strOk ("badlight" : Str) = true := by decide +kernel
@[simp] theorem so_32 : PyData.strOk ("badmenu" : Str) = true := by decide +kernel
@[simp] theorem so_33 : PyData.strOk ("badpiece" : Str) = true := by decide +kernel
@[simp] theorem so_34 : PyData.strOk ("badplace" : Str) = true := by decide +kernel
@[simp] theorem so_35 : PyData.strOk ("badsetting" : Str) = true := by decide +kernel
@[simp] theorem so_36 : PyData.strOk ("badsift" : Str) = true := by decide +kernel
@[simp] theorem so_37 : PyData.strOk ("badsort" : Str) = true := by decide +kernel
@[simp] theorem so_38 : PyData.strOk ("badtext" : Str) = true := by decide +kernel
@[simp] theorem so_39 : PyData.strOk ("badview" : Str) = true := by decide +kernel
@[simp] theorem so_40 : PyData.strOk ("badwish" : Str) = true := by decide +kernel
@[simp] theorem so_41 : PyData.strOk ("br" : Str) = true := by decide +kernel
@[simp] theorem so_42 : PyData.strOk ("came" : Str) = true := by decide +kernel
@[simp] theorem so_43 : PyData.strOk ("cases" : Str) = true := by decide +kernel
@[simp] theorem so_44 : PyData.strOk ("clash" : Str) = true := by decide +kernel
@[simp] theorem so_45 : PyData.strOk ("clash x" : Str) = true := by decide +kernel
@[simp] theorem so_46 : PyData.strOk ("done" : Str) = true := by decide +kernel
@[simp] theorem so_47 : PyData.strOk ("drop" : Str) = true := by decide +kernel
@[simp] theorem so_48 : PyData.strOk ("drop  1" : Str) = true := by decide +kernel
@[simp] theorem so_49 : PyData.strOk ("each" : Str) = true := by decide +kernel
@[simp] theorem so_50 : PyData.strOk ("fits" : Str) = true := by decide +kernel
@[simp] theorem so_51 : PyData.strOk ("fits 0" : Str) = true := by decide +kernel
@[simp] theorem so_52 : PyData.strOk ("full" : Str) = true := by decide +kernel
@[simp] theorem so_53 : PyData.strOk ("g" : Str) = true := by decide +kernel
@[simp] theorem so_54 : PyData.strOk ("gb" : Str) = true := by decide +kernel
@[simp] theorem so_55 : PyData.strOk ("gr" : Str) = true := by decide +kernel
@[simp] theorem so_56 : PyData.strOk ("house" : Str) = true := by decide +kernel
@[simp] theorem so_57 : PyData.strOk ("lamp" : Str) = true := by decide +kernel
@[simp] theorem so_58 : PyData.strOk ("lamp 1 2 3" : Str) = true := by decide +kernel
@[simp] theorem so_59 : PyData.strOk ("lamp 1 2 3 4 5 6" : Str) = true := by decide +kernel
@[simp] theorem so_60 : PyData.strOk ("light" : Str) = true := by decide +kernel
@[simp] theorem so_61 : PyData.strOk ("light -0 1" : Str) = true := by decide +kernel
@[simp] theorem so_62 : PyData.strOk ("light 0 0" : Str) = true := by decide +kernel
@[simp] theorem so_63 : PyData.strOk ("light 01 2" : Str) = true := by decide +kernel
@[simp] theorem so_64 : PyData.strOk ("light 1" : Str) = true := by decide +kernel
@[simp] theorem so_65 : PyData.strOk ("light 1 2 3" : Str) = true := by decide +kernel
@[simp] theorem so_66 : PyData.strOk ("look" : Str) = true := by decide +kernel
@[simp] theorem so_67 : PyData.strOk ("looked" : Str) = true := by decide +kernel
@[simp] theorem so_68 : PyData.strOk ("many" : Str) = true := by decide +kernel
@[simp] theorem so_69 : PyData.strOk ("many " : Str) = true := by decide +kernel
@[simp] theorem so_70 : PyData.strOk ("many 0" : Str) = true := by decide +kernel
@[simp] theorem so_71 : PyData.strOk ("many 1" : Str) = true := by decide +kernel
@[simp] theorem so_72 : PyData.strOk ("many 2" : Str) = true := by decide +kernel
@[simp] theorem so_73 : PyData.strOk ("mirror" : Str) = true := by decide +kernel
@[simp] theorem so_74 : PyData.strOk ("move" : Str) = true := by decide +kernel
@[simp] theorem so_75 : PyData.strOk ("no " : Str) = true := by decide +kernel
@[simp] theorem so_76 : PyData.strOk ("nolook" : Str) = true := by decide +kernel
@[simp] theorem so_77 : PyData.strOk ("none" : Str) = true := by decide +kernel
@[simp] theorem so_78 : PyData.strOk ("nothing" : Str) = true := by decide +kernel
@[simp] theorem so_79 : PyData.strOk ("nothingleft" : Str) = true := by decide +kernel
@[simp] theorem so_80 : PyData.strOk ("nought" : Str) = true := by decide +kernel
@[simp] theorem so_81 : PyData.strOk ("pane" : Str) = true := by decide +kernel
@[simp] theorem so_82 : PyData.strOk ("pane 0 0 1 1" : Str) = true := by decide +kernel
@[simp] theorem so_83 : PyData.strOk ("pane 0 0 1 1 " : Str) = true := by decide +kernel
@[simp] theorem so_84 : PyData.strOk ("pane 0 0 1 1 -" : Str) = true := by decide +kernel
@[simp] theorem so_85 : PyData.strOk ("post" : Str) = true := by decide +kernel
@[simp] theorem so_86 : PyData.strOk ("post 1 1 1" : Str) = true := by decide +kernel
@[simp] theorem so_87 : PyData.strOk ("post 9 9 9 9" : Str) = true := by decide +kernel
@[simp] theorem so_88 : PyData.strOk ("q" : Str) = true := by decide +kernel
@[simp] theorem so_89 : PyData.strOk ("r" : Str) = true := by decide +kernel
@[simp] theorem so_90 : PyData.strOk ("rb" : Str) = true := by decide +kernel
@[simp] theorem so_91 : PyData.strOk ("redo" : Str) = true := by decide +kernel
@[simp] theorem so_92 : PyData.strOk ("rg" : Str) = true := by decide +kernel
@[simp] theorem so_93 : PyData.strOk ("rgb" : Str) = true := by decide +kernel
@[simp] theorem so_94 : PyData.strOk ("rgbr" : Str) = true := by decide +kernel
@[simp] theorem so_95 : PyData.strOk ("rr" : Str) = true := by decide +kernel
@[simp] theorem so_96 : PyData.strOk ("settle" : Str) = true := by decide +kernel
@[simp] theorem so_97 : PyData.strOk ("settle 1" : Str) = true := by decide +kernel
@[simp] theorem so_98 : PyData.strOk ("short" : Str) = true := by decide +kernel
@[simp] theorem so_99 : PyData.strOk ("stretch" : Str) = true := by decide +kernel
@[simp] theorem so_100 : PyData.strOk ("strike" : Str) = true := by decide +kernel
@[simp] theorem so_101 : PyData.strOk ("switch" : Str) = true := by decide +kernel
@[simp] theorem so_102 : PyData.strOk ("things" : Str) = true := by decide +kernel
@[simp] theorem so_103 : PyData.strOk ("told" : Str) = true := by decide +kernel
@[simp] theorem so_104 : PyData.strOk ("toomany" : Str) = true := by decide +kernel
@[simp] theorem so_105 : PyData.strOk ("turn" : Str) = true := by decide +kernel
@[simp] theorem so_106 : PyData.strOk ("two" : Str) = true := by decide +kernel
@[simp] theorem so_107 : PyData.strOk ("undo" : Str) = true := by decide +kernel
@[simp] theorem so_108 : PyData.strOk ("undo " : Str) = true := by decide +kernel
@[simp] theorem so_109 : PyData.strOk ("undo 1" : Str) = true := by decide +kernel
@[simp] theorem so_110 : PyData.strOk ("unknown" : Str) = true := by decide +kernel
@[simp] theorem so_111 : PyData.strOk ("unsure" : Str) = true := by decide +kernel
@[simp] theorem so_112 : PyData.strOk ("unsure " : Str) = true := by decide +kernel
@[simp] theorem so_113 : PyData.strOk ("unsure 1 2 3 4" : Str) = true := by decide +kernel
@[simp] theorem so_114 : PyData.strOk ("what" : Str) = true := by decide +kernel
@[simp] theorem so_115 : PyData.strOk ("why" : Str) = true := by decide +kernel
@[simp] theorem so_116 : PyData.strOk ("why 0 0" : Str) = true := by decide +kernel
@[simp] theorem so_117 : PyData.strOk ("x" : Str) = true := by decide +kernel
@[simp] theorem so_118 : PyData.strOk ("zz" : Str) = true := by decide +kernel
@[simp] theorem so_119 : PyData.strOk ("~!" : Str) = true := by decide +kernel
theorem eqD_str {x y : Str} (h : PyData.strOk x = true) (k : PyData.strOk y = true) : eqD (.str x) (.str y) = some (decide (x = y)) := by
  simp [eqD, D.py, SeqAt.shaped, PyData.canLay0, PyData.depth, PyData.eqv, h, k]
  rfl
end Hx

set_option Elab.async false
set_option linter.all false
set_option maxRecDepth 100000
set_option autoImplicit false
/-! P1: the bag, the draws, sameness. -/
namespace Hx
open PySem PySem.Spec L2
/-- the bag's cell -/
abbrev BgD (xs : List Int) (i h s n : Int) : D := .con .lst [.con .lst (xs.map D.int), .int i, .int h, .int s, .int n]
def Bg (st : Store) (c : Nat) (xs : List Int) (i h s n : Int) : Prop := st[c]? = some (.c .z, BgD xs i h s n)
section
variable {st : Store} {c : Nat} {xs : List Int} {i h s n x : Int}
theorem Bg.lk (e : Bg st c xs i h s n) : lk st (.ref c) = BgD xs i h s n := lk_bag e
theorem Bg.lt (e : Bg st c xs i h s n) : c < st.length := (List.getElem?_eq_some_iff.mp e).1
theorem Bg.put {xs' : List Int} {i' h' s' n' : Int} (e : Bg st c xs i h s n) : Bg (st.set c (.c .z, BgD xs' i' h' s' n')) c xs' i' h' s' n' := get_set e
theorem pull0 (e : Bg st c xs i h s n) (a1 : 0 ≤ i) (a2 : 0 ≤ h) (a3 : 0 ≤ s) (a4 : s < 2147483647) {many : Int} : ∃ i' h' s' st1 v, B_l_pull_0 [some (.z, .ref c), some (.z, .int many), none, none, none] st = .nx [some (.z, .ref c), some (.z, .int many), v, none, none] st1 ∧
    Bg st1 c xs i' h' s' n ∧ 0 ≤ i' ∧ 0 ≤ h' ∧ 0 ≤ s' ∧ s' < 2147483647 ∧ Fro1 c st st1 := by
  have e0 := e.lk
  have hl := e.lt
  by_cases hc : h = 0 ∧ i < xs.length
  · obtain ⟨hc1, hc2⟩ := hc
    subst hc1
    obtain ⟨x, ex⟩ := atI_map a1 hc2
    by_cases hx : x ≥ 1000000000000000000
    · refine ⟨i + 1, x, s, _, some (.z, .int x), ?_, e.put, by omega, by omega, a3, a4, Fro1.set⟩
      obtain ⟨hl', e⟩ := List.getElem?_eq_some_iff.mp e
      simp [B_l_pull_0, B_l_pull_0t_0, B_l_pull_0t_1, B_l_pull_0t_2, e0, e, hc2, ex, ixN, powOk, hx, hl]
    · have hm : 0 ≤ (s * 40503 + x.fmod 2147483563 + 1).fmod 2147483629 ∧ (s * 40503 + x.fmod 2147483563 + 1).fmod 2147483629 < 2147483629 := ⟨Int.fmod_nonneg_of_pos _ (by decide), Int.fmod_lt_of_pos _ (by decide)⟩
      refine ⟨i + 1, 0, (s * 40503 + x.fmod 2147483563 + 1).fmod 2147483629, _, some (.z, .int x), ?_, e.put, by omega, a2, hm.1, by omega, Fro1.set⟩
      have m1 : mulOk s 40503 = true := Sm.ok (n := 40) (m := 20) (by unfold Sm; omega) (by unfold Sm; decide) (by decide) (by decide)
      obtain ⟨hl', e⟩ := List.getElem?_eq_some_iff.mp e
      simp [B_l_pull_0, B_l_pull_0t_0, B_l_pull_0t_1, B_l_pull_0t_2, B_l_pull_0t_2e_0, e0, e, hc2, ex, ixN, powOk, hx, m1, hl]
  · refine ⟨i, h, s, st, none, ?_, e, a1, a2, a3, a4, Fro1.refl⟩
    by_cases h0 : h = 0
    · have : ¬ i < xs.length := fun z => hc ⟨h0, z⟩
      simp [B_l_pull_0, e0, h0, this]
    · simp [B_l_pull_0, e0, h0]
theorem f_l_pull {k : Nat} {many : Int} (B : Bag k st c) (hk : k < 2 ^ 100) (hm : 0 < many) (hs : Sm 1000 many) :
    ∃ g st', F_l_pull [(.z, .ref c), (.z, .int many)] st = .ok .z false (.int g) st' ∧ 0 ≤ g ∧ g < many ∧ Bag (k + 1) st' c ∧ Fro1 c st st' := by
  obtain ⟨xs, i, h, s, n, e, a1, a2, a3, a4, a5, a6⟩ := B.ex
  obtain ⟨i, h, s, st1, v, q, e, a1, a2, a3, a4, fr⟩ := pull0 (many := many) e a1 a2 a3 a4
  have e0 := e.lk
  have hl := e.lt
  have hne : many ≠ 0 := by omega
  by_cases h0 : h > 0
  · have dk : divOk many = true := divOk_of hs hne (by decide) (by decide)
    refine ⟨h.fmod many, st1.set c (.c .z, BgD xs i (h.fdiv many) s n), ?_, Int.fmod_nonneg_of_pos _ hm, Int.fmod_lt_of_pos _ hm, ⟨xs, i, h.fdiv many, s, n, e.put, a1, ?_, a3, a4, a5, by omega⟩, fr.trans Fro1.set⟩
    · obtain ⟨hl', e⟩ := List.getElem?_eq_some_iff.mp e
      simp [-B_l_pull_0, F_l_pull, B_l_pull, q, B_l_pull_1, B_l_pull_1t_0, B_l_pull_1t_1, e0, e, h0, dk, hne, ixN, hl]
    · rw [Int.fdiv_eq_ediv_of_nonneg _ (by omega)]
      exact Int.ediv_nonneg a2 (by omega)
  · have hb : ∀ y : Int, 0 ≤ y.fmod 2147483629 ∧ y.fmod 2147483629 < 2147483629 := fun y => ⟨Int.fmod_nonneg_of_pos _ (by decide), Int.fmod_lt_of_pos _ (by decide)⟩
    have s1 : Sm 32 s := by unfold Sm; omega
    have s2 : Sm 101 n := by unfold Sm; omega
    have s3 : Sm 101 (n + 1) := by unfold Sm; omega
    have r1 : 0 ≤ s.fmod 8191 ∧ s.fmod 8191 < 8191 := ⟨Int.fmod_nonneg_of_pos _ (by decide), Int.fmod_lt_of_pos _ (by decide)⟩
    have s4 : Sm 20 (s.fmod 8191 + 5) := by unfold Sm; omega
    have m1 := s1.ok s1 (by decide) (by decide)
    have m2 : mulOk 48271 (n + 1) = true := Sm.ok (n := 20) (by unfold Sm; decide) s3 (by decide) (by decide)
    have m3 : mulOk (48271 * (n + 1)) (s.fmod 8191 + 5) = true := Sm.ok (n := 121) (Sm.mul (n := 20) (by unfold Sm; decide) s3) s4 (by decide) (by decide)
    have m4 : mulOk (n + 1) (n + 1) = true := s3.ok s3 (by decide) (by decide)
    have m5 : mulOk ((n + 1) * (n + 1)) (n + 1) = true := (s3.mul s3).ok s3 (by decide) (by decide)
    let z := s * s + 48271 * (n + 1) * (s.fmod 8191 + 5) + (n + 1) * (n + 1) * (n + 1) + 12345
    have hz := hb z
    have r2 : 0 ≤ (z.fmod 2147483629).fmod 7919 ∧ (z.fmod 2147483629).fmod 7919 < 7919 := ⟨Int.fmod_nonneg_of_pos _ (by decide), Int.fmod_lt_of_pos _ (by decide)⟩
    have m6 : mulOk ((z.fmod 2147483629).fmod 7919) 37 = true := Sm.ok (n := 20) (m := 10) (by unfold Sm; omega) (by unfold Sm; decide) (by decide) (by decide)
    refine ⟨((z.fmod 2147483629).fdiv 71 + (z.fmod 2147483629).fmod 7919 * 37).fmod many, st1.set c (.c .z, BgD xs i h (z.fmod 2147483629) (n + 1)), ?_, Int.fmod_nonneg_of_pos _ hm, Int.fmod_lt_of_pos _ hm, ⟨xs, i, h, z.fmod 2147483629, n + 1, e.put, a1, a2, hz.1, by omega, by omega, by omega⟩, fr.trans Fro1.set⟩
    obtain ⟨hl', e⟩ := List.getElem?_eq_some_iff.mp e
    have d71 : divOk 71 = true := by decide
    simp [-B_l_pull_0, F_l_pull, B_l_pull, q, B_l_pull_1, B_l_pull_2, B_l_pull_3, B_l_pull_4, B_l_pull_5, e0, e, h0, hne, ixN, hl, m1, m2, m3, m4, m5, m6, d71, z]
end

theorem cut63 (ds : List D) : cutD ds none (some 63) = ds.take 63 := by
  unfold cutD HT.sIx
  simp
theorem bag_loop {d0 : D} {st : Store} : ∀ (ys : List Int) (s : Int) (v : Option (Fr × D)), 0 ≤ s → s < 2147483647 → ∃ s' v', forGo (.nm 2) B_l_bag_1b [] (ys.map D.int) [some (.z, d0), some (.z, .int s), v] st = .nx [some (.z, d0), some (.z, .int s'), v'] st ∧ 0 ≤ s' ∧ s' < 2147483647
  | [], s, v, h0, h1 => ⟨s, v, rfl, h0, h1⟩
  | y :: ys, s, v, h0, h1 => by
    have hm : ∀ z : Int, 0 ≤ z.fmod 2147483647 ∧ z.fmod 2147483647 < 2147483647 := fun z => ⟨Int.fmod_nonneg_of_pos _ (by decide), Int.fmod_lt_of_pos _ (by decide)⟩
    have m1 : mulOk s 48271 = true := Sm.ok (n := 40) (m := 20) (by unfold Sm; omega) (by unfold Sm; decide) (by decide) (by decide)
    obtain ⟨s', v', e, a, b⟩ := bag_loop (d0 := d0) (st := st) ys ((s * 48271 + y.fmod 2147483629 + 7).fmod 2147483647) (some (.z, .int y)) (hm _).1 (hm _).2
    refine ⟨s', v', ?_, a, b⟩
    have hb : B_l_bag_1b [some (.z, d0), some (.z, .int s), some (.z, .int y)] st = .nx [some (.z, d0), some (.z, .int ((s * 48271 + y.fmod 2147483629 + 7).fmod 2147483647)), some (.z, .int y)] st := by
      simp [B_l_bag_1b, B_l_bag_1b_0, m1]
    simp [forGo, hb, e, killE]
theorem f_l_bag (ns : List Int) (hl : ns.length ≤ 63) {st : Store} : ∃ s, F_l_bag [(.z, .con .frl (ns.map D.int))] st = .ok (.c .z) false (BgD ns 0 0 s 0) st ∧ 0 ≤ s ∧ s < 2147483647 := by
  have ht : (ns.map D.int).take 63 = ns.map D.int := List.take_of_length_le (by simpa using hl)
  obtain ⟨s', v', e, a, b⟩ := bag_loop (d0 := .con .frl (ns.map D.int)) (st := st) ns (31 + ns.length) none (by omega) (by omega)
  refine ⟨s', ?_, a, b⟩
  simp [F_l_bag, B_l_bag, B_l_bag_0, B_l_bag_1, B_l_bag_2, cut63, ht, dFor, e]
/-! ### the same -/
def Plain : Nat → D → Prop
  | 0, _ => False
  | _ + 1, .non => True
  | _ + 1, .bl _ => True
  | _ + 1, .int _ => True
  | _ + 1, .str s => PyData.strOk s = true
  | m + 1, .con .tup ds => ds.length ≤ 1000 ∧ ∀ d ∈ ds, Plain m d
  | m + 1, .con .lst ds => ds.length ≤ 1000 ∧ ∀ d ∈ ds, Plain m d
  | _, _ => False
theorem same_loop {rec : Fn} {k1 k2 : Kd} {ds : List D} {st : Store} (h1 : k1.seq = true) (h2 : k2.seq = true) (hr : ∀ d ∈ ds, rec [(.z, d), (.z, d)] st = .ok .z false (.bl true) st) : ∀ (is : List Nat) (acc : List D), (∀ i ∈ is, i < ds.length) →
    lcGo (.nm 2) dYes (dCall rec [] (dCons (dOp oIx (dCons (dVar 0) (dLast (dVar 2)))) (dLast (dOp oIx (dCons (dVar 1) (dLast (dVar 2))))))) (is.map fun (i : Nat) => D.int (0 + (i : Int))) [some (.z, .con k1 ds), some (.z, .con k2 ds), none] st acc = .ok (.c .z) false (.con .lst (acc ++ is.map fun _ => .bl true)) st
  | [], acc, _ => by simp [lcGo]
  | i :: is, acc, hi => by
    have hlt : i < ds.length := hi i (by simp)
    have ha : atI ds (i : Int) = some ds[i] := atI_nat (List.getElem?_eq_getElem hlt)
    have := same_loop h1 h2 hr is (acc ++ [.bl true]) fun j hj => hi j (by simp [hj])
    rw [List.map_cons, lcGo]
    have hrr := hr ds[i] (List.getElem_mem hlt)
    simp [dYes, ha, hrr, h1, h2] at this ⊢
    exact this
theorem bools_true (l : List Nat) : bools (l.map fun _ => D.bl true) = some (l.map fun _ => true) := by
  induction l with
  | nil => rfl
  | cons a l ih => show (bools (l.map fun _ => D.bl true)).map (true :: ·) = _; rw [ih]; rfl
theorem lsame_refl : ∀ (m : Nat) (d : D) (st : Store), Plain m d → F_l_same m [(.z, d), (.z, d)] st = .ok .z false (.bl true) st
  | 0, d, st, h => by cases d <;> exact h.elim
  | m + 1, d, st, h => by
    cases d with
    | non => simp [F_l_same, B_l_same, B_l_same_0, B_l_same_0t_0]
    | bl b => simp [F_l_same, B_l_same, B_l_same_0, B_l_same_1, B_l_same_1t_0]
    | int i => simp [F_l_same, B_l_same, B_l_same_0, B_l_same_1, B_l_same_2, B_l_same_2t_0]
    | str s =>
      have e := eqD_str (show PyData.strOk s = true from h) (show PyData.strOk s = true from h)
      simp [F_l_same, B_l_same, B_l_same_0, B_l_same_1, B_l_same_2, B_l_same_2t_0, e]
    | fnv s => exact h.elim
    | ref s => exact h.elim
    | con k ds =>
      have hl : ds.length ≤ 1000 ∧ ∀ d ∈ ds, Plain m d := by cases k <;> first | exact h | exact h.elim
      have hk : k = .tup ∨ k = .lst := by cases k <;> first | exact .inl rfl | exact .inr rfl | exact h.elim
      have L := same_loop (rec := F_l_same m) (k1 := k) (k2 := k) (ds := ds) (st := st) (by rcases hk with rfl | rfl <;> rfl) (by rcases hk with rfl | rfl <;> rfl) (fun d hd => lsame_refl m d st (hl.2 d hd)) (List.range ds.length) [] fun i hi => List.mem_range.mp hi
      have s62 : small62 (ds.length : Int) = true := by simp [small62]; omega
      have rg : rngItems 0 (ds.length : Int) = (List.range ds.length).map fun (i : Nat) => D.int (0 + (i : Int)) := by simp [rngItems]
      have hb := bools_true (List.range ds.length)
      have hlen : (ds.length ≤ 16777215) := by omega
      rcases hk with rfl | rfl
      · simp at L hlen
        simp [F_l_same, B_l_same, B_l_same_0, B_l_same_1, B_l_same_2, B_l_same_3, B_l_same_4, dLc, s62, rg, nonesAt, hlen, L, hb]
      · simp at L hlen
        simp [F_l_same, B_l_same, B_l_same_0, B_l_same_1, B_l_same_2, B_l_same_3, B_l_same_4, dLc, s62, rg, nonesAt, hlen, L, hb]
/-- the same by a look -/
def plainB : Nat → D → Bool
  | 0, _ => false
  | _ + 1, .non => true
  | _ + 1, .bl _ => true
  | _ + 1, .int _ => true
  | _ + 1, .str s => PyData.strOk s
  | m + 1, .con .tup ds => decide (ds.length ≤ 1000) && ds.all (plainB m)
  | m + 1, .con .lst ds => decide (ds.length ≤ 1000) && ds.all (plainB m)
  | _, _ => false
theorem plain_of : ∀ (m : Nat) (d : D), plainB m d = true → Plain m d
  | 0, d, h => by cases d <;> cases h
  | m + 1, .non, h => trivial
  | m + 1, .bl _, h => trivial
  | m + 1, .int _, h => trivial
  | m + 1, .str _, h => h
  | m + 1, .fnv _, h => by cases h
  | m + 1, .ref _, h => by cases h
  | m + 1, .con k ds, h => by
    have key : (decide (ds.length ≤ 1000) && ds.all (plainB m)) = true → ds.length ≤ 1000 ∧ ∀ d ∈ ds, Plain m d := fun h => by
      rw [Bool.and_eq_true, decide_eq_true_eq, List.all_eq_true] at h
      exact ⟨h.1, fun d hd => plain_of m d (h.2 d hd)⟩
    cases k with
    | tup => exact key h
    | lst => exact key h
    | _ => cases h
theorem same8 {d : D} {st : Store} (h : plainB 8 d = true) : F_l_same 8 [(.z, d), (.z, d)] st = .ok .z false (.bl true) st := lsame_refl 8 d st (plain_of 8 d h)
end Hx

set_option Elab.async false
set_option linter.all false
set_option maxRecDepth 100000
set_option autoImplicit false
/-! P2: fractions and pieces. -/
namespace Hx
open PySem PySem.Spec L2
section
variable {st : Store}
theorem gcd_fmod (a b : Int) : Int.gcd b (a.fmod b) = Int.gcd a b := by
  rw [Int.fmod_def, Int.gcd_comm a b]
  simp
theorem gcd_loop : ∀ (n : Nat) (a b : Int), b.natAbs < n → ∃ g : Int, whileGo (dB (dOp oNe (dCons (dVar 1) (dLast (dC (.int 0)))))) B_common_divisor_0b [] n [some (.z, .int a), some (.z, .int b)] st = .nx [some (.z, .int g), some (.z, .int 0)] st ∧ g.natAbs = Int.gcd a b
  | 0, a, b, h => absurd h (Nat.not_lt_zero _)
  | n + 1, a, b, h => by
    by_cases hb : b = 0
    · subst hb
      exact ⟨a, by simp [whileGo], by simp⟩
    · have h2 := fmod_abs (a := a) hb
      obtain ⟨g, e, eg⟩ := gcd_loop n b (a.fmod b) (by omega)
      refine ⟨g, ?_, by rw [eg, gcd_fmod]⟩
      have eb : B_common_divisor_0b [some (.z, .int a), some (.z, .int b)] st = .nx [some (.z, .int b), some (.z, .int (a.fmod b))] st := by
        simp [B_common_divisor_0b, B_common_divisor_0b_0, hb]
      simp [whileGo, hb, eb, killE]
      simpa using e
theorem f_common_divisor (a b : Int) : F_common_divisor [(.z, .int a), (.z, .int b)] st = .ok .z false (.int (Int.gcd a b)) st := by
  obtain ⟨g, e, eg⟩ := gcd_loop (st := st) (b.natAbs + 1) a b (Nat.lt_succ_self _)
  have ea : (if g < 0 then -g else g) = (Int.gcd a b : Int) := by
    rw [← eg]
    split <;> omega
  simp only [oNe] at e
  simp [F_common_divisor, B_common_divisor, B_common_divisor_0, dWhile, e, ea]
/-- a rational as a pair -/
def DR (q : Rat) : D := .con .tup [.int q.num, .int (q.den : Int)]
class BdR (n : outParam Nat) (q : Rat) : Prop where
  num : q.num.natAbs < 2 ^ n
  den : q.den < 2 ^ n
class LeR (n : Nat) (q : Rat) : Prop where
  num : q.num.natAbs < 2 ^ n
  den : q.den < 2 ^ n
set_option synthInstance.checkSynthOrder false in
instance (priority := low) bdrLe {n : Nat} {i : Rat} [h : LeR n i] : BdR n i := ⟨h.num, h.den⟩
instance (priority := low) lerBd {n m : Nat} {i : Rat} [h : BdR m i] [k : LeN m n] : LeR n i := ⟨Nat.lt_of_lt_of_le h.num (Nat.pow_le_pow_right (by decide) k.h), Nat.lt_of_lt_of_le h.den (Nat.pow_le_pow_right (by decide) k.h)⟩
instance bdNum {n : Nat} {q : Rat} [h : BdR n q] : Bd n q.num := ⟨h.num⟩
instance bdDen {n : Nat} {q : Rat} [h : BdR n q] : Bd n (q.den : Int) := ⟨by have := h.den; omega⟩
instance nzDen {q : Rat} : Nz (q.den : Int) := ⟨by have := q.den_nz; omega⟩
instance bdr0 : BdR 1 0 := ⟨by decide, by decide⟩
instance bdr1 : BdR 1 1 := ⟨by decide, by decide⟩
instance (priority := 1020) bdrIteL {n m : Nat} {i j : Rat} {c : Prop} [Decidable c] [h : BdR n i] [k : BdR m j] [l : LeN n m] : BdR m (if c then i else j) := by
  split
  · exact ⟨Nat.lt_of_lt_of_le h.num (Nat.pow_le_pow_right (by decide) l.h), Nat.lt_of_lt_of_le h.den (Nat.pow_le_pow_right (by decide) l.h)⟩
  · exact k
instance (priority := 1010) bdrIteR {n m : Nat} {i j : Rat} {c : Prop} [Decidable c] [h : BdR n i] [k : BdR m j] [l : LeN m n] : BdR n (if c then i else j) := by
  split
  · exact h
  · exact ⟨Nat.lt_of_lt_of_le k.num (Nat.pow_le_pow_right (by decide) l.h), Nat.lt_of_lt_of_le k.den (Nat.pow_le_pow_right (by decide) l.h)⟩
instance bdrIte {n m : Nat} {i j : Rat} {c : Prop} [Decidable c] [h : BdR n i] [k : BdR m j] : BdR (n + m) (if c then i else j) := by
  split
  · exact ⟨Nat.lt_of_lt_of_le h.num (Nat.pow_le_pow_right (by decide) (by omega)), Nat.lt_of_lt_of_le h.den (Nat.pow_le_pow_right (by decide) (by omega))⟩
  · exact ⟨Nat.lt_of_lt_of_le k.num (Nat.pow_le_pow_right (by decide) (by omega)), Nat.lt_of_lt_of_le k.den (Nat.pow_le_pow_right (by decide) (by omega))⟩
/-- the parts of a quotient -/
theorem rat_div {a b n d : Int} (hd : 0 < d) (hc : Int.gcd n d = 1) (hb : b ≠ 0) (e : n * b = a * d) : ((a : Rat) / (b : Rat)).num = n ∧ (((a : Rat) / (b : Rat)).den : Int) = d := by
  have hdn : d.toNat ≠ 0 := by omega
  have cop : n.natAbs.Coprime d.toNat := by
    have : Nat.gcd n.natAbs d.natAbs = 1 := hc
    rw [show d.toNat = d.natAbs by omega]
    exact this
  have key : (a : Rat) / (b : Rat) = ⟨n, d.toNat, hdn, cop⟩ := by
    have h1 : (⟨n, d.toNat, hdn, cop⟩ : Rat) = Rat.divInt n d := by
      have := Rat.num_divInt_den ⟨n, d.toNat, hdn, cop⟩
      rw [← this]
      show Rat.divInt n ((d.toNat : Nat) : Int) = _
      rw [show ((d.toNat : Nat) : Int) = d by omega]
    rw [h1, ← Rat.divInt_eq_div, Rat.divInt_eq_divInt_iff hb (by omega)]
    exact e.symm
  rw [key]
  exact ⟨rfl, by show ((d.toNat : Nat) : Int) = d; omega⟩
theorem fr_parts {a b : Int} (hb : b ≠ 0) : ∃ n d : Int, 0 < d ∧ Int.gcd n d = 1 ∧ n * b = a * d ∧ n.natAbs ≤ a.natAbs ∧ d.natAbs ≤ b.natAbs ∧
    (b < 0 → a.fdiv (-(Int.gcd a b : Int)) = n ∧ b.fdiv (-(Int.gcd a b : Int)) = d) ∧ (0 < b → a.fdiv (Int.gcd a b : Int) = n ∧ b.fdiv (Int.gcd a b : Int) = d) := by
  have hg : 0 < Int.gcd a b := Int.gcd_pos_of_ne_zero_right a hb
  have d1 : (Int.gcd a b : Int) ∣ a := Int.gcd_dvd_left ..
  have d2 : (Int.gcd a b : Int) ∣ b := Int.gcd_dvd_right ..
  obtain ⟨p, hp⟩ := d1
  obtain ⟨q, hq⟩ := d2
  have hcop : Int.gcd p q = 1 := by
    have h := Int.gcd_mul_left (Int.gcd a b : Int) p q
    rw [← hp, ← hq] at h
    have e : (Int.gcd a b : Int).natAbs = Int.gcd a b := by omega
    rw [e] at h
    have : Int.gcd a b * 1 = Int.gcd a b * Int.gcd p q := by omega
    exact (Nat.eq_of_mul_eq_mul_left hg this).symm
  generalize hG : (Int.gcd a b : Int) = G at *
  have hG0 : 0 < G := by omega
  have pn : p.natAbs ≤ a.natAbs := by
    rw [hp, Int.natAbs_mul]
    exact Nat.le_mul_of_pos_left _ (by omega)
  have qn : q.natAbs ≤ b.natAbs := by
    rw [hq, Int.natAbs_mul]
    exact Nat.le_mul_of_pos_left _ (by omega)
  have f1 : a.fdiv G = p := by rw [hp]; exact Int.mul_fdiv_cancel_left _ (by omega)
  have f2 : b.fdiv G = q := by rw [hq]; exact Int.mul_fdiv_cancel_left _ (by omega)
  have f3 : a.fdiv (-G) = -p := by rw [hp, show G * p = -G * -p by grind]; exact Int.mul_fdiv_cancel_left _ (by omega)
  have f4 : b.fdiv (-G) = -q := by rw [hq, show G * q = -G * -q by grind]; exact Int.mul_fdiv_cancel_left _ (by omega)
  have q0 : q ≠ 0 := fun z => hb (by rw [hq, z]; simp)
  by_cases h0 : b < 0
  · have : q < 0 := by
      rw [hq] at h0
      exact Int.lt_of_not_ge fun z => by have := Int.mul_nonneg (show 0 ≤ G by omega) z; omega
    refine ⟨-p, -q, by omega, ?_, ?_, by omega, by omega, fun _ => ⟨f3, f4⟩, fun z => by omega⟩
    · rw [Int.neg_gcd, Int.gcd_neg]; exact hcop
    · rw [hp, hq]; grind
  · have : 0 ≤ q := by
      rw [hq] at h0
      exact Int.le_of_not_gt fun z => h0 (Int.mul_neg_of_pos_of_neg hG0 z)
    refine ⟨p, q, by omega, hcop, ?_, pn, qn, fun z => by omega, fun _ => ⟨f1, f2⟩⟩
    rw [hp, hq]; grind
theorem f_fraction {a b : Int} [Nz b] [Le 8000 b] : F_fraction [(.z, .int a), (.z, .int b)] st = .ok .z false (DR ((a : Rat) / (b : Rat))) st := by
  have hb : b ≠ 0 := Nz.h
  obtain ⟨n, d, hd, hc, e, _, _, k1, k2⟩ := fr_parts (a := a) hb
  obtain ⟨r1, r2⟩ := rat_div hd hc hb e
  have eg := f_common_divisor (st := st) a b
  have hg : 0 < Int.gcd a b := Int.gcd_pos_of_ne_zero_right a hb
  have le : Int.gcd a b ≤ b.natAbs := Nat.le_of_dvd (by omega) (Int.natAbs_dvd_natAbs.mpr (Int.gcd_dvd_right ..) |> fun x => by simpa using x)
  have b8 : Le 8000 b := inferInstance
  have g8 : Le 8000 (Int.gcd a b : Int) := ⟨by have := b8.lt; omega⟩
  have gz : Nz (Int.gcd a b : Int) := ⟨by omega⟩
  have gz' : Nz (-(Int.gcd a b : Int)) := ⟨by omega⟩
  have hDR : DR ((a : Rat) / (b : Rat)) = .con .tup [.int n, .int d] := by unfold DR; rw [r1, r2]
  rw [hDR]
  by_cases h0 : b < 0
  · obtain ⟨f3, f4⟩ := k1 h0
    simp [F_fraction, B_fraction, B_fraction_0, B_fraction_1, B_fraction_2, B_fraction_3, hb, eg, h0, f3, f4]
  · obtain ⟨f3, f4⟩ := k2 (by omega)
    simp [F_fraction, B_fraction, B_fraction_0, B_fraction_1, B_fraction_2, B_fraction_3, hb, eg, h0, f3, f4]
instance (priority := 1020) bdrDivL {n m : Nat} {a b : Int} [h : Bd n a] [k : Bd m b] [l : LeN n m] [l1 : LeN 1 m] : BdR m ((a : Rat) / (b : Rat)) := by
  have w1 : (2 : Nat) ^ n ≤ 2 ^ m := Nat.pow_le_pow_right (by decide) l.h
  by_cases hb : b = 0
  · subst hb
    have e : (a : Rat) / ((0 : Int) : Rat) = 0 := by grind
    rw [e]
    have := l1.h
    refine ⟨?_, ?_⟩
    · show (0 : Int).natAbs < _
      exact Nat.pos_of_ne_zero (by simp)
    · show 1 < _
      exact Nat.lt_of_lt_of_le (show 1 < 2 ^ 1 by decide) (Nat.pow_le_pow_right (by decide) (by omega))
  · obtain ⟨n', d, hd, hc, e, l1, l2, _, _⟩ := fr_parts (a := a) hb
    obtain ⟨r1, r2⟩ := rat_div hd hc hb e
    have h1 := h.lt
    have h2 := k.lt
    exact ⟨by rw [r1]; omega, by omega⟩
instance (priority := 1010) bdrDivR {n m : Nat} {a b : Int} [h : Bd n a] [k : Bd m b] [l : LeN m n] [l1 : LeN 1 n] : BdR n ((a : Rat) / (b : Rat)) :=
  let h' : Bd n b := ⟨Nat.lt_of_lt_of_le k.lt (Nat.pow_le_pow_right (by decide) l.h)⟩
  @bdrDivL n n a b h h' leNr l1
instance bdrDiv {n m : Nat} {a b : Int} [h : Bd n a] [k : Bd m b] : BdR (n + m + 1) ((a : Rat) / (b : Rat)) :=
  let h1 : Bd (n + m + 1) a := ⟨Nat.lt_of_lt_of_le h.lt (Nat.pow_le_pow_right (by decide) (by omega))⟩
  let h2 : Bd (n + m + 1) b := ⟨Nat.lt_of_lt_of_le k.lt (Nat.pow_le_pow_right (by decide) (by omega))⟩
  @bdrDivL _ _ a b h1 h2 leNr ⟨by omega⟩
def ordR (p q : Rat) : Int := if q < p then 1 else if p < q then -1 else 0
theorem ordR_pos {p q : Rat} : 0 < ordR p q ↔ q < p := by
  unfold ordR
  split
  · simp; assumption
  · split <;> simp <;> grind
theorem ordR_neg {p q : Rat} : ordR p q < 0 ↔ p < q := by
  unfold ordR
  split
  · simp; grind
  · split <;> simp <;> grind
def sg (r : Int) : Int := (if 0 < r then 1 else 0) - (if r < 0 then 1 else 0)
theorem sg_ord {p q : Rat} : sg (p.num * q.den - q.num * p.den) = ordR p q := by
  have h1 := Rat.lt_iff q p
  have h2 := Rat.lt_iff p q
  unfold sg ordR
  by_cases c1 : q < p
  · have := h1.mp c1
    rw [if_pos c1, if_pos (by omega), if_neg (by omega)]; rfl
  · rw [if_neg c1]
    have t1 : ¬ q.num * p.den < p.num * q.den := fun z => c1 (h1.mpr z)
    by_cases c2 : p < q
    · have := h2.mp c2
      rw [if_pos c2, if_neg (by omega), if_pos (by omega)]; rfl
    · have t2 : ¬ p.num * q.den < q.num * p.den := fun z => c2 (h2.mpr z)
      rw [if_neg c2, if_neg (by omega), if_neg (by omega)]; rfl
theorem f_order {p q : Rat} [LeR 100000 p] [LeR 100000 q] : F_order [(.z, DR p), (.z, DR q)] st = .ok .z false (.int (ordR p q)) st := by
  have e := sg_ord (p := p) (q := q)
  rw [← e]
  simp [F_order, B_order, B_order_0, B_order_1, sg, DR]
def DO : Option (Rat × Rat) → D
  | none => .non
  | some (l, h) => .con .tup [DR l, DR h]
theorem dr0 : (P2 0 1) = DR 0 := rfl
theorem dr1 : (P2 1 1) = DR 1 := rfl
theorem f_cut_down {l h lo hi : Rat} [LeR 40000 l] [LeR 40000 h] [LeR 40000 lo] [LeR 40000 hi] : F_cut_down [(.z, .con .tup [DR l, DR h]), (.z, DR lo), (.z, DR hi)] st = .ok .z false (DO (Geo.cutDown (some (l, h)) lo hi)) st := by
  have e1 := f_order (st := st) (p := lo) (q := l)
  have e2 := f_order (st := st) (p := hi) (q := h)
  have e3 := f_order (st := st) (p := if l < lo then lo else l) (q := if hi < h then hi else h)
  have q1 := ordR_pos (p := lo) (q := l)
  have q2 := ordR_neg (p := hi) (q := h)
  have q3 := ordR_pos (p := if l < lo then lo else l) (q := if hi < h then hi else h)
  have E : DO (Geo.cutDown (some (l, h)) lo hi) = if (if hi < h then hi else h) < (if l < lo then lo else l) then .non else .con .tup [DR (if l < lo then lo else l), DR (if hi < h then hi else h)] := by
    show DO (if (if hi < h then hi else h) < (if l < lo then lo else l) then none else some ((if l < lo then lo else l), (if hi < h then hi else h))) = _
    by_cases c : (if hi < h then hi else h) < (if l < lo then lo else l)
    · rw [if_pos c, if_pos c]; rfl
    · rw [if_neg c, if_neg c]; rfl
  rw [E]
  by_cases c1 : l < lo <;> by_cases c2 : hi < h
  · rw [if_pos c1, if_pos c2] at *
    by_cases c3 : hi < lo <;> simp [F_cut_down, B_cut_down, B_cut_down_0, B_cut_down_1, B_cut_down_2, B_cut_down_3, e1, e2, e3, q1, q2, q3, c1, c2, c3]
  · rw [if_pos c1, if_neg c2] at *
    by_cases c3 : h < lo <;> simp [F_cut_down, B_cut_down, B_cut_down_0, B_cut_down_1, B_cut_down_2, B_cut_down_3, e1, e2, e3, q1, q2, q3, c1, c2, c3]
  · rw [if_neg c1, if_pos c2] at *
    by_cases c3 : hi < l <;> simp [F_cut_down, B_cut_down, B_cut_down_0, B_cut_down_1, B_cut_down_2, B_cut_down_3, e1, e2, e3, q1, q2, q3, c1, c2, c3]
  · rw [if_neg c1, if_neg c2] at *
    by_cases c3 : h < l <;> simp [F_cut_down, B_cut_down, B_cut_down_0, B_cut_down_1, B_cut_down_2, B_cut_down_3, e1, e2, e3, q1, q2, q3, c1, c2, c3]
theorem f_cut_downO {o : Option (Rat × Rat)} {lo hi : Rat} (k : ∀ l h, o = some (l, h) → LeR 40000 l ∧ LeR 40000 h) [LeR 40000 lo] [LeR 40000 hi] : F_cut_down [(.z, DO o), (.z, DR lo), (.z, DR hi)] st = .ok .z false (DO (Geo.cutDown o lo hi)) st := by
  cases o with
  | none => simp [F_cut_down, B_cut_down, B_cut_down_0, DO, Geo.cutDown]
  | some lh =>
    obtain ⟨l, h⟩ := lh
    obtain ⟨k1, k2⟩ := k l h rfl
    exact f_cut_down
end
end Hx

set_option Elab.async false
set_option linter.all false
set_option maxRecDepth 100000
set_option autoImplicit false
/-! P3: pieces. -/
namespace Hx
open PySem PySem.Spec L2
/-- the cross product of ints -/
def crs (ax ay bx bY cx cy : Int) : Int := (bx - ax) * (cy - ay) - (bY - ay) * (cx - ax)
def wthn (l n h : Int) : Bool := decide ((if h < l then h else l) ≤ n) && decide (n ≤ (if h > l then h else l))
def onP (ax ay bx bY cx cy : Int) : Bool := decide (crs ax ay bx bY cx cy = 0) && (wthn ax cx bx && wthn ay cy bY)
def cutB (ax ay bx bY cx cy dx dy : Int) : Bool :=
  (decide (crs ax ay bx bY cx cy * crs ax ay bx bY dx dy < 0) && decide (crs cx cy dx dy ax ay * crs cx cy dx dy bx bY < 0)) ||
    ((onP ax ay bx bY cx cy || onP ax ay bx bY dx dy) || (onP cx cy dx dy ax ay || onP cx cy dx dy bx bY))
section
variable {ax ay bx bY cx cy dx dy x y : Int}
theorem crs_cast : ((crs ax ay bx bY cx cy : Int) : Rat) = Geo.cr ax ay bx bY cx cy := by
  unfold crs Geo.cr
  grind
theorem crs_zero : crs ax ay bx bY cx cy = 0 ↔ Geo.cr (ax : Rat) ay bx bY cx cy = 0 := by
  rw [← crs_cast, ← Rat.intCast_zero, Rat.intCast_inj]
theorem icast_lt {a b : Int} : (a : Rat) < (b : Rat) ↔ a < b := Rat.intCast_lt_intCast
theorem icast_le {a b : Int} : (a : Rat) ≤ (b : Rat) ↔ a ≤ b := by
  rw [← Rat.not_lt, icast_lt]; omega
theorem icast_eq {a b : Int} : (a : Rat) = (b : Rat) ↔ a = b := Rat.intCast_inj
theorem wthn_iff {l n h : Int} : wthn l n h = true ↔ Geo.Bt (l : Rat) n h := by
  unfold wthn Geo.Bt
  rw [Bool.and_eq_true, decide_eq_true_eq, decide_eq_true_eq, icast_le, icast_le, icast_le, icast_le]
  constructor
  · rintro ⟨h1, h2⟩
    split at h1 <;> split at h2 <;> omega
  · intro z
    constructor <;> split <;> omega
theorem onP_iff : onP cx cy dx dy x y = true ↔ Geo.On (cx : Rat) cy dx dy x y := by
  unfold onP
  rw [Geo.on_iff, Bool.and_eq_true, Bool.and_eq_true, decide_eq_true_eq, crs_zero, wthn_iff, wthn_iff]
theorem cutB_iff : cutB ax ay bx bY cx cy dx dy = true ↔ Geo.Meets (ax : Rat) ay bx bY cx cy dx dy := by
  rw [← Geo.cut_iff]
  unfold cutB Geo.Cut
  simp only [Bool.or_eq_true, Bool.and_eq_true, decide_eq_true_eq, onP_iff, ← crs_cast, ← Rat.intCast_mul]
  rw [← Rat.intCast_zero, icast_lt, icast_lt]
  constructor
  · rintro (h | (h | h) | h | h)
    · exact .inl h
    · exact .inr (.inl h)
    · exact .inr (.inr (.inl h))
    · exact .inr (.inr (.inr (.inl h)))
    · exact .inr (.inr (.inr (.inr h)))
  · rintro (h | h | h | h | h)
    · exact .inl h
    · exact .inr (.inl (.inl h))
    · exact .inr (.inl (.inr h))
    · exact .inr (.inr (.inl h))
    · exact .inr (.inr (.inr h))
/-- shares of ab on cd -/
def pshO (cx cy dx dy ax ay bx bY : Int) : Option (Rat × Rat) :=
  if ax = bx ∧ ay = bY then (if onP cx cy dx dy ax ay = true then some (0, 0) else none) else Geo.psh cx cy dx dy ax ay bx bY
theorem pshO_some : (pshO cx cy dx dy ax ay bx bY).isSome = cutB ax ay bx bY cx cy dx dy := by
  rw [Bool.eq_iff_iff, cutB_iff]
  unfold pshO
  by_cases h : ax = bx ∧ ay = bY
  · rw [if_pos h]
    obtain ⟨rfl, rfl⟩ := h
    have e : Geo.Meets (ax : Rat) ay ax ay cx cy dx dy ↔ onP cx cy dx dy ax ay = true := by
      rw [onP_iff]
      constructor
      · rintro ⟨s, hs, o⟩
        have e1 : Geo.pt (ax : Rat) ax s = ax := by unfold Geo.pt; grind
        have e2 : Geo.pt (ay : Rat) ay s = ay := by unfold Geo.pt; grind
        rw [e1, e2] at o; exact o
      · intro o
        exact ⟨0, Geo.sh0, by rw [Geo.pt0, Geo.pt0]; exact o⟩
    rw [e]
    split <;> simp_all
  · rw [if_neg h]
    have hne : (ax : Rat) ≠ bx ∨ (ay : Rat) ≠ bY := by
      rw [ne_eq, ne_eq, icast_eq, icast_eq]
      by_cases q : ax = bx
      · exact .inr fun z => h ⟨q, z⟩
      · exact .inl q
    rw [(Geo.psh_span hne).some_iff]
    rfl
theorem cutB_comm : cutB cx cy dx dy ax ay bx bY = cutB ax ay bx bY cx cy dx dy := by rw [Bool.eq_iff_iff, cutB_iff, cutB_iff, Geo.meets_comm]
theorem cutB_turn : cutB bx bY ax ay cx cy dx dy = cutB ax ay bx bY cx cy dx dy := by rw [Bool.eq_iff_iff, cutB_iff, cutB_iff, Geo.meets_turn]
theorem cutB_turn2 : cutB ax ay bx bY dx dy cx cy = cutB ax ay bx bY cx cy dx dy := by rw [Bool.eq_iff_iff, cutB_iff, cutB_iff, Geo.meets_turn2]
/-! ### the readings -/
section
variable {st : Store}
instance bdCrs {n : Nat} [h : Bd n ((bx - ax) * (cy - ay) - (bY - ay) * (cx - ax))] : Bd n (crs ax ay bx bY cx cy) := h
theorem f_corner_room [Le 10000 ax] [Le 10000 ay] [Le 10000 bx] [Le 10000 bY] [Le 10000 cx] [Le 10000 cy] :
    F_corner_room [(.z, P2 ax ay), (.z, P2 bx bY), (.z, P2 cx cy)] st = .ok .z false (.int (crs ax ay bx bY cx cy)) st := by
  simp [F_corner_room, B_corner_room, B_corner_room_0, crs]
theorem f_l_cross [Le 10000 ax] [Le 10000 ay] [Le 10000 bx] [Le 10000 bY] [Le 10000 cx] [Le 10000 cy] :
    F_l_cross [(.z, P2 ax ay), (.z, P2 bx bY), (.z, P2 cx cy)] st = .ok .z false (.int (crs ax ay bx bY cx cy)) st := by
  simp [F_l_cross, B_l_cross, B_l_cross_0, crs]
theorem f_side [Le 10000 ax] [Le 10000 ay] [Le 10000 bx] [Le 10000 bY] [Le 10000 cx] [Le 10000 cy] :
    F_side [(.z, P2 ax ay), (.z, P2 bx bY), (.z, P2 cx cy)] st = .ok .z false (.int (sg (crs ax ay bx bY cx cy))) st := by
  simp [F_side, B_side, B_side_0, B_side_1, f_corner_room, sg]
theorem f_is_within {l n h : Int} : F_is_within [(.z, .int l), (.z, .int n), (.z, .int h)] st = .ok .z false (.bl (wthn l n h)) st := by
  by_cases hh : (if h < l then h else l) ≤ n
  · simp [F_is_within, B_is_within, B_is_within_0, hh, wthn]
  · simp [F_is_within, B_is_within, B_is_within_0, hh, wthn]
theorem sg0 {r : Int} : sg r = 0 ↔ r = 0 := by
  unfold sg
  constructor
  · intro h
    split at h <;> split at h <;> omega
  · intro h
    subst h
    rfl
theorem f_on_piece [Le 10000 ax] [Le 10000 ay] [Le 10000 bx] [Le 10000 bY] [Le 10000 cx] [Le 10000 cy] :
    F_on_piece [(.z, P2 cx cy), (.z, .con .tup [P2 ax ay, P2 bx bY])] st = .ok .z false (.bl (onP ax ay bx bY cx cy)) st := by
  have e := f_side (st := st) (ax := ax) (ay := ay) (bx := bx) (bY := bY) (cx := cx) (cy := cy)
  by_cases h0 : crs ax ay bx bY cx cy = 0
  · have hs := sg0.mpr h0
    cases hw : wthn ax cx bx <;> simp [F_on_piece, B_on_piece, B_on_piece_1, B_on_piece_2, zs, e, hs, f_is_within, h0, onP, hw, show sg 0 = 0 from rfl]
  · have hs : sg (crs ax ay bx bY cx cy) ≠ 0 := fun z => h0 (sg0.mp z)
    simp [F_on_piece, B_on_piece, B_on_piece_1, B_on_piece_2, zs, e, hs, h0, onP]
theorem f_l_touch [Le 10000 ax] [Le 10000 ay] [Le 10000 bx] [Le 10000 bY] [Le 10000 cx] [Le 10000 cy] :
    F_l_touch [(.z, P2 ax ay), (.z, P2 bx bY), (.z, P2 cx cy)] st = .ok .z false (.bl (onP ax ay bx bY cx cy)) st := by
  have e := f_l_cross (st := st) (ax := ax) (ay := ay) (bx := bx) (bY := bY) (cx := cx) (cy := cy)
  by_cases h0 : crs ax ay bx bY cx cy = 0
  · by_cases q1 : (if bx < ax then bx else ax) ≤ cx
    · by_cases q2 : cx ≤ (if bx > ax then bx else ax)
      · by_cases q3 : (if bY < ay then bY else ay) ≤ cy
        · simp [F_l_touch, B_l_touch, B_l_touch_0, B_l_touch_1, e, h0, onP, wthn, q1, q2, q3]
        · simp [F_l_touch, B_l_touch, B_l_touch_0, B_l_touch_1, e, h0, onP, wthn, q1, q2, q3]
      · simp [F_l_touch, B_l_touch, B_l_touch_0, B_l_touch_1, e, h0, onP, wthn, q1, q2]
    · simp [F_l_touch, B_l_touch, B_l_touch_0, B_l_touch_1, e, h0, onP, wthn, q1]
  · simp [F_l_touch, B_l_touch, B_l_touch_0, B_l_touch_1, e, h0, onP]
theorem f_l_cut [Le 10000 ax] [Le 10000 ay] [Le 10000 bx] [Le 10000 bY] [Le 10000 cx] [Le 10000 cy] [Le 10000 dx] [Le 10000 dy] :
    F_l_cut [(.z, P2 ax ay), (.z, P2 bx bY), (.z, P2 cx cy), (.z, P2 dx dy)] st = .ok .z false (.bl (cutB ax ay bx bY cx cy dx dy)) st := by
  have e1 := f_l_cross (st := st) (ax := ax) (ay := ay) (bx := bx) (bY := bY) (cx := cx) (cy := cy)
  have e2 := f_l_cross (st := st) (ax := ax) (ay := ay) (bx := bx) (bY := bY) (cx := dx) (cy := dy)
  have e3 := f_l_cross (st := st) (ax := cx) (ay := cy) (bx := dx) (bY := dy) (cx := ax) (cy := ay)
  have e4 := f_l_cross (st := st) (ax := cx) (ay := cy) (bx := dx) (bY := dy) (cx := bx) (cy := bY)
  have t1 := f_l_touch (st := st) (ax := ax) (ay := ay) (bx := bx) (bY := bY) (cx := cx) (cy := cy)
  have t2 := f_l_touch (st := st) (ax := ax) (ay := ay) (bx := bx) (bY := bY) (cx := dx) (cy := dy)
  have t3 := f_l_touch (st := st) (ax := cx) (ay := cy) (bx := dx) (bY := dy) (cx := ax) (cy := ay)
  have t4 := f_l_touch (st := st) (ax := cx) (ay := cy) (bx := dx) (bY := dy) (cx := bx) (cy := bY)
  have m1 : mulOk (crs ax ay bx bY cx cy) (crs ax ay bx bY dx dy) = true := by simp
  have m2 : mulOk (crs cx cy dx dy ax ay) (crs cx cy dx dy bx bY) = true := by simp
  unfold cutB
  generalize crs ax ay bx bY cx cy = p1 at *
  generalize crs ax ay bx bY dx dy = p2 at *
  generalize crs cx cy dx dy ax ay = p3 at *
  generalize crs cx cy dx dy bx bY = p4 at *
  cases o1 : onP ax ay bx bY cx cy <;> cases o2 : onP ax ay bx bY dx dy <;> cases o3 : onP cx cy dx dy ax ay <;> rw [o1] at t1 <;> rw [o2] at t2 <;> rw [o3] at t3 <;> by_cases q1 : p1 * p2 < 0 <;> by_cases q2 : p3 * p4 < 0 <;>
    simp [F_l_cut, B_l_cut, B_l_cut_0, B_l_cut_1, B_l_cut_2, B_l_cut_3, B_l_cut_4, e1, e2, e3, e4, t1, t2, t3, t4, m1, m2, q1, q2]
theorem eqD_p2 {a b c d : Int} : eqD (P2 a b) (P2 c d) = some (decide (a = c ∧ b = d)) := by
  simp [eqD, D.py, D.pys, SeqAt.shaped, PyData.canLay0, PyData.canLayAll0, PyData.depth, PyData.depthAll, PyData.eqv, PyData.eqvAll]
  rfl
/-- the share of a place -/
theorem f_share_on [Le 5000 ax] [Le 5000 ay] [Le 5000 bx] [Le 5000 bY] [Le 5000 cx] [Le 5000 cy] (hne : ax ≠ bx ∨ ay ≠ bY) :
    F_share_on [(.z, .con .tup [P2 ax ay, P2 bx bY]), (.z, P2 cx cy)] st = .ok .z false (DR (Geo.shOn (ax : Rat) ay bx bY cx cy)) st := by
  unfold Geo.shOn
  by_cases hx : ax = bx
  · have hy : ay ≠ bY := hne.resolve_left fun z => z hx
    have nz : Nz (bY - ay) := ⟨by omega⟩
    have e := f_fraction (st := st) (a := cy - ay) (b := bY - ay)
    rw [Rat.intCast_sub, Rat.intCast_sub] at e
    subst hx
    simp [F_share_on, B_share_on, B_share_on_1, B_share_on_2, zs, e]
  · have nz : Nz (bx - ax) := ⟨by omega⟩
    have e := f_fraction (st := st) (a := cx - ax) (b := bx - ax)
    rw [Rat.intCast_sub, Rat.intCast_sub] at e
    simp [F_share_on, B_share_on, B_share_on_1, B_share_on_2, zs, hx, e, icast_eq]
instance bdrShOn {n : Nat} [h : BdR n (if ax ≠ bx then ((cx - ax : Int) : Rat) / ((bx - ax : Int) : Rat) else ((cy - ay : Int) : Rat) / ((bY - ay : Int) : Rat))] : BdR n (Geo.shOn (ax : Rat) ay bx bY cx cy) := by
  have e : Geo.shOn (ax : Rat) ay bx bY cx cy = (if ax ≠ bx then ((cx - ax : Int) : Rat) / ((bx - ax : Int) : Rat) else ((cy - ay : Int) : Rat) / ((bY - ay : Int) : Rat)) := by
    unfold Geo.shOn
    by_cases h : ax = bx
    · subst h; simp only [ne_eq, not_true_eq_false, if_false, Rat.intCast_sub]
    · have : (ax : Rat) ≠ bx := fun z => h (icast_eq.mp z)
      simp only [ne_eq, h, this, not_false_eq_true, if_true, Rat.intCast_sub]
  rw [e]; exact h
end
end
end Hx

set_option Elab.async false
set_option linter.all false
set_option maxRecDepth 100000
set_option autoImplicit false
/-! P4: the shares of a piece on another. -/
namespace Hx
open PySem PySem.Spec L2
section
variable {ax ay bx bY cx cy dx dy x y : Int} {st : Store}
/-- bounds of both shares -/
def BdO (n : Nat) (o : Option (Rat × Rat)) : Prop := ∀ l h, o = some (l, h) → LeR n l ∧ LeR n h
theorem cutDown_parts {o : Option (Rat × Rat)} {lo hi l h : Rat} (e : Geo.cutDown o lo hi = some (l, h)) : ∃ l0 h0, o = some (l0, h0) ∧ (l = l0 ∨ l = lo) ∧ (h = h0 ∨ h = hi) := by
  cases o with
  | none => cases e
  | some lh =>
    obtain ⟨l0, h0⟩ := lh
    replace e : (if (if hi < h0 then hi else h0) < (if l0 < lo then lo else l0) then none else some ((if l0 < lo then lo else l0), (if hi < h0 then hi else h0))) = some (l, h) := e
    by_cases c : (if hi < h0 then hi else h0) < (if l0 < lo then lo else l0)
    · rw [if_pos c] at e; cases e
    · rw [if_neg c] at e
      injection e with e
      injection e with e1 e2
      refine ⟨l0, h0, rfl, ?_, ?_⟩
      · rw [← e1]; split <;> simp
      · rw [← e2]; split <;> simp
theorem BdO.cut {n : Nat} {o : Option (Rat × Rat)} {lo hi : Rat} (h : BdO n o) (h1 : LeR n lo) (h2 : LeR n hi) : BdO n (Geo.cutDown o lo hi) := fun l u e => by
  obtain ⟨l0, h0, e0, a, b⟩ := cutDown_parts e
  obtain ⟨k1, k2⟩ := h l0 h0 e0
  exact ⟨by rcases a with a | a <;> subst a <;> assumption, by rcases b with b | b <;> subst b <;> assumption⟩
theorem BdO.full {n : Nat} (h : 1 ≤ n) : BdO n Geo.full := fun l u e => by
  have w : (2 : Nat) ^ 1 ≤ 2 ^ n := Nat.pow_le_pow_right (by decide) h
  injection e with e
  injection e with e1 e2
  subst e1 e2
  exact ⟨⟨by show 0 < _; omega, by show 1 < _; omega⟩, ⟨by show 1 < _; omega, by show 1 < _; omega⟩⟩
theorem BdO.mono {n m : Nat} {o : Option (Rat × Rat)} (h : BdO n o) (k : n ≤ m) : BdO m o := fun l u e => by
  obtain ⟨a, b⟩ := h l u e
  have w : (2 : Nat) ^ n ≤ 2 ^ m := Nat.pow_le_pow_right (by decide) k
  exact ⟨⟨Nat.lt_of_lt_of_le a.num w, Nat.lt_of_lt_of_le a.den w⟩, ⟨Nat.lt_of_lt_of_le b.num w, Nat.lt_of_lt_of_le b.den w⟩⟩
/-- the share of a crossing, top and bottom -/
def crN (a c d u w : Int) : Int := c * w + (d - c) * u - a * w
theorem cross_eq {u v : Rat} {a b c d : Rat} (hw : u - v ≠ 0) : (Geo.pt c d (u / (u - v)) - a) / (b - a) = (c * (u - v) + (d - c) * u - a * (u - v)) / ((b - a) * (u - v)) := by
  unfold Geo.pt
  by_cases h : b - a = 0
  · rw [h]; grind
  · grind
/-- the crossing's share as a quotient of ints -/
def crS (ax ay bx bY cx cy dx dy : Int) : Rat :=
  let u := crs ax ay bx bY cx cy
  let v := crs ax ay bx bY dx dy
  if ax ≠ bx then ((crN ax cx dx u (u - v) : Int) : Rat) / (((bx - ax) * (u - v) : Int) : Rat) else ((crN ay cy dy u (u - v) : Int) : Rat) / (((bY - ay) * (u - v) : Int) : Rat)
theorem crS_eq (hw : crs ax ay bx bY cx cy - crs ax ay bx bY dx dy ≠ 0) : Geo.shOn (ax : Rat) ay bx bY (Geo.pt cx dx (Geo.cr (ax : Rat) ay bx bY cx cy / (Geo.cr (ax : Rat) ay bx bY cx cy - Geo.cr (ax : Rat) ay bx bY dx dy))) (Geo.pt cy dy (Geo.cr (ax : Rat) ay bx bY cx cy / (Geo.cr (ax : Rat) ay bx bY cx cy - Geo.cr (ax : Rat) ay bx bY dx dy))) = crS ax ay bx bY cx cy dx dy := by
  unfold Geo.shOn crS
  dsimp only
  have hw' : Geo.cr (ax : Rat) ay bx bY cx cy - Geo.cr (ax : Rat) ay bx bY dx dy ≠ 0 := by
    rw [← crs_cast, ← crs_cast, ← Rat.intCast_sub, ne_eq, ← Rat.intCast_zero, icast_eq]; exact hw
  rw [cross_eq hw', cross_eq hw', ← crs_cast, ← crs_cast]
  unfold crN
  generalize crs ax ay bx bY cx cy = u
  generalize crs ax ay bx bY dx dy = v
  by_cases h : ax = bx
  · subst h
    simp only [ne_eq, not_true_eq_false, if_false, Rat.intCast_sub, Rat.intCast_mul, Rat.intCast_add]
  · have : (ax : Rat) ≠ bx := fun z => h (icast_eq.mp z)
    simp only [ne_eq, h, this, not_false_eq_true, if_true, Rat.intCast_sub, Rat.intCast_mul, Rat.intCast_add]
/-- the shares over ints -/
theorem psh_int : Geo.psh (cx : Rat) cy dx dy ax ay bx bY = (if crs ax ay bx bY cx cy = 0 ∧ crs ax ay bx bY dx dy = 0 then
      (if Geo.shOn (ax : Rat) ay bx bY dx dy < Geo.shOn (ax : Rat) ay bx bY cx cy then Geo.cutDown Geo.full (Geo.shOn (ax : Rat) ay bx bY dx dy) (Geo.shOn (ax : Rat) ay bx bY cx cy)
        else Geo.cutDown Geo.full (Geo.shOn (ax : Rat) ay bx bY cx cy) (Geo.shOn (ax : Rat) ay bx bY dx dy))
    else if 0 < crs ax ay bx bY cx cy * crs ax ay bx bY dx dy then none else Geo.cutDown Geo.full (crS ax ay bx bY cx cy dx dy) (crS ax ay bx bY cx cy dx dy)) := by
  unfold Geo.psh
  dsimp only
  by_cases h : crs ax ay bx bY cx cy = 0 ∧ crs ax ay bx bY dx dy = 0
  · rw [if_pos h, if_pos ⟨crs_zero.mp h.1, crs_zero.mp h.2⟩]
  · rw [if_neg h, if_neg fun z => h ⟨crs_zero.mpr z.1, crs_zero.mpr z.2⟩]
    have e : (0 < Geo.cr (ax : Rat) ay bx bY cx cy * Geo.cr (ax : Rat) ay bx bY dx dy) ↔ 0 < crs ax ay bx bY cx cy * crs ax ay bx bY dx dy := by
      rw [← crs_cast, ← crs_cast, ← Rat.intCast_mul, ← Rat.intCast_zero, icast_lt]
    by_cases h2 : 0 < crs ax ay bx bY cx cy * crs ax ay bx bY dx dy
    · rw [if_pos h2, if_pos (e.mpr h2)]
    · rw [if_neg h2, if_neg fun z => h2 (e.mp z), crS_eq]
      intro z
      have z : crs ax ay bx bY cx cy = crs ax ay bx bY dx dy := by omega
      rw [z] at h h2
      have hu : crs ax ay bx bY dx dy ≠ 0 := fun y => h ⟨y, y⟩
      rcases Int.lt_or_gt_of_ne hu with q | q
      · exact h2 (Int.mul_pos_of_neg_of_neg q q)
      · exact h2 (Int.mul_pos q q)
theorem Le.sm {n : Nat} {i : Int} (h : Le n i) : Sm n i := h.lt
theorem ler_div {n : Nat} {a b : Int} (h : Sm n a) (k : Sm n b) (l : 1 ≤ n) : LeR n ((a : Rat) / (b : Rat)) :=
  have h1 : Bd n a := ⟨h⟩
  have h2 : Bd n b := ⟨k⟩
  have l1 : LeN 1 n := ⟨l⟩
  have r : BdR n ((a : Rat) / (b : Rat)) := bdrDivL
  ⟨r.num, r.den⟩
theorem crs_sm {n : Nat} [Le n ax] [Le n ay] [Le n bx] [Le n bY] [Le n cx] [Le n cy] : Sm (2 * n + 3) (crs ax ay bx bY cx cy) := by
  have h1 : Le n ax := inferInstance
  have h2 : Le n ay := inferInstance
  have h3 : Le n bx := inferInstance
  have h4 : Le n bY := inferInstance
  have h5 : Le n cx := inferInstance
  have h6 : Le n cy := inferInstance
  exact Sm.mono (Sm.sub (Sm.mul (Sm.sub h3.sm h1.sm) (Sm.sub h6.sm h2.sm)) (Sm.mul (Sm.sub h4.sm h2.sm) (Sm.sub h5.sm h1.sm))) (by omega)
theorem crS_le {n : Nat} [h1 : Le n ax] [h2 : Le n ay] [h3 : Le n bx] [h4 : Le n bY] [h5 : Le n cx] [h6 : Le n cy] [h7 : Le n dx] [h8 : Le n dy] : LeR (3 * n + 6) (crS ax ay bx bY cx cy dx dy) := by
  have u := crs_sm (n := n) (ax := ax) (ay := ay) (bx := bx) (bY := bY) (cx := cx) (cy := cy)
  have v := crs_sm (n := n) (ax := ax) (ay := ay) (bx := bx) (bY := bY) (cx := dx) (cy := dy)
  unfold crS crN
  dsimp only
  generalize crs ax ay bx bY cx cy = p at *
  generalize crs ax ay bx bY dx dy = q at *
  have w := Sm.sub u v
  split
  · exact ler_div (Sm.mono (Sm.sub (Sm.add (Sm.mul h5.sm w) (Sm.mul (Sm.sub h7.sm h5.sm) u)) (Sm.mul h1.sm w)) (by omega)) (Sm.mono (Sm.mul (Sm.sub h3.sm h1.sm) w) (by omega)) (by omega)
  · exact ler_div (Sm.mono (Sm.sub (Sm.add (Sm.mul h6.sm w) (Sm.mul (Sm.sub h8.sm h6.sm) u)) (Sm.mul h2.sm w)) (by omega)) (Sm.mono (Sm.mul (Sm.sub h4.sm h2.sm) w) (by omega)) (by omega)
theorem shOn_le {n : Nat} [h1 : Le n ax] [h2 : Le n ay] [h3 : Le n bx] [h4 : Le n bY] [h5 : Le n cx] [h6 : Le n cy] : LeR (n + 1) (Geo.shOn (ax : Rat) ay bx bY cx cy) := by
  unfold Geo.shOn
  rw [← Rat.intCast_sub, ← Rat.intCast_sub, ← Rat.intCast_sub, ← Rat.intCast_sub]
  split
  · exact ler_div (Sm.mono (Sm.sub h5.sm h1.sm) (by omega)) (Sm.mono (Sm.sub h3.sm h1.sm) (by omega)) (by omega)
  · exact ler_div (Sm.mono (Sm.sub h6.sm h2.sm) (by omega)) (Sm.mono (Sm.sub h4.sm h2.sm) (by omega)) (by omega)
theorem LeR.mono {n m : Nat} {q : Rat} (h : LeR n q) (k : n ≤ m) : LeR m q := ⟨Nat.lt_of_lt_of_le h.num (Nat.pow_le_pow_right (by decide) k), Nat.lt_of_lt_of_le h.den (Nat.pow_le_pow_right (by decide) k)⟩
theorem pshO_le (n : Nat) [Le n ax] [Le n ay] [Le n bx] [Le n bY] [Le n cx] [Le n cy] [Le n dx] [Le n dy] : BdO (3 * n + 6) (pshO cx cy dx dy ax ay bx bY) := by
  unfold pshO
  by_cases h : ax = bx ∧ ay = bY
  · rw [if_pos h]
    have w : (2 : Nat) ^ 1 ≤ 2 ^ (3 * n + 6) := Nat.pow_le_pow_right (by decide) (by omega)
    split
    · intro l u e
      injection e with e
      injection e with e1 e2
      subst e1 e2
      exact ⟨⟨by show 0 < _; omega, by show 1 < _; omega⟩, ⟨by show 0 < _; omega, by show 1 < _; omega⟩⟩
    · intro l u e; cases e
  · rw [if_neg h, psh_int]
    have f : BdO (3 * n + 6) Geo.full := BdO.full (by omega)
    have k1 := (shOn_le (n := n) (ax := ax) (ay := ay) (bx := bx) (bY := bY) (cx := cx) (cy := cy)).mono (m := 3 * n + 6) (by omega)
    have k2 := (shOn_le (n := n) (ax := ax) (ay := ay) (bx := bx) (bY := bY) (cx := dx) (cy := dy)).mono (m := 3 * n + 6) (by omega)
    split
    · split
      · exact f.cut k2 k1
      · exact f.cut k1 k2
    · split
      · intro l u e; cases e
      · exact f.cut crS_le crS_le
/-! ### the readings -/
theorem f_along_shares [Le 1000 ax] [Le 1000 ay] [Le 1000 bx] [Le 1000 bY] [Le 1000 cx] [Le 1000 cy] [Le 1000 dx] [Le 1000 dy] (hne : ax ≠ bx ∨ ay ≠ bY) :
    F_along_shares [(.z, .con .tup [P2 cx cy, P2 dx dy]), (.z, .con .tup [P2 ax ay, P2 bx bY])] st = .ok .z false (DO (if Geo.shOn (ax : Rat) ay bx bY dx dy < Geo.shOn (ax : Rat) ay bx bY cx cy then Geo.cutDown Geo.full (Geo.shOn (ax : Rat) ay bx bY dx dy) (Geo.shOn (ax : Rat) ay bx bY cx cy)
        else Geo.cutDown Geo.full (Geo.shOn (ax : Rat) ay bx bY cx cy) (Geo.shOn (ax : Rat) ay bx bY dx dy))) st := by
  have e1 := f_share_on (st := st) (ax := ax) (ay := ay) (bx := bx) (bY := bY) (cx := cx) (cy := cy) hne
  have e2 := f_share_on (st := st) (ax := ax) (ay := ay) (bx := bx) (bY := bY) (cx := dx) (cy := dy) hne
  have b1 : LeR 30000 (Geo.shOn (ax : Rat) ay bx bY cx cy) := inferInstance
  have b2 : LeR 30000 (Geo.shOn (ax : Rat) ay bx bY dx dy) := inferInstance
  generalize Geo.shOn (ax : Rat) ay bx bY cx cy = p at *
  generalize Geo.shOn (ax : Rat) ay bx bY dx dy = q at *
  have o := f_order (st := st) (p := p) (q := q)
  have op := ordR_pos (p := p) (q := q)
  have c1 := f_cut_down (st := st) (l := 0) (h := 1) (lo := p) (hi := q)
  have c2 := f_cut_down (st := st) (l := 0) (h := 1) (lo := q) (hi := p)
  rw [← dr0, ← dr1] at c1 c2
  by_cases h : q < p
  · rw [if_pos h]
    have g := op.mpr h
    simp [F_along_shares, B_along_shares, B_along_shares_0, B_along_shares_1, B_along_shares_1t_0, B_along_shares_2, e1, e2, o, g, c2, Geo.full]
  · rw [if_neg h]
    have g : ¬ 0 < ordR p q := fun z => h (op.mp z)
    simp [F_along_shares, B_along_shares, B_along_shares_0, B_along_shares_1, B_along_shares_2, e1, e2, o, g, c1, Geo.full]
theorem f_piece_shares [Le 1000 ax] [Le 1000 ay] [Le 1000 bx] [Le 1000 bY] [Le 1000 cx] [Le 1000 cy] [Le 1000 dx] [Le 1000 dy] :
    F_piece_shares [(.z, .con .tup [P2 cx cy, P2 dx dy]), (.z, .con .tup [P2 ax ay, P2 bx bY])] st = .ok .z false (DO (pshO cx cy dx dy ax ay bx bY)) st := by
  have q := eqD_p2 (a := ax) (b := ay) (c := bx) (d := bY)
  unfold pshO
  by_cases hab : ax = bx ∧ ay = bY
  · rw [if_pos hab]
    obtain ⟨rfl, rfl⟩ := hab
    have e := f_on_piece (st := st) (ax := cx) (ay := cy) (bx := dx) (bY := dy) (cx := ax) (cy := ay)
    cases ho : onP cx cy dx dy ax ay <;> simp [F_piece_shares, B_piece_shares, B_piece_shares_1, B_piece_shares_1t_0, zs, q, e, ho, DO, dr0]
  · rw [if_neg hab, psh_int]
    simp only [decide_eq_false hab] at q
    have hne : ax ≠ bx ∨ ay ≠ bY := by
      by_cases z : ax = bx
      · exact .inr fun y => hab ⟨z, y⟩
      · exact .inl z
    have e0 := f_corner_room (st := st) (ax := ax) (ay := ay) (bx := bx) (bY := bY) (cx := cx) (cy := cy)
    have e1 := f_corner_room (st := st) (ax := ax) (ay := ay) (bx := bx) (bY := bY) (cx := dx) (cy := dy)
    by_cases hz : crs ax ay bx bY cx cy = 0 ∧ crs ax ay bx bY dx dy = 0
    · rw [if_pos hz]
      have r := f_along_shares (st := st) (ax := ax) (ay := ay) (bx := bx) (bY := bY) (cx := cx) (cy := cy) (dx := dx) (dy := dy) hne
      rw [hz.1] at e0
      rw [hz.2] at e1
      have q' := eqD_p2 (a := 0) (b := 0) (c := 0) (d := 0)
      simp [F_piece_shares, B_piece_shares, B_piece_shares_1, B_piece_shares_2, B_piece_shares_3, B_piece_shares_3t_0, zs, q, q', e0, e1, r]
    · rw [if_neg hz]
      have b0 : Le 4010 (crs ax ay bx bY cx cy) := inferInstance
      have b1 : Le 4010 (crs ax ay bx bY dx dy) := inferInstance
      by_cases hp : 0 < crs ax ay bx bY cx cy * crs ax ay bx bY dx dy
      · rw [if_pos hp]
        have q' := eqD_p2 (a := crs ax ay bx bY cx cy) (b := crs ax ay bx bY dx dy) (c := 0) (d := 0)
        simp only [decide_eq_false hz] at q'
        generalize crs ax ay bx bY cx cy = u at *
        generalize crs ax ay bx bY dx dy = v at *
        simp [F_piece_shares, B_piece_shares, B_piece_shares_1, B_piece_shares_2, B_piece_shares_3, B_piece_shares_4, zs, q, q', e0, e1, hp, DO]
      · rw [if_neg hp]
        have q' := eqD_p2 (a := crs ax ay bx bY cx cy) (b := crs ax ay bx bY dx dy) (c := 0) (d := 0)
        simp only [decide_eq_false hz] at q'
        have hS : crS ax ay bx bY cx cy dx dy = if ax ≠ bx then ((crN ax cx dx (crs ax ay bx bY cx cy) (crs ax ay bx bY cx cy - crs ax ay bx bY dx dy) : Int) : Rat) / (((bx - ax) * (crs ax ay bx bY cx cy - crs ax ay bx bY dx dy) : Int) : Rat) else ((crN ay cy dy (crs ax ay bx bY cx cy) (crs ax ay bx bY cx cy - crs ax ay bx bY dx dy) : Int) : Rat) / (((bY - ay) * (crs ax ay bx bY cx cy - crs ax ay bx bY dx dy) : Int) : Rat) := rfl
        have w0 : crs ax ay bx bY cx cy - crs ax ay bx bY dx dy ≠ 0 := by
          intro z
          have z : crs ax ay bx bY cx cy = crs ax ay bx bY dx dy := by omega
          rw [z] at hz hp
          have hu : crs ax ay bx bY dx dy ≠ 0 := fun y => hz ⟨y, y⟩
          rcases Int.lt_or_gt_of_ne hu with q | q
          · exact hp (Int.mul_pos_of_neg_of_neg q q)
          · exact hp (Int.mul_pos q q)
        rw [hS]
        unfold crN
        generalize crs ax ay bx bY cx cy = u at *
        generalize crs ax ay bx bY dx dy = v at *
        by_cases hx : ax = bx
        · have hy : ay ≠ bY := hne.resolve_left fun z => z hx
          have nz : Nz ((bY - ay) * (u - v)) := ⟨Int.mul_ne_zero (by omega) w0⟩
          have e := f_fraction (st := st) (a := cy * (u - v) + (dy - cy) * u - ay * (u - v)) (b := (bY - ay) * (u - v))
          have b2 : LeR 40000 (((cy * (u - v) + (dy - cy) * u - ay * (u - v) : Int) : Rat) / (((bY - ay) * (u - v) : Int) : Rat)) := inferInstance
          generalize ((cy * (u - v) + (dy - cy) * u - ay * (u - v) : Int) : Rat) / (((bY - ay) * (u - v) : Int) : Rat) = s at *
          have c := f_cut_down (st := st) (l := 0) (h := 1) (lo := s) (hi := s)
          rw [← dr0, ← dr1] at c
          subst hx
          simp [F_piece_shares, B_piece_shares, B_piece_shares_1, B_piece_shares_2, B_piece_shares_3, B_piece_shares_4, B_piece_shares_5, B_piece_shares_6, B_piece_shares_7, B_piece_shares_8, B_piece_shares_9, dLc, nonesAt, lcGo, dYes, zs, q, q', e0, e1, hp, e, c, Geo.full]
        · have nz : Nz ((bx - ax) * (u - v)) := ⟨Int.mul_ne_zero (by omega) w0⟩
          have e := f_fraction (st := st) (a := cx * (u - v) + (dx - cx) * u - ax * (u - v)) (b := (bx - ax) * (u - v))
          rw [if_pos hx]
          have b2 : LeR 40000 (((cx * (u - v) + (dx - cx) * u - ax * (u - v) : Int) : Rat) / (((bx - ax) * (u - v) : Int) : Rat)) := inferInstance
          generalize ((cx * (u - v) + (dx - cx) * u - ax * (u - v) : Int) : Rat) / (((bx - ax) * (u - v) : Int) : Rat) = s at *
          have c := f_cut_down (st := st) (l := 0) (h := 1) (lo := s) (hi := s)
          rw [← dr0, ← dr1] at c
          simp [F_piece_shares, B_piece_shares, B_piece_shares_1, B_piece_shares_2, B_piece_shares_3, B_piece_shares_4, B_piece_shares_5, B_piece_shares_6, B_piece_shares_7, B_piece_shares_8, B_piece_shares_9, dLc, nonesAt, lcGo, dYes, zs, q, q', e0, e1, hp, hx, e, c, Geo.full]
theorem f_pieces_meet [Le 1000 ax] [Le 1000 ay] [Le 1000 bx] [Le 1000 bY] [Le 1000 cx] [Le 1000 cy] [Le 1000 dx] [Le 1000 dy] :
    F_pieces_meet [(.z, .con .tup [P2 ax ay, P2 bx bY]), (.z, .con .tup [P2 cx cy, P2 dx dy])] st = .ok .z false (.bl (cutB ax ay bx bY cx cy dx dy)) st := by
  have e := f_piece_shares (st := st) (ax := ax) (ay := ay) (bx := bx) (bY := bY) (cx := cx) (cy := cy) (dx := dx) (dy := dy)
  have k := pshO_some (ax := ax) (ay := ay) (bx := bx) (bY := bY) (cx := cx) (cy := cy) (dx := dx) (dy := dy)
  cases h : pshO cx cy dx dy ax ay bx bY with
  | none =>
    rw [h] at e k
    simp [F_pieces_meet, B_pieces_meet, B_pieces_meet_0, e, DO]
    simpa using k
  | some lh =>
    obtain ⟨l, u⟩ := lh
    rw [h] at e k
    simp [F_pieces_meet, B_pieces_meet, B_pieces_meet_0, e, DO]
    simpa using k
end
end Hx

set_option Elab.async false
set_option linter.all false
set_option maxRecDepth 100000
set_option autoImplicit false
/-! P5: drawn places; loops by an invariant. -/
namespace Hx
open PySem PySem.Spec L2
section
theorem forGo_inv {p : Pat} {body : DenS} {ks : List Nat} (I : Nat → Hx.Env → Store → Prop) : ∀ (items : List D) (n : Nat) (env : Hx.Env) (st : Store),
    (∀ i env st d, n ≤ i → i < n + items.length → d ∈ items → I i env st → ∃ env1 env2 st2, bindP p .z d env = some env1 ∧ body env1 st = .nx env2 st2 ∧ I (i + 1) (killE ks env2) st2) → I n env st →
    ∃ env' st', forGo p body ks items env st = .nx env' st' ∧ I (n + items.length) env' st'
  | [], n, env, st, _, h => ⟨env, st, rfl, h⟩
  | d :: ds, n, env, st, hs, h => by
    obtain ⟨e1, e2, s2, h1, h2, h3⟩ := hs n env st d (Nat.le_refl n) (by simp) (by simp) h
    obtain ⟨e', s', h4, h5⟩ := forGo_inv I ds (n + 1) (killE ks e2) s2 (fun i env st d a b c k => hs i env st d (by omega) (by simp; omega) (by simp [c]) k) h3
    refine ⟨e', s', ?_, by rw [List.length_cons, show n + (ds.length + 1) = n + 1 + ds.length by omega]; exact h5⟩
    rw [← h4]
    simp [forGo, h1, h2]
/-- goes on so that P -/
def Nx (P : Hx.Env → Store → Prop) : ResS → Prop
  | .nx e s => P e s
  | _ => False
@[simp] theorem nx_nx {P : Hx.Env → Store → Prop} {e : Hx.Env} {s : Store} : Nx P (.nx e s) = P e s := rfl
theorem Nx.out {P : Hx.Env → Store → Prop} {r : ResS} (h : Nx P r) : ∃ e s, r = .nx e s ∧ P e s := by
  cases r with
  | nx e s => exact ⟨e, s, rfl, h⟩
  | _ => exact h.elim
theorem Nx.imp {P Q : Hx.Env → Store → Prop} {r : ResS} (h : Nx P r) (k : ∀ e s, P e s → Q e s) : Nx Q r := by
  cases r with
  | nx e s => exact k _ _ h
  | _ => exact h.elim
/-- a loop whose body keeps an invariant -/
theorem forGo_nx {p : Pat} {body : DenS} {ks : List Nat} (I : Nat → Hx.Env → Store → Prop) (items : List D) (env : Hx.Env) (st : Store)
    (hs : ∀ i env st d, i < items.length → d ∈ items → I i env st → ∃ env1, bindP p .z d env = some env1 ∧ Nx (fun env2 st2 => I (i + 1) (killE ks env2) st2) (body env1 st)) (h : I 0 env st) :
    ∃ env' st', forGo p body ks items env st = .nx env' st' ∧ I items.length env' st' := by
  obtain ⟨e, s, h1, h2⟩ := forGo_inv I items 0 env st (fun i env st d _ b c k => by
    obtain ⟨e1, h1, h2⟩ := hs i env st d (by omega) c k
    obtain ⟨e2, s2, h3, h4⟩ := h2.out
    exact ⟨e1, e2, s2, h1, h3, h4⟩) h
  exact ⟨e, s, h1, by rw [← Nat.zero_add items.length]; exact h2⟩
theorem killE_nil {env : Hx.Env} : killE [] env = env := rfl
variable {st : Store} {c : Nat} {k : Nat}
theorem rg4 : rngItems 0 4 = [.int 0, .int 1, .int 2, .int 3] := rfl
theorem rg3 : rngItems 0 3 = [.int 0, .int 1, .int 2] := rfl
theorem rg2 : rngItems 0 2 = [.int 0, .int 1] := rfl
/-- the draw, with its bound -/
theorem pull {n : Nat} (many : Int) (B : Bag k st c) (hk : k < 2 ^ 100) (hm : 0 < many) (hn : many.natAbs < 2 ^ n) (hn2 : n ≤ 1000) :
    ∃ g st', F_l_pull [(.z, .ref c), (.z, .int many)] st = .ok .z false (.int g) st' ∧ 0 ≤ g ∧ g < many ∧ Le n g ∧ Bag (k + 1) st' c ∧ Fro1 c st st' := by
  obtain ⟨g, st', e, g0, g1, B', f⟩ := f_l_pull (many := many) B hk hm (Sm.mono (n := n) hn hn2)
  exact ⟨g, st', e, g0, g1, ⟨by omega⟩, B', f⟩
/-- a grid -/
structure Grid (w a b : Int) : Prop where
  w0 : 0 ≤ w
  w1 : w ≤ 61
  a0 : -1000000 ≤ a - w
  a1 : a + w ≤ 1000000
  b0 : -1000000 ≤ b - w
  b1 : b + w ≤ 1000000
theorem f_l_grid (B : Bag k st c) (hk : k + 3 < 2 ^ 100) : ∃ w a b st', F_l_grid [(.z, .ref c)] st = .ok .z false (.con .tup [.int w, .int a, .int b]) st' ∧ Grid w a b ∧ Bag (k + 3) st' c ∧ Fro1 c st st' := by
  obtain ⟨g, s1, e1, g1, g2, _, B1, f1⟩ := pull (n := 8) 6 B (by omega) (by decide) (by decide) (by decide)
  by_cases h4 : g < 4
  · refine ⟨4, 0, 0, s1, ?_, ⟨by omega, by omega, by omega, by omega, by omega, by omega⟩, B1.mono (by omega), f1⟩
    simp [F_l_grid, B_l_grid, B_l_grid_0, B_l_grid_1, B_l_grid_1t_0, e1, h4]
  by_cases h5 : g = 4
  · obtain ⟨g', s2, e2, g3, g4, _, B2, f2⟩ := pull (n := 8) 60 B1 (by omega) (by decide) (by decide) (by decide)
    refine ⟨1 + g', 0, 0, s2, ?_, ⟨by omega, by omega, by omega, by omega, by omega, by omega⟩, B2.mono (by omega), f1.trans f2⟩
    simp [F_l_grid, B_l_grid, B_l_grid_0, B_l_grid_1, B_l_grid_2, B_l_grid_2t_0, e1, h5, e2]
  · obtain ⟨g', s2, e2, g3, g4, _, B2, f2⟩ := pull (n := 8) 2 B1 (by omega) (by decide) (by decide) (by decide)
    obtain ⟨g'', s3, e3, g5, g6, _, B3, f3⟩ := pull (n := 8) 3 B2 (by omega) (by decide) (by decide) (by decide)
    have pow6 : powOk 10 6 = true := by decide
    refine ⟨5, 999995 * (2 * g' - 1), 999995 * (g'' - 1), s3, ?_, ⟨by omega, by omega, by omega, by omega, by omega, by omega⟩, B3.mono (by omega), (f1.trans f2).trans f3⟩
    simp [F_l_grid, B_l_grid, B_l_grid_0, B_l_grid_1, B_l_grid_2, B_l_grid_3, e1, h4, h5, e2, e3, pow6]
/-- a drawn place -/
structure Spot (x y : Int) : Prop where
  x0 : -1000000 ≤ x
  x1 : x ≤ 1000000
  y0 : -1000000 ≤ y
  y1 : y ≤ 1000000
theorem Spot.lx {x y : Int} (s : Spot x y) : Le 21 x := ⟨by have := s.x0; have := s.x1; omega⟩
theorem Spot.ly {x y : Int} (s : Spot x y) : Le 21 y := ⟨by have := s.y0; have := s.y1; omega⟩
theorem f_l_spot {w a b : Int} (B : Bag k st c) (hk : k + 3 < 2 ^ 100) (G : Grid w a b) :
    ∃ x y st', F_l_spot [(.z, .ref c), (.z, .con .tup [.int w, .int a, .int b])] st = .ok .z false (P2 x y) st' ∧ Spot x y ∧ Bag (k + 2) st' c ∧ Fro1 c st st' := by
  obtain ⟨h0, h1, h2, h3, h4, h5⟩ := G
  have hw : Le 8 w := ⟨by omega⟩
  obtain ⟨g, s1, e1, g1, g2, _, B1, f1⟩ := pull (n := 8) (2 * w + 1) B (by omega) (by omega) (by omega) (by decide)
  obtain ⟨g', s2, e2, g3, g4, _, B2, f2⟩ := pull (n := 8) (2 * w + 1) B1 (by omega) (by omega) (by omega) (by decide)
  refine ⟨a + g - w, b + g' - w, s2, ?_, ⟨by omega, by omega, by omega, by omega⟩, B2, f1.trans f2⟩
  simp [F_l_spot, B_l_spot, B_l_spot_1, B_l_spot_2, zs, e1, e2]
theorem seq_nx {a b : DenS} {env e1 : Hx.Env} {st s1 : Store} (h : a env st = .nx e1 s1) : dSeq a b env st = b e1 s1 := by
  unfold dSeq
  rw [h]
/-- the law's bag, made -/
theorem law_bag (ns : List Int) (hl : ns.length ≤ 63) : ∃ d, F_l_bag [(.z, .con .frl (ns.map D.int))] [] = .ok (.c .z) false (.con .lst d) [] ∧ Bag 0 [(.c .z, .con .lst d)] 0 := by
  obtain ⟨s, e, h0, h1⟩ := f_l_bag ns hl (st := [])
  exact ⟨_, e, ns, 0, 0, s, 0, rfl, by omega, by omega, h0, h1, by omega, by omega⟩
end
end Hx

set_option Elab.async false
set_option linter.all false
set_option maxRecDepth 100000
set_option autoImplicit false
/-! P6: blocks. -/
namespace Hx
open PySem PySem.Spec L2
abbrev B4 (l w r h : Int) : D := .con .tup [.int l, .int w, .int r, .int h]
section
variable {ax ay bx bY l w r h : Int} {st : Store}
theorem slab_cast {o : Option (Rat × Rat)} {start step lo hi : Int} : Geo.slab o start step lo hi = (if step = 0 then (if lo ≤ start ∧ start ≤ hi then o else none)
    else if 0 < step then Geo.cutDown o (((lo - start : Int) : Rat) / (step : Rat)) (((hi - start : Int) : Rat) / (step : Rat)) else Geo.cutDown o (((hi - start : Int) : Rat) / (step : Rat)) (((lo - start : Int) : Rat) / (step : Rat))) := by
  unfold Geo.slab
  have e0 : ((step : Rat) = 0) ↔ step = 0 := by rw [← Rat.intCast_zero, icast_eq]
  have e1 : ((0 : Rat) < step) ↔ 0 < step := by rw [← Rat.intCast_zero, icast_lt]
  simp only [e0, e1, icast_le, Rat.intCast_sub]
theorem f_slab {o : Option (Rat × Rat)} (k : BdO 20000 o) {start step lo hi : Int} [Le 7000 start] [Le 7000 step] [Le 7000 lo] [Le 7000 hi] :
    F_slab [(.z, DO o), (.z, .int start), (.z, .int step), (.z, .con .tup [.int lo, .int hi])] st = .ok .z false (DO (Geo.slab o start step lo hi)) st := by
  rw [slab_cast]
  have k' : ∀ l h, o = some (l, h) → LeR 40000 l ∧ LeR 40000 h := fun l h e => ⟨(k l h e).1.mono (by decide), (k l h e).2.mono (by decide)⟩
  by_cases h0 : step = 0
  · subst h0
    by_cases h1 : lo ≤ start
    · by_cases h2 : start ≤ hi
      · simp [F_slab, zs, h1, h2]
      · simp [F_slab, zs, h1, h2, DO]
    · simp [F_slab, zs, h1, DO]
  · have nz : Nz step := ⟨h0⟩
    rw [if_neg h0]
    have e1 := f_fraction (st := st) (a := lo - start) (b := step)
    have e2 := f_fraction (st := st) (a := hi - start) (b := step)
    have b1 : LeR 40000 (((lo - start : Int) : Rat) / (step : Rat)) := inferInstance
    have b2 : LeR 40000 (((hi - start : Int) : Rat) / (step : Rat)) := inferInstance
    generalize ((lo - start : Int) : Rat) / (step : Rat) = p at *
    generalize ((hi - start : Int) : Rat) / (step : Rat) = q at *
    have c1 := f_cut_downO (st := st) (lo := p) (hi := q) k'
    have c2 := f_cut_downO (st := st) (lo := q) (hi := p) k'
    by_cases h1 : 0 < step
    · rw [if_pos h1]
      simp [F_slab, zs, h0, h1, e1, e2, c1]
    · rw [if_neg h1]
      simp [F_slab, zs, h0, h1, e1, e2, c2]
theorem slab_le {n : Nat} {o : Option (Rat × Rat)} (k : BdO (n + 1) o) {start step lo hi : Int} [h1 : Le n start] [h2 : Le (n + 1) step] [h3 : Le n lo] [h4 : Le n hi] : BdO (n + 1) (Geo.slab o start step lo hi) := by
  rw [slab_cast]
  have b1 : LeR (n + 1) (((lo - start : Int) : Rat) / (step : Rat)) := ler_div (Sm.mono (Sm.sub h3.sm h1.sm) (by omega)) h2.sm (by omega)
  have b2 : LeR (n + 1) (((hi - start : Int) : Rat) / (step : Rat)) := ler_div (Sm.mono (Sm.sub h4.sm h1.sm) (by omega)) h2.sm (by omega)
  split
  · split
    · exact k
    · intro l h e; cases e
  · split
    · exact k.cut b1 b2
    · exact k.cut b2 b1
/-- the shares of a piece in a block -/
def bshO (l w r h ax ay bx bY : Int) : Option (Rat × Rat) := if (Geo.bsh (l : Rat) w r h ax ay bx bY).isSome = true ∧ ax = bx ∧ ay = bY then some (0, 0) else Geo.bsh l w r h ax ay bx bY
theorem bshO_some : (bshO l w r h ax ay bx bY).isSome = (Geo.bsh (l : Rat) w r h ax ay bx bY).isSome := by
  unfold bshO
  split
  · rename_i h; rw [h.1]; rfl
  · rfl
theorem bsh_int : Geo.bsh (l : Rat) w r h ax ay bx bY = Geo.slab (Geo.slab Geo.full (ax : Rat) ((bx - ax : Int) : Rat) l r) ay ((bY - ay : Int) : Rat) w h := by
  unfold Geo.bsh
  rw [Rat.intCast_sub, Rat.intCast_sub]
theorem bsh_le {n : Nat} [h1 : Le n ax] [h2 : Le n ay] [h3 : Le n bx] [h4 : Le n bY] [h5 : Le n l] [h6 : Le n w] [h7 : Le n r] [h8 : Le n h] : BdO (n + 1) (Geo.bsh (l : Rat) w r h ax ay bx bY) := by
  rw [bsh_int]
  have s1 : Le (n + 1) (bx - ax) := ⟨Sm.mono (Sm.sub h3.sm h1.sm) (by omega)⟩
  have s2 : Le (n + 1) (bY - ay) := ⟨Sm.mono (Sm.sub h4.sm h2.sm) (by omega)⟩
  exact slab_le (slab_le (BdO.full (by omega)))
theorem bshO_le (n : Nat) [h1 : Le n ax] [h2 : Le n ay] [h3 : Le n bx] [h4 : Le n bY] [h5 : Le n l] [h6 : Le n w] [h7 : Le n r] [h8 : Le n h] : BdO (n + 1) (bshO l w r h ax ay bx bY) := by
  unfold bshO
  split
  · have w : (2 : Nat) ^ 1 ≤ 2 ^ (n + 1) := Nat.pow_le_pow_right (by decide) (by omega)
    intro l u e
    injection e with e
    injection e with e1 e2
    subst e1 e2
    exact ⟨⟨by show 0 < _; omega, by show 1 < _; omega⟩, ⟨by show 0 < _; omega, by show 1 < _; omega⟩⟩
  · exact bsh_le
theorem do_full : DO Geo.full = .con .tup [P2 0 1, P2 1 1] := rfl
theorem f_block_shares [Le 6000 ax] [Le 6000 ay] [Le 6000 bx] [Le 6000 bY] [Le 6000 l] [Le 6000 w] [Le 6000 r] [Le 6000 h] :
    F_block_shares [(.z, B4 l w r h), (.z, .con .tup [P2 ax ay, P2 bx bY])] st = .ok .z false (DO (bshO l w r h ax ay bx bY)) st := by
  have b1 : BdO 6001 (Geo.slab Geo.full (ax : Rat) ((bx - ax : Int) : Rat) l r) := slab_le (n := 6000) (BdO.full (by decide))
  have e1 := f_slab (st := st) (BdO.full (n := 20000) (by decide)) (start := ax) (step := bx - ax) (lo := l) (hi := r)
  have e2 := f_slab (st := st) (b1.mono (m := 20000) (by decide)) (start := ay) (step := bY - ay) (lo := w) (hi := h)
  rw [← bsh_int] at e2
  have q := eqD_p2 (a := ax) (b := ay) (c := bx) (d := bY)
  rw [do_full] at e1
  unfold bshO
  cases h1 : Geo.slab Geo.full (ax : Rat) ((bx - ax : Int) : Rat) l r with
  | none =>
    have hb : Geo.bsh (l : Rat) w r h ax ay bx bY = none := by rw [bsh_int, h1, slab_cast]; split <;> (try split) <;> (try rfl)
    rw [h1] at e1
    simp [F_block_shares, zs, e1, DO, hb]
  | some lh =>
    obtain ⟨l0, h0⟩ := lh
    rw [h1] at e1 e2
    cases hb : Geo.bsh (l : Rat) w r h ax ay bx bY with
    | none =>
      rw [hb] at e2
      simp only [DO] at e1 e2
      simp [F_block_shares, zs, e1, e2, DO]
    | some lh' =>
      obtain ⟨l1, h1'⟩ := lh'
      rw [hb] at e2
      simp only [DO] at e1 e2
      by_cases hab : ax = bx ∧ ay = bY
      · rw [decide_eq_true hab] at q
        rw [if_pos ⟨rfl, hab⟩]
        simp [F_block_shares, zs, e1, e2, DO, q]
        rfl
      · rw [decide_eq_false hab] at q
        simp [F_block_shares, zs, e1, e2, DO, q, hab]
/-- whether they meet -/
def hitB (l w r h ax ay bx bY : Int) : Bool := (bshO l w r h ax ay bx bY).isSome
theorem hitB_iff : hitB l w r h ax ay bx bY = true ↔ Geo.BMeets (l : Rat) w r h ax ay bx bY := by
  unfold hitB
  rw [bshO_some, Geo.bsh_span.some_iff]
  rfl
theorem f_block_meets [Le 6000 ax] [Le 6000 ay] [Le 6000 bx] [Le 6000 bY] [Le 6000 l] [Le 6000 w] [Le 6000 r] [Le 6000 h] :
    F_block_meets [(.z, B4 l w r h), (.z, .con .tup [P2 ax ay, P2 bx bY])] st = .ok .z false (.bl (hitB l w r h ax ay bx bY)) st := by
  have e := f_block_shares (st := st) (ax := ax) (ay := ay) (bx := bx) (bY := bY) (l := l) (w := w) (r := r) (h := h)
  unfold hitB
  cases hb : bshO l w r h ax ay bx bY with
  | none => rw [hb] at e; simp [F_block_meets, e, DO]
  | some lh =>
    obtain ⟨l1, h1'⟩ := lh
    rw [hb] at e; simp [F_block_meets, e, DO]
theorem hitB_turn : hitB l w r h bx bY ax ay = hitB l w r h ax ay bx bY := by
  have k : ∀ {ax ay bx bY : Int}, hitB l w r h ax ay bx bY = true → hitB l w r h bx bY ax ay = true := fun {ax ay bx bY} z => by
    rw [hitB_iff] at *
    obtain ⟨s, hs, i⟩ := z
    refine ⟨1 - s, ⟨by have := hs.2; grind, by have := hs.1; grind⟩, ?_⟩
    have e1 : Geo.pt (bx : Rat) ax (1 - s) = Geo.pt (ax : Rat) bx s := by unfold Geo.pt; grind
    have e2 : Geo.pt (bY : Rat) ay (1 - s) = Geo.pt (ay : Rat) bY s := by unfold Geo.pt; grind
    rw [e1, e2]; exact i
  rw [Bool.eq_iff_iff]
  exact ⟨k, k⟩
/-! ### the law's own hitting -/
def inB (l w r h x y : Int) : Bool := decide (l ≤ x) && decide (x ≤ r) && (decide (w ≤ y) && decide (y ≤ h))
theorem inB_iff {x y : Int} : inB l w r h x y = true ↔ Geo.InB (l : Rat) w r h x y := by
  unfold inB Geo.InB
  simp only [Bool.and_eq_true, decide_eq_true_eq, icast_le]
theorem f_l_within {x y : Int} : F_l_within [(.z, B4 l w r h), (.z, P2 x y)] st = .ok .z false (.bl (inB l w r h x y)) st := by
  unfold inB
  by_cases h1 : l ≤ x
  · by_cases h2 : x ≤ r
    · by_cases h3 : w ≤ y
      · simp [F_l_within, h1, h2, h3]
      · simp [F_l_within, h1, h2, h3]
    · simp [F_l_within, h1, h2]
  · simp [F_l_within, h1]
theorem f_l_corners : F_l_corners [(.z, B4 l w r h)] st = .ok .z false (.con .lst [P2 l w, P2 r w, P2 r h, P2 l h]) st := by
  simp [F_l_corners, zs]
def hitsB (l w r h ax ay bx bY : Int) : Bool := (inB l w r h ax ay || inB l w r h bx bY) || (cutB ax ay bx bY l h l w || (cutB ax ay bx bY l w r w || (cutB ax ay bx bY r w r h || cutB ax ay bx bY r h l h)))
theorem hitsB_eq (lr : l ≤ r) (wh : w ≤ h) : hitsB l w r h ax ay bx bY = hitB l w r h ax ay bx bY := by
  rw [Bool.eq_iff_iff, hitB_iff, ← Geo.hits_iff (icast_le.mpr lr) (icast_le.mpr wh)]
  unfold hitsB Geo.Hits
  simp only [Bool.or_eq_true, inB_iff, cutB_iff, Geo.cut_iff]
theorem atm1 {x y z v : D} : atI [x, y, z, v] (-1) = some v := by simp [atI, ixN]
theorem f_l_hits [Le 10000 ax] [Le 10000 ay] [Le 10000 bx] [Le 10000 bY] [Le 10000 l] [Le 10000 w] [Le 10000 r] [Le 10000 h] :
    F_l_hits [(.z, B4 l w r h), (.z, P2 ax ay), (.z, P2 bx bY)] st = .ok .z false (.bl (hitsB l w r h ax ay bx bY)) st := by
  have s62 : small62 4 = true := by decide
  unfold hitsB
  cases o1 : inB l w r h ax ay with
  | true => simp [F_l_hits, f_l_within, o1]
  | false => cases o2 : inB l w r h bx bY with
    | true => simp [F_l_hits, f_l_within, o1, o2]
    | false => simp [F_l_hits, f_l_within, o1, o2, f_l_corners, dLc, s62, rg4, nonesAt, lcGo, dYes, f_l_cut, atm1]
theorem f_l_one {c k : Nat} {ds : List D} {n : Nat} (B : Bag k st c) (hk : k < 2 ^ 100) (h0 : ds ≠ []) (hn : ds.length < 2 ^ n) (hn2 : n ≤ 20) :
    ∃ (g : Int) (d : D) (st' : Store), F_l_one [(.z, .ref c), (.z, .con .lst ds)] st = .ok .z false d st' ∧ 0 ≤ g ∧ ds[g.toNat]? = some d ∧ g < ds.length ∧ Bag (k + 1) st' c ∧ Fro1 c st st' := by
  have hl : 0 < ds.length := List.length_pos_iff.mpr h0
  have hn3 : 2 ^ n ≤ 2 ^ 20 := Nat.pow_le_pow_right (by decide) hn2
  obtain ⟨g, s1, e1, g1, g2, _, B1, f1⟩ := pull (n := n) (ds.length : Int) B hk (by omega) (by omega) (by omega)
  have hlt : g.toNat < ds.length := by omega
  have ha : atI ds g = some ds[g.toNat] := by
    have := atI_nat (List.getElem?_eq_getElem hlt)
    rw [show ((g.toNat : Nat) : Int) = g by omega] at this
    exact this
  refine ⟨g, ds[g.toNat], s1, ?_, g1, List.getElem?_eq_getElem hlt, g2, B1, f1⟩
  simp [F_l_one, e1, ha]
theorem pow6 : powOk 10 6 = true := by decide
/-- one edge drawn -/
theorem block_edge {c k : Nat} {b w a1 a2 l low : Int} {v5 : Option (Fr × D)} {fs : List D} (B : Bag k st c) (hk : k + 4 < 2 ^ 100) (w0 : 0 ≤ w) (w1 : w ≤ 61) (b0 : -1000000 ≤ b) (b1 : b ≤ 1000000) (hf : fs.length < 10) :
    ∃ (e : Int) (st' : Store), B_l_block_2b [some (.z, .ref c), some (.z, .con .tup [.int w, .int a1, .int a2]), some (.z, .int l), some (.z, .int low), some (.c .z, .con .lst fs), some (.z, .int b)] st =
      .nx [some (.z, .ref c), some (.z, .con .tup [.int w, .int a1, .int a2]), some (.z, .int l), some (.z, .int low), some (.c .z, .con .lst (fs ++ [.int e])), some (.z, .int b)] st' ∧ b ≤ e ∧ e ≤ 1000000 ∧ Bag (k + 3) st' c ∧ Fro1 c st st' := by
  obtain ⟨g1, s1, e1, p1, p2, _, B, f1⟩ := pull (n := 8) 3 B (by omega) (by decide) (by decide) (by decide)
  obtain ⟨g2, s2, e2, q1, q2, _, B, f2⟩ := pull (n := 8) (w + 1) B (by omega) (by omega) (by omega) (by decide)
  obtain ⟨g3, s3, e3, r1, r2, _, B, f3⟩ := pull (n := 8) 3 B (by omega) (by decide) (by decide) (by decide)
  have hf' : fs.length ≤ 1000000 := by omega
  have key : ∀ x : Int, 0 ≤ x → b ≤ (if b + x < 1000000 then b + x else 1000000) ∧ (if b + x < 1000000 then b + x else 1000000) ≤ 1000000 := fun x hx => by split <;> omega
  have hg : g3 = 0 ∨ g3 = 1 ∨ g3 = 2 := by omega
  rcases hg with rfl | rfl | rfl
  · refine ⟨if b + 0 < 1000000 then b + 0 else 1000000, s3, ?_, (key 0 (by omega)).1, (key 0 (by omega)).2, B, (f1.trans f2).trans f3⟩
    simp [B_l_block_2b, dApp, pow6, e1, e2, e3, hf']
  · refine ⟨if b + g1 < 1000000 then b + g1 else 1000000, s3, ?_, (key g1 p1).1, (key g1 p1).2, B, (f1.trans f2).trans f3⟩
    simp [B_l_block_2b, dApp, pow6, e1, e2, e3, hf']
  · refine ⟨if b + g2 < 1000000 then b + g2 else 1000000, s3, ?_, (key g2 q1).1, (key g2 q1).2, B, (f1.trans f2).trans f3⟩
    simp [B_l_block_2b, dApp, pow6, e1, e2, e3, hf']
theorem f_l_block {c k : Nat} {w a b : Int} (B : Bag k st c) (hk : k + 10 < 2 ^ 100) (G : Grid w a b) :
    ∃ (l low r h : Int) (st' : Store), F_l_block [(.z, .ref c), (.z, .con .tup [.int w, .int a, .int b])] st = .ok .z false (B4 l low r h) st' ∧ Spot l low ∧ Spot r h ∧ l ≤ r ∧ low ≤ h ∧ Bag (k + 8) st' c ∧ Fro1 c st st' := by
  obtain ⟨l, low, s1, e1, ⟨x0, x1, y0, y1⟩, B, f1⟩ := f_l_spot B (by omega) G
  obtain ⟨r, s2, e2, r1, r2, B, f2⟩ := block_edge (w := w) (b := l) (a1 := a) (a2 := b) (l := l) (low := low) (v5 := none) (fs := []) B (by omega) G.w0 G.w1 x0 x1 (by decide)
  obtain ⟨h, s3, e3, h1, h2, B, f3⟩ := block_edge (w := w) (b := low) (a1 := a) (a2 := b) (l := l) (low := low) (v5 := none) (fs := [.int r]) B (by omega) G.w0 G.w1 y0 y1 (by simp)
  refine ⟨l, low, r, h, s3, ?_, ⟨x0, x1, y0, y1⟩, ⟨by omega, by omega, by omega, by omega⟩, r1, h1, B.mono (by omega), (f1.trans f2).trans f3⟩
  simp at e2 e3
  simp [F_l_block, e1, zs, dFor, forGo, e2, e3, killE, dFrz]
end
end Hx

set_option Elab.async false
set_option linter.all false
set_option maxRecDepth 100000
set_option maxHeartbeats 0
set_option autoImplicit false
namespace L04
open PySem PySem.Spec L2 Hx
open PyProof.Rows hiding St
def top (i : Nat) : Stmt := PySem.Challenge.pw_hueshade_k04_whole_figures_moved_and_tur.main.body.getD i (.Pass ⟨0, 0, 0, 0⟩)
@[simp] def B_law_1b_1 : DenS :=
    dSetZ 4 (dCall F_l_block [] (dCons (dVar 1) (dLast (dVar 3))))
@[simp] def B_law_1b_2 : DenS :=
    dSetZ 5 (dTup (dCons (dCall F_l_spot [] (dCons (dVar 1) (dLast (dVar 3)))) (dLast (dCall F_l_spot [] (dCons (dVar 1) (dLast (dVar 3)))))))
@[simp] def B_law_1b_3 : DenS :=
    dSetZ 6 (dTup (dCons (dCall F_l_spot [] (dCons (dVar 1) (dLast (dVar 3)))) (dLast (dCall F_l_spot [] (dCons (dVar 1) (dLast (dVar 3)))))))
@[simp] def B_law_1b_4 : DenS :=
    dSetZ 7 (dLst (dCons (dCall F_block_meets [] (dCons (dVar 4) (dLast (dVar 5)))) (dCons (dCall F_pieces_meet [] (dCons (dVar 5) (dLast (dVar 6)))) (dCons (dCall F_block_shares [] (dCons (dVar 4) (dLast (dVar 5)))) (dLast (dCall F_piece_shares [] (dCons (dVar 6) (dLast (dVar 5)))))))))
@[simp] def B_law_1b_5b_0 : DenS :=
    dSetZ 9 (dLst (dCons (dTup (dCons (dC (.str "move")) (dCons (dOp oSub (dCons (dCall F_l_pull [] (dCons (dVar 1) (dLast (dC (.int 99))))) (dLast (dC (.int 49))))) (dLast (dCall F_l_pull [] (dCons (dVar 1) (dLast (dOp oPow (dCons (dC (.int 10)) (dLast (dC (.int 9)))))))))))) (dCons (dTup (dLast (dC (.str "turn")))) (dLast (dTup (dLast (dC (.str "mirror"))))))))
@[simp] def B_law_1b_5b_1 : DenS :=
    dSetZ 10 (dCall F_l_one [] (dCons (dVar 1) (dLast (dOp oAdd (dCons (dVar 9) (dLast (dLst (dLast (dTup (dCons (dC (.str "stretch")) (dLast (dOp oAdd (dCons (dC (.int 1)) (dLast (dCall F_l_pull [] (dCons (dVar 1) (dLast (dOp oIx (dCons (dLst (dCons (dC (.int 3)) (dLast (dOp oPow (dCons (dC (.int 10)) (dLast (dC (.int 6)))))))) (dLast (dCall F_l_pull [] (dCons (dVar 1) (dLast (dC (.int 2)))))))))))))))))))))))))
@[simp] def B_law_1b_5b_2 : DenS :=
    dSetZ 4 (dCall F_l_led_block [] (dCons (dVar 10) (dLast (dVar 4))))
@[simp] def B_law_1b_5b_3 : DenS :=
    dSetZ 5 (dTup (dCons (dCall F_l_led [] (dCons (dVar 10) (dLast (dOp oIx (dCons (dVar 5) (dLast (dC (.int 0)))))))) (dLast (dCall F_l_led [] (dCons (dVar 10) (dLast (dOp oIx (dCons (dVar 5) (dLast (dC (.int 1)))))))))))
@[simp] def B_law_1b_5b_4 : DenS :=
    dSetZ 6 (dTup (dCons (dCall F_l_led [] (dCons (dVar 10) (dLast (dOp oIx (dCons (dVar 6) (dLast (dC (.int 0)))))))) (dLast (dCall F_l_led [] (dCons (dVar 10) (dLast (dOp oIx (dCons (dVar 6) (dLast (dC (.int 1)))))))))))
@[simp] def B_law_1b_5b_5 : DenS :=
    dSetZ 11 (dLst (dCons (dCall F_block_meets [] (dCons (dVar 4) (dLast (dVar 5)))) (dCons (dCall F_pieces_meet [] (dCons (dVar 5) (dLast (dVar 6)))) (dCons (dCall F_block_shares [] (dCons (dVar 4) (dLast (dVar 5)))) (dLast (dCall F_piece_shares [] (dCons (dVar 6) (dLast (dVar 5)))))))))
@[simp] def B_law_1b_5b_6 : DenS :=
    dIfS (dNotB (dB (dCall (F_l_same 8) [] (dCons (dVar 11) (dLast (dVar 7)))))) (dRetZ (dC (.bl false))) (dSkip)
@[simp] def B_law_1b_5b_t5 : DenS :=
    dSeq (B_law_1b_5b_5) (B_law_1b_5b_6)
@[simp] def B_law_1b_5b_t4 : DenS :=
    dSeq (B_law_1b_5b_4) (B_law_1b_5b_t5)
@[simp] def B_law_1b_5b_t3 : DenS :=
    dSeq (B_law_1b_5b_3) (B_law_1b_5b_t4)
@[simp] def B_law_1b_5b_t2 : DenS :=
    dSeq (B_law_1b_5b_2) (B_law_1b_5b_t3)
@[simp] def B_law_1b_5b_t1 : DenS :=
    dSeq (B_law_1b_5b_1) (B_law_1b_5b_t2)
def B_law_1b_5b : DenS :=
    dSeq (B_law_1b_5b_0) (B_law_1b_5b_t1)
@[simp] def B_law_1b_5 : DenS :=
    dFor (dRng1 (dLast (dOp oAdd (dCons (dC (.int 1)) (dLast (dCall F_l_pull [] (dCons (dVar 1) (dLast (dC (.int 3)))))))))) (.nm 8) (B_law_1b_5b) []
@[simp] def B_law_1b_t4 : DenS :=
    dSeq (B_law_1b_4) (B_law_1b_5)
@[simp] def B_law_1b_t3 : DenS :=
    dSeq (B_law_1b_3) (B_law_1b_t4)
@[simp] def B_law_1b_t2 : DenS :=
    dSeq (B_law_1b_2) (B_law_1b_t3)
@[simp] def B_law_1b_t1 : DenS :=
    dSeq (B_law_1b_1) (B_law_1b_t2)
def B_law_1b : DenS :=
    dSeq (dSetZ 3 (dCall F_l_grid [] (dLast (dVar 1)))) (B_law_1b_t1)
@[simp] def B_law_t3 : DenS :=
    dRetZ (dC (.bl true))
@[simp] def B_law : DenS :=
    dSeq (dSet 1 (dCall F_l_bag [] (dLast (dVar 0)))) (dPub 1 (dSeq (dFor (dRng1 (dLast (dC (.int 3)))) (.nm 2) (B_law_1b) []) (B_law_t3)))
def F_law : Fn := dBody 12 B_law
structure Env (S : Sx) : Prop where
  b_abs : S.mg "abs" = none
  b_all : S.mg "all" = none
  b_bool : S.mg "bool" = none
  b_int : S.mg "int" = none
  b_isinstance : S.mg "isinstance" = none
  b_len : S.mg "len" = none
  b_list : S.mg "list" = none
  b_max : S.mg "max" = none
  b_min : S.mg "min" = none
  b_range : S.mg "range" = none
  b_str : S.mg "str" = none
  b_tuple : S.mg "tuple" = none
  c_START : GV S "START" (.con .tup [.int 0, .int 1])
  c_END : GV S "END" (.con .tup [.int 1, .int 1])
  k_common_divisor : Kn S "common_divisor" (top 4)
  k_fraction : KnD S "fraction" (top 5) [.int 1]
  k_order : Kn S "order" (top 6)
  k_corner_room : Kn S "corner_room" (top 10)
  k_side : Kn S "side" (top 11)
  k_is_within : Kn S "is_within" (top 12)
  k_on_piece : Kn S "on_piece" (top 13)
  k_cut_down : Kn S "cut_down" (top 14)
  k_slab : Kn S "slab" (top 15)
  k_block_shares : Kn S "block_shares" (top 16)
  k_share_on : Kn S "share_on" (top 17)
  k_along_shares : Kn S "along_shares" (top 18)
  k_piece_shares : Kn S "piece_shares" (top 19)
  k_pieces_meet : Kn S "pieces_meet" (top 20)
  k_block_meets : Kn S "block_meets" (top 21)
  k_l_bag : Kn S "_law_bag" (top 23)
  k_l_pull : Kn S "_law_pull" (top 24)
  k_l_one : Kn S "_law_one" (top 25)
  k_l_same : Kn S "_law_same" (top 26)
  k_l_grid : Kn S "_law_grid" (top 27)
  k_l_spot : Kn S "_law_spot" (top 28)
  k_l_block : Kn S "_law_block" (top 29)
  k_l_led : Kn S "_law_led" (top 30)
  k_l_led_block : Kn S "_law_led_block" (top 31)
  k_law : Kn S "law" (top 32)
section
variable {S : Sx}
theorem sc_common_divisor : FnScope ["one", "other"] ["one", "other"] (defScope (top 4)) := ⟨rfl, rfl, rfl, by decide +kernel, rfl, by decide +kernel, by decide +kernel⟩
theorem bn_common_divisor : BindN "common_divisor" (top 4) ["one", "other"] := (fun _ _ _ _ _ _ us hl => match us, hl with | [_, _], _ => rfl)
theorem ds_common_divisor (E : Env S) : DSs (S.at ["one", "other"] (defScope (top 4)) 0) (defBody (top 4)) B_common_divisor := by
  exact (dss_cons (ds_while (dt_c ci_ne (de_var (i := 1) rfl (.inl (by kernel_rfl)) (by kernel_rfl) (by kernel_rfl)) de_int rfl) (dss_one (ds_par (i := 0) (j := 1) rfl rfl (by decide) (by kernel_rfl) (by kernel_rfl) (by kernel_rfl) (by kernel_rfl) (by kernel_rfl) (by kernel_rfl) (by kernel_rfl) (by kernel_rfl) (da_cons (de_var (i := 1) rfl (.inl (by kernel_rfl)) (by kernel_rfl) (by kernel_rfl)) (da_last (de_mod (de_var (i := 0) rfl (.inl (by kernel_rfl)) (by kernel_rfl) (by kernel_rfl)) (de_var (i := 1) rfl (.inl (by kernel_rfl)) (by kernel_rfl) (by kernel_rfl))) (fun _ _ z => by cases z)) (fun _ _ z => by cases z)))))
    (dss_one (ds_retZ (bi_abs (by kernel_rfl) E.b_abs (de_var (i := 0) rfl (.inl (by kernel_rfl)) (by kernel_rfl) (by kernel_rfl)) rfl))))
theorem g_common_divisor (E : Env S) : Good S "common_divisor" 2 F_common_divisor [] 1 := good_fn (N := ["one", "other"]) (ps := ["one", "other"]) (k := 0) (db := B_common_divisor) E.k_common_divisor sc_common_divisor (ds_common_divisor E) bn_common_divisor rfl
theorem sc_fraction : FnScope ["top", "bottom", "most"] ["top", "bottom"] (defScope (top 5)) := ⟨rfl, rfl, rfl, by decide +kernel, rfl, by decide +kernel, by decide +kernel⟩
theorem bd_fraction_d0 : BindD "fraction" (top 5) ["top", "bottom"] 2 1 1 := fun _ _ _ _ _ _ _ us its hu hi => match us, hu, its, hi with | [_, _], _, [_], _ => ⟨_, rfl, rfl⟩
theorem ds_fraction (E : Env S) : DSs (S.at ["top", "bottom", "most"] (defScope (top 5)) 1) (defBody (top 5)) B_fraction := by
  have g_common_divisor := g_common_divisor E
  exact (dss_cons (ds_if (dt_c ci_eq (de_var (i := 1) rfl (.inl (by kernel_rfl)) (by kernel_rfl) (by kernel_rfl)) de_int rfl) (dss_one ds_no) dss_nil)
    (dss_cons (ds_setZ (i := 2) rfl (.inl (by kernel_rfl)) (.inl rfl) (de_call g_common_divisor.at (show 1 ≤ 1 by decide) (by kernel_rfl) (by kernel_rfl) (da_cons (de_var (i := 0) rfl (.inl (by kernel_rfl)) (by kernel_rfl) (by kernel_rfl)) (da_last (de_var (i := 1) rfl (.inl (by kernel_rfl)) (by kernel_rfl) (by kernel_rfl)) (fun _ _ z => by cases z)) (fun _ _ z => by cases z)) rfl rfl (len_cons len_last)) rfl)
    (dss_cons (ds_if (dt_c ci_lt (de_var (i := 1) rfl (.inl (by kernel_rfl)) (by kernel_rfl) (by kernel_rfl)) de_int rfl) (dss_one (ds_setZ (i := 2) rfl (.inl (by kernel_rfl)) (.inl rfl) (de_neg (de_var (i := 2) rfl (.inl (by kernel_rfl)) (by kernel_rfl) (by kernel_rfl))) rfl)) dss_nil)
    (dss_one (ds_retZ (de_tup (da_cons (de_fdiv (de_var (i := 0) rfl (.inl (by kernel_rfl)) (by kernel_rfl) (by kernel_rfl)) (de_var (i := 2) rfl (.inl (by kernel_rfl)) (by kernel_rfl) (by kernel_rfl))) (da_last (de_fdiv (de_var (i := 1) rfl (.inl (by kernel_rfl)) (by kernel_rfl) (by kernel_rfl)) (de_var (i := 2) rfl (.inl (by kernel_rfl)) (by kernel_rfl) (by kernel_rfl))) (fun _ _ z => by cases z)) (fun _ _ z => by cases z))))))))
theorem g_fraction_d0 (E : Env S) : Good S "fraction" 2 F_fraction [] 2 := good_fnD (N := ["top", "bottom", "most"]) (ps := ["top", "bottom"]) (j := 1) (k := 1) (db := B_fraction) E.k_fraction sc_fraction (ds_fraction E) bd_fraction_d0 (by simp) rfl rfl rfl rfl
theorem sc_order : FnScope ["one", "other", "gap"] ["one", "other"] (defScope (top 6)) := ⟨rfl, rfl, rfl, by decide +kernel, rfl, by decide +kernel, by decide +kernel⟩
theorem bn_order : BindN "order" (top 6) ["one", "other"] := (fun _ _ _ _ _ _ us hl => match us, hl with | [_, _], _ => rfl)
theorem ds_order (E : Env S) : DSs (S.at ["one", "other", "gap"] (defScope (top 6)) 0) (defBody (top 6)) B_order := by
  exact (dss_cons (ds_setZ (i := 2) rfl (.inl (by kernel_rfl)) (.inl rfl) (de_sub (de_mul (de_ixs (de_var (i := 0) rfl (.inl (by kernel_rfl)) (by kernel_rfl) (by kernel_rfl)) de_int rfl) (de_ixs (de_var (i := 1) rfl (.inl (by kernel_rfl)) (by kernel_rfl) (by kernel_rfl)) de_int rfl)) (de_mul (de_ixs (de_var (i := 1) rfl (.inl (by kernel_rfl)) (by kernel_rfl) (by kernel_rfl)) de_int rfl) (de_ixs (de_var (i := 0) rfl (.inl (by kernel_rfl)) (by kernel_rfl) (by kernel_rfl)) de_int rfl))) rfl)
    (dss_one (ds_retZ (de_sub (de_c ci_gt (de_var (i := 2) rfl (.inl (by kernel_rfl)) (by kernel_rfl) (by kernel_rfl)) de_int rfl) (de_c ci_lt (de_var (i := 2) rfl (.inl (by kernel_rfl)) (by kernel_rfl) (by kernel_rfl)) de_int rfl)))))
theorem g_order (E : Env S) : Good S "order" 2 F_order [] 1 := good_fn (N := ["one", "other", "gap"]) (ps := ["one", "other"]) (k := 0) (db := B_order) E.k_order sc_order (ds_order E) bn_order rfl
theorem sc_corner_room : FnScope ["one", "other", "place"] ["one", "other", "place"] (defScope (top 10)) := ⟨rfl, rfl, rfl, by decide +kernel, rfl, by decide +kernel, by decide +kernel⟩
theorem bn_corner_room : BindN "corner_room" (top 10) ["one", "other", "place"] := (fun _ _ _ _ _ _ us hl => match us, hl with | [_, _, _], _ => rfl)
theorem ds_corner_room (E : Env S) : DSs (S.at ["one", "other", "place"] (defScope (top 10)) 0) (defBody (top 10)) B_corner_room := by
  exact (dss_one (ds_retZ (de_sub (de_mul (de_sub (de_ixs (de_var (i := 1) rfl (.inl (by kernel_rfl)) (by kernel_rfl) (by kernel_rfl)) de_int rfl) (de_ixs (de_var (i := 0) rfl (.inl (by kernel_rfl)) (by kernel_rfl) (by kernel_rfl)) de_int rfl)) (de_sub (de_ixs (de_var (i := 2) rfl (.inl (by kernel_rfl)) (by kernel_rfl) (by kernel_rfl)) de_int rfl) (de_ixs (de_var (i := 0) rfl (.inl (by kernel_rfl)) (by kernel_rfl) (by kernel_rfl)) de_int rfl))) (de_mul (de_sub (de_ixs (de_var (i := 1) rfl (.inl (by kernel_rfl)) (by kernel_rfl) (by kernel_rfl)) de_int rfl) (de_ixs (de_var (i := 0) rfl (.inl (by kernel_rfl)) (by kernel_rfl) (by kernel_rfl)) de_int rfl)) (de_sub (de_ixs (de_var (i := 2) rfl (.inl (by kernel_rfl)) (by kernel_rfl) (by kernel_rfl)) de_int rfl) (de_ixs (de_var (i := 0) rfl (.inl (by kernel_rfl)) (by kernel_rfl) (by kernel_rfl)) de_int rfl))))))
theorem g_corner_room (E : Env S) : Good S "corner_room" 3 F_corner_room [] 1 := good_fn (N := ["one", "other", "place"]) (ps := ["one", "other", "place"]) (k := 0) (db := B_corner_room) E.k_corner_room sc_corner_room (ds_corner_room E) bn_corner_room rfl
theorem sc_side : FnScope ["one", "other", "place", "found"] ["one", "other", "place"] (defScope (top 11)) := ⟨rfl, rfl, rfl, by decide +kernel, rfl, by decide +kernel, by decide +kernel⟩
theorem bn_side : BindN "side" (top 11) ["one", "other", "place"] := (fun _ _ _ _ _ _ us hl => match us, hl with | [_, _, _], _ => rfl)
theorem ds_side (E : Env S) : DSs (S.at ["one", "other", "place", "found"] (defScope (top 11)) 1) (defBody (top 11)) B_side := by
  have g_corner_room := g_corner_room E
  exact (dss_cons (ds_setZ (i := 3) rfl (.inl (by kernel_rfl)) (.inl rfl) (de_call g_corner_room.at (show 1 ≤ 1 by decide) (by kernel_rfl) (by kernel_rfl) (da_cons (de_var (i := 0) rfl (.inl (by kernel_rfl)) (by kernel_rfl) (by kernel_rfl)) (da_cons (de_var (i := 1) rfl (.inl (by kernel_rfl)) (by kernel_rfl) (by kernel_rfl)) (da_last (de_var (i := 2) rfl (.inl (by kernel_rfl)) (by kernel_rfl) (by kernel_rfl)) (fun _ _ z => by cases z)) (fun _ _ z => by cases z)) (fun _ _ z => by cases z)) rfl rfl (len_cons (len_cons len_last))) rfl)
    (dss_one (ds_retZ (de_sub (de_c ci_gt (de_var (i := 3) rfl (.inl (by kernel_rfl)) (by kernel_rfl) (by kernel_rfl)) de_int rfl) (de_c ci_lt (de_var (i := 3) rfl (.inl (by kernel_rfl)) (by kernel_rfl) (by kernel_rfl)) de_int rfl)))))
theorem g_side (E : Env S) : Good S "side" 3 F_side [] 2 := good_fn (N := ["one", "other", "place", "found"]) (ps := ["one", "other", "place"]) (k := 1) (db := B_side) E.k_side sc_side (ds_side E) bn_side rfl
theorem sc_is_within : FnScope ["low", "number", "high"] ["low", "number", "high"] (defScope (top 12)) := ⟨rfl, rfl, rfl, by decide +kernel, rfl, by decide +kernel, by decide +kernel⟩
theorem bn_is_within : BindN "is_within" (top 12) ["low", "number", "high"] := (fun _ _ _ _ _ _ us hl => match us, hl with | [_, _, _], _ => rfl)
theorem ds_is_within (E : Env S) : DSs (S.at ["low", "number", "high"] (defScope (top 12)) 0) (defBody (top 12)) B_is_within := by
  exact (dss_one (ds_retZ (de_chain ci_le ci_le (bi_min2 (by kernel_rfl) E.b_min (de_var (i := 0) rfl (.inl (by kernel_rfl)) (by kernel_rfl) (by kernel_rfl)) (de_var (i := 2) rfl (.inl (by kernel_rfl)) (by kernel_rfl) (by kernel_rfl)) rfl) (de_var (i := 1) rfl (.inl (by kernel_rfl)) (by kernel_rfl) (by kernel_rfl)) (bi_max2 (by kernel_rfl) E.b_max (de_var (i := 0) rfl (.inl (by kernel_rfl)) (by kernel_rfl) (by kernel_rfl)) (de_var (i := 2) rfl (.inl (by kernel_rfl)) (by kernel_rfl) (by kernel_rfl)) rfl) rfl rfl)))
theorem g_is_within (E : Env S) : Good S "is_within" 3 F_is_within [] 1 := good_fn (N := ["low", "number", "high"]) (ps := ["low", "number", "high"]) (k := 0) (db := B_is_within) E.k_is_within sc_is_within (ds_is_within E) bn_is_within rfl
theorem sc_on_piece : FnScope ["place", "piece", "one", "other"] ["place", "piece"] (defScope (top 13)) := ⟨rfl, rfl, rfl, by decide +kernel, rfl, by decide +kernel, by decide +kernel⟩
theorem bn_on_piece : BindN "on_piece" (top 13) ["place", "piece"] := (fun _ _ _ _ _ _ us hl => match us, hl with | [_, _], _ => rfl)
theorem ds_on_piece (E : Env S) : DSs (S.at ["place", "piece", "one", "other"] (defScope (top 13)) 2) (defBody (top 13)) B_on_piece := by
  have g_side := g_side E
  have g_is_within := g_is_within E
  exact (dss_cons (ds_unpT (dg_tup (dgs_cons (dg_nm (i := 2) rfl (.inl (by kernel_rfl)) (.inl rfl)) (dgs_cons (dg_nm (i := 3) rfl (.inl (by kernel_rfl)) (.inl rfl)) dgs_nil (fun _ _ z => by cases z)) (fun _ _ z => by cases z)) rfl rfl) (de_var (i := 1) rfl (.inl (by kernel_rfl)) (by kernel_rfl) (by kernel_rfl)) rfl)
    (dss_cons (ds_if (dt_c ci_ne (de_call g_side.at (show 2 ≤ 2 by decide) (by kernel_rfl) (by kernel_rfl) (da_cons (de_var (i := 2) rfl (.inl (by kernel_rfl)) (by kernel_rfl) (by kernel_rfl)) (da_cons (de_var (i := 3) rfl (.inl (by kernel_rfl)) (by kernel_rfl) (by kernel_rfl)) (da_last (de_var (i := 0) rfl (.inl (by kernel_rfl)) (by kernel_rfl) (by kernel_rfl)) (fun _ _ z => by cases z)) (fun _ _ z => by cases z)) (fun _ _ z => by cases z)) rfl rfl (len_cons (len_cons len_last))) de_int rfl) (dss_one (ds_retZ de_bl)) dss_nil)
    (dss_one (ds_retZ (de_and (de_call g_is_within.at (show 1 ≤ 2 by decide) (by kernel_rfl) (by kernel_rfl) (da_cons (de_ixs (de_var (i := 2) rfl (.inl (by kernel_rfl)) (by kernel_rfl) (by kernel_rfl)) de_int rfl) (da_cons (de_ixs (de_var (i := 0) rfl (.inl (by kernel_rfl)) (by kernel_rfl) (by kernel_rfl)) de_int rfl) (da_last (de_ixs (de_var (i := 3) rfl (.inl (by kernel_rfl)) (by kernel_rfl) (by kernel_rfl)) de_int rfl) (fun _ _ z => by cases z)) (fun _ _ z => by cases z)) (fun _ _ z => by cases z)) rfl rfl (len_cons (len_cons len_last))) (de_one (de_call g_is_within.at (show 1 ≤ 2 by decide) (by kernel_rfl) (by kernel_rfl) (da_cons (de_ixs (de_var (i := 2) rfl (.inl (by kernel_rfl)) (by kernel_rfl) (by kernel_rfl)) de_int rfl) (da_cons (de_ixs (de_var (i := 0) rfl (.inl (by kernel_rfl)) (by kernel_rfl) (by kernel_rfl)) de_int rfl) (da_last (de_ixs (de_var (i := 3) rfl (.inl (by kernel_rfl)) (by kernel_rfl) (by kernel_rfl)) de_int rfl) (fun _ _ z => by cases z)) (fun _ _ z => by cases z)) (fun _ _ z => by cases z)) rfl rfl (len_cons (len_cons len_last)))))))))
theorem g_on_piece (E : Env S) : Good S "on_piece" 2 F_on_piece [] 3 := good_fn (N := ["place", "piece", "one", "other"]) (ps := ["place", "piece"]) (k := 2) (db := B_on_piece) E.k_on_piece sc_on_piece (ds_on_piece E) bn_on_piece rfl
theorem sc_cut_down : FnScope ["shares", "low", "high", "first", "last"] ["shares", "low", "high"] (defScope (top 14)) := ⟨rfl, rfl, rfl, by decide +kernel, rfl, by decide +kernel, by decide +kernel⟩
theorem bn_cut_down : BindN "cut_down" (top 14) ["shares", "low", "high"] := (fun _ _ _ _ _ _ us hl => match us, hl with | [_, _, _], _ => rfl)
theorem ds_cut_down (E : Env S) : DSs (S.at ["shares", "low", "high", "first", "last"] (defScope (top 14)) 1) (defBody (top 14)) B_cut_down := by
  have g_order := g_order E
  exact (dss_cons (ds_if (dt_c ci_is (de_var (i := 0) rfl (.inl (by kernel_rfl)) (by kernel_rfl) (by kernel_rfl)) de_non rfl) (dss_one (ds_retZ de_non)) dss_nil)
    (dss_cons (ds_setZ (i := 3) rfl (.inl (by kernel_rfl)) (.inl rfl) (de_if (dt_c ci_gt (de_call g_order.at (show 1 ≤ 1 by decide) (by kernel_rfl) (by kernel_rfl) (da_cons (de_var (i := 1) rfl (.inl (by kernel_rfl)) (by kernel_rfl) (by kernel_rfl)) (da_last (de_ixs (de_var (i := 0) rfl (.inl (by kernel_rfl)) (by kernel_rfl) (by kernel_rfl)) de_int rfl) (fun _ _ z => by cases z)) (fun _ _ z => by cases z)) rfl rfl (len_cons len_last)) de_int rfl) (de_var (i := 1) rfl (.inl (by kernel_rfl)) (by kernel_rfl) (by kernel_rfl)) (de_ixs (de_var (i := 0) rfl (.inl (by kernel_rfl)) (by kernel_rfl) (by kernel_rfl)) de_int rfl)) rfl)
    (dss_cons (ds_setZ (i := 4) rfl (.inl (by kernel_rfl)) (.inl rfl) (de_if (dt_c ci_lt (de_call g_order.at (show 1 ≤ 1 by decide) (by kernel_rfl) (by kernel_rfl) (da_cons (de_var (i := 2) rfl (.inl (by kernel_rfl)) (by kernel_rfl) (by kernel_rfl)) (da_last (de_ixs (de_var (i := 0) rfl (.inl (by kernel_rfl)) (by kernel_rfl) (by kernel_rfl)) de_int rfl) (fun _ _ z => by cases z)) (fun _ _ z => by cases z)) rfl rfl (len_cons len_last)) de_int rfl) (de_var (i := 2) rfl (.inl (by kernel_rfl)) (by kernel_rfl) (by kernel_rfl)) (de_ixs (de_var (i := 0) rfl (.inl (by kernel_rfl)) (by kernel_rfl) (by kernel_rfl)) de_int rfl)) rfl)
    (dss_one (ds_retZ (de_if (dt_c ci_gt (de_call g_order.at (show 1 ≤ 1 by decide) (by kernel_rfl) (by kernel_rfl) (da_cons (de_var (i := 3) rfl (.inl (by kernel_rfl)) (by kernel_rfl) (by kernel_rfl)) (da_last (de_var (i := 4) rfl (.inl (by kernel_rfl)) (by kernel_rfl) (by kernel_rfl)) (fun _ _ z => by cases z)) (fun _ _ z => by cases z)) rfl rfl (len_cons len_last)) de_int rfl) de_non (de_tup (da_cons (de_var (i := 3) rfl (.inl (by kernel_rfl)) (by kernel_rfl) (by kernel_rfl)) (da_last (de_var (i := 4) rfl (.inl (by kernel_rfl)) (by kernel_rfl) (by kernel_rfl)) (fun _ _ z => by cases z)) (fun _ _ z => by cases z)))))))))
theorem g_cut_down (E : Env S) : Good S "cut_down" 3 F_cut_down [] 2 := good_fn (N := ["shares", "low", "high", "first", "last"]) (ps := ["shares", "low", "high"]) (k := 1) (db := B_cut_down) E.k_cut_down sc_cut_down (ds_cut_down E) bn_cut_down rfl
theorem sc_slab : FnScope ["shares", "start", "step", "bounds", "low", "high", "ends"] ["shares", "start", "step", "bounds"] (defScope (top 15)) := ⟨rfl, rfl, rfl, by decide +kernel, rfl, by decide +kernel, by decide +kernel⟩
theorem bn_slab : BindN "slab" (top 15) ["shares", "start", "step", "bounds"] := (fun _ _ _ _ _ _ us hl => match us, hl with | [_, _, _, _], _ => rfl)
theorem ds_slab (E : Env S) : DSs (S.at ["shares", "start", "step", "bounds", "low", "high", "ends"] (defScope (top 15)) 2) (defBody (top 15)) B_slab := by
  have g_fraction_d0 := g_fraction_d0 E
  have g_cut_down := g_cut_down E
  exact (dss_cons (ds_unpT (dg_tup (dgs_cons (dg_nm (i := 4) rfl (.inl (by kernel_rfl)) (.inl rfl)) (dgs_cons (dg_nm (i := 5) rfl (.inl (by kernel_rfl)) (.inl rfl)) dgs_nil (fun _ _ z => by cases z)) (fun _ _ z => by cases z)) rfl rfl) (de_var (i := 3) rfl (.inl (by kernel_rfl)) (by kernel_rfl) (by kernel_rfl)) rfl)
    (dss_cons (ds_if (dt_c ci_eq (de_var (i := 2) rfl (.inl (by kernel_rfl)) (by kernel_rfl) (by kernel_rfl)) de_int rfl) (dss_one (ds_retZ (de_if (dt_chain ci_le ci_le (de_var (i := 4) rfl (.inl (by kernel_rfl)) (by kernel_rfl) (by kernel_rfl)) (de_var (i := 1) rfl (.inl (by kernel_rfl)) (by kernel_rfl) (by kernel_rfl)) (de_var (i := 5) rfl (.inl (by kernel_rfl)) (by kernel_rfl) (by kernel_rfl)) rfl rfl) (de_var (i := 0) rfl (.inl (by kernel_rfl)) (by kernel_rfl) (by kernel_rfl)) de_non))) dss_nil)
    (dss_cons (ds_setZ (i := 6) rfl (.inl (by kernel_rfl)) (.inl rfl) (de_tup (da_cons (de_call g_fraction_d0.at (show 2 ≤ 2 by decide) (by kernel_rfl) (by kernel_rfl) (da_cons (de_sub (de_var (i := 4) rfl (.inl (by kernel_rfl)) (by kernel_rfl) (by kernel_rfl)) (de_var (i := 1) rfl (.inl (by kernel_rfl)) (by kernel_rfl) (by kernel_rfl))) (da_last (de_var (i := 2) rfl (.inl (by kernel_rfl)) (by kernel_rfl) (by kernel_rfl)) (fun _ _ z => by cases z)) (fun _ _ z => by cases z)) rfl rfl (len_cons len_last)) (da_last (de_call g_fraction_d0.at (show 2 ≤ 2 by decide) (by kernel_rfl) (by kernel_rfl) (da_cons (de_sub (de_var (i := 5) rfl (.inl (by kernel_rfl)) (by kernel_rfl) (by kernel_rfl)) (de_var (i := 1) rfl (.inl (by kernel_rfl)) (by kernel_rfl) (by kernel_rfl))) (da_last (de_var (i := 2) rfl (.inl (by kernel_rfl)) (by kernel_rfl) (by kernel_rfl)) (fun _ _ z => by cases z)) (fun _ _ z => by cases z)) rfl rfl (len_cons len_last)) (fun _ _ z => by cases z)) (fun _ _ z => by cases z))) rfl)
    (dss_one (ds_retZ (de_if (dt_c ci_gt (de_var (i := 2) rfl (.inl (by kernel_rfl)) (by kernel_rfl) (by kernel_rfl)) de_int rfl) (de_call g_cut_down.at (show 2 ≤ 2 by decide) (by kernel_rfl) (by kernel_rfl) (da_cons (de_var (i := 0) rfl (.inl (by kernel_rfl)) (by kernel_rfl) (by kernel_rfl)) (da_cons (de_ixs (de_var (i := 6) rfl (.inl (by kernel_rfl)) (by kernel_rfl) (by kernel_rfl)) de_int rfl) (da_last (de_ixs (de_var (i := 6) rfl (.inl (by kernel_rfl)) (by kernel_rfl) (by kernel_rfl)) de_int rfl) (fun _ _ z => by cases z)) (fun _ _ z => by cases z)) (fun _ _ z => by cases z)) rfl rfl (len_cons (len_cons len_last))) (de_call g_cut_down.at (show 2 ≤ 2 by decide) (by kernel_rfl) (by kernel_rfl) (da_cons (de_var (i := 0) rfl (.inl (by kernel_rfl)) (by kernel_rfl) (by kernel_rfl)) (da_cons (de_ixs (de_var (i := 6) rfl (.inl (by kernel_rfl)) (by kernel_rfl) (by kernel_rfl)) de_int rfl) (da_last (de_ixs (de_var (i := 6) rfl (.inl (by kernel_rfl)) (by kernel_rfl) (by kernel_rfl)) de_int rfl) (fun _ _ z => by cases z)) (fun _ _ z => by cases z)) (fun _ _ z => by cases z)) rfl rfl (len_cons (len_cons len_last)))))))))
theorem g_slab (E : Env S) : Good S "slab" 4 F_slab [] 3 := good_fn (N := ["shares", "start", "step", "bounds", "low", "high", "ends"]) (ps := ["shares", "start", "step", "bounds"]) (k := 2) (db := B_slab) E.k_slab sc_slab (ds_slab E) bn_slab rfl
theorem sc_block_shares : FnScope ["block", "piece", "across", "up", "to_across", "to_up", "left", "low", "right", "high", "found"] ["block", "piece"] (defScope (top 16)) := ⟨rfl, rfl, rfl, by decide +kernel, rfl, by decide +kernel, by decide +kernel⟩
theorem bn_block_shares : BindN "block_shares" (top 16) ["block", "piece"] := (fun _ _ _ _ _ _ us hl => match us, hl with | [_, _], _ => rfl)
theorem ds_block_shares (E : Env S) : DSs (S.at ["block", "piece", "across", "up", "to_across", "to_up", "left", "low", "right", "high", "found"] (defScope (top 16)) 3) (defBody (top 16)) B_block_shares := by
  have g_slab := g_slab E
  exact (dss_cons (ds_unpT (dg_tup (dgs_cons (dg_tup (dgs_cons (dg_nm (i := 2) rfl (.inl (by kernel_rfl)) (.inl rfl)) (dgs_cons (dg_nm (i := 3) rfl (.inl (by kernel_rfl)) (.inl rfl)) dgs_nil (fun _ _ z => by cases z)) (fun _ _ z => by cases z)) rfl rfl) (dgs_cons (dg_tup (dgs_cons (dg_nm (i := 4) rfl (.inl (by kernel_rfl)) (.inl rfl)) (dgs_cons (dg_nm (i := 5) rfl (.inl (by kernel_rfl)) (.inl rfl)) dgs_nil (fun _ _ z => by cases z)) (fun _ _ z => by cases z)) rfl rfl) dgs_nil (fun _ _ z => by cases z)) (fun _ _ z => by cases z)) rfl rfl) (de_var (i := 1) rfl (.inl (by kernel_rfl)) (by kernel_rfl) (by kernel_rfl)) rfl)
    (dss_cons (ds_unpT (dg_tup (dgs_cons (dg_nm (i := 6) rfl (.inl (by kernel_rfl)) (.inl rfl)) (dgs_cons (dg_nm (i := 7) rfl (.inl (by kernel_rfl)) (.inl rfl)) (dgs_cons (dg_nm (i := 8) rfl (.inl (by kernel_rfl)) (.inl rfl)) (dgs_cons (dg_nm (i := 9) rfl (.inl (by kernel_rfl)) (.inl rfl)) dgs_nil (fun _ _ z => by cases z)) (fun _ _ z => by cases z)) (fun _ _ z => by cases z)) (fun _ _ z => by cases z)) rfl rfl) (de_var (i := 0) rfl (.inl (by kernel_rfl)) (by kernel_rfl) (by kernel_rfl)) rfl)
    (dss_cons (ds_setZ (i := 10) rfl (.inl (by kernel_rfl)) (.inl rfl) (de_call g_slab.at (show 3 ≤ 3 by decide) (by kernel_rfl) (by kernel_rfl) (da_cons (de_tup (da_cons (de_glo E.c_START.at (by kernel_rfl) (by kernel_rfl)) (da_last (de_glo E.c_END.at (by kernel_rfl) (by kernel_rfl)) (fun _ _ z => by cases z)) (fun _ _ z => by cases z))) (da_cons (de_var (i := 2) rfl (.inl (by kernel_rfl)) (by kernel_rfl) (by kernel_rfl)) (da_cons (de_sub (de_var (i := 4) rfl (.inl (by kernel_rfl)) (by kernel_rfl) (by kernel_rfl)) (de_var (i := 2) rfl (.inl (by kernel_rfl)) (by kernel_rfl) (by kernel_rfl))) (da_last (de_tup (da_cons (de_var (i := 6) rfl (.inl (by kernel_rfl)) (by kernel_rfl) (by kernel_rfl)) (da_last (de_var (i := 8) rfl (.inl (by kernel_rfl)) (by kernel_rfl) (by kernel_rfl)) (fun _ _ z => by cases z)) (fun _ _ z => by cases z))) (fun _ _ z => by cases z)) (fun _ _ z => by cases z)) (fun _ _ z => by cases z)) (fun _ _ z => by cases z)) rfl rfl (len_cons (len_cons (len_cons len_last)))) rfl)
    (dss_cons (ds_setZ (i := 10) rfl (.inl (by kernel_rfl)) (.inl rfl) (de_if (dt_c ci_isnot (de_var (i := 10) rfl (.inl (by kernel_rfl)) (by kernel_rfl) (by kernel_rfl)) de_non rfl) (de_call g_slab.at (show 3 ≤ 3 by decide) (by kernel_rfl) (by kernel_rfl) (da_cons (de_var (i := 10) rfl (.inl (by kernel_rfl)) (by kernel_rfl) (by kernel_rfl)) (da_cons (de_var (i := 3) rfl (.inl (by kernel_rfl)) (by kernel_rfl) (by kernel_rfl)) (da_cons (de_sub (de_var (i := 5) rfl (.inl (by kernel_rfl)) (by kernel_rfl) (by kernel_rfl)) (de_var (i := 3) rfl (.inl (by kernel_rfl)) (by kernel_rfl) (by kernel_rfl))) (da_last (de_tup (da_cons (de_var (i := 7) rfl (.inl (by kernel_rfl)) (by kernel_rfl) (by kernel_rfl)) (da_last (de_var (i := 9) rfl (.inl (by kernel_rfl)) (by kernel_rfl) (by kernel_rfl)) (fun _ _ z => by cases z)) (fun _ _ z => by cases z))) (fun _ _ z => by cases z)) (fun _ _ z => by cases z)) (fun _ _ z => by cases z)) (fun _ _ z => by cases z)) rfl rfl (len_cons (len_cons (len_cons len_last)))) de_non) rfl)
    (dss_cons (ds_if (dt_w (dw_and (dt_c ci_isnot (de_var (i := 10) rfl (.inl (by kernel_rfl)) (by kernel_rfl) (by kernel_rfl)) de_non rfl) (dw_and1 (dt_c ci_eq (de_ixs (de_var (i := 1) rfl (.inl (by kernel_rfl)) (by kernel_rfl) (by kernel_rfl)) de_int rfl) (de_ixs (de_var (i := 1) rfl (.inl (by kernel_rfl)) (by kernel_rfl) (by kernel_rfl)) de_int rfl) rfl)))) (dss_one (ds_retZ (de_tup (da_cons (de_glo E.c_START.at (by kernel_rfl) (by kernel_rfl)) (da_last (de_glo E.c_START.at (by kernel_rfl) (by kernel_rfl)) (fun _ _ z => by cases z)) (fun _ _ z => by cases z))))) dss_nil)
    (dss_one (ds_retZ (de_var (i := 10) rfl (.inl (by kernel_rfl)) (by kernel_rfl) (by kernel_rfl)))))))))
theorem g_block_shares (E : Env S) : Good S "block_shares" 2 F_block_shares [] 4 := good_fn (N := ["block", "piece", "across", "up", "to_across", "to_up", "left", "low", "right", "high", "found"]) (ps := ["block", "piece"]) (k := 3) (db := B_block_shares) E.k_block_shares sc_block_shares (ds_block_shares E) bn_block_shares rfl
theorem sc_share_on : FnScope ["piece", "place", "one", "other", "at"] ["piece", "place"] (defScope (top 17)) := ⟨rfl, rfl, rfl, by decide +kernel, rfl, by decide +kernel, by decide +kernel⟩
theorem bn_share_on : BindN "share_on" (top 17) ["piece", "place"] := (fun _ _ _ _ _ _ us hl => match us, hl with | [_, _], _ => rfl)
theorem ds_share_on (E : Env S) : DSs (S.at ["piece", "place", "one", "other", "at"] (defScope (top 17)) 2) (defBody (top 17)) B_share_on := by
  have g_fraction_d0 := g_fraction_d0 E
  exact (dss_cons (ds_unpT (dg_tup (dgs_cons (dg_nm (i := 2) rfl (.inl (by kernel_rfl)) (.inl rfl)) (dgs_cons (dg_nm (i := 3) rfl (.inl (by kernel_rfl)) (.inl rfl)) dgs_nil (fun _ _ z => by cases z)) (fun _ _ z => by cases z)) rfl rfl) (de_var (i := 0) rfl (.inl (by kernel_rfl)) (by kernel_rfl) (by kernel_rfl)) rfl)
    (dss_cons (ds_setZ (i := 4) rfl (.inl (by kernel_rfl)) (.inl rfl) (de_if (dt_c ci_ne (de_ixs (de_var (i := 2) rfl (.inl (by kernel_rfl)) (by kernel_rfl) (by kernel_rfl)) de_int rfl) (de_ixs (de_var (i := 3) rfl (.inl (by kernel_rfl)) (by kernel_rfl) (by kernel_rfl)) de_int rfl) rfl) de_int de_int) rfl)
    (dss_one (ds_retZ (de_call g_fraction_d0.at (show 2 ≤ 2 by decide) (by kernel_rfl) (by kernel_rfl) (da_cons (de_sub (de_ixs (de_var (i := 1) rfl (.inl (by kernel_rfl)) (by kernel_rfl) (by kernel_rfl)) (de_var (i := 4) rfl (.inl (by kernel_rfl)) (by kernel_rfl) (by kernel_rfl)) rfl) (de_ixs (de_var (i := 2) rfl (.inl (by kernel_rfl)) (by kernel_rfl) (by kernel_rfl)) (de_var (i := 4) rfl (.inl (by kernel_rfl)) (by kernel_rfl) (by kernel_rfl)) rfl)) (da_last (de_sub (de_ixs (de_var (i := 3) rfl (.inl (by kernel_rfl)) (by kernel_rfl) (by kernel_rfl)) (de_var (i := 4) rfl (.inl (by kernel_rfl)) (by kernel_rfl) (by kernel_rfl)) rfl) (de_ixs (de_var (i := 2) rfl (.inl (by kernel_rfl)) (by kernel_rfl) (by kernel_rfl)) (de_var (i := 4) rfl (.inl (by kernel_rfl)) (by kernel_rfl) (by kernel_rfl)) rfl)) (fun _ _ z => by cases z)) (fun _ _ z => by cases z)) rfl rfl (len_cons len_last))))))
theorem g_share_on (E : Env S) : Good S "share_on" 2 F_share_on [] 3 := good_fn (N := ["piece", "place", "one", "other", "at"]) (ps := ["piece", "place"]) (k := 2) (db := B_share_on) E.k_share_on sc_share_on (ds_share_on E) bn_share_on rfl
theorem sc_along_shares : FnScope ["other", "piece", "ends"] ["other", "piece"] (defScope (top 18)) := ⟨rfl, rfl, rfl, by decide +kernel, rfl, by decide +kernel, by decide +kernel⟩
theorem bn_along_shares : BindN "along_shares" (top 18) ["other", "piece"] := (fun _ _ _ _ _ _ us hl => match us, hl with | [_, _], _ => rfl)
theorem ds_along_shares (E : Env S) : DSs (S.at ["other", "piece", "ends"] (defScope (top 18)) 3) (defBody (top 18)) B_along_shares := by
  have g_share_on := g_share_on E
  have g_order := g_order E
  have g_cut_down := g_cut_down E
  exact (dss_cons (ds_setZ (i := 2) rfl (.inl (by kernel_rfl)) (.inl rfl) (de_tup (da_cons (de_call g_share_on.at (show 3 ≤ 3 by decide) (by kernel_rfl) (by kernel_rfl) (da_cons (de_var (i := 1) rfl (.inl (by kernel_rfl)) (by kernel_rfl) (by kernel_rfl)) (da_last (de_ixs (de_var (i := 0) rfl (.inl (by kernel_rfl)) (by kernel_rfl) (by kernel_rfl)) de_int rfl) (fun _ _ z => by cases z)) (fun _ _ z => by cases z)) rfl rfl (len_cons len_last)) (da_last (de_call g_share_on.at (show 3 ≤ 3 by decide) (by kernel_rfl) (by kernel_rfl) (da_cons (de_var (i := 1) rfl (.inl (by kernel_rfl)) (by kernel_rfl) (by kernel_rfl)) (da_last (de_ixs (de_var (i := 0) rfl (.inl (by kernel_rfl)) (by kernel_rfl) (by kernel_rfl)) de_int rfl) (fun _ _ z => by cases z)) (fun _ _ z => by cases z)) rfl rfl (len_cons len_last)) (fun _ _ z => by cases z)) (fun _ _ z => by cases z))) rfl)
    (dss_cons (ds_if (dt_c ci_gt (de_call g_order.at (show 1 ≤ 3 by decide) (by kernel_rfl) (by kernel_rfl) (da_cons (de_ixs (de_var (i := 2) rfl (.inl (by kernel_rfl)) (by kernel_rfl) (by kernel_rfl)) de_int rfl) (da_last (de_ixs (de_var (i := 2) rfl (.inl (by kernel_rfl)) (by kernel_rfl) (by kernel_rfl)) de_int rfl) (fun _ _ z => by cases z)) (fun _ _ z => by cases z)) rfl rfl (len_cons len_last)) de_int rfl) (dss_one (ds_setZ (i := 2) rfl (.inl (by kernel_rfl)) (.inl rfl) (de_tup (da_cons (de_ixs (de_var (i := 2) rfl (.inl (by kernel_rfl)) (by kernel_rfl) (by kernel_rfl)) de_int rfl) (da_last (de_ixs (de_var (i := 2) rfl (.inl (by kernel_rfl)) (by kernel_rfl) (by kernel_rfl)) de_int rfl) (fun _ _ z => by cases z)) (fun _ _ z => by cases z))) rfl)) dss_nil)
    (dss_one (ds_retZ (de_call g_cut_down.at (show 2 ≤ 3 by decide) (by kernel_rfl) (by kernel_rfl) (da_cons (de_tup (da_cons (de_glo E.c_START.at (by kernel_rfl) (by kernel_rfl)) (da_last (de_glo E.c_END.at (by kernel_rfl) (by kernel_rfl)) (fun _ _ z => by cases z)) (fun _ _ z => by cases z))) (da_cons (de_ixs (de_var (i := 2) rfl (.inl (by kernel_rfl)) (by kernel_rfl) (by kernel_rfl)) de_int rfl) (da_last (de_ixs (de_var (i := 2) rfl (.inl (by kernel_rfl)) (by kernel_rfl) (by kernel_rfl)) de_int rfl) (fun _ _ z => by cases z)) (fun _ _ z => by cases z)) (fun _ _ z => by cases z)) rfl rfl (len_cons (len_cons len_last)))))))
theorem g_along_shares (E : Env S) : Good S "along_shares" 2 F_along_shares [] 4 := good_fn (N := ["other", "piece", "ends"]) (ps := ["other", "piece"]) (k := 3) (db := B_along_shares) E.k_along_shares sc_along_shares (ds_along_shares E) bn_along_shares rfl
theorem sc_piece_shares : FnScope ["other", "piece", "one", "last", "sides", "whole", "spot", "at", "share"] ["other", "piece"] (defScope (top 19)) := ⟨rfl, rfl, rfl, by decide +kernel, rfl, by decide +kernel, by decide +kernel⟩
theorem bn_piece_shares : BindN "piece_shares" (top 19) ["other", "piece"] := (fun _ _ _ _ _ _ us hl => match us, hl with | [_, _], _ => rfl)
theorem ds_piece_shares (E : Env S) : DSs (S.at ["other", "piece", "one", "last", "sides", "whole", "spot", "at", "share"] (defScope (top 19)) 4) (defBody (top 19)) B_piece_shares := by
  have g_on_piece := g_on_piece E
  have g_corner_room := g_corner_room E
  have g_along_shares := g_along_shares E
  have g_fraction_d0 := g_fraction_d0 E
  have g_cut_down := g_cut_down E
  exact (dss_cons (ds_unpT (dg_tup (dgs_cons (dg_nm (i := 2) rfl (.inl (by kernel_rfl)) (.inl rfl)) (dgs_cons (dg_nm (i := 3) rfl (.inl (by kernel_rfl)) (.inl rfl)) dgs_nil (fun _ _ z => by cases z)) (fun _ _ z => by cases z)) rfl rfl) (de_var (i := 1) rfl (.inl (by kernel_rfl)) (by kernel_rfl) (by kernel_rfl)) rfl)
    (dss_cons (ds_if (dt_c ci_eq (de_var (i := 2) rfl (.inl (by kernel_rfl)) (by kernel_rfl) (by kernel_rfl)) (de_var (i := 3) rfl (.inl (by kernel_rfl)) (by kernel_rfl) (by kernel_rfl)) rfl) (dss_one (ds_retZ (de_if (dt_val (de_call g_on_piece.at (show 3 ≤ 4 by decide) (by kernel_rfl) (by kernel_rfl) (da_cons (de_var (i := 2) rfl (.inl (by kernel_rfl)) (by kernel_rfl) (by kernel_rfl)) (da_last (de_var (i := 0) rfl (.inr (.inl (by kernel_rfl))) (by kernel_rfl) (by kernel_rfl)) (fun _ _ z => by cases z)) (fun _ _ z => by cases z)) rfl rfl (len_cons len_last)) rfl) (de_tup (da_cons (de_glo E.c_START.at (by kernel_rfl) (by kernel_rfl)) (da_last (de_glo E.c_START.at (by kernel_rfl) (by kernel_rfl)) (fun _ _ z => by cases z)) (fun _ _ z => by cases z))) de_non))) dss_nil)
    (dss_cons (ds_setZ (i := 4) rfl (.inr (by kernel_rfl)) (.inl rfl) (de_tup (da_cons (de_call g_corner_room.at (show 1 ≤ 4 by decide) (by kernel_rfl) (by kernel_rfl) (da_cons (de_var (i := 2) rfl (.inl (by kernel_rfl)) (by kernel_rfl) (by kernel_rfl)) (da_cons (de_var (i := 3) rfl (.inl (by kernel_rfl)) (by kernel_rfl) (by kernel_rfl)) (da_last (de_ixs (de_var (i := 0) rfl (.inr (.inl (by kernel_rfl))) (by kernel_rfl) (by kernel_rfl)) de_int rfl) (fun _ _ z => by cases z)) (fun _ _ z => by cases z)) (fun _ _ z => by cases z)) rfl rfl (len_cons (len_cons len_last))) (da_last (de_call g_corner_room.at (show 1 ≤ 4 by decide) (by kernel_rfl) (by kernel_rfl) (da_cons (de_var (i := 2) rfl (.inl (by kernel_rfl)) (by kernel_rfl) (by kernel_rfl)) (da_cons (de_var (i := 3) rfl (.inl (by kernel_rfl)) (by kernel_rfl) (by kernel_rfl)) (da_last (de_ixs (de_var (i := 0) rfl (.inr (.inl (by kernel_rfl))) (by kernel_rfl) (by kernel_rfl)) de_int rfl) (fun _ _ z => by cases z)) (fun _ _ z => by cases z)) (fun _ _ z => by cases z)) rfl rfl (len_cons (len_cons len_last))) (fun _ _ z => by cases z)) (fun _ _ z => by cases z))) rfl)
    (dss_cons (ds_if (dt_c ci_eq (de_var (i := 4) rfl (.inr (.inl (by kernel_rfl))) (by kernel_rfl) (by kernel_rfl)) (de_tup (da_cons de_int (da_last de_int (fun _ _ z => by cases z)) (fun _ _ z => by cases z))) rfl) (dss_one (ds_retZ (de_call g_along_shares.at (show 4 ≤ 4 by decide) (by kernel_rfl) (by kernel_rfl) (da_cons (de_var (i := 0) rfl (.inr (.inl (by kernel_rfl))) (by kernel_rfl) (by kernel_rfl)) (da_last (de_var (i := 1) rfl (.inl (by kernel_rfl)) (by kernel_rfl) (by kernel_rfl)) (fun _ _ z => by cases z)) (fun _ _ z => by cases z)) rfl rfl (len_cons len_last)))) dss_nil)
    (dss_cons (ds_if (dt_c ci_gt (de_mul (de_ixs (de_var (i := 4) rfl (.inr (.inl (by kernel_rfl))) (by kernel_rfl) (by kernel_rfl)) de_int rfl) (de_ixs (de_var (i := 4) rfl (.inr (.inl (by kernel_rfl))) (by kernel_rfl) (by kernel_rfl)) de_int rfl)) de_int rfl) (dss_one (ds_retZ de_non)) dss_nil)
    (dss_cons (ds_setZ (i := 5) rfl (.inr (by kernel_rfl)) (.inl rfl) (de_sub (de_ixs (de_var (i := 4) rfl (.inr (.inl (by kernel_rfl))) (by kernel_rfl) (by kernel_rfl)) de_int rfl) (de_ixs (de_var (i := 4) rfl (.inr (.inl (by kernel_rfl))) (by kernel_rfl) (by kernel_rfl)) de_int rfl)) rfl)
    (dss_cons (ds_setLcZ (own := [("at", 7)]) (di_val (de_tup (da_cons de_int (da_last de_int (fun _ _ z => by cases z)) (fun _ _ z => by cases z)))) (dg_nm (i := 7) rfl (.inl (by kernel_rfl)) (.inr (by kernel_rfl))) dif_nil (de_add (de_mul (de_ixs (de_ixs (de_var (i := 0) rfl (.inr (.inl (by kernel_rfl))) (by kernel_rfl) (by kernel_rfl)) de_int rfl) (de_var (i := 7) rfl (.inl (by kernel_rfl)) (by kernel_rfl) (by kernel_rfl)) rfl) (de_var (i := 5) rfl (.inr (.inl (by kernel_rfl))) (by kernel_rfl) (by kernel_rfl))) (de_mul (de_sub (de_ixs (de_ixs (de_var (i := 0) rfl (.inr (.inl (by kernel_rfl))) (by kernel_rfl) (by kernel_rfl)) de_int rfl) (de_var (i := 7) rfl (.inl (by kernel_rfl)) (by kernel_rfl) (by kernel_rfl)) rfl) (de_ixs (de_ixs (de_var (i := 0) rfl (.inr (.inl (by kernel_rfl))) (by kernel_rfl) (by kernel_rfl)) de_int rfl) (de_var (i := 7) rfl (.inl (by kernel_rfl)) (by kernel_rfl) (by kernel_rfl)) rfl)) (de_ixs (de_var (i := 4) rfl (.inr (.inl (by kernel_rfl))) (by kernel_rfl) (by kernel_rfl)) de_int rfl))) (blk_ok (by kernel_rfl)) (by decide +kernel) rfl (i := 6) rfl (by kernel_rfl) (by kernel_rfl) (by kernel_rfl) (by kernel_rfl))
    (dss_cons (ds_setZ (i := 7) rfl (.inl (by kernel_rfl)) (.inl rfl) (de_if (dt_c ci_ne (de_ixs (de_var (i := 2) rfl (.inl (by kernel_rfl)) (by kernel_rfl) (by kernel_rfl)) de_int rfl) (de_ixs (de_var (i := 3) rfl (.inl (by kernel_rfl)) (by kernel_rfl) (by kernel_rfl)) de_int rfl) rfl) de_int de_int) rfl)
    (dss_cons (ds_setZ (i := 8) rfl (.inl (by kernel_rfl)) (.inl rfl) (de_call g_fraction_d0.at (show 2 ≤ 4 by decide) (by kernel_rfl) (by kernel_rfl) (da_cons (de_sub (de_ixs (de_var (i := 6) rfl (.inl (by kernel_rfl)) (by kernel_rfl) (by kernel_rfl)) (de_var (i := 7) rfl (.inl (by kernel_rfl)) (by kernel_rfl) (by kernel_rfl)) rfl) (de_mul (de_ixs (de_var (i := 2) rfl (.inl (by kernel_rfl)) (by kernel_rfl) (by kernel_rfl)) (de_var (i := 7) rfl (.inl (by kernel_rfl)) (by kernel_rfl) (by kernel_rfl)) rfl) (de_var (i := 5) rfl (.inr (.inl (by kernel_rfl))) (by kernel_rfl) (by kernel_rfl)))) (da_last (de_mul (de_sub (de_ixs (de_var (i := 3) rfl (.inl (by kernel_rfl)) (by kernel_rfl) (by kernel_rfl)) (de_var (i := 7) rfl (.inl (by kernel_rfl)) (by kernel_rfl) (by kernel_rfl)) rfl) (de_ixs (de_var (i := 2) rfl (.inl (by kernel_rfl)) (by kernel_rfl) (by kernel_rfl)) (de_var (i := 7) rfl (.inl (by kernel_rfl)) (by kernel_rfl) (by kernel_rfl)) rfl)) (de_var (i := 5) rfl (.inr (.inl (by kernel_rfl))) (by kernel_rfl) (by kernel_rfl))) (fun _ _ z => by cases z)) (fun _ _ z => by cases z)) rfl rfl (len_cons len_last)) rfl)
    (dss_one (ds_retZ (de_call g_cut_down.at (show 2 ≤ 4 by decide) (by kernel_rfl) (by kernel_rfl) (da_cons (de_tup (da_cons (de_glo E.c_START.at (by kernel_rfl) (by kernel_rfl)) (da_last (de_glo E.c_END.at (by kernel_rfl) (by kernel_rfl)) (fun _ _ z => by cases z)) (fun _ _ z => by cases z))) (da_cons (de_var (i := 8) rfl (.inl (by kernel_rfl)) (by kernel_rfl) (by kernel_rfl)) (da_last (de_var (i := 8) rfl (.inl (by kernel_rfl)) (by kernel_rfl) (by kernel_rfl)) (fun _ _ z => by cases z)) (fun _ _ z => by cases z)) (fun _ _ z => by cases z)) rfl rfl (len_cons (len_cons len_last))))))))))))))
theorem g_piece_shares (E : Env S) : Good S "piece_shares" 2 F_piece_shares [] 5 := good_fn (N := ["other", "piece", "one", "last", "sides", "whole", "spot", "at", "share"]) (ps := ["other", "piece"]) (k := 4) (db := B_piece_shares) E.k_piece_shares sc_piece_shares (ds_piece_shares E) bn_piece_shares rfl
theorem sc_pieces_meet : FnScope ["one", "other"] ["one", "other"] (defScope (top 20)) := ⟨rfl, rfl, rfl, by decide +kernel, rfl, by decide +kernel, by decide +kernel⟩
theorem bn_pieces_meet : BindN "pieces_meet" (top 20) ["one", "other"] := (fun _ _ _ _ _ _ us hl => match us, hl with | [_, _], _ => rfl)
theorem ds_pieces_meet (E : Env S) : DSs (S.at ["one", "other"] (defScope (top 20)) 5) (defBody (top 20)) B_pieces_meet := by
  have g_piece_shares := g_piece_shares E
  exact (dss_one (ds_retZ (de_c ci_isnot (de_call g_piece_shares.at (show 5 ≤ 5 by decide) (by kernel_rfl) (by kernel_rfl) (da_cons (de_var (i := 1) rfl (.inl (by kernel_rfl)) (by kernel_rfl) (by kernel_rfl)) (da_last (de_var (i := 0) rfl (.inl (by kernel_rfl)) (by kernel_rfl) (by kernel_rfl)) (fun _ _ z => by cases z)) (fun _ _ z => by cases z)) rfl rfl (len_cons len_last)) de_non rfl)))
theorem g_pieces_meet (E : Env S) : Good S "pieces_meet" 2 F_pieces_meet [] 6 := good_fn (N := ["one", "other"]) (ps := ["one", "other"]) (k := 5) (db := B_pieces_meet) E.k_pieces_meet sc_pieces_meet (ds_pieces_meet E) bn_pieces_meet rfl
theorem sc_block_meets : FnScope ["block", "piece"] ["block", "piece"] (defScope (top 21)) := ⟨rfl, rfl, rfl, by decide +kernel, rfl, by decide +kernel, by decide +kernel⟩
theorem bn_block_meets : BindN "block_meets" (top 21) ["block", "piece"] := (fun _ _ _ _ _ _ us hl => match us, hl with | [_, _], _ => rfl)
theorem ds_block_meets (E : Env S) : DSs (S.at ["block", "piece"] (defScope (top 21)) 4) (defBody (top 21)) B_block_meets := by
  have g_block_shares := g_block_shares E
  exact (dss_one (ds_retZ (de_c ci_isnot (de_call g_block_shares.at (show 4 ≤ 4 by decide) (by kernel_rfl) (by kernel_rfl) (da_cons (de_var (i := 0) rfl (.inl (by kernel_rfl)) (by kernel_rfl) (by kernel_rfl)) (da_last (de_var (i := 1) rfl (.inl (by kernel_rfl)) (by kernel_rfl) (by kernel_rfl)) (fun _ _ z => by cases z)) (fun _ _ z => by cases z)) rfl rfl (len_cons len_last)) de_non rfl)))
theorem g_block_meets (E : Env S) : Good S "block_meets" 2 F_block_meets [] 5 := good_fn (N := ["block", "piece"]) (ps := ["block", "piece"]) (k := 4) (db := B_block_meets) E.k_block_meets sc_block_meets (ds_block_meets E) bn_block_meets rfl
theorem sc_l_bag : FnScope ["_law_script", "_law_salt", "_law_cell"] ["_law_script"] (defScope (top 23)) := ⟨rfl, rfl, rfl, by decide +kernel, rfl, by decide +kernel, by decide +kernel⟩
theorem bn_l_bag : BindN "_law_bag" (top 23) ["_law_script"] := (fun _ _ _ _ _ _ us hl => match us, hl with | [_], _ => rfl)
theorem ds_l_bag (E : Env S) : DSs (S.at ["_law_script", "_law_salt", "_law_cell"] (defScope (top 23)) 0) (defBody (top 23)) B_l_bag := by
  exact (dss_cons (ds_setZ (i := 1) rfl (.inl (by kernel_rfl)) (.inl rfl) (de_add de_int (bi_len (by kernel_rfl) E.b_len (de_slH (de_var (i := 0) rfl (.inl (by kernel_rfl)) (by kernel_rfl) (by kernel_rfl)) de_int) rfl)) rfl)
    (dss_cons (ds_for (di_val (de_slH (de_var (i := 0) rfl (.inl (by kernel_rfl)) (by kernel_rfl) (by kernel_rfl)) de_int)) (dg_nm (i := 2) rfl (.inl (by kernel_rfl)) (.inl rfl)) (dss_one (ds_setZ (i := 1) rfl (.inl (by kernel_rfl)) (.inl rfl) (de_mod (de_add (de_add (de_mul (de_var (i := 1) rfl (.inl (by kernel_rfl)) (by kernel_rfl) (by kernel_rfl)) de_int) (de_mod (de_var (i := 2) rfl (.inl (by kernel_rfl)) (by kernel_rfl) (by kernel_rfl)) de_int)) de_int) de_int) rfl)) rfl)
    (dss_one (ds_ret (de_lst (da_cons (bi_list (by kernel_rfl) E.b_list (de_slH (de_var (i := 0) rfl (.inl (by kernel_rfl)) (by kernel_rfl) (by kernel_rfl)) de_int) rfl) (da_cons de_int (da_cons de_int (da_cons (de_var (i := 1) rfl (.inl (by kernel_rfl)) (by kernel_rfl) (by kernel_rfl)) (da_last de_int (fun _ _ z => by cases z)) (fun _ _ z => by cases z)) (fun _ _ z => by cases z)) (fun _ _ z => by cases z)) (fun _ _ z => by cases z)))))))
theorem g_l_bag (E : Env S) : Good S "_law_bag" 1 F_l_bag [] 1 := good_fn (N := ["_law_script", "_law_salt", "_law_cell"]) (ps := ["_law_script"]) (k := 0) (db := B_l_bag) E.k_l_bag sc_l_bag (ds_l_bag E) bn_l_bag rfl
theorem sc_l_pull : FnScope ["_law_bag_here", "_law_many", "_law_cell", "_law_got", "_law_wider"] ["_law_bag_here", "_law_many"] (defScope (top 24)) := ⟨rfl, rfl, rfl, by decide +kernel, rfl, by decide +kernel, by decide +kernel⟩
theorem bn_l_pull : BindN "_law_pull" (top 24) ["_law_bag_here", "_law_many"] := (fun _ _ _ _ _ _ us hl => match us, hl with | [_, _], _ => rfl)
theorem ds_l_pull (E : Env S) : DSs (S.at ["_law_bag_here", "_law_many", "_law_cell", "_law_got", "_law_wider"] (defScope (top 24)) 0) (defBody (top 24)) B_l_pull := by
  exact (dss_cons (ds_if (dt_w (dw_and (dt_c ci_eq (de_ixs (de_var (i := 0) rfl (.inl (by kernel_rfl)) (by kernel_rfl) (by kernel_rfl)) de_int rfl) de_int rfl) (dw_and1 (dt_c ci_lt (de_ixs (de_var (i := 0) rfl (.inl (by kernel_rfl)) (by kernel_rfl) (by kernel_rfl)) de_int rfl) (bi_len (by kernel_rfl) E.b_len (de_ixs (de_var (i := 0) rfl (.inl (by kernel_rfl)) (by kernel_rfl) (by kernel_rfl)) de_int rfl) rfl) rfl)))) (dss_cons (ds_setZ (i := 2) rfl (.inl (by kernel_rfl)) (.inl rfl) (de_ixs (de_ixs (de_var (i := 0) rfl (.inl (by kernel_rfl)) (by kernel_rfl) (by kernel_rfl)) de_int rfl) (de_ixs (de_var (i := 0) rfl (.inl (by kernel_rfl)) (by kernel_rfl) (by kernel_rfl)) de_int rfl) rfl) rfl)
    (dss_cons (ds_putc (de_var (i := 0) rfl (.inl (by kernel_rfl)) (by kernel_rfl) (by kernel_rfl)) de_int (de_add (de_ixs (de_var (i := 0) rfl (.inl (by kernel_rfl)) (by kernel_rfl) (by kernel_rfl)) de_int rfl) de_int) rfl rfl rfl)
    (dss_one (ds_if (dt_c ci_ge (de_var (i := 2) rfl (.inl (by kernel_rfl)) (by kernel_rfl) (by kernel_rfl)) (de_pow de_int de_int) rfl) (dss_one (ds_putc (de_var (i := 0) rfl (.inl (by kernel_rfl)) (by kernel_rfl) (by kernel_rfl)) de_int (de_var (i := 2) rfl (.inl (by kernel_rfl)) (by kernel_rfl) (by kernel_rfl)) rfl rfl rfl)) (dss_one (ds_putc (de_var (i := 0) rfl (.inl (by kernel_rfl)) (by kernel_rfl) (by kernel_rfl)) de_int (de_mod (de_add (de_add (de_mul (de_ixs (de_var (i := 0) rfl (.inl (by kernel_rfl)) (by kernel_rfl) (by kernel_rfl)) de_int rfl) de_int) (de_mod (de_var (i := 2) rfl (.inl (by kernel_rfl)) (by kernel_rfl) (by kernel_rfl)) de_int)) de_int) de_int) rfl rfl rfl)))))) dss_nil)
    (dss_cons (ds_if (dt_c ci_gt (de_ixs (de_var (i := 0) rfl (.inl (by kernel_rfl)) (by kernel_rfl) (by kernel_rfl)) de_int rfl) de_int rfl) (dss_cons (ds_setZ (i := 3) rfl (.inl (by kernel_rfl)) (.inl rfl) (de_mod (de_ixs (de_var (i := 0) rfl (.inl (by kernel_rfl)) (by kernel_rfl) (by kernel_rfl)) de_int rfl) (de_var (i := 1) rfl (.inl (by kernel_rfl)) (by kernel_rfl) (by kernel_rfl))) rfl)
    (dss_cons (ds_putc (de_var (i := 0) rfl (.inl (by kernel_rfl)) (by kernel_rfl) (by kernel_rfl)) de_int (de_fdiv (de_ixs (de_var (i := 0) rfl (.inl (by kernel_rfl)) (by kernel_rfl) (by kernel_rfl)) de_int rfl) (de_var (i := 1) rfl (.inl (by kernel_rfl)) (by kernel_rfl) (by kernel_rfl))) rfl rfl rfl)
    (dss_one (ds_retZ (de_var (i := 3) rfl (.inl (by kernel_rfl)) (by kernel_rfl) (by kernel_rfl)))))) dss_nil)
    (dss_cons (ds_putc (de_var (i := 0) rfl (.inl (by kernel_rfl)) (by kernel_rfl) (by kernel_rfl)) de_int (de_add (de_ixs (de_var (i := 0) rfl (.inl (by kernel_rfl)) (by kernel_rfl) (by kernel_rfl)) de_int rfl) de_int) rfl rfl rfl)
    (dss_cons (ds_setZ (i := 4) rfl (.inl (by kernel_rfl)) (.inl rfl) (de_add (de_mul (de_ixs (de_var (i := 0) rfl (.inl (by kernel_rfl)) (by kernel_rfl) (by kernel_rfl)) de_int rfl) (de_ixs (de_var (i := 0) rfl (.inl (by kernel_rfl)) (by kernel_rfl) (by kernel_rfl)) de_int rfl)) (de_mul (de_mul de_int (de_ixs (de_var (i := 0) rfl (.inl (by kernel_rfl)) (by kernel_rfl) (by kernel_rfl)) de_int rfl)) (de_add (de_mod (de_ixs (de_var (i := 0) rfl (.inl (by kernel_rfl)) (by kernel_rfl) (by kernel_rfl)) de_int rfl) de_int) de_int))) rfl)
    (dss_cons (ds_putc (de_var (i := 0) rfl (.inl (by kernel_rfl)) (by kernel_rfl) (by kernel_rfl)) de_int (de_mod (de_add (de_add (de_var (i := 4) rfl (.inl (by kernel_rfl)) (by kernel_rfl) (by kernel_rfl)) (de_mul (de_mul (de_ixs (de_var (i := 0) rfl (.inl (by kernel_rfl)) (by kernel_rfl) (by kernel_rfl)) de_int rfl) (de_ixs (de_var (i := 0) rfl (.inl (by kernel_rfl)) (by kernel_rfl) (by kernel_rfl)) de_int rfl)) (de_ixs (de_var (i := 0) rfl (.inl (by kernel_rfl)) (by kernel_rfl) (by kernel_rfl)) de_int rfl))) de_int) de_int) rfl rfl rfl)
    (dss_one (ds_retZ (de_mod (de_add (de_fdiv (de_ixs (de_var (i := 0) rfl (.inl (by kernel_rfl)) (by kernel_rfl) (by kernel_rfl)) de_int rfl) de_int) (de_mul (de_mod (de_ixs (de_var (i := 0) rfl (.inl (by kernel_rfl)) (by kernel_rfl) (by kernel_rfl)) de_int rfl) de_int) de_int)) (de_var (i := 1) rfl (.inl (by kernel_rfl)) (by kernel_rfl) (by kernel_rfl))))))))))
theorem g_l_pull (E : Env S) : Good S "_law_pull" 2 F_l_pull [] 1 := good_fn (N := ["_law_bag_here", "_law_many", "_law_cell", "_law_got", "_law_wider"]) (ps := ["_law_bag_here", "_law_many"]) (k := 0) (db := B_l_pull) E.k_l_pull sc_l_pull (ds_l_pull E) bn_l_pull rfl
theorem sc_l_one : FnScope ["_law_bag_here", "_law_some"] ["_law_bag_here", "_law_some"] (defScope (top 25)) := ⟨rfl, rfl, rfl, by decide +kernel, rfl, by decide +kernel, by decide +kernel⟩
theorem bn_l_one : BindN "_law_one" (top 25) ["_law_bag_here", "_law_some"] := (fun _ _ _ _ _ _ us hl => match us, hl with | [_, _], _ => rfl)
theorem ds_l_one (E : Env S) : DSs (S.at ["_law_bag_here", "_law_some"] (defScope (top 25)) 1) (defBody (top 25)) B_l_one := by
  have g_l_pull := g_l_pull E
  exact (dss_one (ds_retZ (de_ixs (de_var (i := 1) rfl (.inl (by kernel_rfl)) (by kernel_rfl) (by kernel_rfl)) (de_call g_l_pull.at (show 1 ≤ 1 by decide) (by kernel_rfl) (by kernel_rfl) (da_cons (de_var (i := 0) rfl (.inl (by kernel_rfl)) (by kernel_rfl) (by kernel_rfl)) (da_last (bi_len (by kernel_rfl) E.b_len (de_var (i := 1) rfl (.inl (by kernel_rfl)) (by kernel_rfl) (by kernel_rfl)) rfl) (fun _ _ z => by cases z)) (fun _ _ z => by cases z)) rfl rfl (len_cons len_last)) rfl)))
theorem g_l_one (E : Env S) : Good S "_law_one" 2 F_l_one [] 2 := good_fn (N := ["_law_bag_here", "_law_some"]) (ps := ["_law_bag_here", "_law_some"]) (k := 1) (db := B_l_one) E.k_l_one sc_l_one (ds_l_one E) bn_l_one rfl
theorem sc_l_same : FnScope ["_law_got", "_law_due", "_law_k"] ["_law_got", "_law_due"] (defScope (top 26)) := ⟨rfl, rfl, rfl, by decide +kernel, rfl, by decide +kernel, by decide +kernel⟩
theorem bn_l_same : BindN "_law_same" (top 26) ["_law_got", "_law_due"] := (fun _ _ _ _ _ _ us hl => match us, hl with | [_, _], _ => rfl)
theorem ds_l_same (E : Env S) (m : Nat) (g_rec : Good S "_law_same" 2 (F_l_same m) [] (1 + m)) : DSs (S.at ["_law_got", "_law_due", "_law_k"] (defScope (top 26)) (1 + m)) (defBody (top 26)) (B_l_same (F_l_same m)) := by
  exact (dss_cons (ds_if (dt_w (dw_or (dt_c ci_is (de_var (i := 1) rfl (.inr (.inl (by kernel_rfl))) (by kernel_rfl) (by kernel_rfl)) de_non rfl) (dw_or1 (dt_c ci_is (de_var (i := 0) rfl (.inr (.inl (by kernel_rfl))) (by kernel_rfl) (by kernel_rfl)) de_non rfl)))) (dss_one (ds_retZ (de_and (de_c ci_is (de_var (i := 1) rfl (.inr (.inl (by kernel_rfl))) (by kernel_rfl) (by kernel_rfl)) de_non rfl) (de_one (de_c ci_is (de_var (i := 0) rfl (.inr (.inl (by kernel_rfl))) (by kernel_rfl) (by kernel_rfl)) de_non rfl))))) dss_nil)
    (dss_cons (ds_if (dt_w (dw_or (dt_val (de_isi (by kernel_rfl) E.b_isinstance (de_var (i := 1) rfl (.inr (.inl (by kernel_rfl))) (by kernel_rfl) (by kernel_rfl)) rfl (by kernel_rfl) E.b_bool (by rfl) (by decide) (by kernel_rfl)) rfl) (dw_or1 (dt_val (de_isi (by kernel_rfl) E.b_isinstance (de_var (i := 0) rfl (.inr (.inl (by kernel_rfl))) (by kernel_rfl) (by kernel_rfl)) rfl (by kernel_rfl) E.b_bool (by rfl) (by decide) (by kernel_rfl)) rfl)))) (dss_one (ds_retZ (de_and (de_isi (by kernel_rfl) E.b_isinstance (de_var (i := 1) rfl (.inr (.inl (by kernel_rfl))) (by kernel_rfl) (by kernel_rfl)) rfl (by kernel_rfl) E.b_bool (by rfl) (by decide) (by kernel_rfl)) (de_and (de_isi (by kernel_rfl) E.b_isinstance (de_var (i := 0) rfl (.inr (.inl (by kernel_rfl))) (by kernel_rfl) (by kernel_rfl)) rfl (by kernel_rfl) E.b_bool (by rfl) (by decide) (by kernel_rfl)) (de_one (de_c ci_eq (de_var (i := 0) rfl (.inr (.inl (by kernel_rfl))) (by kernel_rfl) (by kernel_rfl)) (de_var (i := 1) rfl (.inr (.inl (by kernel_rfl))) (by kernel_rfl) (by kernel_rfl)) rfl)))))) dss_nil)
    (dss_cons (ds_if (dt_val (de_isiT (by kernel_rfl) E.b_isinstance (de_var (i := 1) rfl (.inr (.inl (by kernel_rfl))) (by kernel_rfl) (by kernel_rfl)) rfl rfl (tyns_cons (by kernel_rfl) E.b_int (by rfl) (by decide) (by kernel_rfl) (tyns_cons (by kernel_rfl) E.b_str (by rfl) (by decide) (by kernel_rfl) tyns_nil))) rfl) (dss_one (ds_retZ (de_and (de_c ci_eq (de_isi (by kernel_rfl) E.b_isinstance (de_var (i := 0) rfl (.inr (.inl (by kernel_rfl))) (by kernel_rfl) (by kernel_rfl)) rfl (by kernel_rfl) E.b_int (by rfl) (by decide) (by kernel_rfl)) (de_isi (by kernel_rfl) E.b_isinstance (de_var (i := 1) rfl (.inr (.inl (by kernel_rfl))) (by kernel_rfl) (by kernel_rfl)) rfl (by kernel_rfl) E.b_int (by rfl) (by decide) (by kernel_rfl)) rfl) (de_one (de_c ci_eq (de_var (i := 0) rfl (.inr (.inl (by kernel_rfl))) (by kernel_rfl) (by kernel_rfl)) (de_var (i := 1) rfl (.inr (.inl (by kernel_rfl))) (by kernel_rfl) (by kernel_rfl)) rfl))))) dss_nil)
    (dss_cons (ds_if (dt_w (dw_or (dt_c ci_ne (de_isi (by kernel_rfl) E.b_isinstance (de_var (i := 1) rfl (.inr (.inl (by kernel_rfl))) (by kernel_rfl) (by kernel_rfl)) rfl (by kernel_rfl) E.b_list (by rfl) (by decide) (by kernel_rfl)) (de_isi (by kernel_rfl) E.b_isinstance (de_var (i := 0) rfl (.inr (.inl (by kernel_rfl))) (by kernel_rfl) (by kernel_rfl)) rfl (by kernel_rfl) E.b_list (by rfl) (by decide) (by kernel_rfl)) rfl) (dw_or1 (dt_c ci_ne (de_isi (by kernel_rfl) E.b_isinstance (de_var (i := 1) rfl (.inr (.inl (by kernel_rfl))) (by kernel_rfl) (by kernel_rfl)) rfl (by kernel_rfl) E.b_tuple (by rfl) (by decide) (by kernel_rfl)) (de_isi (by kernel_rfl) E.b_isinstance (de_var (i := 0) rfl (.inr (.inl (by kernel_rfl))) (by kernel_rfl) (by kernel_rfl)) rfl (by kernel_rfl) E.b_tuple (by rfl) (by decide) (by kernel_rfl)) rfl)))) (dss_one (ds_retZ de_bl)) dss_nil)
    (dss_one (ds_retZ (de_and (de_c ci_eq (bi_len (by kernel_rfl) E.b_len (de_var (i := 0) rfl (.inr (.inl (by kernel_rfl))) (by kernel_rfl) (by kernel_rfl)) rfl) (bi_len (by kernel_rfl) E.b_len (de_var (i := 1) rfl (.inr (.inl (by kernel_rfl))) (by kernel_rfl) (by kernel_rfl)) rfl) rfl) (de_one (bi_all (by kernel_rfl) E.b_all (de_lc (own := [("_law_k", 2)]) (di_rng1 (da_last (bi_len (by kernel_rfl) E.b_len (de_var (i := 1) rfl (.inr (.inl (by kernel_rfl))) (by kernel_rfl) (by kernel_rfl)) rfl) (fun _ _ z => by cases z)) (fun _ _ z => by cases z) (by kernel_rfl) E.b_range) (dg_nm (i := 2) rfl (.inl (by kernel_rfl)) (.inr (by kernel_rfl))) dif_nil (de_call g_rec.at.blk (Nat.le_refl _) (by kernel_rfl) (by kernel_rfl) (da_cons (de_ixs (de_var (i := 0) rfl (.inr (.inl (by kernel_rfl))) (by kernel_rfl) (by kernel_rfl)) (de_var (i := 2) rfl (.inl (by kernel_rfl)) (by kernel_rfl) (by kernel_rfl)) rfl) (da_last (de_ixs (de_var (i := 1) rfl (.inr (.inl (by kernel_rfl))) (by kernel_rfl) (by kernel_rfl)) (de_var (i := 2) rfl (.inl (by kernel_rfl)) (by kernel_rfl) (by kernel_rfl)) rfl) (fun _ _ z => by cases z)) (fun _ _ z => by cases z)) rfl rfl (len_cons len_last)) (blk_ok (by kernel_rfl)) (by decide +kernel) rfl) rfl)))))))))
theorem g_l_same (E : Env S) : ∀ m, Good S "_law_same" 2 (F_l_same m) [] (1 + m)
  | 0 => good_stuck (N := ["_law_got", "_law_due", "_law_k"]) (ps := ["_law_got", "_law_due"]) (k := 0) E.k_l_same sc_l_same bn_l_same rfl
  | m + 1 => good_fn (N := ["_law_got", "_law_due", "_law_k"]) (ps := ["_law_got", "_law_due"]) (k := 1 + m) (db := B_l_same (F_l_same m)) E.k_l_same sc_l_same (ds_l_same E m (g_l_same E m)) bn_l_same rfl
theorem sc_l_grid : FnScope ["_law_bag_here", "_law_way"] ["_law_bag_here"] (defScope (top 27)) := ⟨rfl, rfl, rfl, by decide +kernel, rfl, by decide +kernel, by decide +kernel⟩
theorem bn_l_grid : BindN "_law_grid" (top 27) ["_law_bag_here"] := (fun _ _ _ _ _ _ us hl => match us, hl with | [_], _ => rfl)
theorem ds_l_grid (E : Env S) : DSs (S.at ["_law_bag_here", "_law_way"] (defScope (top 27)) 1) (defBody (top 27)) B_l_grid := by
  have g_l_pull := g_l_pull E
  exact (dss_cons (ds_setZ (i := 1) rfl (.inl (by kernel_rfl)) (.inl rfl) (de_call g_l_pull.at (show 1 ≤ 1 by decide) (by kernel_rfl) (by kernel_rfl) (da_cons (de_var (i := 0) rfl (.inl (by kernel_rfl)) (by kernel_rfl) (by kernel_rfl)) (da_last de_int (fun _ _ z => by cases z)) (fun _ _ z => by cases z)) rfl rfl (len_cons len_last)) rfl)
    (dss_cons (ds_if (dt_c ci_lt (de_var (i := 1) rfl (.inl (by kernel_rfl)) (by kernel_rfl) (by kernel_rfl)) de_int rfl) (dss_one (ds_retZ (de_tup (da_cons de_int (da_cons de_int (da_last de_int (fun _ _ z => by cases z)) (fun _ _ z => by cases z)) (fun _ _ z => by cases z))))) dss_nil)
    (dss_cons (ds_if (dt_c ci_eq (de_var (i := 1) rfl (.inl (by kernel_rfl)) (by kernel_rfl) (by kernel_rfl)) de_int rfl) (dss_one (ds_retZ (de_tup (da_cons (de_add de_int (de_call g_l_pull.at (show 1 ≤ 1 by decide) (by kernel_rfl) (by kernel_rfl) (da_cons (de_var (i := 0) rfl (.inl (by kernel_rfl)) (by kernel_rfl) (by kernel_rfl)) (da_last de_int (fun _ _ z => by cases z)) (fun _ _ z => by cases z)) rfl rfl (len_cons len_last))) (da_cons de_int (da_last de_int (fun _ _ z => by cases z)) (fun _ _ z => by cases z)) (fun _ _ z => by cases z))))) dss_nil)
    (dss_one (ds_retZ (de_tup (da_cons de_int (da_cons (de_mul (de_sub (de_pow de_int de_int) de_int) (de_sub (de_mul de_int (de_call g_l_pull.at (show 1 ≤ 1 by decide) (by kernel_rfl) (by kernel_rfl) (da_cons (de_var (i := 0) rfl (.inl (by kernel_rfl)) (by kernel_rfl) (by kernel_rfl)) (da_last de_int (fun _ _ z => by cases z)) (fun _ _ z => by cases z)) rfl rfl (len_cons len_last))) de_int)) (da_last (de_mul (de_sub (de_pow de_int de_int) de_int) (de_sub (de_call g_l_pull.at (show 1 ≤ 1 by decide) (by kernel_rfl) (by kernel_rfl) (da_cons (de_var (i := 0) rfl (.inl (by kernel_rfl)) (by kernel_rfl) (by kernel_rfl)) (da_last de_int (fun _ _ z => by cases z)) (fun _ _ z => by cases z)) rfl rfl (len_cons len_last)) de_int)) (fun _ _ z => by cases z)) (fun _ _ z => by cases z)) (fun _ _ z => by cases z))))))))
theorem g_l_grid (E : Env S) : Good S "_law_grid" 1 F_l_grid [] 2 := good_fn (N := ["_law_bag_here", "_law_way"]) (ps := ["_law_bag_here"]) (k := 1) (db := B_l_grid) E.k_l_grid sc_l_grid (ds_l_grid E) bn_l_grid rfl
theorem sc_l_spot : FnScope ["_law_bag_here", "_law_grid_here", "_law_wide", "_law_across", "_law_north", "_law_first"] ["_law_bag_here", "_law_grid_here"] (defScope (top 28)) := ⟨rfl, rfl, rfl, by decide +kernel, rfl, by decide +kernel, by decide +kernel⟩
theorem bn_l_spot : BindN "_law_spot" (top 28) ["_law_bag_here", "_law_grid_here"] := (fun _ _ _ _ _ _ us hl => match us, hl with | [_, _], _ => rfl)
theorem ds_l_spot (E : Env S) : DSs (S.at ["_law_bag_here", "_law_grid_here", "_law_wide", "_law_across", "_law_north", "_law_first"] (defScope (top 28)) 1) (defBody (top 28)) B_l_spot := by
  have g_l_pull := g_l_pull E
  exact (dss_cons (ds_unpT (dg_tup (dgs_cons (dg_nm (i := 2) rfl (.inl (by kernel_rfl)) (.inl rfl)) (dgs_cons (dg_nm (i := 3) rfl (.inl (by kernel_rfl)) (.inl rfl)) (dgs_cons (dg_nm (i := 4) rfl (.inl (by kernel_rfl)) (.inl rfl)) dgs_nil (fun _ _ z => by cases z)) (fun _ _ z => by cases z)) (fun _ _ z => by cases z)) rfl rfl) (de_var (i := 1) rfl (.inl (by kernel_rfl)) (by kernel_rfl) (by kernel_rfl)) rfl)
    (dss_cons (ds_setZ (i := 5) rfl (.inl (by kernel_rfl)) (.inl rfl) (de_sub (de_add (de_var (i := 3) rfl (.inl (by kernel_rfl)) (by kernel_rfl) (by kernel_rfl)) (de_call g_l_pull.at (show 1 ≤ 1 by decide) (by kernel_rfl) (by kernel_rfl) (da_cons (de_var (i := 0) rfl (.inl (by kernel_rfl)) (by kernel_rfl) (by kernel_rfl)) (da_last (de_add (de_mul de_int (de_var (i := 2) rfl (.inl (by kernel_rfl)) (by kernel_rfl) (by kernel_rfl))) de_int) (fun _ _ z => by cases z)) (fun _ _ z => by cases z)) rfl rfl (len_cons len_last))) (de_var (i := 2) rfl (.inl (by kernel_rfl)) (by kernel_rfl) (by kernel_rfl))) rfl)
    (dss_one (ds_retZ (de_tup (da_cons (de_var (i := 5) rfl (.inl (by kernel_rfl)) (by kernel_rfl) (by kernel_rfl)) (da_last (de_sub (de_add (de_var (i := 4) rfl (.inl (by kernel_rfl)) (by kernel_rfl) (by kernel_rfl)) (de_call g_l_pull.at (show 1 ≤ 1 by decide) (by kernel_rfl) (by kernel_rfl) (da_cons (de_var (i := 0) rfl (.inl (by kernel_rfl)) (by kernel_rfl) (by kernel_rfl)) (da_last (de_add (de_mul de_int (de_var (i := 2) rfl (.inl (by kernel_rfl)) (by kernel_rfl) (by kernel_rfl))) de_int) (fun _ _ z => by cases z)) (fun _ _ z => by cases z)) rfl rfl (len_cons len_last))) (de_var (i := 2) rfl (.inl (by kernel_rfl)) (by kernel_rfl) (by kernel_rfl))) (fun _ _ z => by cases z)) (fun _ _ z => by cases z)))))))
theorem g_l_spot (E : Env S) : Good S "_law_spot" 2 F_l_spot [] 2 := good_fn (N := ["_law_bag_here", "_law_grid_here", "_law_wide", "_law_across", "_law_north", "_law_first"]) (ps := ["_law_bag_here", "_law_grid_here"]) (k := 1) (db := B_l_spot) E.k_l_spot sc_l_spot (ds_l_spot E) bn_l_spot rfl
theorem sc_l_block : FnScope ["_law_bag_here", "_law_grid_here", "_law_left", "_law_low", "_law_found", "_law_begin"] ["_law_bag_here", "_law_grid_here"] (defScope (top 29)) := ⟨rfl, rfl, rfl, by decide +kernel, rfl, by decide +kernel, by decide +kernel⟩
theorem bn_l_block : BindN "_law_block" (top 29) ["_law_bag_here", "_law_grid_here"] := (fun _ _ _ _ _ _ us hl => match us, hl with | [_, _], _ => rfl)
theorem ds_l_block (E : Env S) : DSs (S.at ["_law_bag_here", "_law_grid_here", "_law_left", "_law_low", "_law_found", "_law_begin"] (defScope (top 29)) 2) (defBody (top 29)) B_l_block := by
  have g_l_spot := g_l_spot E
  have g_l_pull := g_l_pull E
  exact (dss_cons (ds_unpT (dg_tup (dgs_cons (dg_nm (i := 2) rfl (.inl (by kernel_rfl)) (.inl rfl)) (dgs_cons (dg_nm (i := 3) rfl (.inl (by kernel_rfl)) (.inl rfl)) dgs_nil (fun _ _ z => by cases z)) (fun _ _ z => by cases z)) rfl rfl) (de_call g_l_spot.at (show 2 ≤ 2 by decide) (by kernel_rfl) (by kernel_rfl) (da_cons (de_var (i := 0) rfl (.inl (by kernel_rfl)) (by kernel_rfl) (by kernel_rfl)) (da_last (de_var (i := 1) rfl (.inl (by kernel_rfl)) (by kernel_rfl) (by kernel_rfl)) (fun _ _ z => by cases z)) (fun _ _ z => by cases z)) rfl rfl (len_cons len_last)) rfl)
    (dss_cons (ds_set (i := 4) rfl (.inl (by kernel_rfl)) (.inl rfl) (de_lst da_nil) rfl)
    (dss_cons (ds_for (di_val (de_tup (da_cons (de_var (i := 2) rfl (.inl (by kernel_rfl)) (by kernel_rfl) (by kernel_rfl)) (da_last (de_var (i := 3) rfl (.inl (by kernel_rfl)) (by kernel_rfl) (by kernel_rfl)) (fun _ _ z => by cases z)) (fun _ _ z => by cases z)))) (dg_nm (i := 5) rfl (.inl (by kernel_rfl)) (.inl rfl)) (dss_one (ds_app (i := 4) rfl (.inl (by kernel_rfl)) (by kernel_rfl) (by kernel_rfl) (by kernel_rfl) (bi_min2 (by kernel_rfl) E.b_min (de_pow de_int de_int) (de_add (de_var (i := 5) rfl (.inl (by kernel_rfl)) (by kernel_rfl) (by kernel_rfl)) (de_ixs (de_lst (da_cons de_int (da_cons (de_call g_l_pull.at (show 1 ≤ 2 by decide) (by kernel_rfl) (by kernel_rfl) (da_cons (de_var (i := 0) rfl (.inl (by kernel_rfl)) (by kernel_rfl) (by kernel_rfl)) (da_last de_int (fun _ _ z => by cases z)) (fun _ _ z => by cases z)) rfl rfl (len_cons len_last)) (da_last (de_call g_l_pull.at (show 1 ≤ 2 by decide) (by kernel_rfl) (by kernel_rfl) (da_cons (de_var (i := 0) rfl (.inl (by kernel_rfl)) (by kernel_rfl) (by kernel_rfl)) (da_last (de_add (de_ixs (de_var (i := 1) rfl (.inl (by kernel_rfl)) (by kernel_rfl) (by kernel_rfl)) de_int rfl) de_int) (fun _ _ z => by cases z)) (fun _ _ z => by cases z)) rfl rfl (len_cons len_last)) (fun _ _ z => by cases z)) (fun _ _ z => by cases z)) (fun _ _ z => by cases z))) (de_call g_l_pull.at (show 1 ≤ 2 by decide) (by kernel_rfl) (by kernel_rfl) (da_cons (de_var (i := 0) rfl (.inl (by kernel_rfl)) (by kernel_rfl) (by kernel_rfl)) (da_last de_int (fun _ _ z => by cases z)) (fun _ _ z => by cases z)) rfl rfl (len_cons len_last)) rfl)) rfl) rfl)) rfl)
    (dss_frz (i := 4) (dss_one (ds_retZ (de_tup (da_cons (de_var (i := 2) rfl (.inl (by kernel_rfl)) (by kernel_rfl) (by kernel_rfl)) (da_cons (de_var (i := 3) rfl (.inl (by kernel_rfl)) (by kernel_rfl) (by kernel_rfl)) (da_cons (de_ixs (de_var (i := 4) rfl (.inl (by kernel_rfl)) (by kernel_rfl) (by kernel_rfl)) de_int rfl) (da_last (de_ixs (de_var (i := 4) rfl (.inl (by kernel_rfl)) (by kernel_rfl) (by kernel_rfl)) de_int rfl) (fun _ _ z => by cases z)) (fun _ _ z => by cases z)) (fun _ _ z => by cases z)) (fun _ _ z => by cases z)))))))))
theorem g_l_block (E : Env S) : Good S "_law_block" 2 F_l_block [] 3 := good_fn (N := ["_law_bag_here", "_law_grid_here", "_law_left", "_law_low", "_law_found", "_law_begin"]) (ps := ["_law_bag_here", "_law_grid_here"]) (k := 2) (db := B_l_block) E.k_l_block sc_l_block (ds_l_block E) bn_l_block rfl
theorem sc_l_led : FnScope ["_law_way", "_law_place"] ["_law_way", "_law_place"] (defScope (top 30)) := ⟨rfl, rfl, rfl, by decide +kernel, rfl, by decide +kernel, by decide +kernel⟩
theorem bn_l_led : BindN "_law_led" (top 30) ["_law_way", "_law_place"] := (fun _ _ _ _ _ _ us hl => match us, hl with | [_, _], _ => rfl)
theorem ds_l_led (E : Env S) : DSs (S.at ["_law_way", "_law_place"] (defScope (top 30)) 0) (defBody (top 30)) B_l_led := by
  exact (dss_cons (ds_if (dt_c ci_eq (de_ixs (de_var (i := 0) rfl (.inl (by kernel_rfl)) (by kernel_rfl) (by kernel_rfl)) de_int rfl) de_str rfl) (dss_one (ds_retZ (de_tup (da_cons (de_add (de_ixs (de_var (i := 1) rfl (.inl (by kernel_rfl)) (by kernel_rfl) (by kernel_rfl)) de_int rfl) (de_ixs (de_var (i := 0) rfl (.inl (by kernel_rfl)) (by kernel_rfl) (by kernel_rfl)) de_int rfl)) (da_last (de_add (de_ixs (de_var (i := 1) rfl (.inl (by kernel_rfl)) (by kernel_rfl) (by kernel_rfl)) de_int rfl) (de_ixs (de_var (i := 0) rfl (.inl (by kernel_rfl)) (by kernel_rfl) (by kernel_rfl)) de_int rfl)) (fun _ _ z => by cases z)) (fun _ _ z => by cases z))))) dss_nil)
    (dss_cons (ds_if (dt_c ci_eq (de_ixs (de_var (i := 0) rfl (.inl (by kernel_rfl)) (by kernel_rfl) (by kernel_rfl)) de_int rfl) de_str rfl) (dss_one (ds_retZ (de_tup (da_cons (de_sub de_int (de_ixs (de_var (i := 1) rfl (.inl (by kernel_rfl)) (by kernel_rfl) (by kernel_rfl)) de_int rfl)) (da_last (de_ixs (de_var (i := 1) rfl (.inl (by kernel_rfl)) (by kernel_rfl) (by kernel_rfl)) de_int rfl) (fun _ _ z => by cases z)) (fun _ _ z => by cases z))))) dss_nil)
    (dss_one (ds_retZ (de_if (dt_c ci_eq (de_ixs (de_var (i := 0) rfl (.inl (by kernel_rfl)) (by kernel_rfl) (by kernel_rfl)) de_int rfl) de_str rfl) (de_tup (da_cons (de_sub de_int (de_ixs (de_var (i := 1) rfl (.inl (by kernel_rfl)) (by kernel_rfl) (by kernel_rfl)) de_int rfl)) (da_last (de_ixs (de_var (i := 1) rfl (.inl (by kernel_rfl)) (by kernel_rfl) (by kernel_rfl)) de_int rfl) (fun _ _ z => by cases z)) (fun _ _ z => by cases z))) (de_tup (da_cons (de_mul (de_ixs (de_var (i := 1) rfl (.inl (by kernel_rfl)) (by kernel_rfl) (by kernel_rfl)) de_int rfl) (de_ixs (de_var (i := 0) rfl (.inl (by kernel_rfl)) (by kernel_rfl) (by kernel_rfl)) de_int rfl)) (da_last (de_mul (de_ixs (de_var (i := 1) rfl (.inl (by kernel_rfl)) (by kernel_rfl) (by kernel_rfl)) de_int rfl) (de_ixs (de_var (i := 0) rfl (.inl (by kernel_rfl)) (by kernel_rfl) (by kernel_rfl)) de_int rfl)) (fun _ _ z => by cases z)) (fun _ _ z => by cases z))))))))
theorem g_l_led (E : Env S) : Good S "_law_led" 2 F_l_led [] 1 := good_fn (N := ["_law_way", "_law_place"]) (ps := ["_law_way", "_law_place"]) (k := 0) (db := B_l_led) E.k_l_led sc_l_led (ds_l_led E) bn_l_led rfl
theorem sc_l_led_block : FnScope ["_law_way", "_law_block_here", "_law_a", "_law_b"] ["_law_way", "_law_block_here"] (defScope (top 31)) := ⟨rfl, rfl, rfl, by decide +kernel, rfl, by decide +kernel, by decide +kernel⟩
theorem bn_l_led_block : BindN "_law_led_block" (top 31) ["_law_way", "_law_block_here"] := (fun _ _ _ _ _ _ us hl => match us, hl with | [_, _], _ => rfl)
theorem ds_l_led_block (E : Env S) : DSs (S.at ["_law_way", "_law_block_here", "_law_a", "_law_b"] (defScope (top 31)) 1) (defBody (top 31)) B_l_led_block := by
  have g_l_led := g_l_led E
  exact (dss_cons (ds_par (i := 2) (j := 3) rfl rfl (by decide) (by kernel_rfl) (by kernel_rfl) (by kernel_rfl) (by kernel_rfl) (by kernel_rfl) (by kernel_rfl) (by kernel_rfl) (by kernel_rfl) (da_cons (de_call g_l_led.at (show 1 ≤ 1 by decide) (by kernel_rfl) (by kernel_rfl) (da_cons (de_var (i := 0) rfl (.inl (by kernel_rfl)) (by kernel_rfl) (by kernel_rfl)) (da_last (de_slH (de_var (i := 1) rfl (.inl (by kernel_rfl)) (by kernel_rfl) (by kernel_rfl)) de_int) (fun _ _ z => by cases z)) (fun _ _ z => by cases z)) rfl rfl (len_cons len_last)) (da_last (de_call g_l_led.at (show 1 ≤ 1 by decide) (by kernel_rfl) (by kernel_rfl) (da_cons (de_var (i := 0) rfl (.inl (by kernel_rfl)) (by kernel_rfl) (by kernel_rfl)) (da_last (de_slL (de_var (i := 1) rfl (.inl (by kernel_rfl)) (by kernel_rfl) (by kernel_rfl)) de_int) (fun _ _ z => by cases z)) (fun _ _ z => by cases z)) rfl rfl (len_cons len_last)) (fun _ _ z => by cases z)) (fun _ _ z => by cases z)))
    (dss_one (ds_retZ (de_tup (da_cons (bi_min2 (by kernel_rfl) E.b_min (de_ixs (de_var (i := 2) rfl (.inl (by kernel_rfl)) (by kernel_rfl) (by kernel_rfl)) de_int rfl) (de_ixs (de_var (i := 3) rfl (.inl (by kernel_rfl)) (by kernel_rfl) (by kernel_rfl)) de_int rfl) rfl) (da_cons (bi_min2 (by kernel_rfl) E.b_min (de_ixs (de_var (i := 2) rfl (.inl (by kernel_rfl)) (by kernel_rfl) (by kernel_rfl)) de_int rfl) (de_ixs (de_var (i := 3) rfl (.inl (by kernel_rfl)) (by kernel_rfl) (by kernel_rfl)) de_int rfl) rfl) (da_cons (bi_max2 (by kernel_rfl) E.b_max (de_ixs (de_var (i := 2) rfl (.inl (by kernel_rfl)) (by kernel_rfl) (by kernel_rfl)) de_int rfl) (de_ixs (de_var (i := 3) rfl (.inl (by kernel_rfl)) (by kernel_rfl) (by kernel_rfl)) de_int rfl) rfl) (da_last (bi_max2 (by kernel_rfl) E.b_max (de_ixs (de_var (i := 2) rfl (.inl (by kernel_rfl)) (by kernel_rfl) (by kernel_rfl)) de_int rfl) (de_ixs (de_var (i := 3) rfl (.inl (by kernel_rfl)) (by kernel_rfl) (by kernel_rfl)) de_int rfl) rfl) (fun _ _ z => by cases z)) (fun _ _ z => by cases z)) (fun _ _ z => by cases z)) (fun _ _ z => by cases z))))))
theorem g_l_led_block (E : Env S) : Good S "_law_led_block" 2 F_l_led_block [] 2 := good_fn (N := ["_law_way", "_law_block_here", "_law_a", "_law_b"]) (ps := ["_law_way", "_law_block_here"]) (k := 1) (db := B_l_led_block) E.k_l_led_block sc_l_led_block (ds_l_led_block E) bn_l_led_block rfl
theorem sc_law : FnScope ["_law_script", "_law_bag_here", "_law_turn", "_law_grid_here", "_law_block_here", "_law_one_here", "_law_two", "_law_due", "_law_step", "_law_ways", "_law_way", "_law_found"] ["_law_script"] (defScope (top 32)) := ⟨rfl, rfl, rfl, by decide +kernel, rfl, by decide +kernel, by decide +kernel⟩
theorem bn_law : BindN "law" (top 32) ["_law_script"] := (fun _ _ _ _ _ _ us hl => match us, hl with | [_], _ => rfl)
theorem ds_law (E : Env S) : DSs (S.at ["_law_script", "_law_bag_here", "_law_turn", "_law_grid_here", "_law_block_here", "_law_one_here", "_law_two", "_law_due", "_law_step", "_law_ways", "_law_way", "_law_found"] (defScope (top 32)) 9) (defBody (top 32)) B_law := by
  have g_l_bag := g_l_bag E
  have g_l_grid := g_l_grid E
  have g_l_block := g_l_block E
  have g_l_spot := g_l_spot E
  have g_block_meets := g_block_meets E
  have g_pieces_meet := g_pieces_meet E
  have g_block_shares := g_block_shares E
  have g_piece_shares := g_piece_shares E
  have g_l_pull := g_l_pull E
  have g_l_one := g_l_one E
  have g_l_led_block := g_l_led_block E
  have g_l_led := g_l_led E
  have g_l_same := g_l_same E 8
  exact (dss_cons (ds_set (i := 1) rfl (.inl (by kernel_rfl)) (.inl rfl) (de_call g_l_bag.at (show 1 ≤ 9 by decide) (by kernel_rfl) (by kernel_rfl) (da_last (de_var (i := 0) rfl (.inl (by kernel_rfl)) (by kernel_rfl) (by kernel_rfl)) (fun _ _ z => by cases z)) rfl rfl len_last) rfl)
    (dss_pub (i := 1) (dss_cons (ds_for (di_rng1 (da_last de_int (fun _ _ z => by cases z)) (fun _ _ z => by cases z) (by kernel_rfl) E.b_range) (dg_nm (i := 2) rfl (.inl (by kernel_rfl)) (.inl rfl)) (dss_cons (ds_setZ (i := 3) rfl (.inl (by kernel_rfl)) (.inl rfl) (de_call g_l_grid.at (show 2 ≤ 9 by decide) (by kernel_rfl) (by kernel_rfl) (da_last (de_var (i := 1) rfl (.inl (by kernel_rfl)) (by kernel_rfl) (by kernel_rfl)) (fun _ _ z => by cases z)) rfl rfl len_last) rfl)
    (dss_cons (ds_setZ (i := 4) rfl (.inl (by kernel_rfl)) (.inl rfl) (de_call g_l_block.at (show 3 ≤ 9 by decide) (by kernel_rfl) (by kernel_rfl) (da_cons (de_var (i := 1) rfl (.inl (by kernel_rfl)) (by kernel_rfl) (by kernel_rfl)) (da_last (de_var (i := 3) rfl (.inl (by kernel_rfl)) (by kernel_rfl) (by kernel_rfl)) (fun _ _ z => by cases z)) (fun _ _ z => by cases z)) rfl rfl (len_cons len_last)) rfl)
    (dss_cons (ds_setZ (i := 5) rfl (.inl (by kernel_rfl)) (.inl rfl) (de_tup (da_cons (de_call g_l_spot.at (show 2 ≤ 9 by decide) (by kernel_rfl) (by kernel_rfl) (da_cons (de_var (i := 1) rfl (.inl (by kernel_rfl)) (by kernel_rfl) (by kernel_rfl)) (da_last (de_var (i := 3) rfl (.inl (by kernel_rfl)) (by kernel_rfl) (by kernel_rfl)) (fun _ _ z => by cases z)) (fun _ _ z => by cases z)) rfl rfl (len_cons len_last)) (da_last (de_call g_l_spot.at (show 2 ≤ 9 by decide) (by kernel_rfl) (by kernel_rfl) (da_cons (de_var (i := 1) rfl (.inl (by kernel_rfl)) (by kernel_rfl) (by kernel_rfl)) (da_last (de_var (i := 3) rfl (.inl (by kernel_rfl)) (by kernel_rfl) (by kernel_rfl)) (fun _ _ z => by cases z)) (fun _ _ z => by cases z)) rfl rfl (len_cons len_last)) (fun _ _ z => by cases z)) (fun _ _ z => by cases z))) rfl)
    (dss_cons (ds_setZ (i := 6) rfl (.inl (by kernel_rfl)) (.inl rfl) (de_tup (da_cons (de_call g_l_spot.at (show 2 ≤ 9 by decide) (by kernel_rfl) (by kernel_rfl) (da_cons (de_var (i := 1) rfl (.inl (by kernel_rfl)) (by kernel_rfl) (by kernel_rfl)) (da_last (de_var (i := 3) rfl (.inl (by kernel_rfl)) (by kernel_rfl) (by kernel_rfl)) (fun _ _ z => by cases z)) (fun _ _ z => by cases z)) rfl rfl (len_cons len_last)) (da_last (de_call g_l_spot.at (show 2 ≤ 9 by decide) (by kernel_rfl) (by kernel_rfl) (da_cons (de_var (i := 1) rfl (.inl (by kernel_rfl)) (by kernel_rfl) (by kernel_rfl)) (da_last (de_var (i := 3) rfl (.inl (by kernel_rfl)) (by kernel_rfl) (by kernel_rfl)) (fun _ _ z => by cases z)) (fun _ _ z => by cases z)) rfl rfl (len_cons len_last)) (fun _ _ z => by cases z)) (fun _ _ z => by cases z))) rfl)
    (dss_cons (ds_setZ (i := 7) rfl (.inl (by kernel_rfl)) (.inl rfl) (de_lst (da_cons (de_call g_block_meets.at (show 5 ≤ 9 by decide) (by kernel_rfl) (by kernel_rfl) (da_cons (de_var (i := 4) rfl (.inl (by kernel_rfl)) (by kernel_rfl) (by kernel_rfl)) (da_last (de_var (i := 5) rfl (.inl (by kernel_rfl)) (by kernel_rfl) (by kernel_rfl)) (fun _ _ z => by cases z)) (fun _ _ z => by cases z)) rfl rfl (len_cons len_last)) (da_cons (de_call g_pieces_meet.at (show 6 ≤ 9 by decide) (by kernel_rfl) (by kernel_rfl) (da_cons (de_var (i := 5) rfl (.inl (by kernel_rfl)) (by kernel_rfl) (by kernel_rfl)) (da_last (de_var (i := 6) rfl (.inl (by kernel_rfl)) (by kernel_rfl) (by kernel_rfl)) (fun _ _ z => by cases z)) (fun _ _ z => by cases z)) rfl rfl (len_cons len_last)) (da_cons (de_call g_block_shares.at (show 4 ≤ 9 by decide) (by kernel_rfl) (by kernel_rfl) (da_cons (de_var (i := 4) rfl (.inl (by kernel_rfl)) (by kernel_rfl) (by kernel_rfl)) (da_last (de_var (i := 5) rfl (.inl (by kernel_rfl)) (by kernel_rfl) (by kernel_rfl)) (fun _ _ z => by cases z)) (fun _ _ z => by cases z)) rfl rfl (len_cons len_last)) (da_last (de_call g_piece_shares.at (show 5 ≤ 9 by decide) (by kernel_rfl) (by kernel_rfl) (da_cons (de_var (i := 6) rfl (.inl (by kernel_rfl)) (by kernel_rfl) (by kernel_rfl)) (da_last (de_var (i := 5) rfl (.inl (by kernel_rfl)) (by kernel_rfl) (by kernel_rfl)) (fun _ _ z => by cases z)) (fun _ _ z => by cases z)) rfl rfl (len_cons len_last)) (fun _ _ z => by cases z)) (fun _ _ z => by cases z)) (fun _ _ z => by cases z)) (fun _ _ z => by cases z))) rfl)
    (dss_one (ds_for (di_rng1 (da_last (de_add de_int (de_call g_l_pull.at (show 1 ≤ 9 by decide) (by kernel_rfl) (by kernel_rfl) (da_cons (de_var (i := 1) rfl (.inl (by kernel_rfl)) (by kernel_rfl) (by kernel_rfl)) (da_last de_int (fun _ _ z => by cases z)) (fun _ _ z => by cases z)) rfl rfl (len_cons len_last))) (fun _ _ z => by cases z)) (fun _ _ z => by cases z) (by kernel_rfl) E.b_range) (dg_nm (i := 8) rfl (.inl (by kernel_rfl)) (.inl rfl)) (dss_cons (ds_setZ (i := 9) rfl (.inl (by kernel_rfl)) (.inl rfl) (de_lst (da_cons (de_tup (da_cons de_str (da_cons (de_sub (de_call g_l_pull.at (show 1 ≤ 9 by decide) (by kernel_rfl) (by kernel_rfl) (da_cons (de_var (i := 1) rfl (.inl (by kernel_rfl)) (by kernel_rfl) (by kernel_rfl)) (da_last de_int (fun _ _ z => by cases z)) (fun _ _ z => by cases z)) rfl rfl (len_cons len_last)) de_int) (da_last (de_call g_l_pull.at (show 1 ≤ 9 by decide) (by kernel_rfl) (by kernel_rfl) (da_cons (de_var (i := 1) rfl (.inl (by kernel_rfl)) (by kernel_rfl) (by kernel_rfl)) (da_last (de_pow de_int de_int) (fun _ _ z => by cases z)) (fun _ _ z => by cases z)) rfl rfl (len_cons len_last)) (fun _ _ z => by cases z)) (fun _ _ z => by cases z)) (fun _ _ z => by cases z))) (da_cons (de_tup (da_last de_str (fun _ _ z => by cases z))) (da_last (de_tup (da_last de_str (fun _ _ z => by cases z))) (fun _ _ z => by cases z)) (fun _ _ z => by cases z)) (fun _ _ z => by cases z))) rfl)
    (dss_cons (ds_setZ (i := 10) rfl (.inl (by kernel_rfl)) (.inl rfl) (de_call g_l_one.at (show 2 ≤ 9 by decide) (by kernel_rfl) (by kernel_rfl) (da_cons (de_var (i := 1) rfl (.inl (by kernel_rfl)) (by kernel_rfl) (by kernel_rfl)) (da_last (de_add (de_var (i := 9) rfl (.inl (by kernel_rfl)) (by kernel_rfl) (by kernel_rfl)) (de_lst (da_last (de_tup (da_cons de_str (da_last (de_add de_int (de_call g_l_pull.at (show 1 ≤ 9 by decide) (by kernel_rfl) (by kernel_rfl) (da_cons (de_var (i := 1) rfl (.inl (by kernel_rfl)) (by kernel_rfl) (by kernel_rfl)) (da_last (de_ixs (de_lst (da_cons de_int (da_last (de_pow de_int de_int) (fun _ _ z => by cases z)) (fun _ _ z => by cases z))) (de_call g_l_pull.at (show 1 ≤ 9 by decide) (by kernel_rfl) (by kernel_rfl) (da_cons (de_var (i := 1) rfl (.inl (by kernel_rfl)) (by kernel_rfl) (by kernel_rfl)) (da_last de_int (fun _ _ z => by cases z)) (fun _ _ z => by cases z)) rfl rfl (len_cons len_last)) rfl) (fun _ _ z => by cases z)) (fun _ _ z => by cases z)) rfl rfl (len_cons len_last))) (fun _ _ z => by cases z)) (fun _ _ z => by cases z))) (fun _ _ z => by cases z)))) (fun _ _ z => by cases z)) (fun _ _ z => by cases z)) rfl rfl (len_cons len_last)) rfl)
    (dss_cons (ds_setZ (i := 4) rfl (.inl (by kernel_rfl)) (.inl rfl) (de_call g_l_led_block.at (show 2 ≤ 9 by decide) (by kernel_rfl) (by kernel_rfl) (da_cons (de_var (i := 10) rfl (.inl (by kernel_rfl)) (by kernel_rfl) (by kernel_rfl)) (da_last (de_var (i := 4) rfl (.inl (by kernel_rfl)) (by kernel_rfl) (by kernel_rfl)) (fun _ _ z => by cases z)) (fun _ _ z => by cases z)) rfl rfl (len_cons len_last)) rfl)
    (dss_cons (ds_setZ (i := 5) rfl (.inl (by kernel_rfl)) (.inl rfl) (de_tup (da_cons (de_call g_l_led.at (show 1 ≤ 9 by decide) (by kernel_rfl) (by kernel_rfl) (da_cons (de_var (i := 10) rfl (.inl (by kernel_rfl)) (by kernel_rfl) (by kernel_rfl)) (da_last (de_ixs (de_var (i := 5) rfl (.inl (by kernel_rfl)) (by kernel_rfl) (by kernel_rfl)) de_int rfl) (fun _ _ z => by cases z)) (fun _ _ z => by cases z)) rfl rfl (len_cons len_last)) (da_last (de_call g_l_led.at (show 1 ≤ 9 by decide) (by kernel_rfl) (by kernel_rfl) (da_cons (de_var (i := 10) rfl (.inl (by kernel_rfl)) (by kernel_rfl) (by kernel_rfl)) (da_last (de_ixs (de_var (i := 5) rfl (.inl (by kernel_rfl)) (by kernel_rfl) (by kernel_rfl)) de_int rfl) (fun _ _ z => by cases z)) (fun _ _ z => by cases z)) rfl rfl (len_cons len_last)) (fun _ _ z => by cases z)) (fun _ _ z => by cases z))) rfl)
    (dss_cons (ds_setZ (i := 6) rfl (.inl (by kernel_rfl)) (.inl rfl) (de_tup (da_cons (de_call g_l_led.at (show 1 ≤ 9 by decide) (by kernel_rfl) (by kernel_rfl) (da_cons (de_var (i := 10) rfl (.inl (by kernel_rfl)) (by kernel_rfl) (by kernel_rfl)) (da_last (de_ixs (de_var (i := 6) rfl (.inl (by kernel_rfl)) (by kernel_rfl) (by kernel_rfl)) de_int rfl) (fun _ _ z => by cases z)) (fun _ _ z => by cases z)) rfl rfl (len_cons len_last)) (da_last (de_call g_l_led.at (show 1 ≤ 9 by decide) (by kernel_rfl) (by kernel_rfl) (da_cons (de_var (i := 10) rfl (.inl (by kernel_rfl)) (by kernel_rfl) (by kernel_rfl)) (da_last (de_ixs (de_var (i := 6) rfl (.inl (by kernel_rfl)) (by kernel_rfl) (by kernel_rfl)) de_int rfl) (fun _ _ z => by cases z)) (fun _ _ z => by cases z)) rfl rfl (len_cons len_last)) (fun _ _ z => by cases z)) (fun _ _ z => by cases z))) rfl)
    (dss_cons (ds_setZ (i := 11) rfl (.inl (by kernel_rfl)) (.inl rfl) (de_lst (da_cons (de_call g_block_meets.at (show 5 ≤ 9 by decide) (by kernel_rfl) (by kernel_rfl) (da_cons (de_var (i := 4) rfl (.inl (by kernel_rfl)) (by kernel_rfl) (by kernel_rfl)) (da_last (de_var (i := 5) rfl (.inl (by kernel_rfl)) (by kernel_rfl) (by kernel_rfl)) (fun _ _ z => by cases z)) (fun _ _ z => by cases z)) rfl rfl (len_cons len_last)) (da_cons (de_call g_pieces_meet.at (show 6 ≤ 9 by decide) (by kernel_rfl) (by kernel_rfl) (da_cons (de_var (i := 5) rfl (.inl (by kernel_rfl)) (by kernel_rfl) (by kernel_rfl)) (da_last (de_var (i := 6) rfl (.inl (by kernel_rfl)) (by kernel_rfl) (by kernel_rfl)) (fun _ _ z => by cases z)) (fun _ _ z => by cases z)) rfl rfl (len_cons len_last)) (da_cons (de_call g_block_shares.at (show 4 ≤ 9 by decide) (by kernel_rfl) (by kernel_rfl) (da_cons (de_var (i := 4) rfl (.inl (by kernel_rfl)) (by kernel_rfl) (by kernel_rfl)) (da_last (de_var (i := 5) rfl (.inl (by kernel_rfl)) (by kernel_rfl) (by kernel_rfl)) (fun _ _ z => by cases z)) (fun _ _ z => by cases z)) rfl rfl (len_cons len_last)) (da_last (de_call g_piece_shares.at (show 5 ≤ 9 by decide) (by kernel_rfl) (by kernel_rfl) (da_cons (de_var (i := 6) rfl (.inl (by kernel_rfl)) (by kernel_rfl) (by kernel_rfl)) (da_last (de_var (i := 5) rfl (.inl (by kernel_rfl)) (by kernel_rfl) (by kernel_rfl)) (fun _ _ z => by cases z)) (fun _ _ z => by cases z)) rfl rfl (len_cons len_last)) (fun _ _ z => by cases z)) (fun _ _ z => by cases z)) (fun _ _ z => by cases z)) (fun _ _ z => by cases z))) rfl)
    (dss_one (ds_if (dt_not (dt_val (de_call g_l_same.at (show 9 ≤ 9 by decide) (by kernel_rfl) (by kernel_rfl) (da_cons (de_var (i := 11) rfl (.inl (by kernel_rfl)) (by kernel_rfl) (by kernel_rfl)) (da_last (de_var (i := 7) rfl (.inl (by kernel_rfl)) (by kernel_rfl) (by kernel_rfl)) (fun _ _ z => by cases z)) (fun _ _ z => by cases z)) rfl rfl (len_cons len_last)) rfl)) (dss_one (ds_retZ de_bl)) dss_nil)))))))) rfl))))))) rfl)
    (dss_one (ds_retZ de_bl)))))
theorem g_law (E : Env S) : Good S "law" 1 F_law [] 10 := good_fn (N := ["_law_script", "_law_bag_here", "_law_turn", "_law_grid_here", "_law_block_here", "_law_one_here", "_law_two", "_law_due", "_law_step", "_law_ways", "_law_way", "_law_found"]) (ps := ["_law_script"]) (k := 9) (db := B_law) E.k_law sc_law (ds_law E) bn_law rfl
end
end L04

set_option Elab.async false
set_option linter.all false
set_option maxRecDepth 100000
set_option autoImplicit false
namespace L04
open PySem PySem.Spec L2 Hx
inductive Way
  | move (dx dy : Int) | turn | mirror | str (m : Int)
def Way.x : Way → Int → Int → Int
  | .move dx _, x, _ => x + dx
  | .turn, _, y => -y
  | .mirror, x, _ => -x
  | .str m, x, _ => x * m
def Way.y : Way → Int → Int → Int
  | .move _ dy, _, y => y + dy
  | .turn, x, _ => x
  | .mirror, _, y => y
  | .str m, _, y => y * m
def Way.enc : Way → D
  | .move dx dy => .con .tup [.str "move", .int dx, .int dy]
  | .turn => .con .tup [.str "turn"]
  | .mirror => .con .tup [.str "mirror"]
  | .str m => .con .tup [.str "stretch", .int m]
def Way.ok : Way → Prop
  | .move dx dy => dx.natAbs ≤ 1000000000 ∧ dy.natAbs ≤ 1000000000
  | .str m => 1 ≤ m ∧ m ≤ 1000000
  | _ => True
def Way.blk : Way → Int × Int × Int × Int → Int × Int × Int × Int
  | .move dx dy, (l, w, r, h) => (l + dx, w + dy, r + dx, h + dy)
  | .turn, (l, w, r, h) => (-h, l, -w, r)
  | .mirror, (l, w, r, h) => (-r, w, -l, h)
  | .str m, (l, w, r, h) => (l * m, w * m, r * m, h * m)
section
variable {st : Store}
theorem f_l_led {v : Way} {x y : Int} (hv : v.ok) [Le 1000 x] [Le 1000 y] : F_l_led [(.z, v.enc), (.z, P2 x y)] st = .ok .z false (P2 (v.x x y) (v.y x y)) st := by
  cases v with
  | move dx dy => simp (decide := true) [F_l_led, Way.enc, eqD_str, Way.x, Way.y]
  | turn => simp (decide := true) [F_l_led, Way.enc, eqD_str, Way.x, Way.y]
  | mirror => simp (decide := true) [F_l_led, Way.enc, eqD_str, Way.x, Way.y]
  | str m =>
    have hm : Le 21 m := ⟨by have := hv.1; have := hv.2; omega⟩
    simp (decide := true) [F_l_led, Way.enc, eqD_str, Way.x, Way.y]
abbrev Q4 (b : Int × Int × Int × Int) : D := B4 b.1 b.2.1 b.2.2.1 b.2.2.2
theorem cutD_hi {a b c d : D} : cutD [a, b, c, d] none (some 2) = [a, b] := by
  unfold cutD HT.sIx
  simp
theorem cutD_lo {a b c d : D} : cutD [a, b, c, d] (some 2) none = [c, d] := by
  unfold cutD HT.sIx
  simp
theorem ifm {a b : Int} (h : a ≤ b) : (if b < a then b else a) = a := by split <;> omega
theorem ifm' {a b : Int} (h : a ≤ b) : (if a < b then a else b) = a := by split <;> omega
theorem ifM {a b : Int} (h : a ≤ b) : (if b > a then b else a) = b := by split <;> omega
theorem ifM' {a b : Int} (h : a ≤ b) : (if a > b then a else b) = b := by split <;> omega
theorem ifM2 {a b : Int} (h : a ≤ b) : (if a < b then b else a) = b := by split <;> omega
theorem ifM2' {a b : Int} (h : a ≤ b) : (if b < a then a else b) = b := by split <;> omega
theorem f_l_led_block {v : Way} {b : Int × Int × Int × Int} (hv : v.ok) (lr : b.1 ≤ b.2.2.1) (wh : b.2.1 ≤ b.2.2.2) [Le 1000 b.1] [Le 1000 b.2.1] [Le 1000 b.2.2.1] [Le 1000 b.2.2.2] :
    F_l_led_block [(.z, v.enc), (.z, Q4 b)] st = .ok .z false (Q4 (v.blk b)) st := by
  obtain ⟨l, w, r, h⟩ := b
  dsimp only at lr wh
  have i1 : Le 1000 l := by assumption
  have i2 : Le 1000 w := by assumption
  have i3 : Le 1000 r := by assumption
  have i4 : Le 1000 h := by assumption
  have e1 := f_l_led (st := st) hv (x := l) (y := w)
  have e2 := f_l_led (st := st) hv (x := r) (y := h)
  simp [F_l_led_block, cutD_hi, cutD_lo, e1, e2]
  cases v with
  | move dx dy => simp only [Way.x, Way.y, Way.blk]; refine ⟨?_, ?_, ?_, ?_⟩ <;> grind
  | turn => simp only [Way.x, Way.y, Way.blk]; refine ⟨?_, ?_, ?_, ?_⟩ <;> grind
  | mirror => simp only [Way.x, Way.y, Way.blk]; refine ⟨?_, ?_, ?_, ?_⟩ <;> grind
  | str m =>
    have m0 := hv.1
    have k1 := Int.mul_le_mul_of_nonneg_right lr (show 0 ≤ m by omega)
    have k2 := Int.mul_le_mul_of_nonneg_right wh (show 0 ≤ m by omega)
    simp only [Way.x, Way.y, Way.blk]; refine ⟨?_, ?_, ?_, ?_⟩ <;> grind
end
/-! ### what stays -/
section
variable {ax ay bx bY cx cy dx dy l w r h : Int} {v : Way}
def Way.rx : Way → Rat → Rat → Rat
  | .move dx _, x, _ => x + dx
  | .turn, _, y => -y
  | .mirror, x, _ => -x
  | .str m, x, _ => x * m
def Way.ry : Way → Rat → Rat → Rat
  | .move _ dy, _, y => y + dy
  | .turn, x, _ => x
  | .mirror, _, y => y
  | .str m, _, y => y * m
theorem cast_x {x y : Int} : ((v.x x y : Int) : Rat) = v.rx x y := by
  cases v <;> simp only [Way.x, Way.rx, Rat.intCast_add, Rat.intCast_neg, Rat.intCast_mul]
theorem cast_y {x y : Int} : ((v.y x y : Int) : Rat) = v.ry x y := by
  cases v <;> simp only [Way.y, Way.ry, Rat.intCast_add, Rat.intCast_neg, Rat.intCast_mul]
theorem m_ne {m : Int} (h : (Way.str m).ok) : (m : Rat) ≠ 0 := by
  have := h.1
  rw [ne_eq, ← Rat.intCast_zero, icast_eq]; omega
theorem m_pos {m : Int} (h : (Way.str m).ok) : (0 : Rat) < m := by
  have := h.1
  rw [← Rat.intCast_zero, icast_lt]; omega
theorem on_led (hv : v.ok) {cx cy dx dy x y : Rat} : Geo.On (v.rx cx cy) (v.ry cx cy) (v.rx dx dy) (v.ry dx dy) (v.rx x y) (v.ry x y) ↔ Geo.On cx cy dx dy x y := by
  have key : ∀ {t : Rat}, ((v.rx x y) = (v.rx cx cy) + t * ((v.rx dx dy) - (v.rx cx cy)) ∧ (v.ry x y) = (v.ry cx cy) + t * ((v.ry dx dy) - (v.ry cx cy))) ↔ (x = cx + t * (dx - cx) ∧ y = cy + t * (dy - cy)) := fun {t} => by
    cases v with
    | move p q => simp only [Way.rx, Way.ry]; constructor <;> (rintro ⟨e1, e2⟩; constructor <;> grind)
    | turn => simp only [Way.rx, Way.ry]; constructor <;> (rintro ⟨e1, e2⟩; constructor <;> grind)
    | mirror => simp only [Way.rx, Way.ry]; constructor <;> (rintro ⟨e1, e2⟩; constructor <;> grind)
    | str m =>
      have hm := m_ne hv
      simp only [Way.rx, Way.ry]
      constructor
      · rintro ⟨e1, e2⟩
        have k1 : (x - (cx + t * (dx - cx))) * m = 0 := by grind
        have k2 : (y - (cy + t * (dy - cy))) * m = 0 := by grind
        rcases Rat.mul_eq_zero.mp k1 with z | z <;> rcases Rat.mul_eq_zero.mp k2 with z' | z' <;> first | exact absurd z hm | exact absurd z' hm | (constructor <;> grind)
      · rintro ⟨e1, e2⟩; constructor <;> grind
  unfold Geo.On
  constructor
  · rintro ⟨t, h0, h1, e1, e2⟩
    exact ⟨t, h0, h1, (key.mp ⟨e1, e2⟩).1, (key.mp ⟨e1, e2⟩).2⟩
  · rintro ⟨t, h0, h1, e1, e2⟩
    exact ⟨t, h0, h1, (key.mpr ⟨e1, e2⟩).1, (key.mpr ⟨e1, e2⟩).2⟩
theorem pt_led {ax ay bx bY s : Rat} : Geo.pt (v.rx ax ay) (v.rx bx bY) s = v.rx (Geo.pt ax bx s) (Geo.pt ay bY s) ∧ Geo.pt (v.ry ax ay) (v.ry bx bY) s = v.ry (Geo.pt ax bx s) (Geo.pt ay bY s) := by
  unfold Geo.pt
  cases v <;> simp only [Way.rx, Way.ry] <;> constructor <;> grind
theorem led_inj (hv : v.ok) : (v.x ax ay = v.x bx bY ∧ v.y ax ay = v.y bx bY) ↔ (ax = bx ∧ ay = bY) := by
  cases v with
  | move p q => simp only [Way.x, Way.y]; omega
  | turn => simp only [Way.x, Way.y]; omega
  | mirror => simp only [Way.x, Way.y]; omega
  | str m =>
    have hm : m ≠ 0 := by have := hv.1; omega
    simp only [Way.x, Way.y]
    constructor
    · rintro ⟨e1, e2⟩; exact ⟨Int.eq_of_mul_eq_mul_right hm e1, Int.eq_of_mul_eq_mul_right hm e2⟩
    · rintro ⟨e1, e2⟩; exact ⟨by rw [e1], by rw [e2]⟩
theorem onP_led (hv : v.ok) : onP (v.x cx cy) (v.y cx cy) (v.x dx dy) (v.y dx dy) (v.x ax ay) (v.y ax ay) = onP cx cy dx dy ax ay := by
  rw [Bool.eq_iff_iff, onP_iff, onP_iff, cast_x, cast_y, cast_x, cast_y, cast_x, cast_y, on_led hv]
theorem ne_of {ax ay bx bY : Int} (h : ¬ (ax = bx ∧ ay = bY)) : (ax : Rat) ≠ bx ∨ (ay : Rat) ≠ bY := by
  rw [ne_eq, ne_eq, icast_eq, icast_eq]
  by_cases q : ax = bx
  · exact .inr fun z => h ⟨q, z⟩
  · exact .inl q
theorem pshO_led (hv : v.ok) : pshO (v.x cx cy) (v.y cx cy) (v.x dx dy) (v.y dx dy) (v.x ax ay) (v.y ax ay) (v.x bx bY) (v.y bx bY) = pshO cx cy dx dy ax ay bx bY := by
  unfold pshO
  by_cases h : ax = bx ∧ ay = bY
  · rw [if_pos h, if_pos ((led_inj hv).mpr h), onP_led hv]
  · have h' := fun z => h ((led_inj hv).mp z)
    rw [if_neg h, if_neg h']
    refine Geo.IsSpan.uniq (fun s hs => ?_) (Geo.psh_span (ne_of h')) (Geo.psh_span (ne_of h))
    rw [cast_x, cast_y, cast_x, cast_y, cast_x, cast_y, cast_x, cast_y]
    rw [pt_led.1, pt_led.2, on_led hv]
theorem inB_led (hv : v.ok) {x y : Rat} (b : Int × Int × Int × Int) : Geo.InB ((v.blk b).1 : Rat) (v.blk b).2.1 (v.blk b).2.2.1 (v.blk b).2.2.2 (v.rx x y) (v.ry x y) ↔ Geo.InB (b.1 : Rat) b.2.1 b.2.2.1 b.2.2.2 x y := by
  obtain ⟨l, w, r, h⟩ := b
  unfold Geo.InB
  cases v with
  | move p q => simp only [Way.rx, Way.ry, Way.blk, Rat.intCast_add]; constructor <;> (rintro ⟨⟨e1, e2⟩, e3, e4⟩; refine ⟨⟨?_, ?_⟩, ?_, ?_⟩ <;> grind)
  | turn => simp only [Way.rx, Way.ry, Way.blk, Rat.intCast_neg]; constructor <;> (rintro ⟨⟨e1, e2⟩, e3, e4⟩; refine ⟨⟨?_, ?_⟩, ?_, ?_⟩ <;> grind)
  | mirror => simp only [Way.rx, Way.ry, Way.blk, Rat.intCast_neg]; constructor <;> (rintro ⟨⟨e1, e2⟩, e3, e4⟩; refine ⟨⟨?_, ?_⟩, ?_, ?_⟩ <;> grind)
  | str m =>
    have hm := m_pos hv
    have key : ∀ a b : Rat, a * m ≤ b * m ↔ a ≤ b := fun a b => by
      constructor
      · intro z
        refine Rat.not_lt.mp fun k => ?_
        have := Rat.mul_pos (show 0 < a - b by grind) hm
        grind
      · intro z
        have := Geo.mul_nn (show 0 ≤ b - a by grind) (show 0 ≤ (m : Rat) by grind)
        grind
    simp only [Way.rx, Way.ry, Way.blk, Rat.intCast_mul, key]
theorem bshO_led (hv : v.ok) (b : Int × Int × Int × Int) : bshO (v.blk b).1 (v.blk b).2.1 (v.blk b).2.2.1 (v.blk b).2.2.2 (v.x ax ay) (v.y ax ay) (v.x bx bY) (v.y bx bY) = bshO b.1 b.2.1 b.2.2.1 b.2.2.2 ax ay bx bY := by
  have e : Geo.bsh ((v.blk b).1 : Rat) (v.blk b).2.1 (v.blk b).2.2.1 (v.blk b).2.2.2 (v.x ax ay : Int) (v.y ax ay : Int) (v.x bx bY : Int) (v.y bx bY : Int) = Geo.bsh (b.1 : Rat) b.2.1 b.2.2.1 b.2.2.2 ax ay bx bY := by
    refine Geo.IsSpan.uniq (fun s hs => ?_) Geo.bsh_span Geo.bsh_span
    rw [cast_x, cast_y, cast_x, cast_y]
    rw [pt_led.1, pt_led.2, inB_led hv]
  unfold bshO
  rw [e]
  have := led_inj (v := v) hv (ax := ax) (ay := ay) (bx := bx) (bY := bY)
  simp only [this]
theorem blk_ord (hv : v.ok) {b : Int × Int × Int × Int} (lr : b.1 ≤ b.2.2.1) (wh : b.2.1 ≤ b.2.2.2) : (v.blk b).1 ≤ (v.blk b).2.2.1 ∧ (v.blk b).2.1 ≤ (v.blk b).2.2.2 := by
  obtain ⟨l, w, r, h⟩ := b
  dsimp only at lr wh
  cases v with
  | move p q => simp only [Way.blk]; omega
  | turn => simp only [Way.blk]; omega
  | mirror => simp only [Way.blk]; omega
  | str m =>
    have m0 := hv.1
    exact ⟨Int.mul_le_mul_of_nonneg_right lr (show 0 ≤ m by omega), Int.mul_le_mul_of_nonneg_right wh (show 0 ≤ m by omega)⟩
theorem le_x {n : Nat} {x y : Int} (hv : v.ok) (h1 : Sm n x) (h2 : Sm n y) (hn : 30 ≤ n) : Sm (n + 21) (v.x x y) ∧ Sm (n + 21) (v.y x y) := by
  have k : ∀ {i : Int}, Sm n i → Sm (n + 21) (-i) := fun {i} h => Sm.mono (n := n) (by unfold Sm at *; omega) (by omega)
  cases v with
  | move p q =>
    have hp : Sm 30 p := by have := hv.1; unfold Sm; omega
    have hq : Sm 30 q := by have := hv.2; unfold Sm; omega
    exact ⟨Sm.mono (Sm.add h1 hp) (by omega), Sm.mono (Sm.add h2 hq) (by omega)⟩
  | turn => exact ⟨k h2, h1.mono (by omega)⟩
  | mirror => exact ⟨k h1, h2.mono (by omega)⟩
  | str m =>
    have hm : Sm 21 m := by have := hv.1; have := hv.2; unfold Sm; omega
    exact ⟨Sm.mul h1 hm, Sm.mul h2 hm⟩
theorem le_blk {n : Nat} {b : Int × Int × Int × Int} (hv : v.ok) (h1 : Sm n b.1) (h2 : Sm n b.2.1) (h3 : Sm n b.2.2.1) (h4 : Sm n b.2.2.2) (hn : 30 ≤ n) : Sm (n + 21) (v.blk b).1 ∧ Sm (n + 21) (v.blk b).2.1 ∧ Sm (n + 21) (v.blk b).2.2.1 ∧ Sm (n + 21) (v.blk b).2.2.2 := by
  have a := le_x hv h1 h2 hn
  have c := le_x hv h3 h4 hn
  obtain ⟨l, w, r, h⟩ := b
  cases v with
  | move p q => exact ⟨a.1, a.2, c.1, c.2⟩
  | turn => exact ⟨c.1, a.2, a.1, c.2⟩
  | mirror => exact ⟨c.1, a.2, a.1, c.2⟩
  | str m => exact ⟨a.1, a.2, c.1, c.2⟩
end
end L04

set_option Elab.async false
set_option linter.all false
set_option maxRecDepth 100000
set_option autoImplicit false
namespace L04
open PySem PySem.Spec L2 Hx
section
variable {st : Store} {k : Nat}
/-- the figures of a turn, and what they tell -/
structure Fig (n : Nat) (b : Int × Int × Int × Int) (ax ay bx bY cx cy dx dy : Int) (o1 o2 : Option (Rat × Rat)) : Prop where
  lr : b.1 ≤ b.2.2.1
  wh : b.2.1 ≤ b.2.2.2
  sl : Sm n b.1 ∧ Sm n b.2.1 ∧ Sm n b.2.2.1 ∧ Sm n b.2.2.2
  sa : Sm n ax ∧ Sm n ay
  sb : Sm n bx ∧ Sm n bY
  sc : Sm n cx ∧ Sm n cy
  sd : Sm n dx ∧ Sm n dy
  e1 : bshO b.1 b.2.1 b.2.2.1 b.2.2.2 ax ay bx bY = o1
  e2 : pshO cx cy dx dy ax ay bx bY = o2
theorem Fig.led {n : Nat} {b : Int × Int × Int × Int} {ax ay bx bY cx cy dx dy : Int} {o1 o2 : Option (Rat × Rat)} (F : Fig n b ax ay bx bY cx cy dx dy o1 o2) {v : Way} (hv : v.ok) (hn : 30 ≤ n) :
    Fig (n + 21) (v.blk b) (v.x ax ay) (v.y ax ay) (v.x bx bY) (v.y bx bY) (v.x cx cy) (v.y cx cy) (v.x dx dy) (v.y dx dy) o1 o2 where
  lr := (blk_ord hv F.lr F.wh).1
  wh := (blk_ord hv F.lr F.wh).2
  sl := le_blk hv F.sl.1 F.sl.2.1 F.sl.2.2.1 F.sl.2.2.2 hn
  sa := le_x hv F.sa.1 F.sa.2 hn
  sb := le_x hv F.sb.1 F.sb.2 hn
  sc := le_x hv F.sc.1 F.sc.2 hn
  sd := le_x hv F.sd.1 F.sd.2 hn
  e1 := (bshO_led hv b).trans F.e1
  e2 := (pshO_led hv).trans F.e2
abbrev told (o1 o2 : Option (Rat × Rat)) : D := .con .lst [.bl o1.isSome, .bl o2.isSome, DO o1, DO o2]
theorem do_plain (o : Option (Rat × Rat)) : plainB 7 (DO o) = true := by
  cases o with
  | none => rfl
  | some lh => obtain ⟨l, h⟩ := lh; rfl
theorem told_plain (o1 o2 : Option (Rat × Rat)) : plainB 8 (told o1 o2) = true := by
  have h1 := do_plain o1
  have h2 := do_plain o2
  simp [told, plainB, h1, h2]
theorem tells {n : Nat} {b : Int × Int × Int × Int} {ax ay bx bY cx cy dx dy : Int} {o1 o2 : Option (Rat × Rat)} (F : Fig n b ax ay bx bY cx cy dx dy o1 o2) (hn : n ≤ 1000) :
    F_block_meets [(.z, Q4 b), (.z, .con .tup [P2 ax ay, P2 bx bY])] st = .ok .z false (.bl o1.isSome) st ∧
    F_pieces_meet [(.z, .con .tup [P2 ax ay, P2 bx bY]), (.z, .con .tup [P2 cx cy, P2 dx dy])] st = .ok .z false (.bl o2.isSome) st ∧
    F_block_shares [(.z, Q4 b), (.z, .con .tup [P2 ax ay, P2 bx bY])] st = .ok .z false (DO o1) st ∧
    F_piece_shares [(.z, .con .tup [P2 cx cy, P2 dx dy]), (.z, .con .tup [P2 ax ay, P2 bx bY])] st = .ok .z false (DO o2) st := by
  obtain ⟨lr, wh, ⟨s1, s2, s3, s4⟩, ⟨s5, s6⟩, ⟨s7, s8⟩, ⟨s9, s10⟩, ⟨s11, s12⟩, e1, e2⟩ := F
  have i1 : Le 1000 b.1 := ⟨s1.mono hn⟩
  have i2 : Le 1000 b.2.1 := ⟨s2.mono hn⟩
  have i3 : Le 1000 b.2.2.1 := ⟨s3.mono hn⟩
  have i4 : Le 1000 b.2.2.2 := ⟨s4.mono hn⟩
  have i5 : Le 1000 ax := ⟨s5.mono hn⟩
  have i6 : Le 1000 ay := ⟨s6.mono hn⟩
  have i7 : Le 1000 bx := ⟨s7.mono hn⟩
  have i8 : Le 1000 bY := ⟨s8.mono hn⟩
  have i9 : Le 1000 cx := ⟨s9.mono hn⟩
  have i10 : Le 1000 cy := ⟨s10.mono hn⟩
  have i11 : Le 1000 dx := ⟨s11.mono hn⟩
  have i12 : Le 1000 dy := ⟨s12.mono hn⟩
  subst e1 e2
  exact ⟨f_block_meets, pshO_some ▸ f_pieces_meet, f_block_shares, f_piece_shares⟩
theorem leds {n : Nat} {b : Int × Int × Int × Int} {ax ay bx bY cx cy dx dy : Int} {o1 o2 : Option (Rat × Rat)} (F : Fig n b ax ay bx bY cx cy dx dy o1 o2) (hn : n ≤ 1000) {v : Way} (hv : v.ok) :
    F_l_led_block [(.z, v.enc), (.z, Q4 b)] st = .ok .z false (Q4 (v.blk b)) st ∧ F_l_led [(.z, v.enc), (.z, P2 ax ay)] st = .ok .z false (P2 (v.x ax ay) (v.y ax ay)) st ∧
    F_l_led [(.z, v.enc), (.z, P2 bx bY)] st = .ok .z false (P2 (v.x bx bY) (v.y bx bY)) st ∧ F_l_led [(.z, v.enc), (.z, P2 cx cy)] st = .ok .z false (P2 (v.x cx cy) (v.y cx cy)) st ∧
    F_l_led [(.z, v.enc), (.z, P2 dx dy)] st = .ok .z false (P2 (v.x dx dy) (v.y dx dy)) st := by
  obtain ⟨lr, wh, ⟨s1, s2, s3, s4⟩, ⟨s5, s6⟩, ⟨s7, s8⟩, ⟨s9, s10⟩, ⟨s11, s12⟩, e1, e2⟩ := F
  have i1 : Le 1000 b.1 := ⟨s1.mono hn⟩
  have i2 : Le 1000 b.2.1 := ⟨s2.mono hn⟩
  have i3 : Le 1000 b.2.2.1 := ⟨s3.mono hn⟩
  have i4 : Le 1000 b.2.2.2 := ⟨s4.mono hn⟩
  have i5 : Le 1000 ax := ⟨s5.mono hn⟩
  have i6 : Le 1000 ay := ⟨s6.mono hn⟩
  have i7 : Le 1000 bx := ⟨s7.mono hn⟩
  have i8 : Le 1000 bY := ⟨s8.mono hn⟩
  have i9 : Le 1000 cx := ⟨s9.mono hn⟩
  have i10 : Le 1000 cy := ⟨s10.mono hn⟩
  have i11 : Le 1000 dx := ⟨s11.mono hn⟩
  have i12 : Le 1000 dy := ⟨s12.mono hn⟩
  exact ⟨f_l_led_block hv lr wh, f_l_led hv, f_l_led hv, f_l_led hv, f_l_led hv⟩
/-- between the steps -/
def I (scr : D) (o1 o2 : Option (Rat × Rat)) (v2 v3 : Option (Fr × D)) (k i : Nat) (e : Hx.Env) (s : Store) : Prop :=
  Bag (k + 10 * i) s 0 ∧ ∃ b ax ay bx bY cx cy dx dy, Fig (30 + 21 * i) b ax ay bx bY cx cy dx dy o1 o2 ∧ ∃ v8 v9 v10 v11, e = [some (.z, scr), some (.z, .ref 0), v2, v3, some (.z, Q4 b), some (.z, .con .tup [P2 ax ay, P2 bx bY]), some (.z, .con .tup [P2 cx cy, P2 dx dy]), some (.z, told o1 o2), v8, v9, v10, v11]
theorem pow9 : powOk 10 9 = true := by decide
theorem pow6 : powOk 10 6 = true := by decide
theorem step {scr : D} {o1 o2 : Option (Rat × Rat)} {v2 v3 : Option (Fr × D)} {i : Nat} {e : Hx.Env} (hi : i < 3) (hk : k + 40 < 2 ^ 100) (d0 : D) (H : I scr o1 o2 v2 v3 k i e st) :
    ∃ env1, bindP (.nm 8) .z d0 e = some env1 ∧ Nx (fun e2 s2 => I scr o1 o2 v2 v3 k (i + 1) (killE [] e2) s2) (B_law_1b_5b env1 st) := by
  obtain ⟨B, b, ax, ay, bx, bY, cx, cy, dx, dy, F, v8, v9, v10, v11, rfl⟩ := H
  refine ⟨_, rfl, ?_⟩
  obtain ⟨g1, s1, e1, p1, p2, _, B, f1⟩ := pull (n := 8) 99 B (by omega) (by decide) (by decide) (by decide)
  obtain ⟨g2, s2, e2, q1, q2, _, B, f2⟩ := pull (n := 40) 1000000000 B (by omega) (by decide) (by decide) (by decide)
  obtain ⟨g3, s3, e3, r1, r2, _, B, f3⟩ := pull (n := 8) 2 B (by omega) (by decide) (by decide) (by decide)
  have hm : ∃ m : Int, (m = 3 ∨ m = 1000000) ∧ atI [D.int 3, D.int 1000000] g3 = some (.int m) := by
    have : g3 = 0 ∨ g3 = 1 := by omega
    rcases this with rfl | rfl
    · exact ⟨3, .inl rfl, by simp⟩
    · exact ⟨1000000, .inr rfl, by simp⟩
  obtain ⟨m, hm, em⟩ := hm
  obtain ⟨g4, s4, e4, t1, t2, _, B, f4⟩ := pull (n := 40) m B (by omega) (by omega) (by omega) (by decide)
  obtain ⟨g5, d, s5, e5, u1, u2, u3, B, f5⟩ := f_l_one (n := 8) (ds := [.con .tup [.str "move", .int (g1 - 49), .int g2], .con .tup [.str "turn"], .con .tup [.str "mirror"], .con .tup [.str "stretch", .int (1 + g4)]]) B (by omega) (by simp) (by simp) (by decide)
  have hw : ∃ v : Way, d = v.enc ∧ v.ok := by
    have : g5.toNat < 4 := by simp at u3; omega
    have q : g5.toNat = 0 ∨ g5.toNat = 1 ∨ g5.toNat = 2 ∨ g5.toNat = 3 := by omega
    rcases q with q | q | q | q <;> rw [q] at u2 <;> simp at u2 <;> subst u2
    · exact ⟨.move (g1 - 49) g2, rfl, by constructor <;> omega⟩
    · exact ⟨.turn, rfl, trivial⟩
    · exact ⟨.mirror, rfl, trivial⟩
    · exact ⟨.str (1 + g4), rfl, by constructor <;> omega⟩
  obtain ⟨v, rfl, hv⟩ := hw
  have F' := F.led hv (by omega)
  obtain ⟨l1, l2, l3, l4, l5⟩ := leds (st := s5) F (by omega) hv
  obtain ⟨m1, m2, m3, m4⟩ := tells (st := s5) F' (by omega)
  have sm := same8 (st := s5) (told_plain o1 o2)
  simp [B_law_1b_5b, pow9, pow6, e1, e2, e3, em, e4, e5, l1, l2, l3, l4, l5, m1, m2, m3, m4, sm, killE_nil]
  exact ⟨B.mono (by omega), _, _, _, _, _, _, _, _, _, F', _, _, _, _, rfl⟩
abbrev J (scr : D) (k : Nat) (e : Hx.Env) (s : Store) : Prop := Bag k s 0 ∧ ∃ v2 v3 v4 v5 v6 v7 v8 v9 v10 v11, e = [some (.z, scr), some (.z, .ref 0), v2, v3, v4, v5, v6, v7, v8, v9, v10, v11]
theorem spot_sm {x y : Int} (h : Spot x y) : Sm 30 x ∧ Sm 30 y := ⟨by have := h.x0; have := h.x1; unfold Sm; omega, by have := h.y0; have := h.y1; unfold Sm; omega⟩
theorem body {scr : D} {v2 v3 v4 v5 v6 v7 v8 v9 v10 v11 : Option (Fr × D)} (B : Bag k st 0) (hk : k + 90 < 2 ^ 100) :
    Nx (J scr (k + 60)) (B_law_1b [some (.z, scr), some (.z, .ref 0), v2, v3, v4, v5, v6, v7, v8, v9, v10, v11] st) := by
  obtain ⟨gw, ga, gb, s0, e0, G, B, f0⟩ := f_l_grid B (by omega)
  obtain ⟨l, w, r, h, s1, e1, lw, rh, lr, wh, B, f1⟩ := f_l_block B (by omega) G
  obtain ⟨ax, ay, s2, e2, sa, B, f2⟩ := f_l_spot B (by omega) G
  obtain ⟨bx, bY, s3, e3, sb, B, f3⟩ := f_l_spot B (by omega) G
  obtain ⟨cx, cy, s4, e4, sc, B, f4⟩ := f_l_spot B (by omega) G
  obtain ⟨dx, dy, s5, e5, sd, B, f5⟩ := f_l_spot B (by omega) G
  obtain ⟨g, s6, e6, g1, g2, _, B, f6⟩ := pull (n := 8) 3 B (by omega) (by decide) (by decide) (by decide)
  have F : Fig 30 (l, w, r, h) ax ay bx bY cx cy dx dy _ _ := ⟨lr, wh, ⟨(spot_sm lw).1, (spot_sm lw).2, (spot_sm rh).1, (spot_sm rh).2⟩, spot_sm sa, spot_sm sb, spot_sm sc, spot_sm sd, rfl, rfl⟩
  generalize bshO (l, w, r, h).1 (l, w, r, h).2.1 (l, w, r, h).2.2.1 (l, w, r, h).2.2.2 ax ay bx bY = o1 at F
  generalize pshO cx cy dx dy ax ay bx bY = o2 at F
  obtain ⟨m1, m2, m3, m4⟩ := tells (st := s5) F (by omega)
  have sg : small62 (1 + g) = true := by simp [small62]; omega
  have hlen : (rngItems 0 (1 + g)).length ≤ 3 := by simp [rngItems]; omega
  obtain ⟨env', st', q, B', b, ax', ay', bx', bY', cx', cy', dx', dy', _, w8, w9, w10, w11, rfl⟩ := forGo_nx (p := .nm 8) (body := B_law_1b_5b) (ks := []) (I scr o1 o2 v2 (some (.z, .con .tup [.int gw, .int ga, .int gb])) (k + 22))
    (rngItems 0 (1 + g)) [some (.z, scr), some (.z, .ref 0), v2, some (.z, .con .tup [.int gw, .int ga, .int gb]), some (.z, B4 l w r h), some (.z, .con .tup [P2 ax ay, P2 bx bY]), some (.z, .con .tup [P2 cx cy, P2 dx dy]), some (.z, told o1 o2), v8, v9, v10, v11] s6
    (fun i env st d hi _ H => step (by omega) (by omega) d H) ⟨B.mono (by omega), _, _, _, _, _, _, _, _, _, F, _, _, _, _, rfl⟩
  simp [B_law_1b, e0, e1, e2, e3, e4, e5, m1, m2, m3, m4, dFor, e6, sg, q]
  exact ⟨B'.mono (by omega), _, _, _, _, _, _, _, _, _, _, rfl⟩
end
theorem f_law (ns : List Int) (hl : ns.length ≤ 63) : ∃ st, F_law [(.z, .con .frl (ns.map D.int))] [] = .ok .z false (.bl true) st := by
  obtain ⟨d, e, B⟩ := law_bag ns hl
  have s62 : small62 3 = true := by decide
  obtain ⟨env', st', q, _, w2, w3, w4, w5, w6, w7, w8, w9, w10, w11, rfl⟩ := forGo_nx (p := .nm 2) (body := B_law_1b) (ks := []) (fun n => J (.con .frl (ns.map D.int)) (60 * n))
    (rngItems 0 3) [some (.z, .con .frl (ns.map D.int)), some (.z, .ref 0), none, none, none, none, none, none, none, none, none, none] [(.c .z, .con .lst d)] (by
      rintro i env st d0 hi _ ⟨B, v2, v3, v4, v5, v6, v7, v8, v9, v10, v11, rfl⟩
      have hi : i < 3 := hi
      exact ⟨_, rfl, body (k := 60 * i) B (by omega)⟩) ⟨B, _, _, _, _, _, _, _, _, _, _, rfl⟩
  exact ⟨st', by simp [F_law, e, dFor, s62, q]⟩
end L04

set_option Elab.async false
set_option linter.all false
set_option maxRecDepth 100000
set_option maxHeartbeats 0
set_option autoImplicit false
namespace L04
open PySem PySem.Spec L2 Hx
open PyProof.Rows hiding St
def dd_common_divisor : He.DefD := ⟨("common_divisor", none), "common_divisor", "common_divisor", defArgs (top 4), defBody (top 4), defScope (top 4), [], []⟩
def dd_fraction : He.DefD := ⟨("fraction", none), "fraction", "fraction", defArgs (top 5), defBody (top 5), defScope (top 5), [.int 1].map dvOf, []⟩
def dd_order : He.DefD := ⟨("order", none), "order", "order", defArgs (top 6), defBody (top 6), defScope (top 6), [], []⟩
def dd_corner_room : He.DefD := ⟨("corner_room", none), "corner_room", "corner_room", defArgs (top 10), defBody (top 10), defScope (top 10), [], []⟩
def dd_side : He.DefD := ⟨("side", none), "side", "side", defArgs (top 11), defBody (top 11), defScope (top 11), [], []⟩
def dd_is_within : He.DefD := ⟨("is_within", none), "is_within", "is_within", defArgs (top 12), defBody (top 12), defScope (top 12), [], []⟩
def dd_on_piece : He.DefD := ⟨("on_piece", none), "on_piece", "on_piece", defArgs (top 13), defBody (top 13), defScope (top 13), [], []⟩
def dd_cut_down : He.DefD := ⟨("cut_down", none), "cut_down", "cut_down", defArgs (top 14), defBody (top 14), defScope (top 14), [], []⟩
def dd_slab : He.DefD := ⟨("slab", none), "slab", "slab", defArgs (top 15), defBody (top 15), defScope (top 15), [], []⟩
def dd_block_shares : He.DefD := ⟨("block_shares", none), "block_shares", "block_shares", defArgs (top 16), defBody (top 16), defScope (top 16), [], []⟩
def dd_share_on : He.DefD := ⟨("share_on", none), "share_on", "share_on", defArgs (top 17), defBody (top 17), defScope (top 17), [], []⟩
def dd_along_shares : He.DefD := ⟨("along_shares", none), "along_shares", "along_shares", defArgs (top 18), defBody (top 18), defScope (top 18), [], []⟩
def dd_piece_shares : He.DefD := ⟨("piece_shares", none), "piece_shares", "piece_shares", defArgs (top 19), defBody (top 19), defScope (top 19), [], []⟩
def dd_pieces_meet : He.DefD := ⟨("pieces_meet", none), "pieces_meet", "pieces_meet", defArgs (top 20), defBody (top 20), defScope (top 20), [], []⟩
def dd_block_meets : He.DefD := ⟨("block_meets", none), "block_meets", "block_meets", defArgs (top 21), defBody (top 21), defScope (top 21), [], []⟩
def dd_l_bag : He.DefD := ⟨("_law_bag", none), "_law_bag", "_law_bag", defArgs (top 23), defBody (top 23), defScope (top 23), [], []⟩
def dd_l_pull : He.DefD := ⟨("_law_pull", none), "_law_pull", "_law_pull", defArgs (top 24), defBody (top 24), defScope (top 24), [], []⟩
def dd_l_one : He.DefD := ⟨("_law_one", none), "_law_one", "_law_one", defArgs (top 25), defBody (top 25), defScope (top 25), [], []⟩
def dd_l_same : He.DefD := ⟨("_law_same", none), "_law_same", "_law_same", defArgs (top 26), defBody (top 26), defScope (top 26), [], []⟩
def dd_l_grid : He.DefD := ⟨("_law_grid", none), "_law_grid", "_law_grid", defArgs (top 27), defBody (top 27), defScope (top 27), [], []⟩
def dd_l_spot : He.DefD := ⟨("_law_spot", none), "_law_spot", "_law_spot", defArgs (top 28), defBody (top 28), defScope (top 28), [], []⟩
def dd_l_block : He.DefD := ⟨("_law_block", none), "_law_block", "_law_block", defArgs (top 29), defBody (top 29), defScope (top 29), [], []⟩
def dd_l_led : He.DefD := ⟨("_law_led", none), "_law_led", "_law_led", defArgs (top 30), defBody (top 30), defScope (top 30), [], []⟩
def dd_l_led_block : He.DefD := ⟨("_law_led_block", none), "_law_led_block", "_law_led_block", defArgs (top 31), defBody (top 31), defScope (top 31), [], []⟩
def dd_law : He.DefD := ⟨("law", none), "law", "law", defArgs (top 32), defBody (top 32), defScope (top 32), [], []⟩
def hfn : List He.DefD := [dd_common_divisor, dd_fraction, dd_order, dd_corner_room, dd_side, dd_is_within, dd_on_piece, dd_cut_down, dd_slab, dd_block_shares, dd_share_on, dd_along_shares, dd_piece_shares, dd_pieces_meet, dd_block_meets, dd_l_bag, dd_l_pull, dd_l_one, dd_l_same, dd_l_grid, dd_l_spot, dd_l_block, dd_l_led, dd_l_led_block, dd_law]
def hfa : List He.Fa := [.glo "common_divisor", .glo "fraction", .glo "order", .glo "corner_room", .glo "side", .glo "is_within", .glo "on_piece", .glo "cut_down", .glo "slab", .glo "block_shares", .glo "share_on", .glo "along_shares", .glo "piece_shares", .glo "pieces_meet", .glo "block_meets", .glo "_law_bag", .glo "_law_pull", .glo "_law_one", .glo "_law_same", .glo "_law_grid", .glo "_law_spot", .glo "_law_block", .glo "_law_led", .glo "_law_led_block", .glo "law", .free "abs", .free "all", .free "bool", .free "int", .free "isinstance", .free "len", .free "list", .free "max", .free "min", .free "range", .free "str", .free "tuple"]
def hcs : List (Str × D) := [("START", .con .tup [.int 0, .int 1]), ("END", .con .tup [.int 1, .int 1])]
def hloose : List Str := ["ShadeError", "Nought", "common_divisor", "fraction", "order", "START", "END", "corner_room", "side", "is_within", "on_piece", "cut_down", "slab", "block_shares", "share_on", "along_shares", "piece_shares", "pieces_meet", "block_meets", "_law_bag", "_law_pull", "_law_one", "_law_same", "_law_grid", "_law_spot", "_law_block", "_law_led", "_law_led_block"]
abbrev hR : PySem.W.OpenRow := PySem.W.OpenLaw.row PySem.Challenge.rw_hueshade_k04_whole_figures_moved_and_tur
def has (q : Addr → Option Obj) : List Addr := He.asD q 4
abbrev hH : PySem.W.Hook := hookX has hfa hfn (constsB hcs)
def hob (s : PySem.W.SharedT) : He.AlD × Bool := obsX has hfa hfn (constsB hcs) (HandSHeadRun.getT s)
theorem hob_eq (s : PySem.W.SharedT) : hob s = hH.obs s.abs := obsX_eq (HandSHeadRun.getT_eq s)
theorem hrun (w : World) : HandSHeadRun.RunEq hR (PySem.W.view hR.prog [32]) hH hob 20000 hloose w := by
  intro os
  kernel_rfl
theorem env_of {P : Program} {w : World} {K : PySem.W.Frag} {h : Heap} {mg : Str → Option Value} {base : Heap} (X : K.In h) (Gn : h.Ns mainGlobals mg) (c : He.SaysD hfa hfn K) (cx : constsB hcs K = true) : Env (S0 P w K mg base) where
  b_abs := He.free_ok X Gn (c.fact 25 (f := .free "abs") rfl)
  b_all := He.free_ok X Gn (c.fact 26 (f := .free "all") rfl)
  b_bool := He.free_ok X Gn (c.fact 27 (f := .free "bool") rfl)
  b_int := He.free_ok X Gn (c.fact 28 (f := .free "int") rfl)
  b_isinstance := He.free_ok X Gn (c.fact 29 (f := .free "isinstance") rfl)
  b_len := He.free_ok X Gn (c.fact 30 (f := .free "len") rfl)
  b_list := He.free_ok X Gn (c.fact 31 (f := .free "list") rfl)
  b_max := He.free_ok X Gn (c.fact 32 (f := .free "max") rfl)
  b_min := He.free_ok X Gn (c.fact 33 (f := .free "min") rfl)
  b_range := He.free_ok X Gn (c.fact 34 (f := .free "range") rfl)
  b_str := He.free_ok X Gn (c.fact 35 (f := .free "str") rfl)
  b_tuple := He.free_ok X Gn (c.fact 36 (f := .free "tuple") rfl)
  c_START := gv_of (S := S0 P w K mg base) X Gn (constsB_at cx 0 rfl)
  c_END := gv_of (S := S0 P w K mg base) X Gn (constsB_at cx 1 rfl)
  k_common_divisor := kn_of c X Gn 0 0 (d := dd_common_divisor) rfl rfl
  k_fraction := knd_of c X Gn 1 1 (d := dd_fraction) rfl rfl
  k_order := kn_of c X Gn 2 2 (d := dd_order) rfl rfl
  k_corner_room := kn_of c X Gn 3 3 (d := dd_corner_room) rfl rfl
  k_side := kn_of c X Gn 4 4 (d := dd_side) rfl rfl
  k_is_within := kn_of c X Gn 5 5 (d := dd_is_within) rfl rfl
  k_on_piece := kn_of c X Gn 6 6 (d := dd_on_piece) rfl rfl
  k_cut_down := kn_of c X Gn 7 7 (d := dd_cut_down) rfl rfl
  k_slab := kn_of c X Gn 8 8 (d := dd_slab) rfl rfl
  k_block_shares := kn_of c X Gn 9 9 (d := dd_block_shares) rfl rfl
  k_share_on := kn_of c X Gn 10 10 (d := dd_share_on) rfl rfl
  k_along_shares := kn_of c X Gn 11 11 (d := dd_along_shares) rfl rfl
  k_piece_shares := kn_of c X Gn 12 12 (d := dd_piece_shares) rfl rfl
  k_pieces_meet := kn_of c X Gn 13 13 (d := dd_pieces_meet) rfl rfl
  k_block_meets := kn_of c X Gn 14 14 (d := dd_block_meets) rfl rfl
  k_l_bag := kn_of c X Gn 15 15 (d := dd_l_bag) rfl rfl
  k_l_pull := kn_of c X Gn 16 16 (d := dd_l_pull) rfl rfl
  k_l_one := kn_of c X Gn 17 17 (d := dd_l_one) rfl rfl
  k_l_same := kn_of c X Gn 18 18 (d := dd_l_same) rfl rfl
  k_l_grid := kn_of c X Gn 19 19 (d := dd_l_grid) rfl rfl
  k_l_spot := kn_of c X Gn 20 20 (d := dd_l_spot) rfl rfl
  k_l_block := kn_of c X Gn 21 21 (d := dd_l_block) rfl rfl
  k_l_led := kn_of c X Gn 22 22 (d := dd_l_led) rfl rfl
  k_l_led_block := kn_of c X Gn 23 23 (d := dd_l_led_block) rfl rfl
  k_law := kn_of c X Gn 24 24 (d := dd_law) rfl rfl
theorem facts {P : Program} {w : World} {K : PySem.W.Frag} {h : Heap} {mg : Str → Option Value} {f : Addr} (X : K.In h) (Gn : h.Ns mainGlobals mg) (hfa0 : mg ("law" : Str) = some (.ref f)) (c : He.SaysD hfa hfn K) (cx : constsB hcs K = true) :
    ∃ fd : FuncData, (∀ (s : Shared) (v : Value), BindsTo s fd ⟨[v], []⟩ [("_law_script", v)]) ∧ ∀ base : Heap, K.In base → base.Ns mainGlobals mg → FnOk P w K mg base (L2.CX P w) 10 f fd ["_law_script"] (SpF (S0 P w K mg base).G 1 F_law) := by
  obtain ⟨fd, F⟩ := c.def_ 24 (d := dd_law) rfl
  have e := hfa0.symm.trans (He.glo_ok X Gn (c.fact 24 (f := .glo "law") rfl))
  cases e
  have b := FunD.bindsA (ps := ["_law_script"]) F bn_law
  exact ⟨fd, fun s v => b s [v] rfl, fun base _ _ => ok_fn (S := (S0 P w K mg base).at ["_law_script", "_law_bag_here", "_law_turn", "_law_grid_here", "_law_block_here", "_law_one_here", "_law_two", "_law_due", "_law_step", "_law_ways", "_law_way", "_law_found"] (defScope (top 32)) 9) F sc_law (ds_law (env_of X Gn c cx)) rfl⟩
end L04
open PySem PySem.W PySem.Calls PyProof.Rows
theorem PySem.Challenge.cw_hueshade_k04_whole_figures_moved_and_tur_holds : PySem.Challenge.rw_hueshade_k04_whole_figures_moved_and_tur.Holds := by
  w_on; o_law
  refine HandSHeadRun.head_any (r := OpenLaw.row PySem.Challenge.rw_hueshade_k04_whole_figures_moved_and_tur) (q := view (OpenLaw.row PySem.Challenge.rw_hueshade_k04_whole_figures_moved_and_tur).prog [32]) (H := L04.hH) (ob := L04.hob) (M := 20000) (loose := L04.hloose) (d := HandSHeadRun.topDef (OpenLaw.row PySem.Challenge.rw_hueshade_k04_whole_figures_moved_and_tur).prog 32) (kwd := []) L04.hob_eq
    (by kernel_rfl) (fun s => by kernel_rfl) L04.hrun (by kernel_rfl) (by kernel_rfl) (by kernel_rfl) (by rfl) (by first | assumption | decide +kernel) (by decide +kernel) ⟨rfl, rfl, rfl, rfl, rfl, by decide +kernel⟩ ?hw ?hc
  case hw => w_witness2
  case hc =>
    refine Hx.law_end (l := PySem.Challenge.rw_hueshade_k04_whole_figures_moved_and_tur) (n := 63) (k := 10) (x := "_law_script") rfl (by decide) (by kernel_rfl) ⟨rfl, by decide, by decide⟩ ?F
    intro w mg fa h Y Gn hmg0
    obtain ⟨K, KX, c, cx⟩ := Y
    have hmg : mg ("law" : PySem.Str) = some (.ref fa) := by
      have e : (HandSHeadRun.topDef (OpenLaw.row PySem.Challenge.rw_hueshade_k04_whole_figures_moved_and_tur).prog 32).name = ("law" : PySem.Str) := by kernel_rfl
      rw [← e]
      exact hmg0
    obtain ⟨fd, hb, hF⟩ := L04.facts (P := (PySem.Challenge.rw_hueshade_k04_whole_figures_moved_and_tur).prog) (w := w) KX Gn hmg c cx
    exact ⟨K, fd, _, KX, hb, fun H a ns hl hS => by
      obtain ⟨st, e⟩ := L04.f_law ns hl
      exact Hx.law_sp (G := ⟨K, fun _ => 0, fun _ => [], fun _ => .non⟩) hS e, hF⟩

