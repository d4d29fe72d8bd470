import PyProof.Rows.All
import Wide.All
import OpenK.AllK
import Wide.FinOn
import HandS.ForMost
import HandS.Exc
import HandS.Defaults
import HandS.Wide
import HandS.CallSlots
import HandS.WordsExc
import HandS.Lambda
import KE.KNest
import HandS.Style
import HandS.NoneIn
import HandS.TupAny
import HandS.IsInst
import HandS.WordsDict
import KE.KStateDown
import HandS.Head0
import HandS.Head1
import HandS.Head2
import HandS.HeadEnd
import HandS.HeadHook1
import HandS.HeadHook2
import Lean
import KE.KExcInit
import HandS.ExcInit
import HandS.ExcField
import PyProof.ExcBaseAll.RuntimeError
import PyProof.ExcBaseAll.LookupError
import HandS.Nested
import HandS.EndOwn
import KE.GoesZip
import HandS.Zip0
import HandS.Iter
import HandS.Zip
import KE.GoesEnumKw
import HandS.Rev
import HandS.SortInts
import HandS.More
import HandS.Text
import HandS.FStr
import HandS.Flow
import HandS.RaiseMore
import HandS.StrMore
import HandS.Deep
import PySem.Challenge.RW_hueshade_k07_fractions
set_option Elab.async false
set_option linter.all false
set_option maxRecDepth 100000
set_option autoImplicit false
/-! F1: data trees, ownership marks, how a value stands for a tree in a heap. -/
namespace Hx
open PySem PySem.Spec L2
open PyProof.Rows hiding St

inductive Kd
  | tup | lst | frl | dik (ks : List Key) | dit (ks : List (List Key)) | ins (c : Nat)
  deriving DecidableEq
inductive D
  | non | bl (b : Bool) | int (i : Int) | str (s : Str) | fnv (f : Addr) (j : Nat) | ref (i : Nat) | con (k : Kd) (ds : List D)
  deriving Inhabited
/-- z: shared, never changed again. c f: owned, its items are f. t, o: of a tuple, of an instance by place -/
inductive Fr
  | z | c (f : Fr) | t (fs : List Fr) | o (fs : List Fr)
  deriving Inhabited
abbrev Fp := Addr → Nat
abbrev Env := List (Option (Fr × D))
abbrev Store := List (Fr × D)
inductive Res
  | ok (f : Fr) (b : Bool) (d : D) (st : Store) | exc (c : Nat) (ds : List D) (st : Store) | stuck
abbrev Fn := List (Fr × D) → Store → Res
/-- a closure that may be called: where it stands, its parameters, its reading, what stands of it, what it has captured -/
structure LamD where
  f : Addr
  n : Nat
  r : Fn
  ent : List (Addr × HO)
  cv : List V
  cd : List D
structure Sg where
  K : PySem.W.Frag
  cls : Nat → Addr
  fld : Nat → List Str
  T : List (Addr × Str)
  lam : Nat → Option LamD
  /-- the exception classes -/
  xs : List Nat
/-- no closure -/
@[reducible] def Sg.off (G : Sg) : Sg := { G with lam := fun _ => none }

def Scal (G : Sg) : V → D → Prop
  | .non, .non => True
  | .bl a, .bl b => a = b
  | .int a, .int b => a = b
  | .str a, .str b => a = b
  | x, .fnv f _ => x = .ref f
  | _, _ => False
/-- the object of a container -/
def IsO (G : Sg) : Kd → List V → HO → Prop
  | .tup, vs, o => o = .tup vs
  | .lst, vs, o => o = .lst vs
  | .frl, vs, o => ∃ ob, o = .frz ob (.lst vs)
  | .dik ks, vs, o => o = .dK (ks.zip vs) ∧ ks.length = vs.length
  | .dit ks, vs, o => o = .dT (ks.zip vs) ∧ ks.length = vs.length
  | .ins c, vs, o => ∃ dx, o = .ins (G.cls c) dx ((G.fld c).zip vs) ∧ vs.length ≤ (G.fld c).length
/-- a dict may be locked while a loop walks it -/
def Rdk (H : Hp) (p : Addr) : Kd → HO → Prop
  | .dik _, o => Rd H p o
  | .dit _, o => Rd H p o
  | _, o => H p = some o
def dkO : HO → Bool
  | .dK _ => true
  | .dT _ => true
  | _ => false
def isDct : HO → Bool
  | .dK _ => true
  | .dT _ => true
  | .frz _ (.dK _) => true
  | .frz _ (.dT _) => true
  | _ => false
def Shr (G : Sg) (Fz : Addr → Prop) (H : Hp) (p : Addr) (k : Kd) (vs : List V) : Prop :=
  match k with
  | .tup => SqT G.K H p vs
  | .frl => (Fz p ∧ Rd H p (.lst vs)) ∨ (SqL G.K (fun _ => none) p vs)
  | k => Fz p ∧ ∃ o, Rdk H p k o ∧ IsO G k vs o
def Own (G : Sg) (H : Hp) (p : Addr) (k : Kd) (vs : List V) : Prop := (k ≠ .tup ∧ k ≠ .frl) ∧ ∃ o, H p = some o ∧ IsO G k vs o
def zs (n : Nat) : List Fr := List.replicate n .z

mutual
inductive Rep (G : Sg) (Fz : Addr → Prop) (am : List Addr) (H : Hp) : Fr → V → D → Fp → Prop
  | sc {v d n} : Scal G v d → (∀ q, n q = 0) → Rep G Fz am H .z v d n
  | rf {i p n} : am[i]? = some p → (∀ q, n q = 0) → Rep G Fz am H .z (.ref p) (.ref i) n
  | zz {p k vs ds n} : Shr G Fz H p k vs → Reps G Fz am H (zs ds.length) vs ds n → (∀ q, n q = 0) → Rep G Fz am H .z (.ref p) (.con k ds) n
  | tp {p vs ds fs n} : SqT G.K H p vs → Reps G Fz am H fs vs ds n → Rep G Fz am H (.t fs) (.ref p) (.con .tup ds) n
  | cc {p k vs ds f n m} : Own G H p k vs → Reps G Fz am H (List.replicate ds.length f) vs ds m → (∀ q, n q = m q + if q = p then 1 else 0) → Rep G Fz am H (.c f) (.ref p) (.con k ds) n
  | oo {p c vs ds fs n m} : Own G H p (.ins c) vs → Reps G Fz am H fs vs ds m → (∀ q, n q = m q + if q = p then 1 else 0) → Rep G Fz am H (.o fs) (.ref p) (.con (.ins c) ds) n
inductive Reps (G : Sg) (Fz : Addr → Prop) (am : List Addr) (H : Hp) : List Fr → List V → List D → Fp → Prop
  | nil {n} : (∀ q, n q = 0) → Reps G Fz am H [] [] [] n
  | cons {f v d fs vs ds n1 n2 n} : Rep G Fz am H f v d n1 → Reps G Fz am H fs vs ds n2 → (∀ q, n q = n1 q + n2 q) → Reps G Fz am H (f :: fs) (v :: vs) (d :: ds) n
end

section
variable {G : Sg} {Fz Fz' : Addr → Prop} {am am' : List Addr} {H H' : Hp}

/-- the shared part stays -/
structure Ext (Fz : Addr → Prop) (am : List Addr) (H : Hp) (Fz' : Addr → Prop) (am' : List Addr) (H' : Hp) : Prop where
  fz : ∀ p, Fz p → Fz' p
  cl : ∀ (i : Nat) (p : Addr), am[i]? = some p → am'[i]? = some p
  rd : ∀ p u, Fz p → Rd H p u → Rd H' p u
  st : ∀ p u, Fz p → H p = some u → dkO u = false → H' p = some u
  tp : ∀ p xs, Rd H p (.tup xs) → Rd H' p (.tup xs)
theorem Ext.refl : Ext Fz am H Fz am H := ⟨fun _ h => h, fun _ _ h => h, fun _ _ _ h => h, fun _ _ _ h _ => h, fun _ _ h => h⟩
theorem Ext.trans {Fz2 : Addr → Prop} {am2 : List Addr} {H2 : Hp} (a : Ext Fz am H Fz' am' H') (b : Ext Fz' am' H' Fz2 am2 H2) : Ext Fz am H Fz2 am2 H2 :=
  ⟨fun p h => b.fz p (a.fz p h), fun i p h => b.cl i p (a.cl i p h), fun p u h1 h2 => b.rd p u (a.fz p h1) (a.rd p u h1 h2), fun p u h1 h2 h3 => b.st p u (a.fz p h1) (a.st p u h1 h2 h3) h3, fun p xs h => b.tp p xs (a.tp p xs h)⟩
theorem Ext.sqt (E : Ext Fz am H Fz' am' H') {K : PySem.W.Frag} {p : Addr} {vs : List V} (h : SqT K H p vs) : SqT K H' p vs := h.imp (E.tp _ _) fun x => x
theorem Ext.shr (E : Ext Fz am H Fz' am' H') {p : Addr} {k : Kd} {vs : List V} (h : Shr G Fz H p k vs) : Shr G Fz' H' p k vs := by
  cases k with
  | tup => exact E.sqt h
  | dik ks => obtain ⟨h1, o, h2, h3⟩ := h; exact ⟨E.fz _ h1, o, E.rd _ _ h1 h2, h3⟩
  | dit ks => obtain ⟨h1, o, h2, h3⟩ := h; exact ⟨E.fz _ h1, o, E.rd _ _ h1 h2, h3⟩
  | lst => obtain ⟨h1, o, h2, h3⟩ := h; exact ⟨E.fz _ h1, o, E.st _ _ h1 h2 (by cases h3; rfl), h3⟩
  | frl => exact h.imp (fun ⟨h1, h2⟩ => ⟨E.fz _ h1, E.rd _ _ h1 h2⟩) id
  | ins c => obtain ⟨h1, o, h2, h3⟩ := h; exact ⟨E.fz _ h1, o, E.st _ _ h1 h2 (by obtain ⟨dx, e, _⟩ := h3; subst e; rfl), h3⟩

mutual
theorem Rep.ext {f : Fr} {v : V} {d : D} {n : Fp} (E : Ext Fz am H Fz' am' H') (r : Rep G Fz am H f v d n) (k : ∀ p o, 0 < n p → H p = some o → H' p = some o) : Rep G Fz' am' H' f v d n :=
  match r with
  | .sc h1 h2 => .sc h1 h2
  | .rf h1 h2 => .rf (E.cl _ _ h1) h2
  | .zz h1 h2 h3 => .zz (E.shr h1) (Reps.ext E h2 k) h3
  | .tp h1 h2 => .tp (E.sqt h1) (Reps.ext E h2 k)
  | .cc ⟨t, o, h1, h2⟩ h3 h4 => .cc ⟨t, o, k _ _ (by rw [h4]; simp) h1, h2⟩ (Reps.ext E h3 fun p o hp => k p o (by rw [h4]; omega)) h4
  | .oo ⟨t, o, h1, h2⟩ h3 h4 => .oo ⟨t, o, k _ _ (by rw [h4]; simp) h1, h2⟩ (Reps.ext E h3 fun p o hp => k p o (by rw [h4]; omega)) h4
theorem Reps.ext {fs : List Fr} {vs : List V} {ds : List D} {n : Fp} (E : Ext Fz am H Fz' am' H') (r : Reps G Fz am H fs vs ds n) (k : ∀ p o, 0 < n p → H p = some o → H' p = some o) : Reps G Fz' am' H' fs vs ds n :=
  match r with
  | .nil h => .nil h
  | .cons h1 h2 h3 => .cons (Rep.ext E h1 fun p o hp => k p o (by rw [h3]; omega)) (Reps.ext E h2 fun p o hp => k p o (by rw [h3]; omega)) h3
end

/-- footprints by value -/
theorem Rep.fp {f : Fr} {v : V} {d : D} {n m : Fp} (r : Rep G Fz am H f v d n) (h : ∀ q, n q = m q) : Rep G Fz am H f v d m := by
  have e : n = m := funext h
  exact e ▸ r
theorem Reps.fp {f : List Fr} {v : List V} {d : List D} {n m : Fp} (r : Reps G Fz am H f v d n) (h : ∀ q, n q = m q) : Reps G Fz am H f v d m := by
  have e : n = m := funext h
  exact e ▸ r

theorem Rep.z0 {v : V} {d : D} {n : Fp} (r : Rep G Fz am H .z v d n) : ∀ q, n q = 0 := by
  cases r with
  | sc _ h => exact h
  | rf _ h => exact h
  | zz _ _ h => exact h
theorem Reps.z0 : ∀ {k : Nat} {vs : List V} {ds : List D} {n : Fp}, Reps G Fz am H (zs k) vs ds n → ∀ q, n q = 0
  | 0, _, _, _, r => by
    cases r with
    | nil h => exact h
  | k + 1, _, _, _, r => by
    have e : zs (k + 1) = .z :: zs k := List.replicate_succ
    rw [e] at r
    cases r with
    | cons h1 h2 h3 => intro q; rw [h3, h1.z0, Reps.z0 h2]
theorem Reps.len {fs : List Fr} {vs : List V} {ds : List D} {n : Fp} (r : Reps G Fz am H fs vs ds n) : fs.length = ds.length ∧ vs.length = ds.length := by
  match r with
  | .nil _ => exact ⟨rfl, rfl⟩
  | .cons _ h _ => have := h.len; exact ⟨congrArg Nat.succ this.1, congrArg Nat.succ this.2⟩

/-- an owned address stands -/
theorem own_there {p0 p : Addr} {k : Kd} {vs : List V} {m : Nat} (h1 : Own G H p0 k vs) (ih : 0 < m → ∃ o, H p = some o) (hp : 0 < m + if p = p0 then 1 else 0) : ∃ o, H p = some o := by
  by_cases e : p = p0
  · subst e
    obtain ⟨_, o, h, _⟩ := h1
    exact ⟨o, h⟩
  · simp [e] at hp
    exact ih hp
mutual
theorem Rep.there {f : Fr} {v : V} {d : D} {n : Fp} (r : Rep G Fz am H f v d n) (p : Addr) (hp : 0 < n p) : ∃ o, H p = some o :=
  match r with
  | .sc _ h => by rw [h] at hp; omega
  | .rf _ h => by rw [h] at hp; omega
  | .zz _ _ h => by rw [h] at hp; omega
  | .tp _ h => Reps.there h p hp
  | .cc h1 h2 h3 => own_there h1 (Reps.there h2 p) (h3 p ▸ hp)
  | .oo h1 h2 h3 => own_there h1 (Reps.there h2 p) (h3 p ▸ hp)
theorem Reps.there {fs : List Fr} {vs : List V} {ds : List D} {n : Fp} (r : Reps G Fz am H fs vs ds n) (p : Addr) (hp : 0 < n p) : ∃ o, H p = some o :=
  match r with
  | .nil h => by rw [h] at hp; omega
  | .cons (n1 := n1) h1 h2 h3 => if e : 0 < n1 p then Rep.there h1 p e else Reps.there h2 p (by rw [h3] at hp; omega)
end
/-- an owned address holds no tuple, is not the dict of an instance -/
def OwnK : HO → Prop
  | .lst _ => True
  | .dK _ => True
  | .dT _ => True
  | .ins _ _ _ => True
  | _ => False
theorem own_kind {p0 p : Addr} {k : Kd} {vs : List V} {m : Nat} (h1 : Own G H p0 k vs) (ih : 0 < m → ∃ o, H p = some o ∧ OwnK o) (hp : 0 < m + if p = p0 then 1 else 0) : ∃ o, H p = some o ∧ OwnK o := by
  by_cases e : p = p0
  · subst e
    obtain ⟨t, o, h, i⟩ := h1
    refine ⟨o, h, ?_⟩
    cases k with
    | tup => exact absurd rfl t.1
    | frl => exact absurd rfl t.2
    | lst => cases i; trivial
    | dik ks => obtain ⟨e, _⟩ := i; subst e; trivial
    | dit ks => obtain ⟨e, _⟩ := i; subst e; trivial
    | ins c => obtain ⟨dx, e, _⟩ := i; subst e; trivial
  · simp [e] at hp
    exact ih hp
mutual
theorem Rep.kind {f : Fr} {v : V} {d : D} {n : Fp} (r : Rep G Fz am H f v d n) (p : Addr) (hp : 0 < n p) : ∃ o, H p = some o ∧ OwnK o :=
  match r with
  | .sc _ h => by rw [h] at hp; omega
  | .rf _ h => by rw [h] at hp; omega
  | .zz _ _ h => by rw [h] at hp; omega
  | .tp _ h => Reps.kind h p hp
  | .cc h1 h2 h3 => own_kind h1 (Reps.kind h2 p) (h3 p ▸ hp)
  | .oo h1 h2 h3 => own_kind h1 (Reps.kind h2 p) (h3 p ▸ hp)
theorem Reps.kind {fs : List Fr} {vs : List V} {ds : List D} {n : Fp} (r : Reps G Fz am H fs vs ds n) (p : Addr) (hp : 0 < n p) : ∃ o, H p = some o ∧ OwnK o :=
  match r with
  | .nil h => by rw [h] at hp; omega
  | .cons (n1 := n1) h1 h2 h3 => if e : 0 < n1 p then Rep.kind h1 p e else Reps.kind h2 p (by rw [h3] at hp; omega)
end
/-! ### owned things become shared -/
def Fro (Fz : Addr → Prop) (n : Fp) : Addr → Prop := fun p => Fz p ∨ 0 < n p
theorem own_shr {p0 : Addr} {k : Kd} {vs : List V} (h1 : Own G H p0 k vs) (hz : Fz p0) : Shr G Fz H p0 k vs := by
  obtain ⟨t, o, h, i⟩ := h1
  cases k with
  | tup => exact absurd rfl t.1
  | frl => exact absurd rfl t.2
  | dik ks => exact ⟨hz, o, .inl h, i⟩
  | dit ks => exact ⟨hz, o, .inl h, i⟩
  | _ => exact ⟨hz, o, h, i⟩
theorem Reps.zlen {vs : List V} {ds : List D} {n : Fp} {k : Nat} (h : Reps G Fz am H (zs k) vs ds n) : Reps G Fz am H (zs ds.length) vs ds n := by
  have e : k = ds.length := by have := h.len.1; simpa [zs] using this
  rw [← e]; exact h
mutual
theorem Rep.frz {f : Fr} {v : V} {d : D} {n : Fp} (r : Rep G Fz am H f v d n) (hz : ∀ p, Fz p → Fz' p) (hn : ∀ p, 0 < n p → Fz' p) : Rep G Fz' am H .z v d (fun _ => 0) :=
  match r with
  | .sc h1 _ => .sc h1 fun _ => rfl
  | .rf h1 _ => .rf h1 fun _ => rfl
  | .zz h1 h2 h3 => .zz (Ext.shr (am := am) (am' := am) ⟨hz, fun _ _ h => h, fun _ _ _ h => h, fun _ _ _ h _ => h, fun _ _ h => h⟩ h1) (Reps.frz h2 hz fun p hp => hn p (by rw [h3]; rw [h2.z0] at hp; omega)) fun _ => rfl
  | .tp h1 h2 => .zz (k := .tup) h1 (Reps.frz h2 hz hn) fun _ => rfl
  | .cc h1 h2 h3 => .zz (own_shr h1 (hn _ (by rw [h3]; simp))) (Reps.frz h2 hz fun p hp => hn p (by rw [h3]; omega)) fun _ => rfl
  | .oo h1 h2 h3 => .zz (own_shr h1 (hn _ (by rw [h3]; simp))) (Reps.frz h2 hz fun p hp => hn p (by rw [h3]; omega)) fun _ => rfl
theorem Reps.frz {fs : List Fr} {vs : List V} {ds : List D} {n : Fp} (r : Reps G Fz am H fs vs ds n) (hz : ∀ p, Fz p → Fz' p) (hn : ∀ p, 0 < n p → Fz' p) : Reps G Fz' am H (zs ds.length) vs ds (fun _ => 0) :=
  match r with
  | .nil _ => .nil fun _ => rfl
  | .cons h1 h2 h3 => .cons (Rep.frz h1 hz fun p hp => hn p (by rw [h3]; omega)) (Reps.frz h2 hz fun p hp => hn p (by rw [h3]; omega)) fun _ => rfl
end
end
end Hx

set_option Elab.async false
set_option linter.all false
set_option maxRecDepth 100000
set_option autoImplicit false
/-! F2: the state relation. -/
namespace Hx
open PySem PySem.Spec L2
open PyProof.Rows hiding St

/-- what can be read of a value whose items are shared -/
def RdO (G : Sg) (H : Hp) (p : Addr) (k : Kd) (vs : List V) : Prop :=
  match k with
  | .tup => SqT G.K H p vs
  | .frl => SqL G.K H p vs
  | k => ∃ o, Rdk H p k o ∧ IsO G k vs o
def View (G : Sg) (Fz : Addr → Prop) (am : List Addr) (H : Hp) (v : V) : D → Prop
  | .con k ds => ∃ p vs, v = .ref p ∧ RdO G H p k vs ∧ Reps G Fz am H (zs ds.length) vs ds (fun _ => 0)
  | .ref i => ∃ p, v = .ref p ∧ am[i]? = some p
  | d => Scal G v d
def Fr.isz : Fr → Bool
  | .z => true
  | _ => false
def Fr.flat : Fr → Bool
  | .z => true
  | .c f => f.isz
  | .t fs => fs.all Fr.isz
  | .o fs => fs.all Fr.isz
theorem Fr.isz_eq {f : Fr} (h : f.isz = true) : f = .z := by cases f <;> first | rfl | cases h
theorem all_isz : ∀ {fs : List Fr}, fs.all Fr.isz = true → fs = zs fs.length
  | [], _ => rfl
  | f :: fs, h => by
    simp only [List.all_cons, Bool.and_eq_true] at h
    rw [Fr.isz_eq h.1]
    show Fr.z :: fs = zs (fs.length + 1)
    rw [show zs (fs.length + 1) = Fr.z :: zs fs.length from List.replicate_succ, ← all_isz h.2]
section
variable {G : Sg} {Fz Fz' : Addr → Prop} {am am' : List Addr} {H H' : Hp}
theorem Reps.toz {vs : List V} {ds : List D} {k : Nat} {n : Fp} (h : Reps G Fz am H (zs k) vs ds n) : Reps G Fz am H (zs ds.length) vs ds (fun _ => 0) := h.zlen.fp h.z0
theorem Rep.view {f : Fr} {v : V} {d : D} {n : Fp} (r : Rep G Fz am H f v d n) (hf : f.flat = true) : View G Fz am H v d := by
  cases r with
  | sc h1 h2 =>
    cases d with
    | ref i => cases v <;> exact h1.elim
    | con k ds => cases v <;> exact h1.elim
    | _ => exact h1
  | rf h1 h2 => exact ⟨_, rfl, h1⟩
  | @zz p k vs ds n h1 h2 h3 =>
    refine ⟨p, vs, rfl, ?_, h2.toz⟩
    cases k with
    | tup => exact h1
    | frl =>
      rcases h1 with ⟨_, h⟩ | (h | ⟨_, h⟩) | h
      · exact .inl h
      · cases h
      · cases h
      · exact .inr h
    | _ => exact h1.2
  | @tp p vs ds fs n h1 h2 =>
    refine ⟨p, vs, rfl, h1, ?_⟩
    have e := all_isz (fs := fs) hf
    rw [e] at h2
    exact h2.toz
  | @cc p k vs ds f n m h1 h2 h3 =>
    have e : f = .z := Fr.isz_eq hf
    subst e
    obtain ⟨t, o, h4, h5⟩ := h1
    refine ⟨p, vs, rfl, ?_, h2.toz⟩
    cases k with
    | tup => exact absurd rfl t.1
    | frl => exact absurd rfl t.2
    | dik ks => exact ⟨o, .inl h4, h5⟩
    | dit ks => exact ⟨o, .inl h4, h5⟩
    | _ => exact ⟨o, h4, h5⟩
  | @oo p c vs ds fs n m h1 h2 h3 =>
    obtain ⟨t, o, h4, h5⟩ := h1
    have e := all_isz (fs := fs) hf
    rw [e] at h2
    exact ⟨p, vs, rfl, ⟨o, h4, h5⟩, h2.toz⟩
end

/-- the frame's slots -/
inductive EnvR (G : Sg) (Fz : Addr → Prop) (am : List Addr) (H : Hp) : Env → St → Fp → Prop
  | nil {n} : (∀ q, n q = 0) → EnvR G Fz am H [] [] n
  | som {f d v env σ n1 n2 n} : Rep G Fz am H f v d n1 → EnvR G Fz am H env σ n2 → (∀ q, n q = n1 q + n2 q) → EnvR G Fz am H (some (f, d) :: env) (some v :: σ) n
  | non {x env σ n} : EnvR G Fz am H env σ n → EnvR G Fz am H (none :: env) (x :: σ) n
/-- a value under way; bor: it is (part of) what a slot holds -/
structure Tm where
  v : V
  f : Fr
  d : D
  bor : Bool := false
inductive TmR (G : Sg) (Fz : Addr → Prop) (am : List Addr) (H : Hp) (ne : Fp) : List Tm → Fp → Prop
  | nil {n} : (∀ q, n q = 0) → TmR G Fz am H ne [] n
  | own {f v d T n1 n2 n} : Rep G Fz am H f v d n1 → TmR G Fz am H ne T n2 → (∀ q, n q = n1 q + n2 q) → TmR G Fz am H ne (⟨v, f, d, false⟩ :: T) n
  | bor {f v d T n1 n} : Rep G Fz am H f v d n1 → (∀ q, n1 q ≤ ne q) → TmR G Fz am H ne T n → TmR G Fz am H ne (⟨v, f, d, true⟩ :: T) n
def StoR (G : Sg) (Fz : Addr → Prop) (am : List Addr) (H : Hp) (st : Store) (n : Fp) : Prop := Reps G Fz am H (st.map (·.1)) (am.map V.ref) (st.map (·.2)) n
/-- the ground of a frame: the heap at its entry, what it may change, what was shared, the cells -/
structure Gd where
  H0 : Hp
  A0 : Addr → Prop
  F0 : Addr → Prop
  am0 : List Addr
def isTbl : HO → Bool
  | .tbl _ => true
  | _ => false
theorem OwnK.nt {o : HO} (h : OwnK o) : isTbl o = false := by cases o <;> first | rfl | exact h.elim
def isExt : HO → Bool
  | .ext _ => true
  | _ => false
/-- no table, no look -/
def plainO : HO → Bool
  | .tbl _ => false
  | .ext _ => false
  | _ => true
theorem OwnK.pl {o : HO} (h : OwnK o) : plainO o = true := by cases o <;> first | rfl | exact h.elim
theorem pl_nt {o : HO} (h : plainO o = true) : isTbl o = false := by cases o <;> first | rfl | cases h
theorem ext_nt {o : HO} (h : isExt o = true) : isTbl o = false := by cases o <;> first | rfl | cases h
theorem ext_np {o : HO} (h : isExt o = true) : plainO o = false := by cases o <;> first | rfl | cases h
theorem ext_no {o : HO} (h : isExt o = true) : ¬ OwnK o := fun k => by
  have e := k.pl
  rw [ext_np h] at e
  cases e
/-- stands as it stood, but that a shared dict may have been locked -/
def St1 (H : Hp) (p : Addr) (f : Prop) (o : HO) : Prop := H p = some o ∨ (f ∧ dkO o = true ∧ ∃ ob, H p = some (.frz ob o))
theorem St1.nd {H : Hp} {p : Addr} {f : Prop} {o : HO} (h : St1 H p f o) (n : dkO o = false) : H p = some o := h.elim id fun ⟨_, d, _⟩ => by rw [n] at d; cases d
theorem St1.nf {H : Hp} {p : Addr} {f : Prop} {o : HO} (h : St1 H p f o) (n : ¬ f) : H p = some o := h.elim id fun ⟨z, _⟩ => (n z).elim
theorem St1.rd {H : Hp} {p : Addr} {f : Prop} {o : HO} (h : St1 H p f o) : Rd H p o := h.imp id fun ⟨_, _, ob, e⟩ => ⟨ob, e⟩
theorem St1.map {H H' : Hp} {p : Addr} {f : Prop} {o : HO} (h : St1 H p f o) (k : ∀ u, (u = o ∨ isTbl u = false) → H p = some u → H' p = some u) : St1 H' p f o := h.imp (k _ (.inl rfl)) fun ⟨a, b, ob, e⟩ => ⟨a, b, ob, k _ (.inr rfl) e⟩
theorem St1.some {H : Hp} {p : Addr} {f : Prop} {o : HO} (h : St1 H p f o) : ∃ u, H p = some u := h.elim (fun e => ⟨_, e⟩) fun ⟨_, _, ob, e⟩ => ⟨_, e⟩
theorem dk_dct {o : HO} (h : dkO o = false) : dkO o = false := h
theorem ext_dk {o : HO} (h : isExt o = true) : dkO o = false := by cases o <;> first | rfl | cases h
/-- what a ground keeps for closures -/
structure Home (G : Sg) (g : Gd) : Prop where
  fz : ∀ p, g.F0 p → ¬ g.A0 p ∧ ∃ o, g.H0 p = some o ∧ plainO o = true
  a : ∀ p, g.A0 p → ∃ o, g.H0 p = some o ∧ OwnK o
  lam : ∀ (j : Nat) (l : LamD), G.lam j = some l → (∀ e ∈ l.ent, isExt e.2 = true ∧ g.H0 e.1 = some e.2) ∧ Reps G g.F0 g.am0 g.H0 (zs l.cd.length) l.cv l.cd (fun _ => 0)
structure Rel0 (G : Sg) (g : Gd) (Fz : Addr → Prop) (am : List Addr) (H : Hp) (tot : Fp) : Prop where
  n1 : ∀ p, tot p ≤ 1
  nz : ∀ p, 0 < tot p → ¬ Fz p
  th : ∀ p, 0 < tot p → ∃ o, H p = some o ∧ OwnK o
  zt : ∀ p, Fz p → ∃ o, H p = some o ∧ plainO o = true
  k : ∀ p o, isTbl o = false → g.H0 p = some o → ¬ g.A0 p → St1 H p (g.F0 p) o
  f : ∀ p, 0 < tot p → g.A0 p ∨ g.H0 p = none
  z0 : ∀ p, g.F0 p → Fz p
  z1 : ∀ p, Fz p → g.F0 p ∨ g.A0 p ∨ g.H0 p = none
  a : ∀ (i : Nat) p, g.am0[i]? = some p → am[i]? = some p
  tb : LamX.Tabs G.T H
  hm : Home G g
  kt : ∀ p o, isTbl o = true → g.H0 p = some o → ¬ g.A0 p → ∃ o', H p = some o' ∧ isTbl o' = true
/-- the state relation; B: what more is said of the shared part -/
def RlB (G : Sg) (g : Gd) (env : Env) (st : Store) (T : List Tm) (σ : St) (H : Hp) (B : (Addr → Prop) → List Addr → Prop) : Prop :=
  ∃ Fz am ne nt ns, EnvR G Fz am H env σ ne ∧ TmR G Fz am H ne T nt ∧ StoR G Fz am H st ns ∧ Rel0 G g Fz am H (fun p => ne p + nt p + ns p) ∧ B Fz am
def Rl (G : Sg) (g : Gd) (env : Env) (st : Store) (T : List Tm) (σ : St) (H : Hp) : Prop := RlB G g env st T σ H fun _ _ => True

section
variable {G : Sg} {g : Gd} {Fz Fz' : Addr → Prop} {am am' : List Addr} {H H' : Hp} {env : Env} {st st' : Store} {T T' : List Tm} {σ : St} {ne nt ns n : Fp}

theorem EnvR.ext (E : Ext Fz am H Fz' am' H') (r : EnvR G Fz am H env σ n) (k : ∀ p o, 0 < n p → H p = some o → H' p = some o) : EnvR G Fz' am' H' env σ n := by
  induction r with
  | nil h => exact .nil h
  | som h1 h2 h3 ih => exact .som (h1.ext E fun p o hp => k p o (by rw [h3]; omega)) (ih fun p o hp => k p o (by rw [h3]; omega)) h3
  | non h ih => exact .non (ih k)
theorem TmR.ext (E : Ext Fz am H Fz' am' H') (r : TmR G Fz am H ne T n) (k : ∀ p o, 0 < n p → H p = some o → H' p = some o) (ke : ∀ p o, 0 < ne p → H p = some o → H' p = some o) : TmR G Fz' am' H' ne T n := by
  induction r with
  | nil h => exact .nil h
  | own h1 h2 h3 ih => exact .own (h1.ext E fun p o hp => k p o (by rw [h3]; omega)) (ih fun p o hp => k p o (by rw [h3]; omega)) h3
  | bor h1 h2 h3 ih => exact .bor (h1.ext E fun p o hp => ke p o (by have := h2 p; omega)) h2 (ih k)
theorem EnvR.len (r : EnvR G Fz am H env σ n) : env.length = σ.length := by
  induction r with
  | nil => rfl
  | som _ _ _ ih => simp [ih]
  | non _ ih => simp [ih]
theorem EnvR.get (r : EnvR G Fz am H env σ n) : ∀ {i : Nat} {f : Fr} {d : D}, env[i]? = some (some (f, d)) → ∃ v m, σ[i]? = some (some v) ∧ Rep G Fz am H f v d m ∧ ∀ q, m q ≤ n q := by
  induction r with
  | nil h => intro i f d e; simp at e
  | @som f' d' v env σ n1 n2 n h1 h2 h3 ih =>
    intro i f d e
    cases i with
    | zero =>
      simp at e
      obtain ⟨rfl, rfl⟩ := e
      exact ⟨v, n1, by simp, h1, fun q => by rw [h3]; omega⟩
    | succ i =>
      obtain ⟨v, m, e1, e2, e3⟩ := ih (i := i) (f := f) (d := d) (by simpa using e)
      exact ⟨v, m, by simpa using e1, e2, fun q => by rw [h3]; have := e3 q; omega⟩
  | @non x env σ n h ih =>
    intro i f d e
    cases i with
    | zero => simp at e
    | succ i =>
      obtain ⟨v, m, e1, e2, e3⟩ := ih (i := i) (f := f) (d := d) (by simpa using e)
      exact ⟨v, m, by simpa using e1, e2, e3⟩
/-- a slot is stored; what it held goes -/
theorem EnvR.set {f : Fr} {v : V} {d : D} {m : Fp} (h : Rep G Fz am H f v d m) (r : EnvR G Fz am H env σ n) : ∀ (i : Nat), ∃ n', EnvR G Fz am H (env.set i (some (f, d))) (σ.set i (some v)) n' ∧ ∀ q, n' q ≤ n q + m q := by
  induction r with
  | nil h0 => intro i; exact ⟨_, .nil h0, fun q => by omega⟩
  | @som f' d' v' env σ n1 n2 n h1 h2 h3 ih =>
    intro i
    cases i with
    | zero => exact ⟨_, .som h h2 (n := fun q => m q + n2 q) fun _ => rfl, fun q => by rw [h3]; omega⟩
    | succ i =>
      obtain ⟨n', e1, e2⟩ := ih i
      exact ⟨_, .som h1 e1 (n := fun q => n1 q + n' q) fun _ => rfl, fun q => by rw [h3]; have := e2 q; omega⟩
  | @non x env σ n h2 ih =>
    intro i
    cases i with
    | zero => exact ⟨_, .som h h2 (n := fun q => m q + n q) fun _ => rfl, fun q => by omega⟩
    | succ i =>
      obtain ⟨n', e1, e2⟩ := ih i
      exact ⟨n', .non e1, e2⟩
/-- a slot is forgotten -/
theorem EnvR.kill (r : EnvR G Fz am H env σ n) : ∀ (i : Nat) (y : St) , y.length = σ.length → (∀ j, j ≠ i → y[j]? = σ[j]?) → ∃ n', EnvR G Fz am H (env.set i none) y n' ∧ ∀ q, n' q ≤ n q := by
  induction r with
  | nil h0 =>
    intro i y hy _
    have e : y = [] := List.length_eq_zero_iff.mp hy
    subst e
    exact ⟨_, .nil h0, fun q => Nat.le_refl _⟩
  | @som f' d' v' env σ n1 n2 n h1 h2 h3 ih =>
    intro i y hy hs
    cases y with
    | nil => simp at hy
    | cons y0 y =>
      cases i with
      | zero =>
        have e : y = σ := by
          apply List.ext_getElem?
          intro j
          have := hs (j + 1) (by omega)
          simpa using this
        subst e
        exact ⟨n2, .non h2, fun q => by rw [h3]; omega⟩
      | succ i =>
        have e0 : y0 = some v' := by
          have := hs 0 (by omega)
          simpa using this
        subst e0
        obtain ⟨n', e1, e2⟩ := ih i y (by simpa using hy) fun j hj => by
          have := hs (j + 1) (by omega)
          simpa using this
        exact ⟨_, .som h1 e1 (n := fun q => n1 q + n' q) fun _ => rfl, fun q => by rw [h3]; have := e2 q; omega⟩
  | @non x env σ n h2 ih =>
    intro i y hy hs
    cases y with
    | nil => simp at hy
    | cons y0 y =>
      cases i with
      | zero =>
        have e : y = σ := by
          apply List.ext_getElem?
          intro j
          have := hs (j + 1) (by omega)
          simpa using this
        subst e
        exact ⟨n, .non h2, fun q => Nat.le_refl _⟩
      | succ i =>
        obtain ⟨n', e1, e2⟩ := ih i y (by simpa using hy) fun j hj => by
          have := hs (j + 1) (by omega)
          simpa using this
        exact ⟨n', .non e1, e2⟩
/-- freezing a slot -/
theorem EnvR.frz (r : EnvR G Fz am H env σ n) : ∀ {i : Nat} {f : Fr} {d : D}, env[i]? = some (some (f, d)) → ∃ m n' : Fp, (∀ q, n q = m q + n' q) ∧
    ∀ Fz', (∀ p, Fz p → Fz' p) → (∀ p, 0 < m p → Fz' p) → EnvR G Fz' am H (env.set i (some (.z, d))) σ n' := by
  have up : ∀ {env : Env} {σ : St} {n : Fp} (Fz' : Addr → Prop), (∀ p, Fz p → Fz' p) → EnvR G Fz am H env σ n → EnvR G Fz' am H env σ n := fun Fz' hz r => r.ext ⟨hz, fun _ _ h => h, fun _ _ _ h => h, fun _ _ _ h _ => h, fun _ _ h => h⟩ fun _ _ _ h => h
  induction r with
  | nil h => intro i f d e; simp at e
  | @som f' d' v env σ n1 n2 n h1 h2 h3 ih =>
    intro i f d e
    cases i with
    | zero =>
      simp at e
      obtain ⟨rfl, rfl⟩ := e
      exact ⟨n1, n2, h3, fun Fz' hz hm => .som (h1.frz hz hm) (up Fz' hz h2) (n := n2) fun q => by simp⟩
    | succ i =>
      obtain ⟨m, n', e1, e2⟩ := ih (i := i) (f := f) (d := d) (by simpa using e)
      exact ⟨m, fun q => n1 q + n' q, fun q => by rw [h3, e1]; show _ = m q + (n1 q + n' q); omega, fun Fz' hz hm => .som (h1.ext ⟨hz, fun _ _ h => h, fun _ _ _ h => h, fun _ _ _ h _ => h, fun _ _ h => h⟩ fun _ _ _ h => h) (e2 Fz' hz hm) fun _ => rfl⟩
  | @non x env σ n h ih =>
    intro i f d e
    cases i with
    | zero => simp at e
    | succ i =>
      obtain ⟨m, n', e1, e2⟩ := ih (i := i) (f := f) (d := d) (by simpa using e)
      exact ⟨m, n', e1, fun Fz' hz hm => .non (e2 Fz' hz hm)⟩
/-- taking a slot's value out -/
theorem EnvR.take (r : EnvR G Fz am H env σ n) : ∀ {i : Nat} {f : Fr} {d : D}, env[i]? = some (some (f, d)) → ∃ (v : V) (m n' : Fp), σ[i]? = some (some v) ∧ Rep G Fz am H f v d m ∧ (∀ q, n q = m q + n' q) ∧ EnvR G Fz am H (env.set i none) σ n' := by
  induction r with
  | nil h => intro i f d e; simp at e
  | @som f' d' v env σ n1 n2 n h1 h2 h3 ih =>
    intro i f d e
    cases i with
    | zero =>
      simp at e
      obtain ⟨rfl, rfl⟩ := e
      exact ⟨v, n1, n2, by simp, h1, h3, .non h2⟩
    | succ i =>
      obtain ⟨v, m, n', e0, e1, e2, e3⟩ := ih (i := i) (f := f) (d := d) (by simpa using e)
      exact ⟨v, m, fun q => n1 q + n' q, by simpa using e0, e1, fun q => by rw [h3, e2]; show _ = m q + (n1 q + n' q); omega, .som h1 e3 fun _ => rfl⟩
  | @non x env σ n h ih =>
    intro i f d e
    cases i with
    | zero => simp at e
    | succ i =>
      obtain ⟨v, m, n', e0, e1, e2, e3⟩ := ih (i := i) (f := f) (d := d) (by simpa using e)
      exact ⟨v, m, n', by simpa using e0, e1, e2, .non e3⟩

/-- the total may shrink -/
theorem Rel0.less {t t' : Fp} (r : Rel0 G g Fz am H t) (h : ∀ q, t' q ≤ t q) : Rel0 G g Fz am H t' :=
  ⟨fun p => Nat.le_trans (h p) (r.n1 p), fun p hp => r.nz p (Nat.lt_of_lt_of_le hp (h p)), fun p hp => r.th p (Nat.lt_of_lt_of_le hp (h p)), r.zt, r.k, fun p hp => r.f p (Nat.lt_of_lt_of_le hp (h p)), r.z0, r.z1, r.a, r.tb, r.hm, r.kt⟩
/-- part of it is shared from now on -/
theorem Rel0.froz {t t' m : Fp} (r : Rel0 G g Fz am H t) (h : ∀ q, t q = m q + t' q) : Rel0 G g (Fro Fz m) am H t' :=
  ⟨fun p => by have := r.n1 p; rw [h] at this; omega, fun p hp z => by
    rcases z with z | z
    · exact r.nz p (by rw [h]; omega) z
    · have := r.n1 p; rw [h] at this; omega, fun p hp => r.th p (by rw [h]; omega), fun p z => by
    rcases z with z | z
    · exact r.zt p z
    · obtain ⟨o, e, ow⟩ := r.th p (by rw [h]; omega)
      exact ⟨o, e, ow.pl⟩, r.k, fun p hp => r.f p (by rw [h]; omega), fun p z => .inl (r.z0 p z), fun p z => by
    rcases z with z | z
    · exact r.z1 p z
    · exact .inr (r.f p (by rw [h]; omega)), r.a, r.tb, r.hm, r.kt⟩
/-- the shared part since the ground -/
theorem Rel0.ext {t : Fp} (r : Rel0 G g Fz am H t) : Ext g.F0 g.am0 g.H0 Fz am H where
  fz := r.z0
  cl := r.a
  rd := fun p u z h => by
    obtain ⟨na, o, e, nt⟩ := r.hm.fz p z
    rcases h with h | ⟨o', h⟩
    · rw [h] at e; cases e
      exact (r.k _ _ (pl_nt nt) h na).rd
    · exact .inr ⟨o', (r.k _ _ rfl h na).nd rfl⟩
  st := fun p u z h nd => by
    obtain ⟨na, o, e, nt⟩ := r.hm.fz p z
    rw [h] at e; cases e
    exact (r.k _ _ (pl_nt nt) h na).nd (dk_dct nd)
  tp := fun p xs h => by
    have na : ∀ u : HO, ¬ OwnK u → g.H0 p = some u → ¬ g.A0 p := fun u nu e q => by
      obtain ⟨o, e1, k1⟩ := r.hm.a p q
      rw [e] at e1; cases e1
      exact nu k1
    rcases h with h | ⟨o, h⟩
    · exact .inl ((r.k _ _ rfl h (na (.tup xs) (fun z => z) h)).nd rfl)
    · exact .inr ⟨o, (r.k _ _ rfl h (na (.frz o (.tup xs)) (fun z => z) h)).nd rfl⟩
/-- a ground taken here -/
theorem Rel0.home {t m : Fp} (r : Rel0 G g Fz am H t) (h : ∀ q, m q ≤ t q) : Home G ⟨H, fun p => 0 < m p, Fz, am⟩ where
  fz := fun p z => ⟨fun q => r.nz p (Nat.lt_of_lt_of_le q (h p)) z, r.zt p z⟩
  a := fun p q => r.th p (Nat.lt_of_lt_of_le q (h p))
  lam := fun j l e => by
    obtain ⟨h1, h2⟩ := r.hm.lam j l e
    refine ⟨fun x hx => ?_, h2.ext r.ext fun p o hp => absurd hp (Nat.lt_irrefl 0)⟩
    obtain ⟨a1, a3⟩ := h1 x hx
    refine ⟨a1, (r.k _ _ (ext_nt a1) a3 fun q => ?_).nd (ext_dk a1)⟩
    obtain ⟨o, e1, k1⟩ := r.hm.a _ q
    rw [a3] at e1; cases e1
    exact ext_no a1 k1
/-- what is untracked now was not there, or was owned -/
theorem Rel0.new {t : Fp} (r : Rel0 G g Fz am H t) {p : Addr} (hn : H p = none) : g.A0 p ∨ g.H0 p = none := by
  cases e2 : g.H0 p with
  | none => exact .inr rfl
  | some o =>
    by_cases na : g.A0 p
    · exact .inl na
    · cases nt : isTbl o with
      | false =>
        obtain ⟨u, this⟩ := (r.k p o nt e2 na).some
        rw [hn] at this
        cases this
      | true =>
        obtain ⟨o', e, _⟩ := r.kt p o nt e2 na
        rw [hn] at e
        cases e
/-- the heap grows by new objects, some of them owned -/
theorem Rel0.grow {t t' m : Fp} (r : Rel0 G g Fz am H t) (s : Same H H') (hm : ∀ p, 0 < m p → m p = 1 ∧ H p = none ∧ ∃ o, H' p = some o ∧ OwnK o) (h : ∀ q, t' q = m q + t q) : Rel0 G g Fz am H' t' := by
  have key : ∀ p, 0 < m p → t p = 0 := fun p hp => by
    cases e : t p with
    | zero => rfl
    | succ k =>
      obtain ⟨o, e2, _⟩ := r.th p (by omega)
      rw [(hm p hp).2.1] at e2
      cases e2
  refine ⟨fun p => ?_, fun p hp z => ?_, fun p hp => ?_, fun p z => ?_, fun p o nt e na => (r.k p o nt e na).map fun u _ => s _ _, fun p hp => ?_, r.z0, r.z1, r.a, r.tb.ext s, r.hm, fun p o t e na => (r.kt p o t e na).imp fun o' ⟨e1, t1⟩ => ⟨s _ _ e1, t1⟩⟩
  · rw [h]
    by_cases e : 0 < m p
    · rw [key p e, (hm p e).1]
      omega
    · have := r.n1 p; omega
  · rw [h] at hp
    by_cases e : 0 < m p
    · obtain ⟨o, e2, _⟩ := r.zt p z
      rw [(hm p e).2.1] at e2
      cases e2
    · exact r.nz p (by omega) z
  · rw [h] at hp
    by_cases e : 0 < m p
    · exact (hm p e).2.2
    · obtain ⟨o, e2, e3⟩ := r.th p (by omega)
      exact ⟨o, s _ _ e2, e3⟩
  · obtain ⟨o, e, nt⟩ := r.zt p z
    exact ⟨o, s _ _ e, nt⟩
  · rw [h] at hp
    by_cases e : 0 < m p
    · exact r.new (hm p e).2.1
    · exact r.f p (by omega)
theorem Ext.same (s : Same H H') (hz : ∀ p, Fz p → Fz' p) : Ext Fz am H Fz' am H' := ⟨hz, fun _ _ h => h, fun p u _ h => h.imp (s _ _) fun ⟨o, q⟩ => ⟨o, s _ _ q⟩, fun p u _ h _ => s _ _ h, fun p xs h => h.imp (s _ _) fun ⟨o, q⟩ => ⟨o, s _ _ q⟩⟩
theorem Ext.shared (hz : ∀ p, Fz p → Fz' p) : Ext Fz am H Fz' am H := Ext.same (Same.refl H) hz
end
end Hx

set_option Elab.async false
set_option linter.all false
set_option maxRecDepth 100000
set_option autoImplicit false
/-! F3: the judgement of an expression; lists of arguments; operators. -/
namespace Hx
open PySem PySem.Spec L2
open PyProof.Rows hiding St

inductive ResL
  | ok (ts : List (Fr × Bool × D)) (st : Store) | exc (c : Nat) (ds : List D) (st : Store) | stuck
inductive ResB
  | ok (b : Bool) (st : Store) | exc (c : Nat) (ds : List D) (st : Store) | stuck
abbrev Den := Env → Store → Res
abbrev DenL := Env → Store → ResL
abbrev DenB := Env → Store → ResB

/-- what an exception's fields are -/
def ExcB (G : Sg) (H : Hp) (c : Nat) (ds : List D) (cls : Value) (dx : Option Addr) : (Addr → Prop) → List Addr → Prop := fun Fz am =>
  c ∈ G.xs ∧ ∃ p fs vs, cls = .ref (G.cls c) ∧ dx = some p ∧ H p = some (.xd fs) ∧ Reps G Fz am H (zs ds.length) vs ds (fun _ => 0) ∧
    ∀ (i : Nat) (x : Str), (G.fld c)[i]? = some x → ∀ v, vs[i]? = some v → fs.lookup x = some v
section
variable (G : Sg) (g : Gd) (env : Env) (T : List Tm) (σ : St) (W : WX)
def ExcP (c : Nat) (ds : List D) (st : Store) : Prop := ∀ cls dx H', RlB G g env st [] σ H' (ExcB G H' c ds cls dx) → W cls dx σ H'
def PostE (Q : VK) : Res → Prop
  | .ok f b d st => ∀ v H', Rl G g env st (⟨v, f, d, b⟩ :: T) σ H' → Q v H'
  | .exc c ds st => ExcP G g env σ W c ds st
  | .stuck => False
def mkT : List V → List (Fr × Bool × D) → List Tm
  | v :: vs, (f, b, d) :: ts => ⟨v, f, d, b⟩ :: mkT vs ts
  | _, _ => []
def PostL (Q : List V → Hp → Prop) : ResL → Prop
  | .ok ts st => ∀ vs H', vs.length = ts.length → Rl G g env st (mkT vs ts ++ T) σ H' → Q vs H'
  | .exc c ds st => ExcP G g env σ W c ds st
  | .stuck => False
def PostB (Q : Bool → Hp → Prop) : ResB → Prop
  | .ok b st => ∀ H', Rl G g env st T σ H' → Q b H'
  | .exc c ds st => ExcP G g env σ W c ds st
  | .stuck => False
end
/-! ### what a def, a closure promises -/
def PostF (G : Sg) (g : Gd) (Q : VK) (E : XK) : Res → Prop
  | .ok f b d st => b = false ∧ ∀ v H', Rl G g [] st [⟨v, f, d, false⟩] [] H' → Q v H'
  | .exc c ds st => ∀ cls dx H', RlB G g [] st [] [] H' (ExcB G H' c ds cls dx) → E cls dx H'
  | .stuck => False
/-- n: how many arguments -/
def SpF (G : Sg) (n : Nat) (F : Fn) : Sp := fun vs H Q E => vs.length = n ∧ ∃ Fz am as st na ns, Reps G Fz am H (as.map (·.1)) vs (as.map (·.2)) na ∧ StoR G Fz am H st ns ∧
  Rel0 G ⟨H, fun p => 0 < na p + ns p, Fz, am⟩ Fz am H (fun p => na p + ns p) ∧ PostF G ⟨H, fun p => 0 < na p + ns p, Fz, am⟩ Q E (F as st)
/-- of a closure: what stands of it, what it has captured -/
def SpL (G : Sg) (l : LamD) : Sp := fun vs H Q E => vs.length = l.n ∧ (∀ e ∈ l.ent, H e.1 = some e.2) ∧ ∃ Fz am as st na ns, Reps G Fz am H (as.map (·.1)) vs (as.map (·.2)) na ∧ StoR G Fz am H st ns ∧
  Reps G Fz am H (zs l.cd.length) l.cv l.cd (fun _ => 0) ∧
  Rel0 G ⟨H, fun p => 0 < na p + ns p, Fz, am⟩ Fz am H (fun p => na p + ns p) ∧ PostF G ⟨H, fun p => 0 < na p + ns p, Fz, am⟩ Q E (l.r as st)
structure CloOk (P : Program) (w : World) (K : PySem.W.Frag) (mg : Str → Option Value) (base : Heap) (k : Nat) (f : Addr) (ent : List (Addr × HO)) (sp : Sp) : Prop where
  at_ : ∀ (H : Hp) (h : Heap), HOk P w H h → (∀ e ∈ ent, H e.1 = some e.2) → PySem.W.FnAt f h
  run : ∀ (A : Around) (outer : List PySem.Env) (s : Shared) (H : Hp) (us : List Value) (vs : List V) (Q : VK) (E : XK), Room k A → Env0 P w K mg base A outer s H → Vals vs us → sp vs H Q E →
    codeAny (model P w) A (.call (.ref f) ⟨us, []⟩) (CR (L2.CX P w) outer P w H s Q E) s
/-- how deep a closure may go -/
abbrev LK : Nat := 60
def LamsOk (P : Program) (w : World) (mg : Str → Option Value) (base : Heap) (G : Sg) : Prop := ∀ (j : Nat) (l : LamD), G.lam j = some l → CloOk P w G.K mg base LK l.f l.ent (SpL G.off l)
theorem lams0 {P : Program} {w : World} {mg : Str → Option Value} {base : Heap} {G : Sg} (h : ∀ j, G.lam j = none) : LamsOk P w mg base G := fun j l e => by rw [h] at e; cases e
structure Sx where
  P : Program
  w : World
  mg : Str → Option Value
  base : Heap
  G : Sg
  N : List Str
  sc : Scope
  k : Nat
  fnA : Bool
  lok : LamsOk P w mg base G
  /-- of a def that makes lambdas: its code object, its name -/
  lmk : Option (Addr × Str)
structure Stx (S : Sx) (X : Cx) : Prop where
  pr : X.prog = S.P
  w : X.w = S.w
  mg : X.mg = S.mg
  base : X.base = S.base
  K : X.K = S.G.K
  N : X.N = S.N
  sc : X.env.scope = S.sc
  nd : X.N.Nodup
  calm : X.calm = true
  room : Room S.k X.A
  po : PassesOwn (model X.prog X.w) X.A X.env X.xe
  fn : S.fnA = true → ∀ x, X.fn x = true
  stk : S.fnA = true → X.stack = X.env :: X.outer ∧ X.env.frame = some X.env.locals
  lmk : ∀ c q, S.lmk = some (c, q) → X.env.code = .ref c ∧ X.env.qual = q

def noBor (T : List Tm) : Prop := ∀ a ∈ T, a.bor = false
def DE (S : Sx) (e : Expr) (den : Den) : Prop := ∀ W : WX, ∃ t : TE, (∀ X, Stx S X → Takes X W → PE X e t) ∧
  ∀ g env st T σ H Q, noBor T → Rl S.G g env st T σ H → PostE S.G g env T σ W Q (den env st) → t σ H Q
def DA (S : Sx) (es : List Expr) (den : DenL) : Prop := ∀ W : WX, ∃ t : TA, (∀ X, Stx S X → Takes X W → PA X es t) ∧
  ∀ g env st T σ H Q, noBor T → Rl S.G g env st T σ H → PostL S.G g env T σ W Q (den env st) → t σ H Q
def DT (S : Sx) (e : Expr) (den : DenB) : Prop := ∀ W : WX, ∃ t : TT, (∀ X, Stx S X → Takes X W → PT X e t) ∧
  ∀ g env st T σ H Q, noBor T → Rl S.G g env st T σ H → PostB S.G g env T σ W Q (den env st) → t σ H Q

/-! ### the relation: temporaries -/
section
variable {G : Sg} {g : Gd} {env : Env} {st st' : Store} {T T' : List Tm} {σ : St} {H H' : Hp} {B B' : (Addr → Prop) → List Addr → Prop}
theorem TmR.drop {Fz : Addr → Prop} {am : List Addr} {ne nt : Fp} {a : Tm} (r : TmR G Fz am H ne (a :: T) nt) : ∃ nt', TmR G Fz am H ne T nt' ∧ ∀ q, nt' q ≤ nt q := by
  cases r with
  | own h1 h2 h3 => exact ⟨_, h2, fun q => by rw [h3]; omega⟩
  | bor h1 h2 h3 => exact ⟨_, h3, fun q => Nat.le_refl _⟩
theorem TmR.tail {Fz : Addr → Prop} {am : List Addr} {ne nt : Fp} : ∀ {l : List Tm}, TmR G Fz am H ne (l ++ T) nt → ∃ nt', TmR G Fz am H ne T nt' ∧ ∀ q, nt' q ≤ nt q
  | [], r => ⟨_, r, fun _ => Nat.le_refl _⟩
  | a :: l, r => by
    obtain ⟨n1, r1, l1⟩ := r.drop
    obtain ⟨n2, r2, l2⟩ := TmR.tail r1
    exact ⟨n2, r2, fun q => Nat.le_trans (l2 q) (l1 q)⟩
theorem TmR.mid {Fz : Addr → Prop} {am : List Addr} {ne nt : Fp} {a : Tm} : ∀ {l : List Tm}, TmR G Fz am H ne (l ++ a :: T) nt → TmR G Fz am H ne (a :: (l ++ T)) nt
  | [], r => r
  | b :: l, r => by
    cases r with
    | own h1 h2 h3 =>
      cases TmR.mid h2 with
      | own k1 k2 k3 => exact .own k1 (.own h1 k2 fun _ => rfl) fun q => by rw [h3, k3]; omega
      | bor k1 k2 k3 => exact .bor k1 k2 (.own h1 k3 h3)
    | bor h1 h2 h3 =>
      cases TmR.mid h3 with
      | own k1 k2 k3 => exact .own k1 (.bor h1 h2 k2) k3
      | bor k1 k2 k3 => exact .bor k1 k2 (.bor h1 h2 k3)
theorem RlB.tail {l : List Tm} (r : RlB G g env st (l ++ T) σ H B) : RlB G g env st T σ H B := by
  obtain ⟨Fz, am, ne, nt, ns, h1, h2, h3, h4, h5⟩ := r
  obtain ⟨nt', k1, k2⟩ := h2.tail
  exact ⟨Fz, am, ne, nt', ns, h1, k1, h3, h4.less fun q => by have := k2 q; omega, h5⟩
theorem RlB.drop {a : Tm} (r : RlB G g env st (a :: T) σ H B) : RlB G g env st T σ H B := RlB.tail (l := [a]) r
theorem RlB.notmp (r : RlB G g env st T σ H B) : RlB G g env st [] σ H B := RlB.tail (l := T) (by rw [List.append_nil]; exact r)
theorem RlB.mid {l : List Tm} {a : Tm} (r : RlB G g env st (l ++ a :: T) σ H B) : RlB G g env st (a :: (l ++ T)) σ H B := by
  obtain ⟨Fz, am, ne, nt, ns, h1, h2, h3, h4, h5⟩ := r
  exact ⟨Fz, am, ne, nt, ns, h1, h2.mid, h3, h4, h5⟩
theorem RlB.imp (r : RlB G g env st T σ H B) (h : ∀ Fz am, B Fz am → B' Fz am) : RlB G g env st T σ H B' := by
  obtain ⟨Fz, am, ne, nt, ns, h1, h2, h3, h4, h5⟩ := r
  exact ⟨Fz, am, ne, nt, ns, h1, h2, h3, h4, h _ _ h5⟩
theorem RlB.rl (r : RlB G g env st T σ H B) : Rl G g env st T σ H := RlB.imp r fun _ _ _ => trivial
/-- a scalar comes -/
theorem Rl.scal {v : V} {d : D} (r : Rl G g env st T σ H) (h : Scal G v d) : Rl G g env st (⟨v, .z, d, false⟩ :: T) σ H := by
  obtain ⟨Fz, am, ne, nt, ns, h1, h2, h3, h4, h5⟩ := r
  exact ⟨Fz, am, ne, nt, ns, h1, .own (.sc h fun _ => rfl) h2 (n1 := fun _ => 0) fun q => by simp, h3, h4, h5⟩
theorem Rl.pushz {i : Nat} {d : D} (r : Rl G g env st T σ H) (e : env[i]? = some (some (.z, d))) : ∃ v, σ[i]? = some (some v) ∧ Rl G g env st (⟨v, .z, d, false⟩ :: T) σ H := by
  obtain ⟨Fz, am, ne, nt, ns, h1, h2, h3, h4, h5⟩ := r
  obtain ⟨v, m, e1, e2, e3⟩ := h1.get e
  exact ⟨v, e1, Fz, am, ne, nt, ns, h1, .own (e2.fp e2.z0) h2 (n1 := fun _ => 0) fun q => by simp, h3, h4, h5⟩
theorem Rl.pushb {i : Nat} {f : Fr} {d : D} (r : Rl G g env st T σ H) (e : env[i]? = some (some (f, d))) : ∃ v, σ[i]? = some (some v) ∧ Rl G g env st (⟨v, f, d, true⟩ :: T) σ H := by
  obtain ⟨Fz, am, ne, nt, ns, h1, h2, h3, h4, h5⟩ := r
  obtain ⟨v, m, e1, e2, e3⟩ := h1.get e
  exact ⟨v, e1, Fz, am, ne, nt, ns, h1, .bor e2 e3 h2, h3, h4, h5⟩
/-- an owned value under way is shared from now on -/
theorem Rl.frz {v : V} {f : Fr} {d : D} (r : Rl G g env st (⟨v, f, d, false⟩ :: T) σ H) : Rl G g env st (⟨v, .z, d, false⟩ :: T) σ H := by
  obtain ⟨Fz, am, ne, nt, ns, h1, h2, h3, h4, h5⟩ := r
  cases h2 with
  | @own _ _ _ _ n1 n2 _ k1 k2 k3 =>
    have E : Ext Fz am H (Fro Fz n1) am H := Ext.shared fun p z => .inl z
    exact ⟨Fro Fz n1, am, ne, n2, ns, h1.ext E fun _ _ _ h => h, .own (k1.frz (fun p z => .inl z) fun p z => .inr z) (k2.ext E (fun _ _ _ h => h) fun _ _ _ h => h) (n1 := fun _ => 0) (fun q => by simp), Reps.ext E h3 fun _ _ _ h => h, h4.froz fun q => by rw [k3]; omega, trivial⟩
end

/-! ### pure operations upon read values -/
abbrev Vws (G : Sg) (Fz : Addr → Prop) (am : List Addr) (H : Hp) : List V → List D → Prop := Paired (View G Fz am H)
abbrev Op := List D → Option (Fr × D)
/-- new owned things -/
def Newp (H H' : Hp) (n : Fp) : Prop := ∀ p, 0 < n p → n p = 1 ∧ H p = none ∧ ∃ o, H' p = some o ∧ OwnK o
def VOp (G : Sg) (r : List V → Hp → VK → Prop) (op : Op) : Prop := ∀ Fz am H vs ds f d Q, Vws G Fz am H vs ds → op ds = some (f, d) →
  (∀ v H' n, Same H H' → Newp H H' n → Rep G Fz am H' f v d n → Q v H') → r vs H Q
theorem VOp.imp {G : Sg} {r r' : List V → Hp → VK → Prop} {op : Op} (h : VOp G r op) (k : ∀ vs H Q, r vs H Q → r' vs H Q) : VOp G r' op := fun Fz am H vs ds f d Q h1 h2 h3 => k _ _ _ (h Fz am H vs ds f d Q h1 h2 h3)
/-- by the first that tells -/
@[simp] def orOp (a b : Op) : Op := fun ds => match a ds with
  | some r => some r
  | none => b ds
theorem VOp.or {G : Sg} {r r' : List V → Hp → VK → Prop} {a b : Op} (h : VOp G r a) (h' : VOp G r' b) : VOp G (fun vs H Q => r vs H Q ∨ r' vs H Q) (orOp a b) := fun Fz am H vs ds f d Q h1 h2 h3 => by
  unfold orOp at h2
  cases e : a ds with
  | some x =>
    rw [e] at h2
    cases h2
    exact .inl (h Fz am H vs ds f d Q h1 e h3)
  | none =>
    rw [e] at h2
    exact .inr (h' Fz am H vs ds f d Q h1 h2 h3)
theorem VOp.or1 {G : Sg} {r : List V → Hp → VK → Prop} {a b : Op} (h : VOp G r a) (h' : VOp G r b) : VOp G r (orOp a b) := (VOp.or h h').imp fun _ _ _ z => z.elim id id
theorem same_refl (H : Hp) : Same H H := fun _ _ h => h
theorem newp0 {H H' : Hp} : Newp H H' (fun _ => 0) := fun p hp => absurd hp (Nat.lt_irrefl 0)
/-- an operation whose answer is a scalar -/
theorem VOp.scalar {G : Sg} {r : List V → Hp → VK → Prop} {op : List D → Option D} (h : ∀ Fz am H vs ds d Q, Vws G Fz am H vs ds → op ds = some d → (∀ v, Scal G v d → Q v H) → r vs H Q) : VOp G r (fun ds => (op ds).map fun d => (.z, d)) := fun Fz am H vs ds f d Q h1 h2 h3 => by
  obtain ⟨d', e, e2⟩ := Option.map_eq_some_iff.mp h2
  cases e2
  exact h Fz am H vs ds d Q h1 e fun v hv => h3 v H (fun _ => 0) (same_refl H) newp0 (.sc hv fun _ => rfl)

@[simp] def flats (ts : List (Fr × Bool × D)) : Bool := ts.all fun t => t.1.flat
/-- a cell is looked into -/
def lk (st : Store) : D → D
  | .ref i => match st[i]? with
    | some (f, d) => bif f.flat then d else .ref i
    | none => .ref i
  | d => d
@[simp] def dOp (op : Op) (as : DenL) : Den := fun env st => match as env st with
  | .ok ts st' => bif flats ts then (match op (ts.map fun t => lk st' t.2.2) with
    | some (f, d) => .ok f false d st'
    | none => .stuck) else .stuck
  | .exc c ds st' => .exc c ds st'
  | .stuck => .stuck
section
variable {G : Sg} {g : Gd} {env : Env} {st st' : Store} {T T' : List Tm} {σ : St} {H H' : Hp}
theorem TmR.views {Fz : Addr → Prop} {am : List Addr} {ne nt : Fp} : ∀ {vs : List V} {ts : List (Fr × Bool × D)}, vs.length = ts.length → flats ts = true → TmR G Fz am H ne (mkT vs ts ++ T) nt → Vws G Fz am H vs (ts.map fun t => t.2.2)
  | [], [], _, _, _ => .nil
  | v :: vs, (f, b, d) :: ts, hl, hf, r => by
    simp only [flats, List.all_cons, Bool.and_eq_true] at hf
    cases b with
    | false =>
      cases r with
      | own h1 h2 h3 => exact .cons (h1.view hf.1) (TmR.views (by simpa using hl) hf.2 h2)
    | true =>
      cases r with
      | bor h1 h2 h3 => exact .cons (h1.view hf.1) (TmR.views (by simpa using hl) hf.2 h3)
theorem Reps.at {Fz : Addr → Prop} {am : List Addr} : ∀ {fs : List Fr} {vs : List V} {ds : List D} {n : Fp} {i : Nat} {f : Fr} {d : D}, Reps G Fz am H fs vs ds n → fs[i]? = some f → ds[i]? = some d → ∃ v m, vs[i]? = some v ∧ Rep G Fz am H f v d m ∧ ∀ q, m q ≤ n q
  | [], _, _, _, i, f, d, r, e1, e2 => by simp at e1
  | f0 :: fs, _, _, _, i, f, d, r, e1, e2 => by
    cases r with
    | cons h1 h2 h3 =>
      cases i with
      | zero =>
        simp at e1 e2
        subst e1 e2
        exact ⟨_, _, by simp, h1, fun q => by rw [h3]; omega⟩
      | succ i =>
        obtain ⟨v, m, a, b, c⟩ := Reps.at (i := i) (f := f) (d := d) h2 (by simpa using e1) (by simpa using e2)
        exact ⟨v, m, by simpa using a, b, fun q => by rw [h3]; have := c q; omega⟩
theorem StoR.at {Fz : Addr → Prop} {am : List Addr} {n : Fp} (r : StoR G Fz am H st n) {i : Nat} {f : Fr} {d : D} (e : st[i]? = some (f, d)) : ∃ p m, am[i]? = some p ∧ Rep G Fz am H f (.ref p) d m ∧ ∀ q, m q ≤ n q := by
  obtain ⟨v, m, a, b, c⟩ := Reps.at r (i := i) (f := f) (d := d) (by simp [e]) (by simp [e])
  rw [List.getElem?_map] at a
  obtain ⟨p, a1, a2⟩ := Option.map_eq_some_iff.mp a
  subst a2
  exact ⟨p, m, a1, b, c⟩
theorem Vws.lk {Fz : Addr → Prop} {am : List Addr} {n : Fp} (r : StoR G Fz am H st n) : ∀ {vs : List V} {ds : List D}, Vws G Fz am H vs ds → Vws G Fz am H vs (ds.map (lk st))
  | _, _, .nil => .nil
  | _, d :: _, .cons h t => .cons (by
    cases d with
    | ref i =>
      unfold Hx.lk
      dsimp only
      cases e : st[i]? with
      | none => exact h
      | some x =>
        obtain ⟨f, d⟩ := x
        dsimp only
        cases ef : f.flat with
        | false => exact h
        | true =>
          obtain ⟨p, m, a, b, _⟩ := r.at e
          obtain ⟨p', e1, e2⟩ := h
          rw [a] at e2
          cases e2
          rw [e1]
          exact b.view ef
    | _ => exact h) (Vws.lk r t)
theorem Rl.op {r : List V → Hp → VK → Prop} {op : Op} {vs : List V} {ts : List (Fr × Bool × D)} {f : Fr} {d : D} {Q : VK} (hv : VOp G r op) (R : Rl G g env st (mkT vs ts ++ T) σ H) (hl : vs.length = ts.length) (hf : flats ts = true)
    (e : op (ts.map fun t => lk st t.2.2) = some (f, d)) (hq : ∀ v H', Rl G g env st (⟨v, f, d, false⟩ :: T) σ H' → Q v H') : r vs H Q := by
  obtain ⟨Fz, am, ne, nt, ns, h1, h2, h3, h4, h5⟩ := R
  have vw := Vws.lk h3 (h2.views hl hf)
  rw [List.map_map] at vw
  refine hv Fz am H vs _ f d Q vw e fun v H' n s nn rep => hq v H' ?_
  obtain ⟨nt', k1, k2⟩ := h2.tail
  have E : Ext Fz am H Fz am H' := Ext.same s fun _ h => h
  have h4' : Rel0 G g Fz am H (fun p => ne p + nt' p + ns p) := h4.less fun q => by have := k2 q; omega
  exact ⟨Fz, am, ne, fun q => n q + nt' q, ns, h1.ext E fun p o _ h => s _ _ h, .own rep (k1.ext E (fun p o _ h => s _ _ h) fun p o _ h => s _ _ h) fun _ => rfl, Reps.ext E h3 fun p o _ h => s _ _ h, h4'.grow s nn fun q => by show ne q + (n q + nt' q) + ns q = _; omega, trivial⟩
/-- one argument -/
theorem post1 {r : List V → Hp → VK → Prop} {op : Op} {W : WX} {Q : VK} {f : Fr} {b : Bool} {d : D} (hv : VOp G r op)
    (h : PostE G g env T σ W Q (dOp op (fun _ st => .ok [(f, b, d)] st) env st)) : ∀ v H', Rl G g env st (⟨v, f, d, b⟩ :: T) σ H' → r [v] H' Q := fun v H' R => by
  unfold dOp at h
  dsimp only at h
  cases hf : flats [(f, b, d)] with
  | false => rw [hf] at h; exact h.elim
  | true =>
    rw [hf] at h
    simp only [cond_true] at h
    cases e : op ([(f, b, d)].map fun t => lk st t.2.2) with
    | none => rw [e] at h; exact h.elim
    | some x =>
      obtain ⟨f', d'⟩ := x
      rw [e] at h
      exact Rl.op (vs := [v]) (ts := [(f, b, d)]) hv R rfl hf e h
end

/-! ### lists of arguments -/
@[simp] def dNil : DenL := fun _ st => .ok [] st
@[simp] def dCons (a : Den) (as : DenL) : DenL := fun env st => match a env st with
  | .ok f b d st1 => bif !b || f.isz then (match as env st1 with
    | .ok ts st2 => .ok ((f, false, d) :: ts) st2
    | .exc c ds st2 => .exc c ds st2
    | .stuck => .stuck) else .stuck
  | .exc c ds st1 => .exc c ds st1
  | .stuck => .stuck
/-- the last one may be a look -/
@[simp] def dLast (a : Den) : DenL := fun env st => match a env st with
  | .ok f b d st1 => .ok [(f, b, d)] st1
  | .exc c ds st1 => .exc c ds st1
  | .stuck => .stuck
theorem bifT {α : Type} {c : Bool} {a b : α} {P : α → Prop} (h : P (bif c then a else b)) (n : ¬ P b) : c = true ∧ P a := by
  cases c with
  | true => exact ⟨rfl, h⟩
  | false => exact (n h).elim
theorem nb_cons {T : List Tm} {v : V} {f : Fr} {d : D} (h : noBor T) : noBor (⟨v, f, d, false⟩ :: T) := fun a ha => by
  rcases List.mem_cons.mp ha with e | e
  · rw [e]
  · exact h a e
theorem Rl.unb {G : Sg} {g : Gd} {env : Env} {st : Store} {T : List Tm} {σ : St} {H : Hp} {v : V} {f : Fr} {b : Bool} {d : D} (R : Rl G g env st (⟨v, f, d, b⟩ :: T) σ H) (hb : (!b || f.isz) = true) : Rl G g env st (⟨v, f, d, false⟩ :: T) σ H := by
  cases b with
  | false => exact R
  | true =>
    have e : f = .z := Fr.isz_eq (by simpa using hb)
    subst e
    obtain ⟨Fz, am, ne, nt, ns, h1, h2, h3, h4, h5⟩ := R
    cases h2 with
    | bor k1 k2 k3 => exact ⟨Fz, am, ne, nt, ns, h1, .own (k1.fp k1.z0) k3 fun q => by simp, h3, h4, trivial⟩
section
variable {S : Sx} {e a b : Expr} {es : List Expr} {da db : Den} {das : DenL} {pos : Pos}
theorem da_nil : DA S [] dNil := fun W => ⟨_, fun X hX tk => pa_nil, fun g env st T σ H Q hT R h => h [] H rfl R⟩
theorem starNo : ∀ {e : Expr} {es : List Expr} {env : PySem.Env}, (∀ x p, e ≠ .Starred x p) → starEach (e :: es) env = (false, eval e env) :: starEach es env := fun {e es env} h => by
  cases e <;> first | rfl | exact absurd rfl (h _ _)
theorem da_cons (ha : DE S e da) (hr : DA S es das) (hs : ∀ x p, e ≠ .Starred x p) : DA S (e :: es) (dCons da das) := fun W => by
  obtain ⟨ta, pa, qa⟩ := ha W
  obtain ⟨tr, pr, qr⟩ := hr W
  refine ⟨_, fun X hX tk => pa_cons (pa X hX tk) (pr X hX tk) (starNo hs), fun g env st T σ H Q hT R h => ?_⟩
  refine qa g env st T σ H _ hT R ?_
  unfold dCons at h
  cases e1 : da env st with
  | stuck => rw [e1] at h; exact h.elim
  | exc c ds st1 => rw [e1] at h; exact h
  | ok f b d st1 =>
    rw [e1] at h
    obtain ⟨hb, h⟩ := bifT h id
    intro v H1 R1
    refine qr g env st1 _ σ H1 _ (nb_cons hT) (R1.unb hb) ?_
    cases e2 : das env st1 with
    | stuck => rw [e2] at h; exact h.elim
    | exc c ds st2 => rw [e2] at h; exact h
    | ok ts st2 =>
      rw [e2] at h
      dsimp only at h
      intro vs H2 hl R2
      exact h (v :: vs) H2 (by simp [hl]) R2.mid
theorem da_last (ha : DE S e da) (hs : ∀ x p, e ≠ .Starred x p) : DA S [e] (dLast da) := fun W => by
  obtain ⟨ta, pa, qa⟩ := ha W
  refine ⟨_, fun X hX tk => pa_cons (pa X hX tk) pa_nil (starNo hs), fun g env st T σ H Q hT R h => qa g env st T σ H _ hT R ?_⟩
  unfold dLast at h
  cases e1 : da env st with
  | stuck => rw [e1] at h; exact h.elim
  | exc c ds st1 => rw [e1] at h; exact h
  | ok f b d st1 =>
    rw [e1] at h
    exact fun v H1 R1 => h [v] H1 rfl R1
/-- two in a row -/
theorem run2 {r : List V → Hp → VK → Prop} {op : Op} {W : WX} {ta tb : TE} (hv : VOp S.G r op)
    (qa : ∀ g env st T σ H Q, noBor T → Rl S.G g env st T σ H → PostE S.G g env T σ W Q (da env st) → ta σ H Q)
    (qb : ∀ g env st T σ H Q, noBor T → Rl S.G g env st T σ H → PostE S.G g env T σ W Q (db env st) → tb σ H Q)
    (g : Gd) (env : Env) (st : Store) (T : List Tm) (σ : St) (H : Hp) (Q : VK) (hT : noBor T) (R : Rl S.G g env st T σ H) (h : PostE S.G g env T σ W Q (dOp op (dCons da (dLast db)) env st)) :
    ta σ H fun x H1 => tb σ H1 fun y H2 => r [x, y] H2 Q := by
  refine qa g env st T σ H _ hT R ?_
  unfold dOp dCons at h
  cases e1 : da env st with
  | stuck => rw [e1] at h; exact h.elim
  | exc c ds st1 => rw [e1] at h; exact h
  | ok f b d st1 =>
    rw [e1] at h
    dsimp only at h
    cases hb : (!b || f.isz) with
    | false => rw [hb] at h; exact h.elim
    | true =>
    rw [hb] at h
    intro v H1 R1
    refine qb g env st1 _ σ H1 _ (nb_cons hT) (R1.unb hb) ?_
    unfold dLast at h
    dsimp only [cond_true] at h
    cases e2 : db env st1 with
    | stuck => rw [e2] at h; exact h.elim
    | exc c ds st2 => rw [e2] at h; exact h
    | ok f2 b2 d2 st2 =>
      rw [e2] at h
      dsimp only at h
      intro v2 H2 R2
      have R3 : Rl S.G g env st2 (mkT [v, v2] [(f, false, d), (f2, b2, d2)] ++ T) σ H2 := RlB.mid (l := [_]) R2
      cases hf : flats [(f, false, d), (f2, b2, d2)] with
      | false => rw [hf] at h; exact h.elim
      | true =>
        rw [hf] at h
        simp only [cond_true] at h
        cases e3 : op ([(f, false, d), (f2, b2, d2)].map fun t => lk st2 t.2.2) with
        | none => rw [e3] at h; exact h.elim
        | some x =>
          obtain ⟨f', d'⟩ := x
          rw [e3] at h
          exact Rl.op hv R3 rfl hf e3 h
theorem run1 {r : List V → Hp → VK → Prop} {op : Op} {W : WX} {ta : TE} (hv : VOp S.G r op)
    (qa : ∀ g env st T σ H Q, noBor T → Rl S.G g env st T σ H → PostE S.G g env T σ W Q (da env st) → ta σ H Q)
    (g : Gd) (env : Env) (st : Store) (T : List Tm) (σ : St) (H : Hp) (Q : VK) (hT : noBor T) (R : Rl S.G g env st T σ H) (h : PostE S.G g env T σ W Q (dOp op (dLast da) env st)) :
    ta σ H fun x H1 => r [x] H1 Q := by
  refine qa g env st T σ H _ hT R ?_
  unfold dOp dLast at h
  cases e1 : da env st with
  | stuck => rw [e1] at h; exact h.elim
  | exc c ds st1 => rw [e1] at h; exact h
  | ok f b d st1 =>
    rw [e1] at h
    exact post1 hv h
theorem runL {r : List V → Hp → VK → Prop} {op : Op} {W : WX} {ta : TA} (hv : VOp S.G r op)
    (qa : ∀ g env st T σ H Q, noBor T → Rl S.G g env st T σ H → PostL S.G g env T σ W Q (das env st) → ta σ H Q)
    (g : Gd) (env : Env) (st : Store) (T : List Tm) (σ : St) (H : Hp) (Q : VK) (hT : noBor T) (R : Rl S.G g env st T σ H) (h : PostE S.G g env T σ W Q (dOp op das env st)) :
    ta σ H fun vs H1 => r vs H1 Q := by
  refine qa g env st T σ H _ hT R ?_
  unfold dOp at h
  cases e1 : das env st with
  | stuck => rw [e1] at h; exact h.elim
  | exc c ds st1 => rw [e1] at h; exact h
  | ok ts st1 =>
    rw [e1] at h
    dsimp only at h
    intro vs H1 hl R1
    cases hf : flats ts with
    | false => rw [hf] at h; exact h.elim
    | true =>
      rw [hf] at h
      simp only [cond_true] at h
      cases e3 : op (ts.map fun t => lk st1 t.2.2) with
      | none => rw [e3] at h; exact h.elim
      | some x =>
        obtain ⟨f', d'⟩ := x
        rw [e3] at h
        exact Rl.op hv R1 hl hf e3 h

/-! ### names, constants -/
@[simp] def dVar (i : Nat) : Den := fun env st => match env[i]? with
  | some (some (.z, d)) => .ok .z false d st
  | _ => .stuck
/-- looked at, not kept -/
@[simp] def dPk (i : Nat) : Den := fun env st => match env[i]? with
  | some (some (f, d)) => .ok f true d st
  | _ => .stuck
@[simp] def dC (d : D) : Den := fun _ st => .ok .z false d st
theorem de_pv {i : Nat} {x : Str} {p : Pos} (hN : S.N[i]? = some x) (hv : Vis S.sc x) (hd : (x == ("__debug__" : Str)) = false) (hcd : (x == ("__classdict__" : Str)) = false) {X : Cx} (hX : Stx S X) : PE X (.Name x p) (tVar i) :=
  pe_var (by rw [hX.N]; exact hN) (by rw [hX.sc]; exact hv) hd hcd
theorem de_var {i : Nat} {x : Str} {p : Pos} (hN : S.N[i]? = some x) (hv : Vis S.sc x) (hd : (x == ("__debug__" : Str)) = false) (hcd : (x == ("__classdict__" : Str)) = false) : DE S (.Name x p) (dVar i) := fun W => by
  refine ⟨_, fun X hX tk => de_pv hN hv hd hcd hX, fun g env st T σ H Q hT R h => ?_⟩
  unfold dVar at h
  split at h
  · rename_i d e
    obtain ⟨v, e1, R1⟩ := R.pushz e
    exact ⟨v, e1, h v H R1⟩
  · exact h.elim
theorem de_pk {i : Nat} {x : Str} {p : Pos} (hN : S.N[i]? = some x) (hv : Vis S.sc x) (hd : (x == ("__debug__" : Str)) = false) (hcd : (x == ("__classdict__" : Str)) = false) : DE S (.Name x p) (dPk i) := fun W => by
  refine ⟨_, fun X hX tk => de_pv hN hv hd hcd hX, fun g env st T σ H Q hT R h => ?_⟩
  unfold dPk at h
  split at h
  · rename_i f d e
    obtain ⟨v, e1, R1⟩ := R.pushb e
    exact ⟨v, e1, h v H R1⟩
  · exact h.elim
theorem de_int {i : Int} {j} {p : Pos} : DE S (.Constant (.int i) j p) (dC (.int i)) := fun W => ⟨_, fun X hX tk => pe_int, fun g env st T σ H Q hT R h => h _ H (R.scal rfl)⟩
theorem de_bl {i : Bool} {j} {p : Pos} : DE S (.Constant (.bool i) j p) (dC (.bl i)) := fun W => ⟨_, fun X hX tk => pe_bl, fun g env st T σ H Q hT R h => h _ H (R.scal rfl)⟩
theorem de_non {j} {p : Pos} : DE S (.Constant .none j p) (dC .non) := fun W => ⟨_, fun X hX tk => pe_non, fun g env st T σ H Q hT R h => h _ H (R.scal trivial)⟩
theorem de_str {i : Str} {j} {p : Pos} : DE S (.Constant (.str i) j p) (dC (.str i)) := fun W => ⟨_, fun X hX tk => pe_str, fun g env st T σ H Q hT R h => h _ H (R.scal rfl)⟩

/-! ### operators, subscripts, built-ins, by their rules -/
def l1 (r : V → Hp → VK → Prop) : List V → Hp → VK → Prop := fun vs H Q => r (vs.getD 0 .non) H Q
def l2 (r : R2) : List V → Hp → VK → Prop := fun vs H Q => r (vs.getD 0 .non) (vs.getD 1 .non) H Q
theorem de_bin {o : Operator} {r : R2} {op : Op} (ho : ∀ X, Stx S X → OpR X (binaryOp o) r) (hv : VOp S.G (l2 r) op) (ha : DE S a da) (hb : DE S b db) :
    DE S (.BinOp a o b pos) (dOp op (dCons da (dLast db))) := fun W => by
  obtain ⟨ta, pa, qa⟩ := ha W
  obtain ⟨tb, pb, qb⟩ := hb W
  exact ⟨_, fun X hX tk => pe_op (ho X hX) (pa X hX tk) (pb X hX tk), fun g env st T σ H Q hT R h => run2 hv qa qb g env st T σ H Q hT R h⟩
theorem de_un {o : UnaryOp} {r : V → Hp → VK → Prop} {op : Op} (ho : ∀ X, Stx S X → UnR X (unaryOp o) r) (hv : VOp S.G (l1 r) op) (ha : DE S a da) :
    DE S (.UnaryOp o a pos) (dOp op (dLast da)) := fun W => by
  obtain ⟨ta, pa, qa⟩ := ha W
  exact ⟨_, fun X hX tk => pe_un (ho X hX) (pa X hX tk), fun g env st T σ H Q hT R h => run1 hv qa g env st T σ H Q hT R h⟩
def notSet : Expr → Bool
  | .Set _ _ _ => false
  | _ => true
theorem marks {o : CmpOp} {e : Expr} (h : notSet e = true) : behindInMarks o e = false := by
  cases e <;> first | rfl | cases h
theorem de_cmp {o : CmpOp} {r : R2} {op : Op} (ho : ∀ X, Stx S X → OpR X (compareOp o) r) (hv : VOp S.G (l2 r) op) (ha : DE S a da) (hb : DE S b db) (hm : notSet b = true) :
    DE S (.Compare a [o] [b] pos) (dOp op (dCons da (dLast db))) := fun W => by
  obtain ⟨ta, pa, qa⟩ := ha W
  obtain ⟨tb, pb, qb⟩ := hb W
  exact ⟨_, fun X hX tk => pe_cmpR (ho X hX) (pa X hX tk) (pb X hX tk) (marks hm), fun g env st T σ H Q hT R h => run2 hv qa qb g env st T σ H Q hT R h⟩
def notSlice : Expr → Bool
  | .Slice _ _ _ _ => false
  | _ => true
theorem plainIx {e : Expr} (h : notSlice e = true) : PlainIx e := fun o i => by
  cases e <;> first | rfl | cases h
theorem de_ix {r : R2} {op : Op} (ho : ∀ X, Stx S X → IxR X r) (hv : VOp S.G (l2 r) op) (ha : DE S a da) (hb : DE S b db) (hm : notSlice b = true) :
    DE S (.Subscript a b pos) (dOp op (dCons da (dLast db))) := fun W => by
  obtain ⟨ta, pa, qa⟩ := ha W
  obtain ⟨tb, pb, qb⟩ := hb W
  exact ⟨_, fun X hX tk => pe_ix (ho X hX) (pa X hX tk) (pb X hX tk) (plainIx hm), fun g env st T σ H Q hT R h => run2 hv qa qb g env st T σ H Q hT R h⟩
theorem noStar : ∀ {es : List Expr} {env : PySem.Env} {pos : Pos}, (∀ e ∈ es, ∀ x p, e ≠ .Starred x p) → (backTo pos (starEach es env)).any (·.1) = false := fun {es} => by
  induction es with
  | nil => intro env pos _; rfl
  | cons e es ih =>
    intro env pos h
    rw [starNo (h e List.mem_cons_self)]
    have := ih (env := env) (pos := pos) fun x hx => h x (List.mem_cons_of_mem _ hx)
    simpa [backTo] using this
/-- no star among the arguments -/
def plainArgs : List Expr → Bool
  | [] => true
  | .Starred _ _ :: _ => false
  | _ :: es => plainArgs es
theorem plainArgs_ok : ∀ {es : List Expr}, plainArgs es = true → ∀ e ∈ es, ∀ x p, e ≠ .Starred x p
  | e :: es, h, e', he, x, p => by
    rcases List.mem_cons.mp he with rfl | he
    · intro z; subst z; exact Bool.noConfusion h
    · have h2 : plainArgs es = true := by
        cases e <;> first | exact h | exact Bool.noConfusion h
      exact plainArgs_ok h2 e' he x p
/-- a built-in function by its name -/
theorem de_bi {x : Str} {p : Pos} {id : String} {r : List V → Hp → VK → Prop} {op : Op} (ho : ∀ X, Stx S X → CallR X (.builtin id) r) (hv : VOp S.G r op) (hg : S.sc.names.lookup x = some .globalImplicit) (hm : S.mg x = none) (hb : bootBuiltins x = some (.builtin id)) (hn : x ≠ "__name__") (hdb : (x == ("__debug__" : Str)) = false)
    (ha : DA S (e :: es) das) (hp : plainArgs (e :: es) = true) : DE S (.Call (.Name x p) (e :: es) [] pos) (dOp op das) := fun W => by
  obtain ⟨ta, pa, qa⟩ := ha W
  have h1 := plainArgs_ok hp
  exact ⟨_, fun X hX tk => pe_callB (ho X hX) (show X.env.scope.names.lookup x = some .globalImplicit by rw [hX.sc]; exact hg) (by rw [hX.mg]; exact hm) hb (pa X hX tk) hn hdb (starNo (h1 e List.mem_cons_self)) (noStar fun y hy => h1 y (List.mem_cons_of_mem _ hy)), fun g env st T σ H Q hT R h => runL hv qa g env st T σ H Q hT R h⟩
theorem de_ty {x : Str} {p : Pos} {id : String} {r : List V → Hp → VK → Prop} {op : Op} (ho : ∀ X, Stx S X → CallR X (.type id) r) (hv : VOp S.G r op) (hg : S.sc.names.lookup x = some .globalImplicit) (hm : S.mg x = none) (hb : bootBuiltins x = some (.type id)) (hn : x ≠ "__name__") (hdb : (x == ("__debug__" : Str)) = false)
    (ha : DA S (e :: es) das) (hp : plainArgs (e :: es) = true) : DE S (.Call (.Name x p) (e :: es) [] pos) (dOp op das) := fun W => by
  obtain ⟨ta, pa, qa⟩ := ha W
  have h1 := plainArgs_ok hp
  exact ⟨_, fun X hX tk => pe_callTy (ho X hX) (show X.env.scope.names.lookup x = some .globalImplicit by rw [hX.sc]; exact hg) (by rw [hX.mg]; exact hm) hb (pa X hX tk) hn hdb (starNo (h1 e List.mem_cons_self)) (noStar fun y hy => h1 y (List.mem_cons_of_mem _ hy)), fun g env st T σ H Q hT R h => runL hv qa g env st T σ H Q hT R h⟩

/-! ### truth -/
theorem Rl.bl {G : Sg} {g : Gd} {env : Env} {st : Store} {T : List Tm} {σ : St} {H : Hp} {v : V} {f : Fr} {b c : Bool} (R : Rl G g env st (⟨v, f, .bl c, b⟩ :: T) σ H) : v = .bl c := by
  obtain ⟨Fz, am, ne, nt, ns, h1, h2, h3, h4, h5⟩ := R
  have key : ∀ {n : Fp}, Rep G Fz am H f v (.bl c) n → v = .bl c := fun {n} r => by
    cases r with
    | sc h _ => cases v <;> first | exact congrArg V.bl h | exact h.elim
  cases h2 with
  | own h _ _ => exact key h
  | bor h _ _ => exact key h
@[simp] def dB (a : Den) : DenB := fun env st => match a env st with
  | .ok _ _ (.bl c) st1 => .ok c st1
  | .ok _ _ _ _ => .stuck
  | .exc c ds st1 => .exc c ds st1
  | .stuck => .stuck
@[simp] def dOfB (a : DenB) : Den := fun env st => match a env st with
  | .ok c st1 => .ok .z false (.bl c) st1
  | .exc c ds st1 => .exc c ds st1
  | .stuck => .stuck
/-- what is wanted behind a truth value -/
theorem postB {G : Sg} {g : Gd} {env : Env} {st : Store} {T : List Tm} {σ : St} {W : WX} {Q : Bool → Hp → Prop} {a : Den} (h : PostB G g env T σ W Q (dB a env st)) : PostE G g env T σ W (fun x H1 => ∃ c, x = .bl c ∧ Q c H1) (a env st) := by
  unfold dB at h
  cases e : a env st with
  | stuck => rw [e] at h; exact h.elim
  | exc c ds st1 => rw [e] at h; exact h
  | ok f b d st1 =>
    rw [e] at h
    cases d with
    | bl c => exact fun v H1 R1 => ⟨c, R1.bl, h H1 R1.drop⟩
    | _ => exact h.elim
/-- expressions whose test is their value's -/
def plainTest : Expr → Bool
  | .UnaryOp .Not _ _ => false
  | .BoolOp _ _ _ => false
  | .IfExp _ _ _ _ => false
  | .Compare _ _ _ _ => false
  | _ => true
theorem plainTest_ok {e : Expr} (h : plainTest e = true) (env : PySem.Env) (whole : Sem Value) : isTrue e env whole = (do let v ← whole; standAt e.pos; holding [v] (truthy v)) := by
  cases e <;> first | rfl | exact Bool.noConfusion h | skip
  rename_i o x p
  cases o <;> first | rfl | exact Bool.noConfusion h
theorem dt_val (ha : DE S a da) (hp : plainTest a = true) : DT S a (dB da) := fun W => by
  obtain ⟨ta, pa, qa⟩ := ha W
  exact ⟨_, fun X hX tk => pt_val (pa X hX tk) (plainTest_ok hp X.env), fun g env st T σ H Q hT R h => qa g env st T σ H _ hT R (postB h)⟩
theorem dt_cmp {o : CmpOp} {r : R2} {op : Op} (ho : ∀ X, Stx S X → OpR X (compareOp o) r) (hv : VOp S.G (l2 r) op) (ha : DE S a da) (hb : DE S b db) (hm : notSet b = true) :
    DT S (.Compare a [o] [b] pos) (dB (dOp op (dCons da (dLast db)))) := fun W => by
  obtain ⟨ta, pa, qa⟩ := ha W
  obtain ⟨tb, pb, qb⟩ := hb W
  exact ⟨_, fun X hX tk => pt_cmpR (ho X hX) (pa X hX tk) (pb X hX tk) (marks hm), fun g env st T σ H Q hT R h => run2 hv qa qb g env st T σ H _ hT R (postB h)⟩
@[simp] def dNotB (a : DenB) : DenB := fun env st => match a env st with
  | .ok c st1 => .ok (!c) st1
  | .exc c ds st1 => .exc c ds st1
  | .stuck => .stuck
@[simp] def dAndB (a b : DenB) : DenB := fun env st => match a env st with
  | .ok true st1 => b env st1
  | .ok false st1 => .ok false st1
  | .exc c ds st1 => .exc c ds st1
  | .stuck => .stuck
@[simp] def dOrB (a b : DenB) : DenB := fun env st => match a env st with
  | .ok true st1 => .ok true st1
  | .ok false st1 => b env st1
  | .exc c ds st1 => .exc c ds st1
  | .stuck => .stuck
theorem dt_not {ta : DenB} (ha : DT S a ta) : DT S (.UnaryOp .Not a pos) (dNotB ta) := fun W => by
  obtain ⟨t, p, q⟩ := ha W
  refine ⟨_, fun X hX tk => pt_not (p X hX tk), fun g env st T σ H Q hT R h => q g env st T σ H _ hT R ?_⟩
  unfold dNotB at h
  cases e : ta env st with
  | stuck => rw [e] at h; exact h.elim
  | exc c ds st1 => rw [e] at h; exact h
  | ok c st1 => rw [e] at h; exact h
/-- and, or: tests, whatever the whole -/
def DW (S : Sx) (e : Expr) (den : DenB) : Prop := ∀ W : WX, ∃ t : TT, (∀ X, Stx S X → Takes X W → PW X e t) ∧
  ∀ g env st T σ H Q, noBor T → Rl S.G g env st T σ H → PostB S.G g env T σ W Q (den env st) → t σ H Q
theorem dt_w {ta : DenB} (ha : DW S a ta) : DT S a ta := fun W => by
  obtain ⟨t, p, q⟩ := ha W
  exact ⟨t, fun X hX tk => (p X hX tk).pt, q⟩
theorem dw_and1 {ta : DenB} (ha : DT S a ta) : DW S (.BoolOp .And [a] pos) ta := fun W => by
  obtain ⟨t, p, q⟩ := ha W
  exact ⟨t, fun X hX tk => pw_and1 (p X hX tk), q⟩
theorem dw_or1 {ta : DenB} (ha : DT S a ta) : DW S (.BoolOp .Or [a] pos) ta := fun W => by
  obtain ⟨t, p, q⟩ := ha W
  exact ⟨t, fun X hX tk => pw_or1 (p X hX tk), q⟩
theorem dw_and {ta tr : DenB} (ha : DT S a ta) (hr : DW S (.BoolOp .And (b :: es) pos) tr) : DW S (.BoolOp .And (a :: b :: es) pos) (dAndB ta tr) := fun W => by
  obtain ⟨t, p, q⟩ := ha W
  obtain ⟨t2, p2, q2⟩ := hr W
  refine ⟨_, fun X hX tk => pw_and (p X hX tk) (p2 X hX tk), fun g env st T σ H Q hT R h => q g env st T σ H _ hT R ?_⟩
  unfold dAndB at h
  cases e : ta env st with
  | stuck => rw [e] at h; exact h.elim
  | exc c ds st1 => rw [e] at h; exact h
  | ok c st1 =>
    rw [e] at h
    intro H1 R1
    cases c with
    | true => exact iteT (q2 _ _ _ _ _ _ _ hT R1 h)
    | false => exact iteF (h H1 R1)
theorem dw_or {ta tr : DenB} (ha : DT S a ta) (hr : DW S (.BoolOp .Or (b :: es) pos) tr) : DW S (.BoolOp .Or (a :: b :: es) pos) (dOrB ta tr) := fun W => by
  obtain ⟨t, p, q⟩ := ha W
  obtain ⟨t2, p2, q2⟩ := hr W
  refine ⟨_, fun X hX tk => pw_or (p X hX tk) (p2 X hX tk), fun g env st T σ H Q hT R h => q g env st T σ H _ hT R ?_⟩
  unfold dOrB at h
  cases e : ta env st with
  | stuck => rw [e] at h; exact h.elim
  | exc c ds st1 => rw [e] at h; exact h
  | ok c st1 =>
    rw [e] at h
    intro H1 R1
    cases c with
    | true => exact iteT (h H1 R1)
    | false => exact iteF (q2 _ _ _ _ _ _ _ hT R1 h)
/-! ### and, or, not, if as values -/
@[simp] def dAnd (a b : Den) : Den := fun env st => match a env st with
  | .ok _ _ (.bl true) st1 => b env st1
  | .ok _ _ (.bl false) st1 => .ok .z false (.bl false) st1
  | .ok _ _ _ _ => .stuck
  | .exc c ds st1 => .exc c ds st1
  | .stuck => .stuck
@[simp] def dOr (a b : Den) : Den := fun env st => match a env st with
  | .ok _ _ (.bl true) st1 => .ok .z false (.bl true) st1
  | .ok _ _ (.bl false) st1 => b env st1
  | .ok _ _ _ _ => .stuck
  | .exc c ds st1 => .exc c ds st1
  | .stuck => .stuck
@[simp] def dIf (c : DenB) (a b : Den) : Den := fun env st => match c env st with
  | .ok true st1 => a env st1
  | .ok false st1 => b env st1
  | .exc c ds st1 => .exc c ds st1
  | .stuck => .stuck
theorem de_one {o : BoolOp} (ha : DE S a da) : DE S (.BoolOp o [a] pos) da := fun W => by
  obtain ⟨t, p, q⟩ := ha W
  exact ⟨t, fun X hX tk => pe_one (p X hX tk), q⟩
theorem de_and (ha : DE S a da) (hr : DE S (.BoolOp .And (b :: es) pos) db) : DE S (.BoolOp .And (a :: b :: es) pos) (dAnd da db) := fun W => by
  obtain ⟨t, p, q⟩ := ha W
  obtain ⟨t2, p2, q2⟩ := hr W
  refine ⟨_, fun X hX tk => pe_and (p X hX tk) (p2 X hX tk), fun g env st T σ H Q hT R h => q g env st T σ H _ hT R ?_⟩
  unfold dAnd at h
  cases e : da env st with
  | stuck => rw [e] at h; exact h.elim
  | exc c ds st1 => rw [e] at h; exact h
  | ok f b0 d st1 =>
    rw [e] at h
    cases d with
    | bl c =>
      intro v H1 R1
      cases c with
      | true => exact ⟨true, R1.bl, iteT (q2 _ _ _ _ _ _ _ hT R1.drop h)⟩
      | false => exact ⟨false, R1.bl, iteF (h _ H1 (Rl.scal R1.drop rfl))⟩
    | _ => exact h.elim
theorem de_or (ha : DE S a da) (hr : DE S (.BoolOp .Or (b :: es) pos) db) : DE S (.BoolOp .Or (a :: b :: es) pos) (dOr da db) := fun W => by
  obtain ⟨t, p, q⟩ := ha W
  obtain ⟨t2, p2, q2⟩ := hr W
  refine ⟨_, fun X hX tk => pe_or (p X hX tk) (p2 X hX tk), fun g env st T σ H Q hT R h => q g env st T σ H _ hT R ?_⟩
  unfold dOr at h
  cases e : da env st with
  | stuck => rw [e] at h; exact h.elim
  | exc c ds st1 => rw [e] at h; exact h
  | ok f b0 d st1 =>
    rw [e] at h
    cases d with
    | bl c =>
      intro v H1 R1
      cases c with
      | true => exact ⟨true, R1.bl, iteT (h _ H1 (Rl.scal R1.drop rfl))⟩
      | false => exact ⟨false, R1.bl, iteF (q2 _ _ _ _ _ _ _ hT R1.drop h)⟩
    | _ => exact h.elim
theorem de_not (ha : DE S a da) : DE S (.UnaryOp .Not a pos) (dOfB (dNotB (dB da))) := fun W => by
  obtain ⟨t, p, q⟩ := ha W
  refine ⟨_, fun X hX tk => pe_not (p X hX tk), fun g env st T σ H Q hT R h => q g env st T σ H _ hT R ?_⟩
  unfold dOfB dNotB dB at h
  cases e : da env st with
  | stuck => rw [e] at h; exact h.elim
  | exc c ds st1 => rw [e] at h; exact h
  | ok f b0 d st1 =>
    rw [e] at h
    cases d with
    | bl c => exact fun v H1 R1 => ⟨c, R1.bl, h _ H1 (Rl.scal R1.drop rfl)⟩
    | _ => exact h.elim
theorem de_if {c : Expr} {tc : DenB} (hc : DT S c tc) (ha : DE S a da) (hb : DE S b db) : DE S (.IfExp c a b pos) (dIf tc da db) := fun W => by
  obtain ⟨t, p, q⟩ := hc W
  obtain ⟨t2, p2, q2⟩ := ha W
  obtain ⟨t3, p3, q3⟩ := hb W
  refine ⟨_, fun X hX tk => pe_ifExp (p X hX tk) (p2 X hX tk) (p3 X hX tk), fun g env st T σ H Q hT R h => q g env st T σ H _ hT R ?_⟩
  unfold dIf at h
  cases e : tc env st with
  | stuck => rw [e] at h; exact h.elim
  | exc c ds st1 => rw [e] at h; exact h
  | ok c st1 =>
    rw [e] at h
    intro H1 R1
    cases c with
    | true => exact iteT (q2 _ _ _ _ _ _ _ hT R1 h)
    | false => exact iteF (q3 _ _ _ _ _ _ _ hT R1 h)
end
end Hx

set_option Elab.async false
set_option linter.all false
set_option maxRecDepth 100000
set_option autoImplicit false
/-! F4: displays, calls. -/
namespace Hx
open PySem PySem.Spec L2
open PyProof.Rows hiding St

section
variable {G : Sg} {g : Gd} {env : Env} {st st' : Store} {T T' : List Tm} {σ : St} {H H' : Hp} {B B' : (Addr → Prop) → List Addr → Prop}
/-- what may be kept: not a look at a slot's own thing -/
@[simp] def keeps (ts : List (Fr × Bool × D)) : Bool := ts.all fun t => !t.2.1 || t.1.isz
def bare (ts : List (Fr × Bool × D)) : List (Fr × D) := ts.map fun t => (t.1, t.2.2)
theorem TmR.reps {Fz : Addr → Prop} {am : List Addr} {ne nt : Fp} : ∀ {vs : List V} {ts : List (Fr × Bool × D)}, vs.length = ts.length → keeps ts = true → TmR G Fz am H ne (mkT vs ts ++ T) nt →
    ∃ n1 n2 : Fp, Reps G Fz am H (ts.map (·.1)) vs (ts.map fun t => t.2.2) n1 ∧ TmR G Fz am H ne T n2 ∧ ∀ q, nt q = n1 q + n2 q
  | [], [], _, _, r => ⟨fun _ => 0, nt, .nil fun _ => rfl, r, fun q => by simp⟩
  | v :: vs, (f, b, d) :: ts, hl, hf, r => by
    simp only [keeps, List.all_cons, Bool.and_eq_true] at hf
    cases b with
    | false =>
      cases r with
      | @own _ _ _ _ m1 m2 _ h1 h2 h3 =>
        obtain ⟨n1, n2, k1, k2, k3⟩ := TmR.reps (by simpa using hl) hf.2 h2
        exact ⟨fun q => m1 q + n1 q, n2, .cons h1 k1 fun _ => rfl, k2, fun q => by rw [h3, k3]; show _ = m1 q + n1 q + n2 q; omega⟩
    | true =>
      cases r with
      | @bor _ _ _ _ m1 _ h1 h2 h3 =>
        obtain ⟨n1, n2, k1, k2, k3⟩ := TmR.reps (by simpa using hl) hf.2 h3
        have e : f = .z := Fr.isz_eq (by simpa using hf.1)
        subst e
        exact ⟨n1, n2, .cons h1 k1 fun q => by rw [h1.z0]; omega, k2, k3⟩
/-- values under way become shared for good -/
theorem Rl.frzL {vs : List V} {ts : List (Fr × Bool × D)} (R : Rl G g env st (mkT vs ts ++ T) σ H) (hl : vs.length = ts.length) (hk : keeps ts = true) :
    RlB G g env st T σ H fun Fz am => Reps G Fz am H (zs ts.length) vs (ts.map fun t => t.2.2) (fun _ => 0) := by
  obtain ⟨Fz, am, ne, nt, ns, h1, h2, h3, h4, h5⟩ := R
  obtain ⟨n1, n2, k1, k2, k3⟩ := h2.reps hl hk
  have E : Ext Fz am H (Fro Fz n1) am H := Ext.shared fun p z => .inl z
  refine ⟨Fro Fz n1, am, ne, n2, ns, h1.ext E fun _ _ _ h => h, k2.ext E (fun _ _ _ h => h) fun _ _ _ h => h, Reps.ext E h3 fun _ _ _ h => h, h4.froz fun q => by rw [k3]; omega, ?_⟩
  have := k1.frz (Fz' := Fro Fz n1) (fun p z => .inl z) fun p z => .inr z
  simpa using this
/-- kept as they are -/
theorem Rl.own {vs : List V} {ts : List (Fr × Bool × D)} (R : Rl G g env st (mkT vs ts ++ T) σ H) (hl : vs.length = ts.length) (hk : keeps ts = true) :
    ∃ Fz am ne n1 n2 ns, Reps G Fz am H (ts.map (·.1)) vs (ts.map fun t => t.2.2) n1 ∧ EnvR G Fz am H env σ ne ∧ TmR G Fz am H ne T n2 ∧ StoR G Fz am H st ns ∧ Rel0 G g Fz am H fun p => n1 p + (ne p + n2 p + ns p) := by
  obtain ⟨Fz, am, ne, nt, ns, h1, h2, h3, h4, h5⟩ := R
  obtain ⟨n1, n2, k1, k2, k3⟩ := h2.reps hl hk
  exact ⟨Fz, am, ne, n1, n2, ns, k1, h1, k2, h3, h4.less fun q => by rw [k3]; omega⟩
/-- a new value over the old ones -/
theorem RlB.new {v : V} {f : Fr} {d : D} {n : Fp} (R : RlB G g env st T σ H B) (s : Same H H') (nn : Newp H H' n) (h : ∀ Fz am, Ext Fz am H Fz am H' → B Fz am → Rep G Fz am H' f v d n) : Rl G g env st (⟨v, f, d, false⟩ :: T) σ H' := by
  obtain ⟨Fz, am, ne, nt, ns, h1, h2, h3, h4, h5⟩ := R
  have E : Ext Fz am H Fz am H' := Ext.same s fun _ h => h
  exact ⟨Fz, am, ne, fun q => n q + nt q, ns, h1.ext E fun p o _ h => s _ _ h, .own (h Fz am E h5) (h2.ext E (fun p o _ h => s _ _ h) fun p o _ h => s _ _ h) fun _ => rfl, Reps.ext E h3 fun p o _ h => s _ _ h, h4.grow s nn fun q => by show ne q + (n q + nt q) + ns q = _; omega, trivial⟩
theorem same_upd {p : Addr} {o : HO} (h : H p = none) : Same H (upd H p o) := fun b x e => by
  rw [upd_ne (ne_of_none e h)]
  exact e
def one1 (p : Addr) : Fp := fun q => if q = p then 1 else 0
theorem newp1 {p : Addr} {o : HO} (h : H p = none) (k : OwnK o) : Newp H (upd H p o) (one1 p) := fun q hq => by
  unfold one1 at hq ⊢
  by_cases e : q = p
  · subst e
    exact ⟨if_pos rfl, h, o, upd_same, k⟩
  · rw [if_neg e] at hq
    omega
/-- a list of shared items -/
theorem rep_lst {Fz : Addr → Prop} {am : List Addr} {p : Addr} {vs : List V} {ds : List D} (E : Ext Fz am H Fz am (upd H p (.lst vs))) (h : Reps G Fz am H (zs ds.length) vs ds (fun _ => 0)) : Rep G Fz am (upd H p (.lst vs)) (.c .z) (.ref p) (.con .lst ds) (one1 p) :=
  .cc ⟨⟨by decide, by decide⟩, _, upd_same, rfl⟩ (Reps.ext E h fun q o hq => absurd hq (Nat.lt_irrefl 0)) fun q => by unfold one1; simp
theorem rep_tup {Fz : Addr → Prop} {am : List Addr} {p : Addr} {vs : List V} {ds : List D} (E : Ext Fz am H Fz am (upd H p (.tup vs))) (h : Reps G Fz am H (zs ds.length) vs ds (fun _ => 0)) : Rep G Fz am (upd H p (.tup vs)) .z (.ref p) (.con .tup ds) (fun _ => 0) :=
  .zz (k := .tup) (SqT.of upd_same) (Reps.ext E h fun q o hq => absurd hq (Nat.lt_irrefl 0)) fun _ => rfl
end

/-! ### displays -/
@[simp] def dTup (as : DenL) : Den := fun env st => match as env st with
  | .ok ts st1 => bif keeps ts && ts.length.ble 1000 then .ok .z false (.con .tup (ts.map fun t => t.2.2)) st1 else .stuck
  | .exc c ds st1 => .exc c ds st1
  | .stuck => .stuck
/-- the items stay owned -/
def dTupO (as : DenL) : Den := fun env st => match as env st with
  | .ok ts st1 => bif keeps ts && ts.length.ble 1000 then .ok (.t (ts.map (·.1))) false (.con .tup (ts.map fun t => t.2.2)) st1 else .stuck
  | .exc c ds st1 => .exc c ds st1
  | .stuck => .stuck
@[simp] def dLst (as : DenL) : Den := fun env st => match as env st with
  | .ok ts st1 => bif keeps ts && ts.length.ble 1000 then .ok (.c .z) false (.con .lst (ts.map fun t => t.2.2)) st1 else .stuck
  | .exc c ds st1 => .exc c ds st1
  | .stuck => .stuck
theorem small_len {n : Nat} (h : n.ble 1000 = true) : n ≤ sizeLine := Nat.le_trans (Nat.le_of_ble_eq_true h) (by decide)
section
variable {S : Sx} {e a b : Expr} {es : List Expr} {da db : Den} {das : DenL} {pos : Pos}
theorem de_tup {x1} (ha : DA S es das) : DE S (.Tuple es x1 pos) (dTup das) := fun W => by
  obtain ⟨t, p, q⟩ := ha W
  refine ⟨_, fun X hX tk => pe_tup (p X hX tk), fun g env st T σ H Q hT R h => q g env st T σ H _ hT R ?_⟩
  unfold dTup at h
  cases e : das env st with
  | stuck => rw [e] at h; exact h.elim
  | exc c ds st1 => rw [e] at h; exact h
  | ok ts st1 =>
    rw [e] at h
    obtain ⟨hc, h⟩ := bifT h id
    rw [Bool.and_eq_true] at hc
    intro vs H1 hl R1
    refine ⟨by rw [hl]; exact small_len hc.2, fun pA hp => h _ _ ?_⟩
    exact RlB.new (R1.frzL hl hc.1) (same_upd hp) newp0 fun Fz am E k => rep_tup E (by simpa using k)
theorem de_tupO {x1} (ha : DA S es das) : DE S (.Tuple es x1 pos) (dTupO das) := fun W => by
  obtain ⟨t, p, q⟩ := ha W
  refine ⟨_, fun X hX tk => pe_tup (p X hX tk), fun g env st T σ H Q hT R h => q g env st T σ H _ hT R ?_⟩
  unfold dTupO at h
  cases e : das env st with
  | stuck => rw [e] at h; exact h.elim
  | exc c ds st1 => rw [e] at h; exact h
  | ok ts st1 =>
    rw [e] at h
    obtain ⟨hc, h⟩ := bifT h id
    rw [Bool.and_eq_true] at hc
    intro vs H1 hl R1
    refine ⟨by rw [hl]; exact small_len hc.2, fun pA hp => h _ _ ?_⟩
    obtain ⟨Fz, am, ne, n1, n2, ns, k1, k2, k3, k4, k5⟩ := Rl.own R1 hl hc.1
    have s := same_upd (o := .tup vs) hp
    have E : Ext Fz am H1 Fz am (upd H1 pA (.tup vs)) := Ext.same s fun _ h => h
    exact ⟨Fz, am, ne, fun q => n1 q + n2 q, ns, k2.ext E fun p o _ h => s _ _ h, .own (.tp (SqT.of upd_same) (Reps.ext E k1 fun p o _ h => s _ _ h)) (k3.ext E (fun p o _ h => s _ _ h) fun p o _ h => s _ _ h) fun _ => rfl,
      Reps.ext E k4 fun p o _ h => s _ _ h, (k5.grow s (m := fun _ => 0) newp0 (t' := fun p => n1 p + (ne p + n2 p + ns p)) fun q => by simp).less fun q => by show ne q + (n1 q + n2 q) + ns q ≤ _; omega, trivial⟩
theorem de_lst (ha : DA S es das) : DE S (.List es pos) (dLst das) := fun W => by
  obtain ⟨t, p, q⟩ := ha W
  refine ⟨_, fun X hX tk => pe_lst (p X hX tk), fun g env st T σ H Q hT R h => q g env st T σ H _ hT R ?_⟩
  unfold dLst at h
  cases e : das env st with
  | stuck => rw [e] at h; exact h.elim
  | exc c ds st1 => rw [e] at h; exact h
  | ok ts st1 =>
    rw [e] at h
    obtain ⟨hc, h⟩ := bifT h id
    rw [Bool.and_eq_true] at hc
    intro vs H1 hl R1
    refine ⟨by rw [hl]; exact small_len hc.2, fun pA hp => h _ _ ?_⟩
    exact RlB.new (R1.frzL hl hc.1) (same_upd hp) (newp1 hp trivial) fun Fz am E k => rep_lst E (by simpa using k)
end

/-! ### what a def promises -/
section
variable {G : Sg} {g : Gd} {env : Env} {st st' : Store} {T T' : List Tm} {σ : St} {H H' : Hp} {B B' : (Addr → Prop) → List Addr → Prop}
theorem Rel0.base {Fz : Addr → Prop} {am : List Addr} {na ne nt ns : Fp} (h : Rel0 G g Fz am H fun p => na p + (ne p + nt p + ns p)) : Rel0 G ⟨H, fun p => 0 < na p + ns p, Fz, am⟩ Fz am H (fun p => na p + ns p) where
  n1 := fun p => by have := h.n1 p; omega
  nz := fun p hp => h.nz p (by omega)
  th := fun p hp => h.th p (by omega)
  zt := h.zt
  k := fun p o _ e _ => .inl e
  f := fun p hp => .inl hp
  z0 := fun _ z => z
  z1 := fun _ z => .inl z
  a := fun _ _ z => z
  tb := h.tb
  hm := h.home fun q => by omega
  kt := fun p o t e _ => ⟨o, e, t⟩
/-- behind a call: the caller's things -/
theorem after {Fz : Addr → Prop} {am : List Addr} {na ne nt ns : Fp} (h0 : Rel0 G g Fz am H fun p => na p + (ne p + nt p + ns p)) (hE : EnvR G Fz am H env σ ne) (hT : TmR G Fz am H ne T nt) {T1 : List Tm}
    (R : RlB G ⟨H, fun p => 0 < na p + ns p, Fz, am⟩ [] st' T1 [] H' B) : ∃ Fz' am' nt' ns', B Fz' am' ∧ EnvR G Fz' am' H' env σ ne ∧ TmR G Fz' am' H' ne T nt ∧ TmR G Fz' am' H' (fun _ => 0) T1 nt' ∧ StoR G Fz' am' H' st' ns' ∧ Rel0 G g Fz' am' H' fun p => nt' p + (ne p + nt p + ns' p) := by
  obtain ⟨Fz', am', ne', nt', ns', k1, k2, k3, k4, k5⟩ := R
  have hne' : ∀ q, ne' q = 0 := by cases k1 with | nil h => exact h
  have notA : ∀ p, 0 < ne p + nt p → ¬ 0 < na p + ns p := fun p hp z => by have := h0.n1 p; omega
  have own : ∀ p o, 0 < ne p + nt p → H p = some o → H' p = some o := fun p o hp e => by
    obtain ⟨o1, e1, ow⟩ := h0.th p (by show 0 < na p + (ne p + nt p + ns p); omega)
    rw [e] at e1; cases e1
    exact (k4.k p o ow.nt e (notA p hp)).nf fun z => h0.nz p (by show 0 < na p + (ne p + nt p + ns p); omega) z
  have E : Ext Fz am H Fz' am' H' := ⟨k4.z0, fun i p e => k4.a i p e, fun p u z r => by
      have na' : ¬ 0 < na p + ns p := fun q => h0.nz p (by show 0 < na p + (ne p + nt p + ns p); omega) z
      obtain ⟨o1, e1, nt1⟩ := h0.zt p z
      exact r.elim (fun e => by rw [e] at e1; cases e1; exact (k4.k _ _ (pl_nt nt1) e na').rd) fun ⟨o, e⟩ => .inr ⟨o, (k4.k _ _ rfl e na').nd rfl⟩, fun p u z e nd => by
      have na' : ¬ 0 < na p + ns p := fun q => h0.nz p (by show 0 < na p + (ne p + nt p + ns p); omega) z
      obtain ⟨o1, e1, nt1⟩ := h0.zt p z
      rw [e] at e1; cases e1
      exact (k4.k _ _ (pl_nt nt1) e na').nd (dk_dct nd), fun p xs r => by
      have na' : ¬ 0 < na p + ns p := fun q => by
        obtain ⟨o, e, ok⟩ := h0.th p (by show 0 < na p + (ne p + nt p + ns p); omega)
        rcases r with r | ⟨_, r⟩
        · rw [r] at e; cases e; exact ok
        · rw [r] at e; cases e; exact ok
      exact r.imp (fun e => (k4.k _ _ rfl e na').nd rfl) fun ⟨o, e⟩ => ⟨o, (k4.k _ _ rfl e na').nd rfl⟩⟩
  refine ⟨Fz', am', nt', ns', k5, hE.ext E fun p o hp e => own p o (by omega) e, hT.ext E (fun p o hp e => own p o (by omega) e) fun p o hp e => own p o (by omega) e, ?_, k3, ?_⟩
  · have e0 : ne' = fun _ => 0 := funext hne'
    rw [← e0]
    exact k2
  · have there : ∀ p, 0 < ne p + nt p → ∃ o, H p = some o ∧ OwnK o := fun p hp => h0.th p (by show 0 < na p + (ne p + nt p + ns p); omega)
    have disj : ∀ p, 0 < ne p + nt p → nt' p + ns' p = 0 := fun p hp => by
      rcases Nat.eq_zero_or_pos (nt' p + ns' p) with z | z
      · exact z
      · rcases k4.f p (by show 0 < ne' p + nt' p + ns' p; omega) with q | q
        · exact absurd q (notA p hp)
        · obtain ⟨o, e, _⟩ := there p hp
          rw [show H p = none from q] at e; cases e
    refine ⟨fun p => ?_, fun p hp z => ?_, fun p hp => ?_, k4.zt, fun p o nt e na' => ?_, fun p hp => ?_, fun p z => k4.z0 p (h0.z0 p z), fun p z => ?_, fun i p e => k4.a i p (h0.a i p e), k4.tb, h0.hm, fun p o t e na' => ?_⟩
    · show nt' p + (ne p + nt p + ns' p) ≤ 1
      by_cases q : 0 < ne p + nt p
      · have := disj p q
        have := h0.n1 p
        omega
      · have := k4.n1 p
        omega
    · by_cases q : 0 < ne p + nt p
      · rcases k4.z1 p z with y | y | y
        · exact h0.nz p (by show 0 < na p + (ne p + nt p + ns p); omega) y
        · exact notA p q y
        · obtain ⟨o, e, _⟩ := there p q
          rw [show H p = none from y] at e; cases e
      · exact k4.nz p (by omega) z
    · by_cases q : 0 < ne p + nt p
      · obtain ⟨o, e, ok⟩ := there p q
        exact ⟨o, own p o q e, ok⟩
      · exact k4.th p (by omega)
    · have nA : ¬ (0 < na p + ns p) := fun q => by
        rcases h0.f p (by have q : 0 < na p + ns p := q; show 0 < na p + (ne p + _ + ns p); omega) with y | y
        · exact na' y
        · rw [y] at e; cases e
      · rcases h0.k p o nt e na' with e1 | ⟨f1, d1, ob, e1⟩
        · rcases k4.k p o nt e1 nA with e2 | ⟨f2, d2, ob, e2⟩
          · exact .inl e2
          · refine .inr ⟨?_, d2, ob, e2⟩
            rcases h0.z1 p f2 with y | y | y
            · exact y
            · exact absurd y na'
            · rw [y] at e; cases e
        · exact .inr ⟨f1, d1, ob, (k4.k p _ rfl e1 nA).nd rfl⟩
    · by_cases q : 0 < ne p + nt p
      · exact h0.f p (by show 0 < na p + (ne p + nt p + ns p); omega)
      · rcases k4.f p (by omega) with y | y
        · exact h0.f p (by have y : 0 < na p + ns p := y; show 0 < na p + (ne p + nt p + ns p); omega)
        · exact h0.new y
    · rcases k4.z1 p z with y | y | y
      · exact h0.z1 p y
      · exact .inr (h0.f p (by have y : 0 < na p + ns p := y; show 0 < na p + (ne p + nt p + ns p); omega))
      · exact .inr (h0.new y)
    · obtain ⟨o1, e1, t1⟩ := h0.kt p o t e na'
      refine k4.kt p o1 t1 e1 fun q => ?_
      obtain ⟨o2, e2, ow⟩ := h0.th p (by have q : 0 < na p + ns p := q; show 0 < na p + (ne p + _ + ns p); omega)
      rw [e1] at e2; cases e2
      rw [ow.nt] at t1; cases t1
end
end Hx

set_option Elab.async false
set_option linter.all false
set_option maxRecDepth 100000
set_option autoImplicit false
/-! F5: calls of defs. -/
namespace Hx
open PySem PySem.Spec L2
open PyProof.Rows hiding St

section
variable {G : Sg} {g : Gd} {env : Env} {st st' : Store} {T T' : List Tm} {σ : St} {H H' : Hp} {B B' : (Addr → Prop) → List Addr → Prop}
theorem TmR.up {Fz : Addr → Prop} {am : List Addr} {ne ne' nt : Fp} (r : TmR G Fz am H ne T nt) (h : ∀ q, ne q ≤ ne' q) : TmR G Fz am H ne' T nt := by
  induction r with
  | nil h => exact .nil h
  | own h1 h2 h3 ih => exact .own h1 ih h3
  | bor h1 h2 h3 ih => exact .bor h1 (fun q => Nat.le_trans (h2 q) (h q)) ih
theorem TmR.app {Fz : Addr → Prop} {am : List Addr} {ne n2 : Fp} (r2 : TmR G Fz am H ne T n2) : ∀ {l : List Tm} {n1 n : Fp}, TmR G Fz am H ne l n1 → (∀ q, n q = n1 q + n2 q) → TmR G Fz am H ne (l ++ T) n := by
  intro l n1 n r hn
  induction r generalizing n with
  | nil h =>
    have e : n = n2 := funext fun q => by rw [hn, h]; simp
    rw [e]
    exact r2
  | @own f v d T' m1 m2 m h1 h2 h3 ih => exact .own h1 (ih (n := fun q => m2 q + n2 q) fun q => rfl) fun q => by rw [hn, h3]; omega
  | @bor f v d T' m1 m h1 h2 h3 ih => exact .bor h1 h2 (ih hn)
theorem join {Fz : Addr → Prop} {am : List Addr} {na ne nt ns : Fp} (h0 : Rel0 G g Fz am H fun p => na p + (ne p + nt p + ns p)) (hE : EnvR G Fz am H env σ ne) (hT : TmR G Fz am H ne T nt) {T1 : List Tm}
    (R : RlB G ⟨H, fun p => 0 < na p + ns p, Fz, am⟩ [] st' T1 [] H' B) : RlB G g env st' (T1 ++ T) σ H' B := by
  obtain ⟨Fz', am', nt', ns', h1, h2, h3, h4, h5, h6⟩ := after h0 hE hT R
  exact ⟨Fz', am', ne, fun q => nt' q + nt q, ns', h2, TmR.app h3 (h4.up fun q => Nat.zero_le _) fun _ => rfl, h5, h6.less fun q => by show ne q + (nt' q + nt q) + ns' q ≤ _; omega, h1⟩
theorem Reps.app {Fz : Addr → Prop} {am : List Addr} {fs' : List Fr} {vs' : List V} {ds' : List D} (r2 : Reps G Fz am H fs' vs' ds' (fun _ => 0)) : ∀ {fs : List Fr} {vs : List V} {ds : List D} {n : Fp}, Reps G Fz am H fs vs ds n → Reps G Fz am H (fs ++ fs') (vs ++ vs') (ds ++ ds') n
  | _, _, _, _, .nil h => r2.fp fun q => (h q).symm
  | _, _, _, _, .cons h1 h2 h3 => .cons h1 (Reps.app r2 h2) h3
end

/-- what is known of a def: n parameters, dd: the last ones' defaults -/
structure Good (S : Sx) (x : Str) (n : Nat) (F : Fn) (dd : List D) (k : Nat) : Prop where
  ex : ∃ f fd ps ds dvs, FnOk S.P S.w S.G.K S.mg S.base (L2.CX S.P S.w) k f fd ps (SpF S.G n F) ∧ S.mg x = some (.ref f) ∧ PySem.W.keepIn S.G.K (.ref f) = true ∧ Binds S.G.K fd ps ds ∧ Vals dvs ds ∧
    ∀ Fz am H, Reps S.G Fz am H (zs dd.length) dvs dd (fun _ => 0)
@[simp] def fin : Res → Res
  | .ok f false d st => .ok f false d st
  | .ok _ true _ _ => .stuck
  | r => r
@[simp] def zd (ds : List D) : List (Fr × D) := ds.map fun d => (.z, d)
@[simp] def dCall (F : Fn) (dd : List D) (as : DenL) : Den := fun env st => match as env st with
  | .ok ts st1 => bif keeps ts then fin (F (zd ((ts.map fun t => t.2.2) ++ dd)) st1) else .stuck
  | .exc c ds st1 => .exc c ds st1
  | .stuck => .stuck
/-- owned things are handed over -/
def dCallM (F : Fn) (dd : List D) (as : DenL) : Den := fun env st => match as env st with
  | .ok ts st1 => bif keeps ts then fin (F (bare ts ++ zd dd) st1) else .stuck
  | .exc c ds st1 => .exc c ds st1
  | .stuck => .stuck
theorem zd_fst (ds : List D) : (zd ds).map (·.1) = zs ds.length := by
  induction ds with
  | nil => rfl
  | cons d ds ih => show Fr.z :: (zd ds).map (·.1) = zs (ds.length + 1); rw [ih]; rfl
theorem zd_snd (ds : List D) : (zd ds).map (·.2) = ds := by
  induction ds with
  | nil => rfl
  | cons d ds ih => show d :: (zd ds).map (·.2) = _; rw [ih]
section
variable {S : Sx} {e a b : Expr} {es : List Expr} {da db : Den} {das : DenL} {pos : Pos}
/-- the promise, from the relation -/
theorem sp_of {n : Nat} {F : Fn} {g : Gd} {env : Env} {st : Store} {T : List Tm} {σ : St} {H : Hp} {Q : VK} {W : WX} {vs : List V} {ts : List (Fr × Bool × D)} {dd : List D} {dvs : List V}
    (hd : ∀ Fz am H, Reps S.G Fz am H (zs dd.length) dvs dd (fun _ => 0)) (hn : ts.length + dd.length = n) (R : Rl S.G g env st (mkT vs ts ++ T) σ H) (hl : vs.length = ts.length) (hk : keeps ts = true)
    (h : PostE S.G g env T σ W Q (fin (F (zd ((ts.map fun t => t.2.2) ++ dd)) st))) : SpF S.G n F (vs ++ dvs) H Q (WE W σ) := by
  obtain ⟨Fz, am, ne, nt, ns, h1, h2, h3, h4, h5⟩ := Rl.frzL R hl hk
  have hd0 := hd Fz am H
  refine ⟨by rw [List.length_append, hl, (hd0.len).2, hn], Fz, am, zd ((ts.map fun t => t.2.2) ++ dd), st, fun _ => 0, ns, ?_, h3, ?_, ?_⟩
  · rw [zd_fst, zd_snd, List.length_append, List.length_map]
    rw [show zs (ts.length + dd.length) = zs ts.length ++ zs dd.length by unfold zs; rw [List.replicate_append_replicate]]
    exact Reps.app hd0 h5
  · exact Rel0.base (g := g) (ne := ne) (nt := nt) (h4.less fun q => by omega)
  · have h4' : Rel0 S.G g Fz am H fun p => (fun _ => 0) p + (ne p + nt p + ns p) := h4.less fun q => by show 0 + (ne q + nt q + ns q) ≤ _; omega
    cases e : F (zd ((ts.map fun t => t.2.2) ++ dd)) st with
    | stuck => rw [e] at h; exact h.elim
    | exc c ds st1 =>
      rw [e] at h
      exact fun cls dx H' R1 => h cls dx H' (join (T := T) h4' h1 h2 R1).notmp
    | ok f b d st1 =>
      rw [e] at h
      cases b with
      | true => exact h.elim
      | false => exact ⟨rfl, fun v H' R1 => h v H' (join h4' h1 h2 R1)⟩
theorem de_call {x : Str} {p : Pos} {n k : Nat} {F : Fn} {dd : List D} (hG : Good S x n F dd k) (hk : k ≤ S.k) (hg : S.sc.names.lookup x = some .globalImplicit) (hdb : (x == ("__debug__" : Str)) = false) (ha : DA S (e :: es) das) (hp : plainArgs (e :: es) = true) (hn : (e :: es).length + dd.length = n) (hlen : ∀ env st ts st1, das env st = .ok ts st1 → ts.length = (e :: es).length) :
    DE S (.Call (.Name x p) (e :: es) [] pos) (dCall F dd das) := fun W => by
  obtain ⟨ta, pa, qa⟩ := ha W
  obtain ⟨f, fd, ps, ds, dvs, hF, hm, hkp, hb, hv, hd⟩ := hG.ex
  have h1 := plainArgs_ok hp
  have hF' : ∀ X, Stx S X → FnOk X.prog X.w X.K X.mg X.base (L2.CX X.prog X.w) k f fd ps (SpF S.G n F) := fun X hX => by rw [hX.pr, hX.w, hX.mg, hX.base, hX.K]; exact hF
  refine ⟨_, fun X hX tk => pe_callSD (E := WE W) (hF' X hX) (hX.room.mono hk) (show X.env.scope.names.lookup x = some .globalImplicit by rw [hX.sc]; exact hg) (by rw [hX.mg]; exact hm) (by rw [hX.K]; exact hkp) (by rw [hX.K]; exact hb) hv (fun σ => passAt tk σ) (pa X hX tk) hdb
    (starNo (h1 e List.mem_cons_self)) (noStar fun y hy => h1 y (List.mem_cons_of_mem _ hy)), fun g env st T σ H Q hT R h => qa g env st T σ H _ hT R ?_⟩
  unfold dCall at h
  cases e1 : das env st with
  | stuck => rw [e1] at h; exact h.elim
  | exc c ds st1 => rw [e1] at h; exact h
  | ok ts st1 =>
    rw [e1] at h
    obtain ⟨hc, h⟩ := bifT h id
    intro vs H1 hl R1
    exact sp_of hd (by rw [hlen env st ts st1 e1]; exact hn) R1 hl hc h
theorem pe_call0S {X : Cx} {x : Str} {p : Pos} {k : Nat} {f : Addr} {fd : FuncData} {ps : List Str} {sp : Sp} {dvs : List V} {ds : List Value} {E : St → XK} (F : FnOk X.prog X.w X.K X.mg X.base (L2.CX X.prog X.w) k f fd ps sp) (hr : Room k X.A) (hg : Gl X x) (hm : X.mg x = some (.ref f)) (hk : PySem.W.keepIn X.K (.ref f) = true)
    (hb : Binds X.K fd ps ds) (hd : Vals dvs ds) (hx : ∀ σ, PassesAt (L2.CX X.prog X.w) X σ (E σ)) (hdb : (x == ("__debug__" : Str)) = false) : PE X (.Call (.Name x p) [] [] pos) (tCallSD sp dvs E tNil) := by
  refine ⟨fun pins s σ H Q I h => ?_⟩
  refine wpAny_Call_Name_kw (ld_glob I hg hm ?_ hdb)
  exact PySem.W.callWith_K0 I.kIn hk (run_fnSD (us := []) F hr hb hd (hx σ) I .nil h)
theorem de_call0 {x : Str} {p : Pos} {n k : Nat} {F : Fn} {dd : List D} (hG : Good S x n F dd k) (hk : k ≤ S.k) (hg : S.sc.names.lookup x = some .globalImplicit) (hdb : (x == ("__debug__" : Str)) = false) (hn : dd.length = n) :
    DE S (.Call (.Name x p) [] [] pos) (dCall F dd dNil) := fun W => by
  obtain ⟨f, fd, ps, ds, dvs, hF, hm, hkp, hb, hv, hd⟩ := hG.ex
  have hF' : ∀ X, Stx S X → FnOk X.prog X.w X.K X.mg X.base (L2.CX X.prog X.w) k f fd ps (SpF S.G n F) := fun X hX => by rw [hX.pr, hX.w, hX.mg, hX.base, hX.K]; exact hF
  refine ⟨_, fun X hX tk => pe_call0S (E := WE W) (hF' X hX) (hX.room.mono hk) (show X.env.scope.names.lookup x = some .globalImplicit by rw [hX.sc]; exact hg) (by rw [hX.mg]; exact hm) (by rw [hX.K]; exact hkp) (by rw [hX.K]; exact hb) hv (fun σ => passAt tk σ) hdb, fun g env st T σ H Q hT R h => ?_⟩
  unfold dCall dNil at h
  exact sp_of (vs := []) (ts := []) hd (by simpa using hn) R rfl rfl h
/-- how many arguments come -/
theorem len_cons {n : Nat} (h : ∀ env st ts st1, das env st = .ok ts st1 → ts.length = n) : ∀ env st ts st1, dCons da das env st = .ok ts st1 → ts.length = n + 1 := fun env st ts st1 e => by
  unfold dCons at e
  cases e1 : da env st with
  | stuck => rw [e1] at e; cases e
  | exc c ds s => rw [e1] at e; cases e
  | ok f b d s =>
    rw [e1] at e
    dsimp only at e
    cases hb : (!b || f.isz) with
    | false => rw [hb] at e; cases e
    | true =>
    rw [hb] at e
    dsimp only [cond_true] at e
    cases e2 : das env s with
    | stuck => rw [e2] at e; cases e
    | exc c ds s => rw [e2] at e; cases e
    | ok ts' s' =>
      rw [e2] at e
      injection e with e3 e4
      rw [← e3, List.length_cons, h env s ts' s' e2]
theorem len_last : ∀ env st ts st1, dLast da env st = .ok ts st1 → ts.length = 1 := fun env st ts st1 e => by
  unfold dLast at e
  cases e1 : da env st with
  | stuck => rw [e1] at e; cases e
  | exc c ds s => rw [e1] at e; cases e
  | ok f b d s =>
    rw [e1] at e
    injection e with e3 e4
    rw [← e3]; rfl
theorem len_nil : ∀ env st ts st1, dNil env st = .ok ts st1 → ts.length = 0 := fun env st ts st1 e => by
  unfold dNil at e
  injection e with e1 e2
  rw [← e1]; rfl
end
end Hx

set_option Elab.async false
set_option linter.all false
set_option maxRecDepth 100000
set_option autoImplicit false
/-! F6: statements without loops. -/
namespace Hx
open PySem PySem.Spec L2
open PyProof.Rows hiding St

inductive ResS
  | nx (env : Env) (st : Store) | rt (f : Fr) (d : D) (st : Store) | bk (env : Env) (st : Store) | ct (env : Env) (st : Store)
  | exc (c : Nat) (ds : List D) (env : Env) (st : Store) | stuck
abbrev DenS := Env → Store → ResS
section
variable (G : Sg) (g : Gd) (T : List Tm) (W : WX)
def PostS (D : Ends) : ResS → Prop
  | .nx env st => ∀ σ' H', Rl G g env st T σ' H' → D.nx σ' H'
  | .rt f d st => ∀ v H', Rl G g [] st [⟨v, f, d, false⟩] [] H' → D.rt v H'
  | .bk env st => ∀ σ' H', Rl G g env st T σ' H' → D.bk σ' H'
  | .ct env st => ∀ σ' H', Rl G g env st T σ' H' → D.ct σ' H'
  | .exc c ds env st => ∀ σ', ExcP G g env σ' W c ds st
  | .stuck => False
end
def DS (S : Sx) (s : Stmt) (den : DenS) : Prop := ∀ W : WX, ∃ t : TS, (∀ X, Stx S X → Takes X W → PS X s t) ∧
  ∀ g env st T σ H D, noBor T → Rl S.G g env st T σ H → PostS S.G g T W D (den env st) → t D σ H
def DSs (S : Sx) (s : List Stmt) (den : DenS) : Prop := ∀ W : WX, ∃ t : TS, (∀ X, Stx S X → Takes X W → PSs X s t) ∧
  ∀ g env st T σ H D, noBor T → Rl S.G g env st T σ H → PostS S.G g T W D (den env st) → t D σ H

section
variable {G : Sg} {g : Gd} {env : Env} {st st' : Store} {T T' : List Tm} {σ : St} {H H' : Hp} {B B' : (Addr → Prop) → List Addr → Prop}
theorem TmR.nb {Fz : Addr → Prop} {am : List Addr} {ne ne' nt : Fp} (r : TmR G Fz am H ne T nt) (h : noBor T) : TmR G Fz am H ne' T nt := by
  induction r with
  | nil h0 => exact .nil h0
  | own h1 h2 h3 ih => exact .own h1 (ih fun a ha => h a (List.mem_cons_of_mem _ ha)) h3
  | bor h1 h2 h3 ih => exact absurd (h _ List.mem_cons_self) (by simp)
/-- the slots go: what is handed back -/
theorem Rl.ret {v : V} {f : Fr} {b : Bool} {d : D} (R : Rl G g env st (⟨v, f, d, b⟩ :: T) σ H) (hb : (!b || f.isz) = true) : Rl G g [] st [⟨v, f, d, false⟩] [] H := by
  obtain ⟨Fz, am, ne, nt, ns, h1, h2, h3, h4, h5⟩ := R
  cases h2 with
  | @own _ _ _ _ n1 n2 _ k1 k2 k3 => exact ⟨Fz, am, fun _ => 0, n1, ns, .nil fun _ => rfl, .own k1 (.nil (n := fun _ => 0) fun _ => rfl) fun q => by simp, h3, h4.less fun q => by show 0 + n1 q + ns q ≤ _; rw [k3]; omega, trivial⟩
  | @bor _ _ _ _ n1 _ k1 k2 k3 =>
    have e : f = .z := Fr.isz_eq (by simpa using hb)
    subst e
    exact ⟨Fz, am, fun _ => 0, n1, ns, .nil fun _ => rfl, .own k1 (.nil (n := fun _ => 0) fun _ => rfl) fun q => by simp, h3, h4.less fun q => by show 0 + n1 q + ns q ≤ _; rw [k1.z0]; omega, trivial⟩
theorem Rl.retmv {i : Nat} {f : Fr} {d : D} (R : Rl G g env st T σ H) (e : env[i]? = some (some (f, d))) : ∃ v, σ[i]? = some (some v) ∧ Rl G g [] st [⟨v, f, d, false⟩] [] H := by
  obtain ⟨Fz, am, ne, nt, ns, h1, h2, h3, h4, h5⟩ := R
  obtain ⟨v, m, n', e0, e1, e2, e3⟩ := h1.take e
  exact ⟨v, e0, Fz, am, fun _ => 0, m, ns, .nil fun _ => rfl, .own e1 (.nil (n := fun _ => 0) fun _ => rfl) fun q => by simp, h3, h4.less fun q => by show 0 + m q + ns q ≤ _; rw [e2]; omega, trivial⟩
/-- a value is stored -/
theorem Rl.store {v : V} {f : Fr} {b : Bool} {d : D} (R : Rl G g env st (⟨v, f, d, b⟩ :: T) σ H) (hb : (!b || f.isz) = true) (hT : noBor T) (i : Nat) : Rl G g (env.set i (some (f, d))) st T (σ.set i (some v)) H := by
  obtain ⟨Fz, am, ne, nt, ns, h1, h2, h3, h4, h5⟩ := R
  cases h2 with
  | @own _ _ _ _ n1 n2 _ k1 k2 k3 =>
    obtain ⟨n', r1, r2⟩ := EnvR.set k1 h1 i
    exact ⟨Fz, am, n', n2, ns, r1, k2.nb hT, h3, h4.less fun q => by rw [k3]; have := r2 q; omega, trivial⟩
  | @bor _ _ _ _ n1 _ k1 k2 k3 =>
    have e : f = .z := Fr.isz_eq (by simpa using hb)
    subst e
    obtain ⟨n', r1, r2⟩ := EnvR.set k1 h1 i
    exact ⟨Fz, am, n', nt, ns, r1, k3.nb hT, h3, h4.less fun q => by have := r2 q; rw [k1.z0] at this; omega, trivial⟩
theorem Rl.kill (R : Rl G g env st T σ H) (hT : noBor T) (i : Nat) : Rl G g (env.set i none) st T σ H := by
  obtain ⟨Fz, am, ne, nt, ns, h1, h2, h3, h4, h5⟩ := R
  obtain ⟨n', r1, r2⟩ := h1.kill i σ rfl fun j _ => rfl
  exact ⟨Fz, am, n', nt, ns, r1, h2.nb hT, h3, h4.less fun q => by have := r2 q; omega, trivial⟩
def killE (ks : List Nat) (env : Env) : Env := ks.foldl (fun e i => e.set i none) env
theorem Rl.kills (hT : noBor T) : ∀ {ks : List Nat} {env : Env}, Rl G g env st T σ H → Rl G g (killE ks env) st T σ H
  | [], _, R => R
  | k :: ks, env, R => Rl.kills hT (ks := ks) (env := env.set k none) (R.kill hT k)
/-- a slot's own thing is shared from now on -/
theorem Rl.frzS {i : Nat} {f : Fr} {d : D} (R : Rl G g env st T σ H) (hT : noBor T) (e : env[i]? = some (some (f, d))) : Rl G g (env.set i (some (.z, d))) st T σ H := by
  obtain ⟨Fz, am, ne, nt, ns, h1, h2, h3, h4, h5⟩ := R
  obtain ⟨m, n', r1, r2⟩ := h1.frz e
  have E : Ext Fz am H (Fro Fz m) am H := Ext.shared fun p z => .inl z
  exact ⟨Fro Fz m, am, n', nt, ns, r2 _ (fun p z => .inl z) fun p z => .inr z, (h2.nb (ne' := n') hT).ext E (fun _ _ _ h => h) fun _ _ _ h => h, Reps.ext E h3 fun _ _ _ h => h, h4.froz fun q => by rw [r1]; omega, trivial⟩
end

/-! ### rows of statements -/
@[simp] def dSkip : DenS := fun env st => .nx env st
@[simp] def dSeq (a b : DenS) : DenS := fun env st => match a env st with
  | .nx env1 st1 => b env1 st1
  | r => r
section
variable {S : Sx} {e a b : Expr} {es : List Expr} {da db : Den} {das : DenL} {pos : Pos} {s : Stmt} {ss : List Stmt} {ts tr : DenS}
theorem dss_nil : DSs S [] dSkip := fun W => ⟨_, fun X hX tk => pss_nil, fun g env st T σ H D hT R h => h σ H R⟩
theorem PostS.seq {G : Sg} {g : Gd} {T : List Tm} {W : WX} {D : Ends} {t : TS} {r : ResS} {k : DenS} (h : PostS G g T W D (match r with | .nx env1 st1 => k env1 st1 | r => r))
    (q : ∀ env st σ H, Rl G g env st T σ H → PostS G g T W D (k env st) → t D σ H) : PostS G g T W { D with nx := t D } r := by
  cases r with
  | nx env1 st1 => exact fun σ' H' R => q env1 st1 σ' H' R h
  | rt f d st1 => exact h
  | bk env1 st1 => exact h
  | ct env1 st1 => exact h
  | exc c ds env1 st1 => exact h
  | stuck => exact h
theorem dss_cons (hs : DS S s ts) (hr : DSs S ss tr) : DSs S (s :: ss) (dSeq ts tr) := fun W => by
  obtain ⟨t, p, q⟩ := hs W
  obtain ⟨t2, p2, q2⟩ := hr W
  refine ⟨_, fun X hX tk => pss_cons (p X hX tk) (p2 X hX tk), fun g env st T σ H D hT R h => q g env st T σ H _ hT R ?_⟩
  exact PostS.seq h fun env st σ H R h => q2 g env st T σ H D hT R h
theorem dss_one (hs : DS S s ts) : DSs S [s] ts := fun W => by
  obtain ⟨t, p, q⟩ := hs W
  exact ⟨_, fun X hX tk => pss_one (p X hX tk), q⟩
/-- a slot is shared ahead of the statement -/
def dFrz (i : Nat) (k : DenS) : DenS := fun env st => match env[i]? with
  | some (some (_, d)) => k (env.set i (some (.z, d))) st
  | _ => .stuck
theorem dss_frz {i : Nat} (hr : DSs S ss tr) : DSs S ss (dFrz i tr) := fun W => by
  obtain ⟨t, p, q⟩ := hr W
  refine ⟨t, p, fun g env st T σ H D hT R h => ?_⟩
  unfold dFrz at h
  split at h
  · rename_i f d e
    exact q g _ st T σ H D hT (R.frzS hT e) h
  · exact h.elim
def dKill (ks : List Nat) (k : DenS) : DenS := fun env st => k (killE ks env) st
theorem dss_kill {ks : List Nat} (hr : DSs S ss tr) : DSs S ss (dKill ks tr) := fun W => by
  obtain ⟨t, p, q⟩ := hr W
  exact ⟨t, p, fun g env st T σ H D hT R h => q g _ st T σ H D hT (R.kills hT) h⟩

/-! ### simple statements -/
theorem ds_pass : DS S (.Pass pos) dSkip := fun W => ⟨_, fun X hX tk => ps_pass, fun g env st T σ H D hT R h => h σ H R⟩
theorem ds_doc {x j p} : DS S (.Expr (.Constant (.str x) j p) pos) dSkip := fun W => ⟨_, fun X hX tk => ps_doc, fun g env st T σ H D hT R h => h σ H R⟩
def dBrk : DenS := fun env st => .bk env st
def dCnt : DenS := fun env st => .ct env st
theorem ds_break : DS S (.Break pos) dBrk := fun W => ⟨_, fun X hX tk => ps_break, fun g env st T σ H D hT R h => h σ H R⟩
theorem ds_continue : DS S (.Continue pos) dCnt := fun W => ⟨_, fun X hX tk => ps_continue, fun g env st T σ H D hT R h => h σ H R⟩
@[simp] def dRet (a : Den) : DenS := fun env st => match a env st with
  | .ok f b d st1 => bif !b || f.isz then .rt f d st1 else .stuck
  | .exc c ds st1 => .exc c ds env st1
  | .stuck => .stuck
/-- what is returned is shared for good -/
@[simp] def dRetZ (a : Den) : DenS := fun env st => match a env st with
  | .ok f b d st1 => bif !b || f.isz then .rt .z d st1 else .stuck
  | .exc c ds st1 => .exc c ds env st1
  | .stuck => .stuck
def dRetMv (i : Nat) : DenS := fun env st => match env[i]? with
  | some (some (f, d)) => .rt f d st
  | _ => .stuck
def dRetMvZ (i : Nat) : DenS := fun env st => match env[i]? with
  | some (some (_, d)) => .rt .z d st
  | _ => .stuck
def dRetN : DenS := fun _ st => .rt .z .non st
theorem ds_ret (ha : DE S a da) : DS S (.Return (some a) pos) (dRet da) := fun W => by
  obtain ⟨t, p, q⟩ := ha W
  refine ⟨_, fun X hX tk => ps_ret (p X hX tk), fun g env st T σ H D hT R h => q g env st T σ H _ hT R ?_⟩
  unfold dRet at h
  cases e : da env st with
  | stuck => rw [e] at h; exact h.elim
  | exc c ds st1 => rw [e] at h; exact h σ
  | ok f b d st1 =>
    rw [e] at h
    obtain ⟨hc, h⟩ := bifT h id
    exact fun v H1 R1 => h v H1 (R1.ret hc)
theorem ds_retZ (ha : DE S a da) : DS S (.Return (some a) pos) (dRetZ da) := fun W => by
  obtain ⟨t, p, q⟩ := ha W
  refine ⟨_, fun X hX tk => ps_ret (p X hX tk), fun g env st T σ H D hT R h => q g env st T σ H _ hT R ?_⟩
  unfold dRetZ at h
  cases e : da env st with
  | stuck => rw [e] at h; exact h.elim
  | exc c ds st1 => rw [e] at h; exact h σ
  | ok f b d st1 =>
    rw [e] at h
    obtain ⟨hc, h⟩ := bifT h id
    exact fun v H1 R1 => h v H1 (R1.ret hc).frz
theorem ds_retMv {i : Nat} {x : Str} {p : Pos} (hN : S.N[i]? = some x) (hv : Vis S.sc x) (hd : (x == ("__debug__" : Str)) = false) (hcd : (x == ("__classdict__" : Str)) = false) : DS S (.Return (some (.Name x p)) pos) (dRetMv i) := fun W => by
  refine ⟨_, fun X hX tk => ps_ret (de_pv hN hv hd hcd hX), fun g env st T σ H D hT R h => ?_⟩
  unfold dRetMv at h
  split at h
  · rename_i f d e
    obtain ⟨v, e1, R1⟩ := Rl.retmv R e
    exact ⟨v, e1, h v H R1⟩
  · exact h.elim
theorem ds_retMvZ {i : Nat} {x : Str} {p : Pos} (hN : S.N[i]? = some x) (hv : Vis S.sc x) (hd : (x == ("__debug__" : Str)) = false) (hcd : (x == ("__classdict__" : Str)) = false) : DS S (.Return (some (.Name x p)) pos) (dRetMvZ i) := fun W => by
  refine ⟨_, fun X hX tk => ps_ret (de_pv hN hv hd hcd hX), fun g env st T σ H D hT R h => ?_⟩
  unfold dRetMvZ at h
  split at h
  · rename_i f d e
    obtain ⟨v, e1, R1⟩ := Rl.retmv R e
    exact ⟨v, e1, h v H R1.frz⟩
  · exact h.elim
theorem ds_retN : DS S (.Return none pos) dRetN := fun W => ⟨_, fun X hX tk => ps_retN, fun g env st T σ H D hT R h => h _ H (Rl.ret (Rl.scal (v := .non) (d := .non) R trivial) rfl)⟩
def notComp : Expr → Bool
  | .ListComp _ _ _ _ => false
  | .SetComp _ _ _ _ => false
  | .DictComp _ _ _ _ _ => false
  | _ => true
theorem swaps_no {e : Expr} {t : Option Expr} {l : Nat} {env : PySem.Env} (h : notComp e = true) : swapsWith e t l env = pure false := by
  cases e <;> first | rfl | cases h
def dDrop (a : Den) : DenS := fun env st => match a env st with
  | .ok _ _ _ st1 => .nx env st1
  | .exc c ds st1 => .exc c ds env st1
  | .stuck => .stuck
theorem ds_expr (ha : DE S a da) (hc : notComp a = true) : DS S (.Expr a pos) (dDrop da) := fun W => by
  obtain ⟨t, p, q⟩ := ha W
  refine ⟨_, fun X hX tk => ps_expr (p X hX tk) (swaps_no hc), fun g env st T σ H D hT R h => q g env st T σ H _ hT R ?_⟩
  unfold dDrop at h
  cases e : da env st with
  | stuck => rw [e] at h; exact h.elim
  | exc c ds st1 => rw [e] at h; exact h σ
  | ok f b d st1 =>
    rw [e] at h
    exact fun v H1 R1 => h σ H1 R1.drop
@[simp] def dIfS (c : DenB) (a b : DenS) : DenS := fun env st => match c env st with
  | .ok true st1 => a env st1
  | .ok false st1 => b env st1
  | .exc c ds st1 => .exc c ds env st1
  | .stuck => .stuck
theorem ds_if {c : Expr} {tc : DenB} {sa sb : List Stmt} {ta tb : DenS} (hc : DT S c tc) (ha : DSs S sa ta) (hb : DSs S sb tb) : DS S (.If c sa sb pos) (dIfS tc ta tb) := fun W => by
  obtain ⟨t, p, q⟩ := hc W
  obtain ⟨t2, p2, q2⟩ := ha W
  obtain ⟨t3, p3, q3⟩ := hb W
  refine ⟨_, fun X hX tk => ps_if (p X hX tk) (p2 X hX tk) (p3 X hX tk), fun g env st T σ H D hT R h => q g env st T σ H _ hT R ?_⟩
  unfold dIfS at h
  cases e : tc env st with
  | stuck => rw [e] at h; exact h.elim
  | exc c ds st1 => rw [e] at h; exact h σ
  | ok c st1 =>
    rw [e] at h
    intro H1 R1
    cases c with
    | true => exact iteT (q2 _ _ _ _ _ _ _ hT R1 h)
    | false => exact iteF (q3 _ _ _ _ _ _ _ hT R1 h)
@[simp] def dSet (i : Nat) (a : Den) : DenS := fun env st => match a env st with
  | .ok f b d st1 => bif !b || f.isz then .nx (env.set i (some (f, d))) st1 else .stuck
  | .exc c ds st1 => .exc c ds env st1
  | .stuck => .stuck
/-- the value is shared from now on -/
@[simp] def dSetZ (i : Nat) (a : Den) : DenS := fun env st => match a env st with
  | .ok f b d st1 => bif !b || f.isz then .nx (env.set i (some (.z, d))) st1 else .stuck
  | .exc c ds st1 => .exc c ds env st1
  | .stuck => .stuck
theorem dset_run {i : Nat} {W : WX} {t : TE} (q : ∀ g env st T σ H Q, noBor T → Rl S.G g env st T σ H → PostE S.G g env T σ W Q (da env st) → t σ H Q)
    (g : Gd) (env : Env) (st : Store) (T : List Tm) (σ : St) (H : Hp) (D : Ends) (hT : noBor T) (R : Rl S.G g env st T σ H) (h : PostS S.G g T W D (dSet i da env st)) : tAsg t (gName i) D σ H := by
  refine q g env st T σ H _ hT R ?_
  unfold dSet at h
  cases e : da env st with
  | stuck => rw [e] at h; exact h.elim
  | exc c ds st1 => rw [e] at h; exact h σ
  | ok f b d st1 =>
    rw [e] at h
    obtain ⟨hc, h⟩ := bifT h id
    exact fun v H1 R1 => h _ H1 (R1.store hc hT i)
theorem dsetZ_run {i : Nat} {W : WX} {t : TE} (q : ∀ g env st T σ H Q, noBor T → Rl S.G g env st T σ H → PostE S.G g env T σ W Q (da env st) → t σ H Q)
    (g : Gd) (env : Env) (st : Store) (T : List Tm) (σ : St) (H : Hp) (D : Ends) (hT : noBor T) (R : Rl S.G g env st T σ H) (h : PostS S.G g T W D (dSetZ i da env st)) : tAsg t (gName i) D σ H := by
  refine q g env st T σ H _ hT R ?_
  unfold dSetZ at h
  cases e : da env st with
  | stuck => rw [e] at h; exact h.elim
  | exc c ds st1 => rw [e] at h; exact h σ
  | ok f b d st1 =>
    rw [e] at h
    obtain ⟨hc, h⟩ := bifT h id
    intro v H1 R1
    refine h _ H1 ?_
    cases b with
    | false => exact Rl.store (b := false) R1.frz rfl hT i
    | true =>
      have e : f = .z := Fr.isz_eq (by simpa using hc)
      subst e
      exact Rl.store R1 rfl hT i
theorem stx_fn {X : Cx} (hX : Stx S X) {x : Str} (hf : S.fnA = true ∨ S.sc.names.lookup x = some .local) : X.fn x = true ∨ X.env.scope.names.lookup x = some .local := by
  rcases hf with h | h
  · exact .inl (hX.fn h x)
  · rw [hX.sc]; exact .inr h
theorem ds_set {i : Nat} {x : Str} {p : Pos} (hN : S.N[i]? = some x) (hx : Loc S.sc x) (hf : S.fnA = true ∨ S.sc.names.lookup x = some .local) (ha : DE S a da) (hc : notComp a = true) : DS S (.Assign [.Name x p] a pos) (dSet i da) := fun W => by
  obtain ⟨t, p, q⟩ := ha W
  exact ⟨_, fun X hX tk => ps_set hX.nd (by rw [hX.N]; exact hN) (by rw [hX.sc]; exact hx) (p X hX tk) (swaps_no hc) (stx_fn hX hf), fun g env st T σ H D hT R h => dset_run q g env st T σ H D hT R h⟩
theorem ds_setZ {i : Nat} {x : Str} {p : Pos} (hN : S.N[i]? = some x) (hx : Loc S.sc x) (hf : S.fnA = true ∨ S.sc.names.lookup x = some .local) (ha : DE S a da) (hc : notComp a = true) : DS S (.Assign [.Name x p] a pos) (dSetZ i da) := fun W => by
  obtain ⟨t, p, q⟩ := ha W
  exact ⟨_, fun X hX tk => ps_set hX.nd (by rw [hX.N]; exact hN) (by rw [hX.sc]; exact hx) (p X hX tk) (swaps_no hc) (stx_fn hX hf), fun g env st T σ H D hT R h => dsetZ_run q g env st T σ H D hT R h⟩
end

/-! ### targets -/
inductive Pat
  | nm (i : Nat) | tp (ps : List Pat)
/-- the parts of a tuple, of a list -/
@[simp] def kidsP : Fr → D → Option (List Fr × List D)
  | .z, .con .tup ds => some (zs ds.length, ds)
  | .t fs, .con .tup ds => some (fs, ds)
  | .z, .con .lst ds => some (zs ds.length, ds)
  | .c f, .con .lst ds => some (List.replicate ds.length f, ds)
  | _, _ => none
mutual
@[simp] def bindP : Pat → Fr → D → Env → Option Env
  | .nm i, f, d, env => some (env.set i (some (f, d)))
  | .tp ps, f, d, env => match kidsP f d with
    | some (fs, ds) => bindPs ps fs ds env
    | none => none
@[simp] def bindPs : List Pat → List Fr → List D → Env → Option Env
  | [], [], [], env => some env
  | p :: ps, f :: fs, d :: ds, env => (bindP p f d env).bind fun env1 => bindPs ps fs ds env1
  | _, _, _, _ => none
end
mutual
def Pat.slots : Pat → List Nat
  | .nm i => [i]
  | .tp ps => Pat.slotsL ps
def Pat.slotsL : List Pat → List Nat
  | [] => []
  | p :: ps => p.slots ++ Pat.slotsL ps
end
/-- only these slots differ -/
def Dif (l : List Nat) (σ σ' : St) : Prop := σ'.length = σ.length ∧ ∀ j, j ∉ l → σ'[j]? = σ[j]?
def DG (S : Sx) (tg : Expr) (p : Pat) : Prop := ∃ t : TG, (∀ X, Stx S X → PG X tg t) ∧
  ∀ g env st T σ H v f d env' Q, noBor T → Rl S.G g env st (⟨v, f, d, false⟩ :: T) σ H → bindP p f d env = some env' → (∀ σ' H', Dif p.slots σ σ' → Rl S.G g env' st T σ' H' → Q σ' H') → t v σ H Q
def mkF : List V → List Fr → List D → List Tm
  | v :: vs, f :: fs, d :: ds => ⟨v, f, d, false⟩ :: mkF vs fs ds
  | _, _, _ => []
def DGs (S : Sx) (tgs : List Expr) (ps : List Pat) : Prop := ∃ t : TGs, (∀ X, Stx S X → PGs X tgs t) ∧
  ∀ g env st T σ H vs fs ds env' Q, noBor T → vs.length = ds.length → Rl S.G g env st (mkF vs fs ds ++ T) σ H → bindPs ps fs ds env = some env' → (∀ σ' H', Dif (Pat.slotsL ps) σ σ' → Rl S.G g env' st T σ' H' → Q σ' H') → t vs σ H Q
theorem mkF_nb : ∀ {vs : List V} {fs : List Fr} {ds : List D}, noBor (mkF vs fs ds)
  | v :: vs, f :: fs, d :: ds => fun a ha => by
    rcases List.mem_cons.mp (show a ∈ ⟨v, f, d, false⟩ :: mkF vs fs ds from ha) with e | e
    · rw [e]
    · exact mkF_nb a e
  | [], _, _ => fun a ha => by cases ha
  | _ :: _, [], _ => fun a ha => by cases ha
  | _ :: _, _ :: _, [] => fun a ha => by cases ha
theorem nb_app {T T' : List Tm} (h : noBor T) (h' : noBor T') : noBor (T ++ T') := fun a ha => (List.mem_append.mp ha).elim (h a) (h' a)
section
variable {S : Sx}
theorem Dif.refl {l : List Nat} {σ : St} : Dif l σ σ := ⟨rfl, fun _ _ => rfl⟩
theorem Dif.app {l l' : List Nat} {σ σ1 σ2 : St} (h : Dif l σ σ1) (h' : Dif l' σ1 σ2) : Dif (l ++ l') σ σ2 := ⟨h'.1.trans h.1, fun j hj => by
  rw [List.mem_append, not_or] at hj
  rw [h'.2 j hj.2, h.2 j hj.1]⟩
theorem dg_nm {i : Nat} {x : Str} {p : Pos} (hN : S.N[i]? = some x) (hx : Loc S.sc x) (hf : S.fnA = true ∨ S.sc.names.lookup x = some .local) : DG S (.Name x p) (.nm i) :=
  ⟨_, fun X hX => pg_name hX.nd (by rw [hX.N]; exact hN) (by rw [hX.sc]; exact hx) (stx_fn hX hf), fun g env st T σ H v f d env' Q hT R e h => by
    cases e
    exact h _ H ⟨by simp, fun j hj => List.getElem?_set_ne fun z => hj (by rw [← z]; exact List.mem_singleton.mpr rfl)⟩ (R.store rfl hT i)⟩
theorem dgs_nil : DGs S [] [] := ⟨_, fun X hX => pgs_nil, fun g env st T σ H vs fs ds env' Q hT hl R e h => by
  cases ds with
  | cons d ds => cases fs <;> simp [bindPs] at e
  | nil =>
    have : vs = [] := List.length_eq_zero_iff.mp hl
    subst this
    cases fs with
    | cons f fs => simp [bindPs] at e
    | nil =>
      simp [bindPs] at e
      subst e
      exact ⟨rfl, h σ H Dif.refl R⟩⟩
theorem assignNo {tg : Expr} {tgs : List Expr} {env : PySem.Env} (h : ∀ x p, tg ≠ .Starred x p) : assignEach (tg :: tgs) env = (false, assign tg env) :: assignEach tgs env := by
  cases tg <;> first | rfl | exact absurd rfl (h _ _)
theorem assignEach_ok {env : PySem.Env} : ∀ {tgs : List Expr}, (∀ e ∈ tgs, ∀ x p, e ≠ .Starred x p) → (assignEach tgs env).length = tgs.length ∧ (assignEach tgs env).findIdx? (·.1) = none
  | [], _ => ⟨rfl, rfl⟩
  | tg :: tgs, h => by
    obtain ⟨h1, h2⟩ := assignEach_ok (env := env) (tgs := tgs) fun e he => h e (List.mem_cons_of_mem _ he)
    rw [assignNo (h tg List.mem_cons_self)]
    refine ⟨by rw [List.length_cons, List.length_cons, h1], ?_⟩
    rw [List.findIdx?_cons, h2]
    rfl
theorem dgs_cons {tg : Expr} {tgs : List Expr} {p : Pat} {ps : List Pat} (h1 : DG S tg p) (h2 : DGs S tgs ps) (hs : ∀ x q, tg ≠ .Starred x q) : DGs S (tg :: tgs) (p :: ps) := by
  obtain ⟨t, pt, q⟩ := h1
  obtain ⟨t2, pt2, q2⟩ := h2
  refine ⟨_, fun X hX => pgs_cons (pt X hX) (pt2 X hX) (by rw [assignNo hs]; rfl), fun g env st T σ H vs fs ds env' Q hT hl R e h => ?_⟩
  cases fs with
  | nil => cases ds <;> simp [bindPs] at e
  | cons f fs =>
    cases ds with
    | nil => simp [bindPs] at e
    | cons d ds =>
      cases vs with
      | nil => simp at hl
      | cons v vs =>
        rw [bindPs] at e
        obtain ⟨env1, e1, e2⟩ := Option.bind_eq_some_iff.mp e
        refine ⟨v, vs, rfl, q g env st (mkF vs fs ds ++ T) σ H v f d env1 _ (nb_app mkF_nb hT) R e1 fun σ' H' D' R' => ?_⟩
        exact q2 g env1 st T σ' H' vs fs ds env' Q hT (by simpa using hl) R' e2 fun σ2 H2 D2 R2 => h σ2 H2 (D'.app D2) R2
theorem tm_of_reps {G : Sg} {Fz : Addr → Prop} {am : List Addr} {H : Hp} {ne n2 : Fp} {T : List Tm} (h : TmR G Fz am H ne T n2) : ∀ {fs : List Fr} {vs : List V} {ds : List D} {n1 n : Fp}, Reps G Fz am H fs vs ds n1 → (∀ q, n q = n1 q + n2 q) → TmR G Fz am H ne (mkF vs fs ds ++ T) n
  | _, _, _, n1, n, .nil h0, hn => by
    have e : n = n2 := funext fun q => by rw [hn, h0]; simp
    rw [e]; exact h
  | _, _, _, n1, n, .cons (n2 := m2) h1 h2 h3, hn => .own h1 (tm_of_reps h h2 (n := fun q => m2 q + n2 q) fun _ => rfl) fun q => by rw [hn, h3]; omega
theorem Rl.open {G : Sg} {g : Gd} {env : Env} {st : Store} {T : List Tm} {σ : St} {H : Hp} {v : V} {f : Fr} {ds : List D} (R : Rl G g env st (⟨v, f, .con .tup ds, false⟩ :: T) σ H) :
    ∃ a vs fs, v = .ref a ∧ SqT G.K H a vs ∧ vs.length = ds.length ∧ ((f = .z ∧ fs = zs ds.length) ∨ f = .t fs) ∧ Rl G g env st (mkF vs fs ds ++ T) σ H := by
  obtain ⟨Fz, am, ne, nt, ns, h1, h2, h3, h4, h5⟩ := R
  cases h2 with
  | @own _ _ _ _ n1 n2 _ k1 k2 k3 =>
    cases k1 with
    | sc h _ => cases v <;> exact h.elim
    | @zz p k vs _ n a1 a2 a3 => exact ⟨p, vs, zs ds.length, rfl, a1, a2.len.2, .inl ⟨rfl, rfl⟩, Fz, am, ne, nt, ns, h1, tm_of_reps k2 a2 k3, h3, h4, trivial⟩
    | @tp p vs _ fs n a1 a2 => exact ⟨p, vs, fs, rfl, a1, a2.len.2, .inr rfl, Fz, am, ne, nt, ns, h1, tm_of_reps k2 a2 k3, h3, h4, trivial⟩
    | cc a1 _ _ => exact absurd rfl a1.1.1
theorem Rl.openL {G : Sg} {g : Gd} {env : Env} {st : Store} {T : List Tm} {σ : St} {H : Hp} {v : V} {f : Fr} {ds : List D} (R : Rl G g env st (⟨v, f, .con .lst ds, false⟩ :: T) σ H) :
    ∃ a vs f0, v = .ref a ∧ SqL G.K H a vs ∧ vs.length = ds.length ∧ ((f = .z ∧ f0 = .z) ∨ f = .c f0) ∧ Rl G g env st (mkF vs (List.replicate ds.length f0) ds ++ T) σ H := by
  obtain ⟨Fz, am, ne, nt, ns, h1, h2, h3, h4, h5⟩ := R
  cases h2 with
  | @own _ _ _ _ n1 n2 _ k1 k2 k3 =>
    cases k1 with
    | sc h _ => cases v <;> exact h.elim
    | @zz p k vs _ n a1 a2 a3 =>
      obtain ⟨_, o, b1, b2⟩ := a1
      subst b2
      exact ⟨p, vs, .z, rfl, SqL.of b1, a2.len.2, .inl ⟨rfl, rfl⟩, Fz, am, ne, nt, ns, h1, tm_of_reps k2 a2 k3, h3, h4, trivial⟩
    | @cc p k vs _ f0 n m a1 a2 a3 =>
      obtain ⟨_, o, b1, b2⟩ := a1
      subst b2
      exact ⟨p, vs, f0, rfl, SqL.of b1, a2.len.2, .inr rfl, Fz, am, ne, fun q => m q + n2 q, ns, h1, tm_of_reps k2 a2 fun _ => rfl, h3, h4.less fun q => by show ne q + (m q + n2 q) + ns q ≤ _; rw [k3, a3]; omega, trivial⟩
theorem PG.or {X : Cx} {tg : Expr} {t t' : TG} (h : PG X tg t) (h' : PG X tg t') : PG X tg fun v σ H Q => t v σ H Q ∨ t' v σ H Q :=
  ⟨fun pins s σ H v u Q I r hw => hw.elim (h.run pins s σ H v u Q I r) (h'.run pins s σ H v u Q I r)⟩
theorem bindPs_len : ∀ {ps : List Pat} {fs : List Fr} {ds : List D} {env env' : Env}, bindPs ps fs ds env = some env' → ps.length = ds.length
  | [], [], [], _, _, _ => rfl
  | p :: ps, f :: fs, d :: ds, env, env', h => by
    rw [bindPs] at h
    obtain ⟨env1, _, e2⟩ := Option.bind_eq_some_iff.mp h
    rw [List.length_cons, List.length_cons, bindPs_len e2]
  | [], [], _ :: _, _, _, h => by simp [bindPs] at h
  | [], _ :: _, _, _, _, h => by simp [bindPs] at h
  | _ :: _, [], _, _, _, h => by simp [bindPs] at h
  | _ :: _, _ :: _, [], _, _, h => by simp [bindPs] at h
theorem dg_tup {es : List Expr} {k : Nat} {p : Pos} {ps : List Pat} (h : DGs S es ps) (hp : plainArgs es = true) (hl : es.length = ps.length) : DG S (.Tuple es k p) (.tp ps) := by
  obtain ⟨t, pt, q⟩ := h
  have aa := fun env => assignEach_ok (env := env) (plainArgs_ok hp)
  refine ⟨fun v σ H Q => gTup S.G.K es.length t v σ H Q ∨ gUnl S.G.K es.length t v σ H Q, fun X hX => by rw [← hX.K]; exact PG.or (pg_tup hX.calm (pt X hX) (aa X.env).1 (aa X.env).2) (pg_unl hX.calm (pt X hX) (aa X.env).1 (aa X.env).2), fun g env st T σ H v f d env' Q hT R e hq => ?_⟩
  cases d with
  | con kd ds =>
    cases kd with
    | tup =>
      obtain ⟨a, vs, fs, e1, e2, e3, e4, R1⟩ := R.open
      have eb : bindPs ps fs ds env = some env' := by
        rcases e4 with ⟨rfl, rfl⟩ | rfl <;> simpa [bindP, kidsP] using e
      exact .inl ⟨a, vs, e1, e2, by rw [e3, hl, bindPs_len eb], q g env st T σ H vs fs ds env' Q hT e3 R1 eb hq⟩
    | lst =>
      obtain ⟨a, vs, f0, e1, e2, e3, e4, R1⟩ := R.openL
      have eb : bindPs ps (List.replicate ds.length f0) ds env = some env' := by
        rcases e4 with ⟨rfl, rfl⟩ | rfl <;> simpa [bindP, kidsP, zs] using e
      exact .inr ⟨a, vs, e1, e2, by rw [e3, hl, bindPs_len eb], q g env st T σ H vs _ ds env' Q hT e3 R1 eb hq⟩
    | _ => cases f <;> simp [bindP, kidsP] at e
  | _ => cases f <;> simp [bindP, kidsP] at e
@[simp] def dUnp (p : Pat) (a : Den) : DenS := fun env st => match a env st with
  | .ok f b d st1 => bif !b || f.isz then (match bindP p f d env with
    | some env1 => .nx env1 st1
    | none => .stuck) else .stuck
  | .exc c ds st1 => .exc c ds env st1
  | .stuck => .stuck
/-- what the value is, it is swapped or not -/
def noSwap : Expr → Bool
  | .Tuple _ _ _ => false
  | _ => true
theorem noSwap_ok {ts : List Expr} {e : Expr} {env : PySem.Env} (h : noSwap e = true) : swappedStores ts e env = pure none := by
  unfold swappedStores
  cases e <;> first | exact Bool.noConfusion h | (cases ts with
    | nil => rfl
    | cons t ts => cases ts <;> cases t <;> rfl)
theorem ds_unp {tg e : Expr} {p : Pat} {da : Den} {pos : Pos} (hg : DG S tg p) (ha : DE S e da) (hc : notComp e = true) (hw : noSwap e = true) (hst : ∀ x q, tg ≠ .Starred x q) : DS S (.Assign [tg] e pos) (dUnp p da) := fun W => by
  obtain ⟨t, pt, q⟩ := ha W
  obtain ⟨t2, pt2, q2⟩ := hg
  refine ⟨_, fun X hX tk => ps_asg (pt X hX tk) (pt2 X hX) (swaps_no hc) (noSwap_ok hw) (by rw [assignNo hst]; rfl), fun g env st T σ H D hT R h => q g env st T σ H _ hT R ?_⟩
  unfold dUnp at h
  cases e : da env st with
  | stuck => rw [e] at h; exact h.elim
  | exc c ds st1 => rw [e] at h; exact h σ
  | ok f b d st1 =>
    rw [e] at h
    obtain ⟨hc, h⟩ := bifT h id
    cases e2 : bindP p f d env with
    | none => rw [e2] at h; exact h.elim
    | some env1 =>
      rw [e2] at h
      exact fun v H1 R1 => q2 g env st1 T σ H1 v f d env1 _ hT (R1.unb hc) e2 fun σ' H' _ R' => h σ' H' R'
end
end Hx

set_option Elab.async false
set_option linter.all false
set_option maxRecDepth 100000
set_option autoImplicit false
/-! F7: loops, comprehensions. -/
namespace Hx
open PySem PySem.Spec L2
open PyProof.Rows hiding St

inductive ResI
  | ok (items : List D) (st : Store) | exc (c : Nat) (ds : List D) (st : Store) | stuck
abbrev DenI := Env → Store → ResI
/-- what an iterator gives, item by item -/
structure ItOk (G : Sg) (g : Gd) (J : It) (keep : List Tm) (items : List D) : Prop where
  nb : noBor keep
  go : ∀ i env st T σ H, Rl G g env st (keep ++ T) σ H → i < items.length → J.go i H
  yld : ∀ i env st T σ H x H' d, Rl G g env st (keep ++ T) σ H → J.yld i H x H' → items[i]? = some d → Rl G g env st (⟨x, .z, d, false⟩ :: (keep ++ T)) σ H'
  stop : ∀ i env st T σ H, Rl G g env st (keep ++ T) σ H → i = items.length → J.stop i H
/-- a ground that keeps more -/
def Gle (G : Sg) (g' g : Gd) : Prop := ∀ Fz am H tot, Rel0 G g' Fz am H tot → Rel0 G g Fz am H tot
theorem Gle.refl {G : Sg} {g : Gd} : Gle G g g := fun _ _ _ _ h => h
theorem RlB.back {G : Sg} {g g' : Gd} {env : Env} {st : Store} {T : List Tm} {σ : St} {H : Hp} {B : (Addr → Prop) → List Addr → Prop} (b : Gle G g' g) (R : RlB G g' env st T σ H B) : RlB G g env st T σ H B := by
  obtain ⟨Fz, am, ne, nt, ns, h1, h2, h3, h4, h5⟩ := R
  exact ⟨Fz, am, ne, nt, ns, h1, h2, h3, b _ _ _ _ h4, h5⟩
def PostI (G : Sg) (g : Gd) (env : Env) (T : List Tm) (σ : St) (W : WX) (R : It → Hp → Prop) : ResI → Prop
  | .ok items st => ∀ J H' keep g', Gle G g' g → ItOk G g' J keep items → Rl G g' env st (keep ++ T) σ H' → R J H'
  | .exc c ds st => ExcP G g env σ W c ds st
  | .stuck => False
def DI (S : Sx) (tg it : Expr) (den : DenI) : Prop := ∀ W : WX, ∃ wi : TI, (∀ X, Stx S X → Takes X W → PI X tg it wi) ∧
  ∀ g env st T σ H R, noBor T → Rl S.G g env st T σ H → PostI S.G g env T σ W R (den env st) → wi σ H R

theorem PI.or {X : Cx} {tg e : Expr} {w1 w2 : TI} (h1 : PI X tg e w1) (h2 : PI X tg e w2) : PI X tg e fun σ H R => w1 σ H R ∨ w2 σ H R :=
  ⟨fun pins s σ H R I h => h.elim (h1.run pins s σ H R I) (h2.run pins s σ H R I)⟩
theorem reps_get {G : Sg} {Fz : Addr → Prop} {am : List Addr} {H : Hp} : ∀ {k : Nat} {vs : List V} {ds : List D} {n : Fp} {i : Nat} {v : V} {d : D}, Reps G Fz am H (zs k) vs ds n → vs[i]? = some v → ds[i]? = some d → Rep G Fz am H .z v d (fun _ => 0)
  | 0, _, _, _, i, v, d, r, e1, e2 => by
    cases r with
    | nil h => simp at e2
  | k + 1, _, _, _, i, v, d, r, e1, e2 => by
    have e : zs (k + 1) = .z :: zs k := List.replicate_succ
    rw [e] at r
    cases r with
    | cons h1 h2 h3 =>
      cases i with
      | zero =>
        simp at e1 e2
        subst e1 e2
        exact h1.fp h1.z0
      | succ i => exact reps_get (i := i) h2 (by simpa using e1) (by simpa using e2)
section
variable {G : Sg} {g : Gd} {env : Env} {st st' : Store} {T T' : List Tm} {σ : St} {H H' : Hp}
theorem Rl.pz {v : V} {d : D} (R : Rl G g env st T σ H) (h : ∀ Fz am ne nt, EnvR G Fz am H env σ ne → TmR G Fz am H ne T nt → Rep G Fz am H .z v d (fun _ => 0)) : Rl G g env st (⟨v, .z, d, false⟩ :: T) σ H := by
  obtain ⟨Fz, am, ne, nt, ns, h1, h2, h3, h4, h5⟩ := R
  exact ⟨Fz, am, ne, nt, ns, h1, .own (h Fz am ne nt h1 h2) h2 (n1 := fun _ => 0) fun q => by simp, h3, h4, trivial⟩
/-- a shared list under way -/
theorem lst_at {a : Addr} {ds : List D} (R : Rl G g env st (⟨.ref a, .z, .con .lst ds, false⟩ :: T) σ H) : ∃ vs, H a = some (.lst vs) ∧ vs.length = ds.length := by
  obtain ⟨Fz, am, ne, nt, ns, h1, h2, h3, h4, h5⟩ := R
  cases h2 with
  | own k1 k2 k3 =>
    cases k1 with
    | sc h _ => exact h.elim
    | zz a1 a2 a3 =>
      obtain ⟨_, o, b1, b2⟩ := a1
      subst b2
      exact ⟨_, b1, a2.len.2⟩
theorem lst_item {a : Addr} {ds : List D} {vs : List V} {i : Nat} {x : V} {d : D} (R : Rl G g env st (⟨.ref a, .z, .con .lst ds, false⟩ :: T) σ H) (ha : H a = some (.lst vs)) (e1 : vs[i]? = some x) (e2 : ds[i]? = some d) : Rl G g env st (⟨x, .z, d, false⟩ :: (⟨.ref a, .z, .con .lst ds, false⟩ :: T)) σ H :=
  R.pz fun Fz am ne nt _ h2 => by
    cases h2 with
    | own k1 k2 k3 =>
      cases k1 with
      | sc h _ => exact h.elim
      | zz a1 a2 a3 =>
        obtain ⟨_, o, b1, b2⟩ := a1
        subst b2
        have b1 : H a = some (.lst _) := b1
        rw [ha] at b1
        cases b1
        exact reps_get a2 e1 e2
theorem it_list {a : Addr} {ds : List D} : ItOk G g (Itl G.K a) [⟨.ref a, .z, .con .lst ds, false⟩] ds where
  nb := fun x hx => by rw [List.mem_singleton.mp hx]
  go := fun i env st T σ H R hi => by
    obtain ⟨vs, e1, e2⟩ := lst_at R
    exact ⟨_, _, SqL.of e1, List.getElem?_eq_getElem (by rw [e2]; exact hi)⟩
  yld := fun i env st T σ H x H' d R y e => by
    obtain ⟨rfl, y⟩ := y
    obtain ⟨vs, e1, e2⟩ := lst_at R
    exact lst_item R e1 (y _ (SqL.of e1)) e
  stop := fun i env st T σ H R he => by
    have hi := Nat.le_of_eq he.symm
    obtain ⟨vs, e1, e2⟩ := lst_at R
    exact ⟨_, SqL.of e1, by rw [e2]; exact hi⟩
theorem tup_at {a : Addr} {ds : List D} (R : Rl G g env st (⟨.ref a, .z, .con .tup ds, false⟩ :: T) σ H) : ∃ vs, SqT G.K H a vs ∧ vs.length = ds.length ∧ ∀ (i : Nat) (x : V) (d : D), vs[i]? = some x → ds[i]? = some d → Rl G g env st (⟨x, .z, d, false⟩ :: (⟨.ref a, .z, .con .tup ds, false⟩ :: T)) σ H := by
  obtain ⟨Fz, am, ne, nt, ns, h1, h2, h3, h4, h5⟩ := R
  cases id h2 with
  | own k1 k2 k3 =>
    cases k1 with
    | sc h _ => exact h.elim
    | @zz _ _ vs _ _ a1 a2 a3 =>
      exact ⟨vs, a1, a2.len.2, fun i x d e1 e2 => ⟨Fz, am, ne, nt, ns, h1, .own (reps_get a2 e1 e2) h2 (n1 := fun _ => 0) fun q => by simp, h3, h4, trivial⟩⟩
theorem it_tup {a : Addr} {ds : List D} : ItOk G g (Itt G.K a) [⟨.ref a, .z, .con .tup ds, false⟩] ds where
  nb := fun x hx => by rw [List.mem_singleton.mp hx]
  go := fun i env st T σ H R hi => by
    obtain ⟨vs, e1, e2, _⟩ := tup_at R
    exact ⟨_, _, e1, List.getElem?_eq_getElem (by rw [e2]; exact hi)⟩
  yld := fun i env st T σ H x H' d R y e => by
    obtain ⟨rfl, y⟩ := y
    obtain ⟨vs, e1, e2, e3⟩ := tup_at R
    exact e3 i x d (y _ e1) e
  stop := fun i env st T σ H R he => by
    have hi := Nat.le_of_eq he.symm
    obtain ⟨vs, e1, e2, _⟩ := tup_at R
    exact ⟨_, e1, by rw [e2]; exact hi⟩
theorem it_rng {lo : Int} {n : Nat} : ItOk G g (Itr lo n) [] ((List.range n).map fun (i : Nat) => D.int (lo + (i : Int))) where
  nb := fun x hx => by cases hx
  go := fun i env st T σ H R hi => by show i < n; simpa using hi
  yld := fun i env st T σ H x H' d R y e => by
    obtain ⟨rfl, rfl⟩ := y
    obtain ⟨h1, h2⟩ := List.getElem?_eq_some_iff.mp e
    simp at h2
    subst h2
    exact Rl.scal R rfl
  stop := fun i env st T σ H R he => by
    have hi := Nat.le_of_eq he.symm
    show n ≤ i; simpa using hi
end
@[simp] def dIvS (a : Den) : DenI := fun env st => match a env st with
  | .ok f b (.con .lst ds) st1 => bif !b || f.isz then .ok ds st1 else .stuck
  | .ok f b (.con .tup ds) st1 => bif !b || f.isz then .ok ds st1 else .stuck
  | .ok _ _ _ _ => .stuck
  | .exc c ds st1 => .exc c ds st1
  | .stuck => .stuck
section
variable {S : Sx} {e a b tg : Expr} {es : List Expr} {da db : Den} {das : DenL} {pos p : Pos}
theorem line24 {n : Nat} (h : n.ble 16777216 = true) : n ≤ sizeLine := Nat.le_trans (Nat.le_of_ble_eq_true h) (by decide)
theorem di_val (ha : DE S a da) : DI S tg a (dIvS da) := fun W => by
  obtain ⟨t, p, q⟩ := ha W
  refine ⟨fun σ H R => iList S.G.K t σ H R ∨ iTup S.G.K t σ H R, fun X hX tk => by rw [← hX.K]; exact PI.or (pi_list (p X hX tk)) (pi_tup (p X hX tk)), fun g env st T σ H R0 hT R h => ?_⟩
  unfold dIvS at h
  cases e : da env st with
  | stuck => rw [e] at h; exact h.elim
  | exc c ds st1 => rw [e] at h; exact .inl (q g env st T σ H _ hT R (by rw [e]; exact h))
  | ok f b d st1 =>
    rw [e] at h
    cases d with
    | con k ds =>
      cases k with
      | lst =>
        obtain ⟨hc, h⟩ := bifT h id
        refine .inl (q g env st T σ H _ hT R ?_)
        rw [e]
        intro v H1 R1
        have R2 := (R1.unb hc).frz
        obtain ⟨a, vs, f0, rfl, e2, _⟩ := Rl.openL R2
        exact ⟨a, rfl, ⟨vs, e2⟩, h _ H1 _ g .refl it_list R2⟩
      | tup =>
        obtain ⟨hc, h⟩ := bifT h id
        refine .inr (q g env st T σ H _ hT R ?_)
        rw [e]
        intro v H1 R1
        have R2 := (R1.unb hc).frz
        obtain ⟨a, vs, f0, rfl, e2, _⟩ := Rl.open R2
        exact ⟨a, rfl, ⟨vs, e2⟩, h _ H1 _ g .refl it_tup R2⟩
      | _ => exact h.elim
    | _ => exact h.elim
/-- range(n), range(m, n) -/
def rngItems (lo hi : Int) : List D := (List.range (hi - lo).toNat).map fun (i : Nat) => D.int (lo + (i : Int))
def small62 (j : Int) : Bool := decide (-16777216 ≤ j) && decide (j ≤ 16777216)
@[simp] def dRng1 (as : DenL) : DenI := fun env st => match as env st with
  | .ok ts st1 => (match ts with
    | [(_, _, .int j)] => bif small62 j then .ok (rngItems 0 j) st1 else .stuck
    | _ => .stuck)
  | .exc c ds st1 => .exc c ds st1
  | .stuck => .stuck
@[simp] def dRng2 (as : DenL) : DenI := fun env st => match as env st with
  | .ok ts st1 => (match ts with
    | [(_, _, .int i), (_, _, .int j)] => bif small62 i && small62 j then .ok (rngItems i j) st1 else .stuck
    | _ => .stuck)
  | .exc c ds st1 => .exc c ds st1
  | .stuck => .stuck
theorem Rl.int {G : Sg} {g : Gd} {env : Env} {st : Store} {T : List Tm} {σ : St} {H : Hp} {v : V} {f : Fr} {b : Bool} {c : Int} (R : Rl G g env st (⟨v, f, .int c, b⟩ :: T) σ H) : v = .int c := by
  obtain ⟨Fz, am, ne, nt, ns, h1, h2, h3, h4, h5⟩ := R
  have key : ∀ {n : Fp}, Rep G Fz am H f v (.int c) n → v = .int c := fun {n} r => by
    cases r with
    | sc h _ => cases v <;> first | exact congrArg V.int h | exact h.elim
  cases h2 with
  | own h _ _ => exact key h
  | bor h _ _ => exact key h
theorem small62_ok {j : Int} (h : small62 j = true) : (-(2 ^ 62) ≤ j ∧ j < 2 ^ 62) ∧ (-16777216 ≤ j ∧ j ≤ 16777216) := by
  unfold small62 at h
  rw [Bool.and_eq_true] at h
  have h1 := of_decide_eq_true h.1
  have h2 := of_decide_eq_true h.2
  omega
theorem di_rng1 (ha : DA S [a] das) (hs : ∀ x q, a ≠ .Starred x q) (hg : S.sc.names.lookup ("range" : Str) = some .globalImplicit) (hm : S.mg "range" = none) : DI S tg (.Call (.Name "range" p) [a] [] pos) (dRng1 das) := fun W => by
  obtain ⟨t, pt, q⟩ := ha W
  refine ⟨_, fun X hX tk => pi_range1 (show X.env.scope.names.lookup ("range" : Str) = some .globalImplicit by rw [hX.sc]; exact hg) (by rw [hX.mg]; exact hm) (pt X hX tk) (by rw [starNo hs]; rfl), fun g env st T σ H R0 hT R h => q g env st T σ H _ hT R ?_⟩
  unfold dRng1 at h
  cases e : das env st with
  | stuck => rw [e] at h; exact h.elim
  | exc c ds st1 => rw [e] at h; exact h
  | ok ts st1 =>
    rw [e] at h
    intro vs H1 hl R1
    dsimp only at h
    split at h
    · rename_i f b j
      obtain ⟨hc, h⟩ := bifT h id
      match vs, hl with
      | [v], _ =>
        have ev : v = .int j := Rl.int R1
        subst ev
        have hb := (small62_ok hc).1
        refine ⟨j, rfl, hb.1, hb.2, ?_⟩
        have it := it_rng (G := S.G) (g := g) (lo := 0) (n := j.toNat)
        unfold rngItems at h
        rw [show (j - 0).toNat = j.toNat by congr 1; omega] at h
        exact h _ H1 [] g .refl it (RlB.drop R1)
    · exact h.elim
theorem di_rng2 (ha : DA S [a, b] das) (hs : ∀ x q, a ≠ .Starred x q) (hs2 : ∀ x q, b ≠ .Starred x q) (hg : S.sc.names.lookup ("range" : Str) = some .globalImplicit) (hm : S.mg "range" = none) : DI S tg (.Call (.Name "range" p) [a, b] [] pos) (dRng2 das) := fun W => by
  obtain ⟨t, pt, q⟩ := ha W
  refine ⟨_, fun X hX tk => pi_range2 (show X.env.scope.names.lookup ("range" : Str) = some .globalImplicit by rw [hX.sc]; exact hg) (by rw [hX.mg]; exact hm) (pt X hX tk) (by rw [starNo hs, starNo hs2]; rfl) (by rw [starNo hs2]; rfl), fun g env st T σ H R0 hT R h => q g env st T σ H _ hT R ?_⟩
  unfold dRng2 at h
  cases e : das env st with
  | stuck => rw [e] at h; exact h.elim
  | exc c ds st1 => rw [e] at h; exact h
  | ok ts st1 =>
    rw [e] at h
    intro vs H1 hl R1
    dsimp only at h
    split at h
    · rename_i f b i f2 b2 j
      obtain ⟨hc, h⟩ := bifT h id
      rw [Bool.and_eq_true] at hc
      match vs, hl with
      | [v, v2], _ =>
        have ev : v = .int i := Rl.int R1
        have ev2 : v2 = .int j := Rl.int (RlB.drop R1)
        subst ev ev2
        have hb := (small62_ok hc.1).1
        have hb2 := (small62_ok hc.2).1
        refine ⟨i, j, rfl, ⟨hb.1, hb.2, hb2.1, hb2.2⟩, ?_⟩
        exact h _ H1 [] g .refl (it_rng (G := S.G) (g := g) (lo := i) (n := (j - i).toNat)) (RlB.drop (RlB.drop R1))
    · exact h.elim

/-! ### for -/
def forGo (p : Pat) (body : DenS) (ks : List Nat) : List D → DenS
  | [], env, st => .nx env st
  | d :: ds, env, st => match bindP p .z d env with
    | none => .stuck
    | some env1 => match body env1 st with
      | .nx env2 st2 => forGo p body ks ds (killE ks env2) st2
      | .ct env2 st2 => forGo p body ks ds (killE ks env2) st2
      | .bk env2 st2 => .nx (killE ks env2) st2
      | r => r
def dFor (it : DenI) (p : Pat) (body : DenS) (ks : List Nat) : DenS := fun env st => match it env st with
  | .ok items st1 => forGo p body ks items env st1
  | .exc c ds st1 => .exc c ds env st1
  | .stuck => .stuck
theorem notSet_fold {e : Expr} {env : PySem.Env} (h : notSet e = true) (x : Value) : foldedSetIterable e env x = pure x := by
  cases e <;> first | rfl | cases h
theorem ds_for {it : Expr} {di : DenI} {p : Pat} {body : List Stmt} {db : DenS} {ks : List Nat} (hi : DI S tg it di) (hg : DG S tg p) (hb : DSs S body db) (hs : notSet it = true) : DS S (.For tg it body [] pos) (dFor di p db ks) := fun W => by
  obtain ⟨wi, pi, qi⟩ := hi W
  obtain ⟨tg', pg, qg⟩ := hg
  obtain ⟨tb, pb, qb⟩ := hb W
  refine ⟨tFor wi tg' tb, fun X hX tk => ps_for hX.po hX.calm (pi X hX tk) (pg X hX) (pb X hX tk) (notSet_fold hs), fun g env st T σ H D hT R h => qi g env st T σ H _ hT R ?_⟩
  unfold dFor at h
  cases e : di env st with
  | stuck => rw [e] at h; exact h.elim
  | exc c ds st1 => rw [e] at h; exact h σ
  | ok items st1 =>
    rw [e] at h
    intro J H1 keep g' bk IO R1
    have nbT : noBor (keep ++ T) := nb_app IO.nb hT
    refine ⟨fun i m σ H => ∃ env st, m = items.length - i ∧ i ≤ items.length ∧ Rl S.G g' env st (keep ++ T) σ H ∧ PostS S.G g T W D (forGo p db ks (items.drop i) env st), ⟨items.length, env, st1, by omega, Nat.zero_le _, R1, by simpa using h⟩, ?_⟩
    rintro i m σ H ⟨env, st, rfl, hi, R, h⟩
    by_cases hlt : i < items.length
    · refine .inr ⟨IO.go i env st T σ H R hlt, fun σ' H' => ∃ env st, i + 1 ≤ items.length ∧ Rl S.G g' env st (keep ++ T) σ' H' ∧ PostS S.G g T W D (forGo p db ks (items.drop (i + 1)) env st), fun σ' H' ⟨env, st, h1, h2, h3⟩ => ⟨items.length - (i + 1), by omega, env, st, rfl, h1, h2, h3⟩, fun x H' y => ?_⟩
      have ei : items[i]? = some items[i] := List.getElem?_eq_getElem hlt
      have R2 := IO.yld i env st T σ H x H' _ R y ei
      rw [List.drop_eq_getElem_cons hlt] at h
      unfold forGo at h
      cases eb : bindP p .z items[i] env with
      | none => rw [eb] at h; exact h.elim
      | some env1 =>
        rw [eb] at h
        refine qg g' env st (keep ++ T) σ H' x .z items[i] env1 _ nbT R2 eb fun σ' H'' _ R3 => ?_
        refine qb g' env1 st (keep ++ T) σ' H'' _ nbT R3 ?_
        dsimp only at h
        cases er : db env1 st with
        | stuck => rw [er] at h; exact h.elim
        | rt f d st2 => rw [er] at h; exact fun v H3 R4 => h v H3 (R4.back bk)
        | exc c ds env2 st2 => rw [er] at h; exact fun σ3 cls dx H3 R4 => h σ3 cls dx H3 (R4.back bk)
        | nx env2 st2 => rw [er] at h; exact fun σ3 H3 R4 => ⟨_, st2, hlt, R4.kills nbT, h⟩
        | ct env2 st2 => rw [er] at h; exact fun σ3 H3 R4 => ⟨_, st2, hlt, R4.kills nbT, h⟩
        | bk env2 st2 => rw [er] at h; exact fun σ3 H3 R4 => h σ3 H3 (Rl.kills hT (RlB.tail (R4.back bk)))
    · have e : i = items.length := by omega
      subst e
      rw [List.drop_length] at h
      exact .inl ⟨IO.stop _ env st T σ H R rfl, h σ H (RlB.tail (R.back bk))⟩

/-! ### while -/
def whileGo (c : DenB) (body : DenS) (ks : List Nat) : Nat → DenS
  | 0, _, _ => .stuck
  | n + 1, env, st => match c env st with
    | .ok true st1 => (match body env st1 with
      | .nx env2 st2 => whileGo c body ks n (killE ks env2) st2
      | .ct env2 st2 => whileGo c body ks n (killE ks env2) st2
      | .bk env2 st2 => .nx (killE ks env2) st2
      | r => r)
    | .ok false st1 => .nx env st1
    | .exc c ds st1 => .exc c ds env st1
    | .stuck => .stuck
def dWhile (mu : Env → Store → Nat) (c : DenB) (body : DenS) (ks : List Nat) : DenS := fun env st => whileGo c body ks (mu env st) env st
theorem ds_while {c : Expr} {dc : DenB} {body : List Stmt} {db : DenS} {ks : List Nat} {mu : Env → Store → Nat} (hc : DT S c dc) (hb : DSs S body db) : DS S (.While c body [] pos) (dWhile mu dc db ks) := fun W => by
  obtain ⟨tc, pc, qc⟩ := hc W
  obtain ⟨tb, pb, qb⟩ := hb W
  refine ⟨tWhile tc tb, fun X hX tk => ps_while hX.po (pc X hX tk) (pb X hX tk), fun g env st T σ H D hT R h => ?_⟩
  refine ⟨fun m σ H => ∃ env st, Rl S.G g env st T σ H ∧ PostS S.G g T W D (whileGo dc db ks m env st), ⟨_, env, st, R, h⟩, ?_⟩
  rintro m σ H ⟨env, st, R, h⟩
  cases m with
  | zero => exact h.elim
  | succ n =>
    refine qc g env st T σ H _ hT R ?_
    unfold whileGo at h
    cases e : dc env st with
    | stuck => rw [e] at h; exact h.elim
    | exc c ds st1 => rw [e] at h; exact h σ
    | ok c st1 =>
      rw [e] at h
      intro H1 R1
      cases c with
      | false => exact h σ H1 R1
      | true =>
        refine ⟨fun σ' H' => ∃ env st, Rl S.G g env st T σ' H' ∧ PostS S.G g T W D (whileGo dc db ks n env st), fun σ' H' q => ⟨n, by omega, q⟩, ?_⟩
        refine qb g env st1 T σ H1 _ hT R1 ?_
        dsimp only at h
        cases er : db env st1 with
        | stuck => rw [er] at h; exact h.elim
        | rt f d st2 => rw [er] at h; exact h
        | exc c ds env2 st2 => rw [er] at h; exact h
        | nx env2 st2 => rw [er] at h; exact fun σ3 H3 R4 => ⟨_, st2, R4.kills hT, h⟩
        | ct env2 st2 => rw [er] at h; exact fun σ3 H3 R4 => ⟨_, st2, R4.kills hT, h⟩
        | bk env2 st2 => rw [er] at h; exact fun σ3 H3 R4 => h σ3 H3 (R4.kills hT)

/-! ### list comprehensions -/
def dYes : DenB := fun _ st => .ok true st
def lcGo (p : Pat) (c : DenB) (el : Den) : List D → Env → Store → List D → Res
  | [], _, st, acc => .ok (.c .z) false (.con .lst acc) st
  | d :: ds, env, st, acc => match bindP p .z d env with
    | none => .stuck
    | some env1 => match c env1 st with
      | .ok false st1 => lcGo p c el ds env st1 acc
      | .ok true st1 => (match el env1 st1 with
        | .ok f b d' st2 => bif !b || f.isz then lcGo p c el ds env st2 (acc ++ [d']) else .stuck
        | _ => .stuck)
      | _ => .stuck
def nonesAt (own : List Nat) (env : Env) : Bool := own.all fun i => match env[i]? with
  | some none => true
  | _ => false
def dLc (it : DenI) (own : List Nat) (p : Pat) (c : DenB) (el : Den) : Den := fun env st => match it env st with
  | .ok items st1 => bif nonesAt own env && items.length.ble 16777215 then lcGo p c el items env st1 [] else .stuck
  | .exc c ds st1 => .exc c ds st1
  | .stuck => .stuck
/-- within a comprehension's block -/
def Sx.blk (S : Sx) (scope : Scope) : Sx := { S with sc := relS scope S.sc, fnA := false, lmk := none }
theorem stx_blk {X : Cx} (hX : Stx S X) (s : Shared) (H : Hp) (scope : Scope) (C : Addr) (cl : List (Str × Addr)) (fp : List Addr) : Stx (S.blk scope) (X.blk s H scope (compEnvC scope cl C X.env) fp) where
  pr := hX.pr
  w := hX.w
  mg := hX.mg
  base := hX.base
  K := hX.K
  N := hX.N
  sc := by show relS scope X.env.scope = relS scope S.sc; rw [hX.sc]
  nd := hX.nd
  calm := hX.calm
  room := hX.room
  po := PassesOwn.never
  fn := fun h => Bool.noConfusion h
  stk := fun h => Bool.noConfusion h
  lmk := fun c q h => nomatch h
theorem wipe_at {j : Nat} : ∀ (τ : St) (ow : List Nat), j ∈ ow → (wipe τ ow)[j]? = if j < τ.length then some none else none := by
  intro τ ow
  induction ow with
  | nil => intro h; cases h
  | cons v vs ih =>
    intro h
    unfold wipe
    by_cases e : v = j
    · subst e
      rw [List.getElem?_set]
      simp [wipe_length]
    · rw [List.getElem?_set_ne e]
      rcases List.mem_cons.mp h with z | z
      · exact absurd z.symm e
      · exact ih z
theorem wipe_dif {σ σ2 : St} {l own : List Nat} (h : Dif l σ σ2) (hl : ∀ i ∈ l, i ∈ own) : wipe σ2 own = wipe σ own := by
  apply List.ext_getElem?
  intro j
  by_cases hj : j ∈ own
  · rw [wipe_at σ2 own hj, wipe_at σ own hj, h.1]
  · rw [wipe_out hj, wipe_out hj]
    exact h.2 j fun z => hj (hl j z)
theorem EnvR.resig {G : Sg} {Fz : Addr → Prop} {am : List Addr} {H : Hp} {env : Env} {σ : St} {n : Fp} (r : EnvR G Fz am H env σ n) : ∀ {σ' : St}, σ'.length = σ.length → (∀ (i : Nat) x, env[i]? = some (some x) → σ'[i]? = σ[i]?) → EnvR G Fz am H env σ' n := by
  induction r with
  | nil h =>
    intro σ' hl _
    have e : σ' = [] := List.length_eq_zero_iff.mp hl
    subst e
    exact .nil h
  | @som f d v env σ n1 n2 n h1 h2 h3 ih =>
    intro σ' hl hs
    cases σ' with
    | nil => simp at hl
    | cons y σ' =>
      have e : y = some v := by simpa using hs 0 (f, d) (by simp)
      subst e
      exact .som h1 (ih (by simpa using hl) fun i x e => by simpa using hs (i + 1) x (by simpa using e)) h3
  | @non x env σ n h ih =>
    intro σ' hl hs
    cases σ' with
    | nil => simp at hl
    | cons y σ' => exact .non (ih (by simpa using hl) fun i x e => by simpa using hs (i + 1) x (by simpa using e))
theorem EnvR.weak {G : Sg} {Fz : Addr → Prop} {am : List Addr} {H : Hp} {env : Env} {σ : St} {n : Fp} (r : EnvR G Fz am H env σ n) : ∀ {env' : Env} {σ'' : St}, env'.length = env.length → σ''.length = σ.length →
    (∀ (i : Nat) x, env'[i]? = some (some x) → env[i]? = some (some x) ∧ σ''[i]? = σ[i]?) → ∃ n', EnvR G Fz am H env' σ'' n' ∧ ∀ q, n' q ≤ n q := by
  induction r with
  | nil h =>
    intro env' σ'' h1 h2 _
    have e : σ'' = [] := List.length_eq_zero_iff.mp h2
    have e2 : env' = [] := List.length_eq_zero_iff.mp h1
    subst e e2
    exact ⟨_, .nil h, fun _ => Nat.le_refl _⟩
  | @som f d v env σ n1 n2 n h1 h2 h3 ih =>
    intro env' σ'' hl hs hx
    cases σ'' with
    | nil => simp at hs
    | cons y σ'' =>
    cases env' with
    | nil => simp at hl
    | cons w env' =>
      obtain ⟨n', k1, k2⟩ := ih (env' := env') (σ'' := σ'') (by simpa using hl) (by simpa using hs) fun i x e => by simpa using hx (i + 1) x (by simpa using e)
      cases w with
      | none => exact ⟨n', .non k1, fun q => by have := k2 q; rw [h3]; omega⟩
      | some w =>
        obtain ⟨e1, e2⟩ := hx 0 w (by simp)
        simp at e1 e2
        subst e1 e2
        exact ⟨_, .som h1 k1 (n := fun q => n1 q + n' q) fun _ => rfl, fun q => by have := k2 q; rw [h3]; omega⟩
  | @non x env σ n h ih =>
    intro env' σ'' hl hs hx
    cases σ'' with
    | nil => simp at hs
    | cons y σ'' =>
    cases env' with
    | nil => simp at hl
    | cons w env' =>
      obtain ⟨n', k1, k2⟩ := ih (env' := env') (σ'' := σ'') (by simpa using hl) (by simpa using hs) fun i x e => by simpa using hx (i + 1) x (by simpa using e)
      cases w with
      | none => exact ⟨n', .non k1, k2⟩
      | some w =>
        obtain ⟨e1, e2⟩ := hx 0 w (by simp)
        simp at e1
mutual
theorem bindP_dif : ∀ (p : Pat) {f : Fr} {d : D} {env env' : Env}, bindP p f d env = some env' → env'.length = env.length ∧ ∀ j, j ∉ p.slots → env'[j]? = env[j]?
  | .nm i, f, d, env, env', h => by
    cases h
    exact ⟨by simp, fun j hj => List.getElem?_set_ne fun z => hj (by rw [← z]; exact List.mem_singleton.mpr rfl)⟩
  | .tp ps, f, d, env, env', h => by
    unfold bindP at h
    cases e : kidsP f d with
    | none => rw [e] at h; cases h
    | some x => rw [e] at h; exact bindPs_dif ps h
theorem bindPs_dif : ∀ (ps : List Pat) {fs : List Fr} {ds : List D} {env env' : Env}, bindPs ps fs ds env = some env' → env'.length = env.length ∧ ∀ j, j ∉ Pat.slotsL ps → env'[j]? = env[j]?
  | [], [], [], env, env', h => by
    simp [bindPs] at h
    subst h
    exact ⟨rfl, fun _ _ => rfl⟩
  | p :: ps, f :: fs, d :: ds, env, env', h => by
    rw [bindPs] at h
    obtain ⟨env1, e1, e2⟩ := Option.bind_eq_some_iff.mp h
    have a := bindP_dif p e1
    have b := bindPs_dif ps e2
    refine ⟨b.1.trans a.1, fun j hj => ?_⟩
    have hj' : j ∉ p.slots ++ Pat.slotsL ps := hj
    rw [List.mem_append, not_or] at hj'
    rw [b.2 j hj'.2, a.2 j hj'.1]
  | [], [], _ :: _, _, _, h => by simp [bindPs] at h
  | [], _ :: _, _, _, _, h => by simp [bindPs] at h
  | _ :: _, [], _, _, _, h => by simp [bindPs] at h
  | _ :: _, _ :: _, [], _, _, h => by simp [bindPs] at h
end
theorem nones_wipe {own : List Nat} {env : Env} (h : nonesAt own env = true) (σ : St) : ∀ (i : Nat) x, env[i]? = some (some x) → (wipe σ own)[i]? = σ[i]? := fun i x e => wipe_out fun hi => by
  have := List.all_eq_true.mp h i hi
  rw [e] at this
  cases this
/-- a value put back among the others -/
theorem TmR.dim {G : Sg} {Fz : Addr → Prop} {am : List Addr} {H : Hp} {ne : Fp} {T : List Tm} {a : Tm} : ∀ {l : List Tm} {nt : Fp}, TmR G Fz am H ne (a :: (l ++ T)) nt → TmR G Fz am H ne (l ++ a :: T) nt
  | [], _, r => r
  | b :: l, _, r => by
    cases r with
    | @own _ _ _ _ n1 n2 _ h1 h2 h3 =>
      cases h2 with
      | @own _ _ _ _ m1 m2 _ k1 k2 k3 => exact .own k1 (TmR.dim (.own h1 k2 (n := fun q => n1 q + m2 q) fun _ => rfl)) fun q => by rw [h3, k3]; omega
      | @bor _ _ _ _ m1 _ k1 k2 k3 => exact .bor k1 k2 (TmR.dim (.own h1 k3 h3))
    | bor h1 h2 h3 =>
      cases h3 with
      | own k1 k2 k3 => exact .own k1 (TmR.dim (.bor h1 h2 k2)) k3
      | bor k1 k2 k3 => exact .bor k1 k2 (TmR.dim (.bor h1 h2 k3))
theorem wipe_wipe {σ σ2 : St} {l own : List Nat} (h : Dif l (wipe σ own) σ2) (hl : ∀ i ∈ l, i ∈ own) : wipe σ2 own = wipe σ own := by
  rw [wipe_dif h hl]
  apply List.ext_getElem?
  intro j
  by_cases hj : j ∈ own
  · rw [wipe_at _ _ hj, wipe_at _ _ hj, wipe_length]
  · rw [wipe_out hj]
theorem Rl.resig {G : Sg} {g : Gd} {env : Env} {st : Store} {T : List Tm} {σ σ' : St} {H : Hp} (R : Rl G g env st T σ H) (hl : σ'.length = σ.length) (hs : ∀ (i : Nat) x, env[i]? = some (some x) → σ'[i]? = σ[i]?) : Rl G g env st T σ' H := by
  obtain ⟨Fz, am, ne, nt, ns, h1, h2, h3, h4, h5⟩ := R
  exact ⟨Fz, am, ne, nt, ns, h1.resig hl hs, h2, h3, h4, h5⟩
end
/-! ### writing at an owned address -/
section
variable {G : Sg} {g : Gd} {env : Env} {st st' : Store} {T T' : List Tm} {σ : St} {H H' : Hp} {Fz : Addr → Prop} {am : List Addr} {tot : Fp} {A : Addr} {o : HO}
theorem Rel0.wext (r : Rel0 G g Fz am H tot) (hA : 0 < tot A) : Ext Fz am H Fz am (upd H A o) := by
  have nz : ∀ p, Fz p → p ≠ A := fun p z e => r.nz A hA (by rw [← e]; exact z)
  obtain ⟨oA, eA, kA⟩ := r.th A hA
  refine ⟨fun _ h => h, fun _ _ h => h, fun p u z h => ?_, fun p u z h _ => ?_, fun p xs h => ?_⟩
  · exact h.imp (fun h => by rw [upd_ne (nz p z)]; exact h) fun ⟨w, h⟩ => ⟨w, by rw [upd_ne (nz p z)]; exact h⟩
  · rw [upd_ne (nz p z)]; exact h
  · have ne : p ≠ A := fun e => by
      subst e
      rcases h with h | ⟨_, h⟩
      · rw [eA] at h; cases h; exact kA
      · rw [eA] at h; cases h; exact kA
    exact h.imp (fun h => by rw [upd_ne ne]; exact h) fun ⟨w, h⟩ => ⟨w, by rw [upd_ne ne]; exact h⟩
theorem Rel0.wrel (r : Rel0 G g Fz am H tot) (hA : 0 < tot A) (ok : OwnK o) : Rel0 G g Fz am (upd H A o) tot := by
  have out : ∀ p u, ¬ OwnK u → H p = some u → upd H A o p = some u := fun p u nu e => by
    obtain ⟨oA, eA, kA⟩ := r.th A hA
    rw [upd_ne fun q => by subst q; rw [eA] at e; cases e; exact nu kA]
    exact e
  refine ⟨r.n1, r.nz, fun p hp => ?_, fun p z => ?_, fun p u nt e na => ?_, r.f, r.z0, r.z1, r.a, fun x hx => ?_, r.hm, fun p u t e na => ?_⟩
  · by_cases e : p = A
    · subst e; exact ⟨o, upd_same, ok⟩
    · rw [upd_ne e]; exact r.th p hp
  · rw [upd_ne fun e => r.nz A hA (by rw [← e]; exact z)]; exact r.zt p z
  · have h := r.k p u nt e na
    by_cases q : p = A
    · subst q
      rcases r.f p hA with y | y
      · exact absurd y na
      · rw [y] at e; cases e
    · exact h.map fun u _ k => by rw [upd_ne q]; exact k
  · obtain ⟨ps, a1, a2, a3⟩ := r.tb x hx
    refine ⟨ps, out _ _ (fun z => z) a1, a2, fun p' cv z => ?_⟩
    obtain ⟨c, e1, e2⟩ := a3 p' cv z
    exact ⟨c, e1, out _ _ (fun z => by unfold LamX.CodeO at z; exact z) e2⟩
  · obtain ⟨o', e1, t1⟩ := r.kt p u t e na
    exact ⟨o', out _ _ (fun z => by rw [z.nt] at t1; cases t1) e1, t1⟩
theorem upd_keep {n : Fp} (h : n A = 0) : ∀ p u, 0 < n p → H p = some u → upd H A o p = some u := fun p u hp e => by
  rw [upd_ne fun q => by subst q; omega]; exact e
theorem Reps.snoc {fs : List Fr} {vs : List V} {ds : List D} {n m k : Fp} {f : Fr} {v : V} {d : D} (h : Reps G Fz am H fs vs ds n) (r : Rep G Fz am H f v d m) (hk : ∀ q, k q = n q + m q) : Reps G Fz am H (fs ++ [f]) (vs ++ [v]) (ds ++ [d]) k := by
  match fs, vs, ds, h with
  | [], [], [], .nil h0 => exact .cons r (.nil (n := fun _ => 0) fun _ => rfl) fun q => by rw [hk, h0]; simp
  | _ :: _, _ :: _, _ :: _, .cons (n1 := n1) (n2 := n2) h1 h2 h3 => exact .cons h1 (Reps.snoc h2 r (k := fun q => n2 q + m q) fun _ => rfl) fun q => by rw [hk, h3]; omega
/-- the list grows -/
theorem Rl.appT {x : V} {ds : List D} {d : D} (R : Rl G g env st (⟨.ref A, .c .z, .con .lst ds, false⟩ :: ⟨x, .z, d, false⟩ :: T) σ H) :
    ∃ acc, H A = some (.lst acc) ∧ acc.length = ds.length ∧ Rl G g env st (⟨.ref A, .c .z, .con .lst (ds ++ [d]), false⟩ :: T) σ (upd H A (.lst (acc ++ [x]))) := by
  obtain ⟨Fz, am, ne, nt, ns, h1, h2, h3, h4, h5⟩ := R
  cases h2 with
  | @own _ _ _ _ n1 n2 _ k1 k2 k3 =>
    cases k2 with
    | @own _ _ _ _ m1 m2 _ j1 j2 j3 =>
      cases k1 with
      | @cc _ _ vs _ _ _ m a1 a2 a3 =>
        obtain ⟨_, o, b1, b2⟩ := a1
        subst b2
        have hA : 0 < ne A + nt A + ns A := by rw [k3, a3]; simp; omega
        have le := h4.n1 A
        have zA : ne A = 0 ∧ m2 A = 0 ∧ ns A = 0 ∧ m A = 0 := by rw [k3, a3, j3] at le; simp at le; omega
        have E := h4.wext (o := .lst (vs ++ [x])) hA
        have m0 := Reps.z0 (k := ds.length) a2
        refine ⟨vs, b1, a2.len.2, Fz, am, ne, fun q => n1 q + m2 q, ns, h1.ext E (upd_keep zA.1), .own (.cc (m := fun _ => 0) ⟨by decide, _, upd_same, rfl⟩ ?_ fun q => by rw [a3, m0]) (j2.ext E (upd_keep zA.2.1) (upd_keep zA.1)) fun _ => rfl, Reps.ext E h3 (upd_keep zA.2.2.1), (h4.wrel (o := .lst (vs ++ [x])) hA trivial).less fun q => by show ne q + (n1 q + m2 q) + ns q ≤ _; rw [k3, j3]; omega, trivial⟩
        have s := Reps.snoc (k := fun _ => 0) (a2.fp m0 (m := fun _ => 0)) (j1.fp j1.z0 (m := fun _ => 0)) fun _ => rfl
        have s2 := Reps.ext E s fun p u hp => absurd hp (Nat.lt_irrefl 0)
        have e : List.replicate ds.length Fr.z ++ [Fr.z] = List.replicate (ds ++ [d]).length Fr.z := by rw [List.length_append]; exact List.replicate_append_replicate (n := ds.length) (m := 1)
        rw [← e]
        exact s2
end
section
variable {S : Sx} {e a b tg : Expr} {es : List Expr} {da db : Den} {das : DenL} {pos p : Pos}
/-- the reading of a comprehension -/
theorem lc_run {di : DenI} {p : Pat} {own : List Nat} {c : DenB} {el : Den} {W : WX} {wi : TI} {tg' : TG} {tt : TT} {te : TE}
    (qi : ∀ g env st T σ H R, noBor T → Rl S.G g env st T σ H → PostI S.G g env T σ W R (di env st) → wi σ H R)
    (qg : ∀ g env st T σ H v f d env' Q, noBor T → Rl S.G g env st (⟨v, f, d, false⟩ :: T) σ H → bindP p f d env = some env' → (∀ σ' H', Dif p.slots σ σ' → Rl S.G g env' st T σ' H' → Q σ' H') → tg' v σ H Q)
    (qt : ∀ g env st T σ H Q, noBor T → Rl S.G g env st T σ H → PostB S.G g env T σ (fun _ _ _ _ => False) Q (c env st) → tt σ H Q)
    (qe : ∀ g env st T σ H Q, noBor T → Rl S.G g env st T σ H → PostE S.G g env T σ (fun _ _ _ _ => False) Q (el env st) → te σ H Q)
    (ho : ∀ i ∈ p.slots, i ∈ own)
    (g : Gd) (env : Env) (st : Store) (T : List Tm) (σ : St) (H : Hp) (Q : VK) (hT : noBor T) (R : Rl S.G g env st T σ H) (h : PostE S.G g env T σ W Q (dLc di own p c el env st)) : tLc wi tg' tt te own σ H Q := by
  refine qi g env st T σ H _ hT R ?_
  unfold dLc at h
  cases e : di env st with
  | stuck => rw [e] at h; exact h.elim
  | exc c ds st1 => rw [e] at h; exact h
  | ok items st1 =>
    rw [e] at h
    obtain ⟨hc, h⟩ := bifT h id
    rw [Bool.and_eq_true] at hc
    intro J H1 keep g' bk IO R1 A hA
    have nbA : ∀ ds, noBor (keep ++ (⟨.ref A, .c .z, .con .lst ds, false⟩ :: T)) := fun ds => nb_app IO.nb (nb_cons hT)
    have line : 16777215 < sizeLine := by decide
    have hlen := Nat.le_of_ble_eq_true hc.2
    have outside : ∀ (i : Nat) x, env[i]? = some (some x) → i ∉ own := fun i x e hi => by
      have := List.all_eq_true.mp hc.1 i hi
      rw [e] at this
      cases this
    have R2 : Rl S.G g' env st1 (keep ++ (⟨.ref A, .c .z, .con .lst [], false⟩ :: T)) (wipe σ own) (upd H1 A (.lst [])) := by
      have r := RlB.new (B := fun _ _ => True) (v := .ref A) (f := .c .z) (d := .con .lst []) (n := one1 A) R1 (same_upd hA) (newp1 (o := .lst []) hA trivial) fun Fz am E _ => rep_lst E (.nil fun _ => rfl)
      have r2 : Rl S.G g' env st1 (keep ++ (⟨.ref A, .c .z, .con .lst [], false⟩ :: T)) σ (upd H1 A (.lst [])) := by
        obtain ⟨Fz, am, ne, nt, ns, h1, h2, h3, h4, h5⟩ := r
        exact ⟨Fz, am, ne, nt, ns, h1, h2.dim, h3, h4, h5⟩
      exact r2.resig (wipe_length _ _) (nones_wipe hc.1 σ)
    refine ⟨fun i m H => ∃ st acc, m = items.length - i ∧ i ≤ items.length ∧ acc.length ≤ i ∧ Rl S.G g' env st (keep ++ (⟨.ref A, .c .z, .con .lst acc, false⟩ :: T)) (wipe σ own) H ∧ PostE S.G g env T σ W Q (lcGo p c el (items.drop i) env st acc),
      ⟨items.length, st1, [], by omega, Nat.zero_le _, Nat.le_refl _, R2, by simpa using h⟩, ?_⟩
    rintro i m H ⟨st, acc, rfl, hi, hacc, R, h⟩
    by_cases hlt : i < items.length
    · refine .inr ⟨IO.go i env st _ _ H R hlt, fun H' => ∃ st acc, i + 1 ≤ items.length ∧ acc.length ≤ i + 1 ∧ Rl S.G g' env st (keep ++ (⟨.ref A, .c .z, .con .lst acc, false⟩ :: T)) (wipe σ own) H' ∧ PostE S.G g env T σ W Q (lcGo p c el (items.drop (i + 1)) env st acc),
        fun H' ⟨st, acc, h1, h2, h3, h4⟩ => ⟨items.length - (i + 1), by omega, st, acc, rfl, h1, h2, h3, h4⟩, fun x H' y => ?_⟩
      have ei : items[i]? = some items[i] := List.getElem?_eq_getElem hlt
      have R3 := IO.yld i env st _ _ H x H' _ R y ei
      rw [List.drop_eq_getElem_cons hlt] at h
      unfold lcGo at h
      cases eb : bindP p .z items[i] env with
      | none => rw [eb] at h; exact h.elim
      | some env1 =>
        rw [eb] at h
        refine qg g' env st _ _ H' x .z items[i] env1 _ (nbA acc) R3 eb fun σ' H'' D' R4 => ⟨wipe_wipe D' ho, ?_⟩
        refine qt g' env1 st _ σ' H'' _ (nbA acc) R4 ?_
        dsimp only at h
        cases ec : c env1 st with
        | stuck => rw [ec] at h; exact h.elim
        | exc c ds st2 => rw [ec] at h; exact h.elim
        | ok b st2 =>
          rw [ec] at h
          intro H3 R5
          have back : ∀ {st : Store} {ds : List D} {H4 : Hp}, Rl S.G g' env1 st (keep ++ (⟨.ref A, .c .z, .con .lst ds, false⟩ :: T)) σ' H4 → Rl S.G g' env st (keep ++ (⟨.ref A, .c .z, .con .lst ds, false⟩ :: T)) (wipe σ own) H4 := fun {st ds H4} r => by
            obtain ⟨Fz, am, ne, nt, ns, h1, h2, h3, h4, h5⟩ := r
            have bd := bindP_dif p eb
            obtain ⟨n', k1, k2⟩ := h1.weak (env' := env) (σ'' := wipe σ own) bd.1.symm D'.1.symm fun i x e => ⟨by rw [bd.2 i fun z => outside i x e (ho i z)]; exact e, (D'.2 i fun z => outside i x e (ho i z)).symm⟩
            exact ⟨Fz, am, n', nt, ns, k1, h2.nb (nbA ds), h3, h4.less fun q => by have := k2 q; omega, trivial⟩
          cases b with
          | false => exact iteF ⟨st2, acc, hlt, by omega, back R5, h⟩
          | true =>
            refine iteT (qe g' env1 st2 _ σ' H3 _ (nbA acc) R5 ?_)
            dsimp only at h
            cases ee : el env1 st2 with
            | stuck => rw [ee] at h; exact h.elim
            | exc c ds st3 => rw [ee] at h; exact h.elim
            | ok f b d' st3 =>
              rw [ee] at h
              obtain ⟨hb, h⟩ := bifT h id
              intro y' H4 R6
              have R7 := (R6.unb hb).frz
              obtain ⟨vs, e1, e2, R8⟩ := Rl.appT (RlB.mid (l := ⟨y', .z, d', false⟩ :: keep) R7)
              refine ⟨vs, e1, by rw [e2]; omega, st3, acc ++ [d'], hlt, by rw [List.length_append]; simp; omega, back (by
                obtain ⟨Fz, am, ne, nt, ns, h1, h2, h3, h4, h5⟩ := R8
                exact ⟨Fz, am, ne, nt, ns, h1, h2.dim, h3, h4, h5⟩), h⟩
    · have e : i = items.length := by omega
      subst e
      rw [List.drop_length] at h
      refine .inl ⟨IO.stop _ env st _ _ H R rfl, h _ H ?_⟩
      exact Rl.resig (RlB.tail (R.back bk)) (by rw [wipe_length]) fun i x e => (nones_wipe hc.1 σ i x e).symm
end
end Hx

set_option Elab.async false
set_option linter.all false
set_option maxRecDepth 100000
set_option autoImplicit false
/-! F8: comprehensions as expressions, the rule for a def. -/
namespace Hx
open PySem PySem.Spec L2
open PyProof.Rows hiding St
section
variable {S : Sx} {e a b tg it elt : Expr} {ifs : List Expr} {es : List Expr} {da db el : Den} {das : DenL} {pos p' : Pos} {p : Pat} {di : DenI} {c : DenB} {scope : Scope} {own : List (Str × Nat)}
/-- the tests of a comprehension -/
def DIf (S : Sx) (ifs : List Expr) (c : DenB) : Prop := ∃ tt : TT, (∀ X, Stx S X → Takes X (fun _ _ _ _ => False) → PTs X ifs tt) ∧
  ∀ g env st T σ H Q, noBor T → Rl S.G g env st T σ H → PostB S.G g env T σ (fun _ _ _ _ => False) Q (c env st) → tt σ H Q
theorem dif_nil : DIf S [] dYes := ⟨_, fun X hX tk => pts_nil, fun g env st T σ H Q hT R h => h H R⟩
theorem dif_one (h : DT S a c) : DIf S [a] c := by
  obtain ⟨t, p, q⟩ := h fun _ _ _ _ => False
  exact ⟨t, fun X hX tk => pts_one (p X hX tk), q⟩
theorem de_lc (hi : DI S tg it di) (hg : DG (S.blk scope) tg p) (hc : DIf (S.blk scope) ifs c) (he : DE (S.blk scope) elt el) (ok : BlkOk S.N S.sc scope own) (ho : ∀ i ∈ p.slots, i ∈ own.map (·.2)) (hs : notSet it = true) :
    DE S (.ListComp elt [⟨tg, it, ifs, 0⟩] scope pos) (dLc di (own.map (·.2)) p c el) := fun W => by
  obtain ⟨wi, pi, qi⟩ := hi W
  obtain ⟨tg', pg, qg⟩ := hg
  obtain ⟨tt, pt, qt⟩ := hc
  obtain ⟨te, pe, qe⟩ := he fun _ _ _ _ => False
  refine ⟨tLc wi tg' tt te (own.map (·.2)), fun X hX tk => pe_lc hX.calm hX.nd (pi X hX tk) (by rw [hX.N, hX.sc]; exact ok) (fun s H C cl fp => pg _ (stx_blk hX s H scope C cl fp)) (fun s H C cl fp => pt _ (stx_blk hX s H scope C cl fp) L2.takes0) (fun s H C cl fp => pe _ (stx_blk hX s H scope C cl fp) L2.takes0) (notSet_fold hs),
    fun g env st T σ H Q hT R h => lc_run qi qg qt qe ho g env st T σ H Q hT R h⟩
theorem lcset_pre (hi : DI S tg it di) (hg : DG (S.blk scope) tg p) (hc : DIf (S.blk scope) ifs c) (he : DE (S.blk scope) elt el) (ok : BlkOk S.N S.sc scope own) (ho : ∀ i ∈ p.slots, i ∈ own.map (·.2)) (hs : notSet it = true)
    {i : Nat} {y : Str} {py spos : Pos} (hN : S.N[i]? = some y) (hyl : S.sc.names.lookup y = some .local) (hl : (py.line == pos.line) = true) (hk : S.sc.kind = .function) (ha : (scope.names.any fun (n, k) => n == y && (k == .local || k == .cell)) = false) (W : WX) :
    ∃ te : TE, (∀ X, Stx S X → Takes X W → PS X (.Assign [.Name y py] (.ListComp elt [⟨tg, it, ifs, 0⟩] scope pos) spos) (tAsg te (gName i))) ∧
      ∀ g env st T σ H Q, noBor T → Rl S.G g env st T σ H → PostE S.G g env T σ W Q (dLc di (own.map (·.2)) p c el env st) → te σ H Q := by
  obtain ⟨wi, pi, qi⟩ := hi W
  obtain ⟨tg', pg, qg⟩ := hg
  obtain ⟨tt, pt, qt⟩ := hc
  obtain ⟨te, pe, qe⟩ := he fun _ _ _ _ => False
  refine ⟨tLc wi tg' tt te (own.map (·.2)), fun X hX tk => ps_setLc hX.calm hX.nd (by rw [hX.N]; exact hN) (by rw [hX.sc]; exact hyl) (sw_true (by rw [hX.sc]; exact hk) (by rw [hX.sc]; exact hyl) hl ha) (pi X hX tk) (by rw [hX.N, hX.sc]; exact ok) (fun s H C cl fp => pg _ (stx_blk hX s H scope C cl fp)) (fun s H C cl fp => pt _ (stx_blk hX s H scope C cl fp) L2.takes0) (fun s H C cl fp => pe _ (stx_blk hX s H scope C cl fp) L2.takes0) (notSet_fold hs),
    fun g env st T σ H Q hT R h => lc_run qi qg qt qe ho g env st T σ H Q hT R h⟩
/-- name = [..] on one line, the name a local -/
theorem ds_setLc (hi : DI S tg it di) (hg : DG (S.blk scope) tg p) (hc : DIf (S.blk scope) ifs c) (he : DE (S.blk scope) elt el) (ok : BlkOk S.N S.sc scope own) (ho : ∀ i ∈ p.slots, i ∈ own.map (·.2)) (hs : notSet it = true)
    {i : Nat} {y : Str} {py spos : Pos} (hN : S.N[i]? = some y) (hyl : S.sc.names.lookup y = some .local) (hl : (py.line == pos.line) = true) (hk : S.sc.kind = .function) (ha : (scope.names.any fun (n, k) => n == y && (k == .local || k == .cell)) = false) :
    DS S (.Assign [.Name y py] (.ListComp elt [⟨tg, it, ifs, 0⟩] scope pos) spos) (dSet i (dLc di (own.map (·.2)) p c el)) := fun W => by
  obtain ⟨te, p, q⟩ := lcset_pre hi hg hc he ok ho hs hN hyl hl hk ha W
  exact ⟨_, p, fun g env st T σ H D hT R h => dset_run q g env st T σ H D hT R h⟩
theorem ds_setLcZ (hi : DI S tg it di) (hg : DG (S.blk scope) tg p) (hc : DIf (S.blk scope) ifs c) (he : DE (S.blk scope) elt el) (ok : BlkOk S.N S.sc scope own) (ho : ∀ i ∈ p.slots, i ∈ own.map (·.2)) (hs : notSet it = true)
    {i : Nat} {y : Str} {py spos : Pos} (hN : S.N[i]? = some y) (hyl : S.sc.names.lookup y = some .local) (hl : (py.line == pos.line) = true) (hk : S.sc.kind = .function) (ha : (scope.names.any fun (n, k) => n == y && (k == .local || k == .cell)) = false) :
    DS S (.Assign [.Name y py] (.ListComp elt [⟨tg, it, ifs, 0⟩] scope pos) spos) (dSetZ i (dLc di (own.map (·.2)) p c el)) := fun W => by
  obtain ⟨te, p, q⟩ := lcset_pre hi hg hc he ok ho hs hN hyl hl hk ha W
  exact ⟨_, p, fun g env st T σ H D hT R h => dsetZ_run q g env st T σ H D hT R h⟩
/-- a variable or cell: a comprehension stored in a name that is a cell goes the plain way -/
theorem swaps_cell {elt : Expr} {gs : List Comprehension} {scope : Scope} {pos py : Pos} {y : Str} {l : Nat} {env : PySem.Env} (h : env.scope.names.lookup y = some .cell) : swapsWith (.ListComp elt gs scope pos) (some (.Name y py)) l env = pure false := by
  unfold swapsWith
  have h2 : (env.kindOf y == some .local) = false := by
    show (env.scope.names.lookup y == some .local) = false
    rw [h]; rfl
  simp only [h2, Bool.and_false, Bool.false_and]
theorem ds_setC {i : Nat} {x : Str} {p q : Pos} {elt : Expr} {gs : List Comprehension} {scope : Scope} (hN : S.N[i]? = some x) (hx : S.sc.names.lookup x = some .cell) (hf : S.fnA = true) (ha : DE S (.ListComp elt gs scope q) da) : DS S (.Assign [.Name x p] (.ListComp elt gs scope q) pos) (dSet i da) := fun W => by
  obtain ⟨t, p, q⟩ := ha W
  exact ⟨_, fun X hX tk => ps_set hX.nd (by rw [hX.N]; exact hN) (by rw [hX.sc]; exact .inr hx) (p X hX tk) (swaps_cell (by rw [hX.sc]; exact hx)) (stx_fn hX (.inl hf)), fun g env st T σ H D hT R h => dset_run q g env st T σ H D hT R h⟩
theorem ds_setCZ {i : Nat} {x : Str} {p q : Pos} {elt : Expr} {gs : List Comprehension} {scope : Scope} (hN : S.N[i]? = some x) (hx : S.sc.names.lookup x = some .cell) (hf : S.fnA = true) (ha : DE S (.ListComp elt gs scope q) da) : DS S (.Assign [.Name x p] (.ListComp elt gs scope q) pos) (dSetZ i da) := fun W => by
  obtain ⟨t, p, q⟩ := ha W
  exact ⟨_, fun X hX tk => ps_set hX.nd (by rw [hX.N]; exact hN) (by rw [hX.sc]; exact .inr hx) (p X hX tk) (swaps_cell (by rw [hX.sc]; exact hx)) (stx_fn hX (.inl hf)), fun g env st T σ H D hT R h => dsetZ_run q g env st T σ H D hT R h⟩
end

/-! ### a def -/
@[simp] def start0 (n : Nat) (as : List (Fr × D)) : Env := as.map some ++ List.replicate (n - as.length) none
/-- what the body of a def comes to -/
@[simp] def dBody (n : Nat) (b : DenS) : Fn := fun as st => match b (start0 n as) st with
  | .rt f d st1 => .ok f false d st1
  | .nx _ st1 => .ok .z false .non st1
  | .exc c ds _ st1 => .exc c ds st1
  | _ => .stuck
theorem env_start {G : Sg} {Fz : Addr → Prop} {am : List Addr} {H : Hp} {m : Nat} : ∀ {as : List (Fr × D)} {vs : List V} {n : Fp}, Reps G Fz am H (as.map (·.1)) vs (as.map (·.2)) n →
    EnvR G Fz am H (as.map some ++ List.replicate m none) (vs.map some ++ List.replicate m none) n := by
  intro as
  induction as with
  | nil =>
    intro vs n r
    cases r with
    | nil h =>
      show EnvR G Fz am H (List.replicate m none) (List.replicate m none) n
      induction m with
      | zero => exact .nil h
      | succ m ih => rw [List.replicate_succ, List.replicate_succ]; exact .non ih
  | cons a as ih =>
    intro vs n r
    obtain ⟨f, d⟩ := a
    cases r with
    | cons h1 h2 h3 => exact .som h1 (ih h2) h3
/-- what stands of a def behind the top -/
theorem ok_fn {S : Sx} {x qual : Str} {params : Arguments} {body : List Stmt} {dvs : List V} {kws : List (Str × V)} {f : Addr} {fd : FuncData} {ps : List Str} {db : DenS} (F : FunD S.G.K x qual params body S.sc dvs kws f fd) (Sc : FnScope S.N ps S.sc) (hb : DSs S body db) (hf : S.fnA = true) (hmk : S.lmk = none := by rfl) :
    FnOk S.P S.w S.G.K S.mg S.base (L2.CX S.P S.w) (S.k + 1) f fd ps (SpF S.G ps.length (dBody S.N.length db)) := by
  refine F.ok Sc (fun vs H Q E h => h.1) fun cdv A outer s H vs Q E hr h => ?_
  obtain ⟨hl, Fz, am, as, st, na, ns, h1, h2, h3, h4⟩ := h
  obtain ⟨t, pt, qt⟩ := hb fun cls d _ H => E cls d H
  have hX : Stx S (cxOf (L2.CX S.P S.w) S.P S.w S.G.K S.mg S.base S.N qual S.sc f cdv A outer s H E) := ⟨rfl, rfl, rfl, rfl, rfl, rfl, rfl, Sc.nd, rfl, hr, passes_of rfl, fun _ _ => rfl, fun _ => ⟨rfl, rfl⟩, fun c q h => by rw [hmk] at h; cases h⟩
  refine ⟨t, pt _ hX (takes_of rfl rfl rfl rfl), ?_⟩
  have la : as.length = vs.length := by have := h1.len; simpa using this.2.symm
  refine qt ⟨H, fun p => 0 < na p + ns p, Fz, am⟩ (start0 S.N.length as) st [] (L2.start S.N vs) H _ (fun a ha => by cases ha) ⟨Fz, am, na, fun _ => 0, ns, ?_, .nil fun _ => rfl, h2, h3.less fun q => by show na q + 0 + ns q ≤ _; omega, trivial⟩ ?_
  · unfold start0 L2.start
    rw [la]
    exact env_start h1
  · unfold dBody at h4
    cases e : db (start0 S.N.length as) st with
    | stuck => rw [e] at h4; exact h4.elim
    | bk env1 st1 => rw [e] at h4; exact h4.elim
    | ct env1 st1 => rw [e] at h4; exact h4.elim
    | rt f d st1 => rw [e] at h4; exact h4.2
    | nx env1 st1 => rw [e] at h4; exact fun σ' H' R => h4.2 .non H' (Rl.ret (b := false) (Rl.scal (v := .non) (d := .non) R trivial) rfl)
    | exc c ds env1 st1 =>
      rw [e] at h4
      intro σ' cls dx H' R
      refine h4 cls dx H' ?_
      obtain ⟨Fz', am', ne, nt, ns', k1, k2, k3, k4, k5⟩ := R
      cases k2 with
      | nil h0 => exact ⟨Fz', am', fun _ => 0, fun _ => 0, ns', .nil fun _ => rfl, .nil fun _ => rfl, k3, k4.less fun q => by show 0 + 0 + ns' q ≤ _; omega, k5⟩
end Hx

set_option Elab.async false
set_option linter.all false
set_option maxRecDepth 100000
set_option autoImplicit false
/-! F9: operators by cases. -/
namespace Hx
open PySem PySem.Spec L2
open PyProof.Rows hiding St

section
variable {G : Sg} {Fz : Addr → Prop} {am : List Addr} {H H' : Hp} {v : V}
theorem View.int {i : Int} (h : View G Fz am H v (.int i)) : v = .int i := by
  cases v <;> first | exact congrArg V.int h | exact h.elim
theorem View.bl {i : Bool} (h : View G Fz am H v (.bl i)) : v = .bl i := by
  cases v <;> first | exact congrArg V.bl h | exact h.elim
theorem View.str {i : Str} (h : View G Fz am H v (.str i)) : v = .str i := by
  cases v <;> first | exact congrArg V.str h | exact h.elim
theorem View.non (h : View G Fz am H v .non) : v = .non := by
  cases v <;> first | rfl | exact h.elim
theorem View.fnv {k : Addr} {j : Nat} (h : View G Fz am H v (.fnv k j)) : v = .ref k := by
  cases v <;> exact h
theorem View.tup {ds : List D} (h : View G Fz am H v (.con .tup ds)) : ∃ p vs, v = .ref p ∧ SqT G.K H p vs ∧ Reps G Fz am H (zs ds.length) vs ds (fun _ => 0) := h
def Kd.seq : Kd → Bool
  | .tup => true
  | .lst => true
  | .frl => true
  | _ => false
def Kd.sq : Kd → Bool
  | .lst => true
  | .frl => true
  | _ => false
theorem View.sq {k : Kd} {ds : List D} (hk : k.sq = true) (h : View G Fz am H v (.con k ds)) : ∃ p vs, v = .ref p ∧ SqL G.K H p vs ∧ Reps G Fz am H (zs ds.length) vs ds (fun _ => 0) := by
  obtain ⟨p, vs, e, r, s⟩ := h
  cases k with
  | lst =>
    obtain ⟨o, r1, r2⟩ := r
    have e2 : o = .lst vs := r2
    subst e2
    exact ⟨p, vs, e, .inl (.inl r1), s⟩
  | frl => exact ⟨p, vs, e, r, s⟩
  | _ => cases hk
theorem View.seq {k : Kd} {ds : List D} (hk : k.seq = true) (h : View G Fz am H v (.con k ds)) : ∃ p vs, v = .ref p ∧ (SqL G.K H p vs ∨ SqT G.K H p vs) ∧ Reps G Fz am H (zs ds.length) vs ds (fun _ => 0) := by
  cases k with
  | tup =>
    obtain ⟨p, vs, e, r, s⟩ := h.tup
    exact ⟨p, vs, e, .inr r, s⟩
  | lst =>
    obtain ⟨p, vs, e, r, s⟩ := h.sq rfl
    exact ⟨p, vs, e, .inl r, s⟩
  | frl =>
    obtain ⟨p, vs, e, r, s⟩ := h.sq rfl
    exact ⟨p, vs, e, .inl r, s⟩
  | _ => cases hk
/-- a tracked list -/
theorem View.lst {ds : List D} (h : View G Fz am H v (.con .lst ds)) : ∃ p vs, v = .ref p ∧ H p = some (.lst vs) ∧ Reps G Fz am H (zs ds.length) vs ds (fun _ => 0) := by
  obtain ⟨p, vs, e, ⟨o, r1, r2⟩, s⟩ := h
  have e2 : o = .lst vs := r2
  subst e2
  exact ⟨p, vs, e, r1, s⟩
theorem View.nonI {d : D} (h : View G Fz am H v d) (hf : ∀ k j, d ≠ .fnv k j) : (v = .non) = (d = .non) := by
  cases d with
  | non => rw [h.non]; simp
  | fnv k j => exact absurd rfl (hf k j)
  | con k ds => obtain ⟨p, vs, e, _⟩ := h; subst e; simp
  | ref i => obtain ⟨p, e, _⟩ := h; subst e; simp
  | int i => rw [h.int]; simp
  | bl i => rw [h.bl]; simp
  | str i => rw [h.str]; simp
theorem Vws.two {vs : List V} {a b : D} (h : Vws G Fz am H vs [a, b]) : ∃ v w, vs = [v, w] ∧ View G Fz am H v a ∧ View G Fz am H w b := by
  cases h with
  | cons h1 h2 =>
    cases h2 with
    | cons h3 h4 => cases h4; exact ⟨_, _, rfl, h1, h3⟩
theorem Vws.one {vs : List V} {a : D} (h : Vws G Fz am H vs [a]) : ∃ v, vs = [v] ∧ View G Fz am H v a := by
  cases h with
  | cons h1 h2 => cases h2; exact ⟨_, rfl, h1⟩
theorem reps_at {ds : List D} {vs : List V} {d : D} {i : Int} (r : Reps G Fz am H (zs ds.length) vs ds (fun _ => 0)) (h : atI ds i = some d) : ∃ v, atI vs i = some v ∧ Rep G Fz am H .z v d (fun _ => 0) := by
  unfold atI at h ⊢
  rw [r.len.2]
  cases e : ixN ds.length i with
  | none => rw [e] at h; cases h
  | some j =>
    rw [e] at h
    have h2 : ds[j]? = some d := h
    have hj : j < vs.length := by rw [r.len.2]; exact (List.getElem?_eq_some_iff.mp h2).1
    exact ⟨vs[j], List.getElem?_eq_getElem hj, reps_get r (List.getElem?_eq_getElem hj) h2⟩
end

section
variable {G : Sg}
/-- an operation upon two ints -/
@[simp] def oI2 (f : Int → Int → Option D) : Op := fun ds => match ds with
  | [.int i, .int j] => (f i j).map fun d => (.z, d)
  | _ => none
theorem v_I2 {C : Int → Int → Prop} {g : Int → Int → V} {f : Int → Int → Option D} (hf : ∀ i j d, f i j = some d → C i j ∧ Scal G (g i j) d) : VOp G (l2 (rI C g)) (oI2 f) := fun Fz am H vs ds fr d Q h1 h2 h3 => by
  unfold oI2 at h2
  split at h2
  · obtain ⟨v, w, rfl, a, b⟩ := h1.two
    obtain ⟨d', e1, e2⟩ := Option.map_eq_some_iff.mp h2
    cases e2
    obtain ⟨c, s⟩ := hf _ _ _ e1
    exact ⟨_, _, a.int, b.int, c, h3 _ H _ (same_refl H) newp0 (.sc s fun _ => rfl)⟩
  · cases h2
theorem v_I0 {g : Int → Int → V} {f : Int → Int → Option D} (hf : ∀ i j d, f i j = some d → Scal G (g i j) d) : VOp G (l2 (rI0 g)) (oI2 f) :=
  (v_I2 (C := fun _ _ => True) fun i j d e => ⟨trivial, hf i j d e⟩).imp fun vs H Q ⟨i, j, a, b, _, q⟩ => ⟨i, j, a, b, q⟩
/-- an operation upon one value whose answer is a scalar -/
@[simp] def oS1 (f : D → Option D) : Op := fun ds => match ds with
  | [a] => (f a).map fun d => (.z, d)
  | _ => none
@[simp] def oS2 (f : D → D → Option D) : Op := fun ds => match ds with
  | [a, b] => (f a b).map fun d => (.z, d)
  | _ => none
theorem v_S2 {r : R2} {f : D → D → Option D} (hf : ∀ Fz am H v w a b d Q, View G Fz am H v a → View G Fz am H w b → f a b = some d → (∀ x, Scal G x d → Q x H) → r v w H Q) : VOp G (l2 r) (oS2 f) := fun Fz am H vs ds fr d Q h1 h2 h3 => by
  unfold oS2 at h2
  split at h2
  · obtain ⟨v, w, rfl, a, b⟩ := h1.two
    obtain ⟨d', e1, e2⟩ := Option.map_eq_some_iff.mp h2
    cases e2
    exact hf _ _ _ _ _ _ _ _ _ a b e1 fun x s => h3 _ H _ (same_refl H) newp0 (.sc s fun _ => rfl)
  · cases h2
theorem v_S1 {r : V → Hp → VK → Prop} {f : D → Option D} (hf : ∀ Fz am H v a d Q, View G Fz am H v a → f a = some d → (∀ x, Scal G x d → Q x H) → r v H Q) : VOp G (l1 r) (oS1 f) := fun Fz am H vs ds fr d Q h1 h2 h3 => by
  unfold oS1 at h2
  split at h2
  · obtain ⟨v, rfl, a⟩ := h1.one
    obtain ⟨d', e1, e2⟩ := Option.map_eq_some_iff.mp h2
    cases e2
    exact hf _ _ _ _ _ _ _ a e1 fun x s => h3 _ H _ (same_refl H) newp0 (.sc s fun _ => rfl)
  · cases h2
theorem v_C1 {r : List V → Hp → VK → Prop} {f : D → Option D} (hf : ∀ Fz am H v a d Q, View G Fz am H v a → f a = some d → (∀ x, Scal G x d → Q x H) → r [v] H Q) : VOp G r (oS1 f) := fun Fz am H vs ds fr d Q h1 h2 h3 => by
  unfold oS1 at h2
  split at h2
  · obtain ⟨v, rfl, a⟩ := h1.one
    obtain ⟨d', e1, e2⟩ := Option.map_eq_some_iff.mp h2
    cases e2
    exact hf _ _ _ _ _ _ _ a e1 fun x s => h3 _ H _ (same_refl H) newp0 (.sc s fun _ => rfl)
  · cases h2
theorem v_C2 {r : List V → Hp → VK → Prop} {f : D → D → Option D} (hf : ∀ Fz am H v w a b d Q, View G Fz am H v a → View G Fz am H w b → f a b = some d → (∀ x, Scal G x d → Q x H) → r [v, w] H Q) : VOp G r (oS2 f) := fun Fz am H vs ds fr d Q h1 h2 h3 => by
  unfold oS2 at h2
  split at h2
  · obtain ⟨v, w, rfl, a, b⟩ := h1.two
    obtain ⟨d', e1, e2⟩ := Option.map_eq_some_iff.mp h2
    cases e2
    exact hf _ _ _ _ _ _ _ _ _ a b e1 fun x s => h3 _ H _ (same_refl H) newp0 (.sc s fun _ => rfl)
  · cases h2

/-! ### arithmetic -/
@[simp] def oAddI : Op := oI2 fun i j => some (.int (i + j))
@[simp] def oSubI : Op := oI2 fun i j => some (.int (i - j))
def mulOk (i j : Int) : Bool := decide (i.natAbs.log2 + j.natAbs.log2 < 1000000)
@[simp] def oMulI : Op := oI2 fun i j => bif mulOk i j then some (.int (i * j)) else none
def divOk (j : Int) : Bool := decide (j ≠ 0) && decide (j.natAbs.log2 < 9000)
@[simp] def oFdiv : Op := oI2 fun i j => bif divOk j then some (.int (i.fdiv j)) else none
@[simp] def oMod : Op := oI2 fun i j => bif decide (j ≠ 0) then some (.int (i.fmod j)) else none
def powOk (i j : Int) : Bool := decide (0 ≤ j) && decide (j ≤ 1000000) && decide (i.natAbs < 18446744073709551616)
@[simp] def oPow : Op := oI2 fun i j => bif powOk i j then some (.int (i ^ j.toNat)) else none
theorem v_addI : VOp G (l2 (rI0 fun i j => .int (i + j))) oAddI := v_I0 fun i j d e => by cases e; rfl
theorem v_subI : VOp G (l2 (rI0 fun i j => .int (i - j))) oSubI := v_I0 fun i j d e => by cases e; rfl
theorem bifS {α : Type} {c : Bool} {a b : α} (h : (bif c then some a else none) = some b) : c = true ∧ a = b := by
  cases c with
  | true => exact ⟨rfl, Option.some.inj h⟩
  | false => cases h
theorem v_mulI : VOp G (l2 (rI CMulW fun i j => .int (i * j))) oMulI := v_I2 fun i j d e => by
  obtain ⟨c, e⟩ := bifS e
  subst e
  exact ⟨by simpa [mulOk, CMulW] using c, rfl⟩
def CDivF (_ j : Int) : Prop := j ≠ 0 ∧ j.natAbs.log2 < 9000
theorem op_fdivF {X : Cx} : OpR X (binaryOp .FloorDiv) (rI CDivF fun i j => .int (i.fdiv j)) := opI fun i j _ _ _ _ _ hc q => floordiv_int hc.1 q (.inl (PyProof.noPylong_of_log2 hc.2))
theorem v_fdiv : VOp G (l2 (rI CDivF fun i j => .int (i.fdiv j))) oFdiv := v_I2 fun i j d e => by
  obtain ⟨c, e⟩ := bifS e
  subst e
  simp only [divOk, Bool.and_eq_true, decide_eq_true_eq] at c
  exact ⟨c, rfl⟩
theorem v_mod : VOp G (l2 (rI (fun _ j => j ≠ 0) fun i j => .int (i.fmod j))) oMod := v_I2 fun i j d e => by
  obtain ⟨c, e⟩ := bifS e
  subst e
  exact ⟨of_decide_eq_true c, rfl⟩
theorem v_pow : VOp G (l2 (rI CPow fun i j => .int (i ^ j.toNat))) oPow := v_I2 fun i j d e => by
  obtain ⟨c, e⟩ := bifS e
  subst e
  simp only [powOk, Bool.and_eq_true, decide_eq_true_eq] at c
  exact ⟨⟨c.1.1, c.1.2, by have := c.2; omega⟩, rfl⟩
@[simp] def oNeg : Op := oS1 fun a => match a with
  | .int i => some (.int (-i))
  | _ => none
theorem v_neg : VOp G (l1 (rU fun i => .int (-i))) oNeg := v_S1 fun Fz am H v a d Q h e q => by
  split at e
  · cases e; exact ⟨_, h.int, q _ rfl⟩
  · cases e
@[simp] def oLt : Op := oI2 fun i j => some (.bl (decide (i < j)))
@[simp] def oLe : Op := oI2 fun i j => some (.bl (decide (i ≤ j)))
@[simp] def oGt : Op := oI2 fun i j => some (.bl (decide (j < i)))
@[simp] def oGe : Op := oI2 fun i j => some (.bl (decide (j ≤ i)))
theorem v_lt : VOp G (l2 (rI0 fun i j => .bl (decide (i < j)))) oLt := v_I0 fun i j d e => by cases e; rfl
theorem v_le : VOp G (l2 (rI0 fun i j => .bl (decide (i ≤ j)))) oLe := v_I0 fun i j d e => by cases e; rfl
theorem v_gt : VOp G (l2 (rI0 fun i j => .bl (decide (j < i)))) oGt := v_I0 fun i j d e => by cases e; rfl
theorem v_ge : VOp G (l2 (rI0 fun i j => .bl (decide (j ≤ i)))) oGe := v_I0 fun i j d e => by cases e; rfl

/-- bool - bool -/
def rSubB : R2 := fun x y H Q => ∃ i j, x = .bl i ∧ y = .bl j ∧ Q (.int ((if i then 1 else 0) - (if j then 1 else 0))) H
theorem op_subB {X : Cx} : OpR X (binaryOp .Sub) rSubB := by
  intro pins s σ H x y v u Q I rx ry h
  obtain ⟨i, j, rfl, rfl, q⟩ := h
  cases rx
  cases ry
  exact sub_bool ⟨.int _, H, I.tok _, ⟨_, rfl⟩, q⟩
@[simp] def oSubB : Op := oS2 fun a b => match a, b with
  | .bl i, .bl j => some (.int ((if i then 1 else 0) - (if j then 1 else 0)))
  | _, _ => none
theorem v_subB : VOp G (l2 rSubB) oSubB := v_S2 fun Fz am H v w a b d Q h1 h2 e q => by
  split at e
  · cases e; rw [h1.bl, h2.bl]; exact ⟨_, _, rfl, rfl, q _ rfl⟩
  · cases e
@[simp] def oSub : Op := orOp oSubI oSubB
/-! ### equality -/
mutual
def D.py : D → Option PyData
  | .non => some .none
  | .bl b => some (.bool b)
  | .int i => some (.int i)
  | .str s => some (.str s)
  | .con .tup ds => (D.pys ds).map PyData.tuple
  | .con .lst ds => (D.pys ds).map PyData.list
  | .con .frl ds => (D.pys ds).map PyData.list
  | _ => none
def D.pys : List D → Option (List PyData)
  | [] => some []
  | d :: ds => match D.py d, D.pys ds with
    | some a, some b => some (a :: b)
    | _, _ => none
end
section
variable {Fz : Addr → Prop} {am : List Addr} {H : Hp}
mutual
theorem rep_dp : ∀ (d : D) {f : Fr} {v : V} {n : Fp} {e : PyData}, Rep G Fz am H f v d n → d.py = some e → Dp G.K H v e
  | .non, f, v, n, e, r, h => by
    cases r with
    | sc s _ => unfold D.py at h; cases h; cases v <;> first | exact .non | exact s.elim
  | .bl b, f, v, n, e, r, h => by
    cases r with
    | sc s _ => unfold D.py at h; cases h; cases v <;> first | (cases (show _ = b from s); exact .bl _) | exact s.elim
  | .int b, f, v, n, e, r, h => by
    cases r with
    | sc s _ => unfold D.py at h; cases h; cases v <;> first | (cases (show _ = b from s); exact .int _) | exact s.elim
  | .str b, f, v, n, e, r, h => by
    cases r with
    | sc s _ => unfold D.py at h; cases h; cases v <;> first | (cases (show _ = b from s); exact .str _) | exact s.elim
  | .fnv k j, f, v, n, e, r, h => by unfold D.py at h; cases h
  | .ref k, f, v, n, e, r, h => by unfold D.py at h; cases h
  | .con .tup ds, f, v, n, e, r, h => by
    unfold D.py at h
    obtain ⟨es, e1, e2⟩ := Option.map_eq_some_iff.mp h
    subst e2
    cases r with
    | sc s _ => cases v <;> exact s.elim
    | zz a b c => exact .tup a (reps_dp ds b e1)
    | tp a b => exact .tup a (reps_dp ds b e1)
    | cc a b c => exact absurd rfl a.1.1
  | .con .lst ds, f, v, n, e, r, h => by
    unfold D.py at h
    obtain ⟨es, e1, e2⟩ := Option.map_eq_some_iff.mp h
    subst e2
    cases r with
    | sc s _ => cases v <;> exact s.elim
    | zz a b c =>
      obtain ⟨_, o, a1, a2⟩ := a
      have e2 : o = .lst _ := a2
      subst e2
      exact .lst (.inl (.inl a1)) (reps_dp ds b e1)
    | cc a b c =>
      obtain ⟨_, o, a1, a2⟩ := a
      have e2 : o = .lst _ := a2
      subst e2
      exact .lst (.inl (.inl a1)) (reps_dp ds b e1)
  | .con .frl ds, f, v, n, e, r, h => by
    unfold D.py at h
    obtain ⟨es, e1, e2⟩ := Option.map_eq_some_iff.mp h
    subst e2
    cases r with
    | sc s _ => cases v <;> exact s.elim
    | zz a b c =>
      refine .lst ?_ (reps_dp ds b e1)
      rcases a with ⟨_, h⟩ | (h | ⟨_, h⟩) | h
      · exact .inl h
      · cases h
      · cases h
      · exact .inr h
    | cc a b c => exact absurd rfl a.1.2
  | .con (.dik ks) ds, f, v, n, e, r, h => by unfold D.py at h; cases h
  | .con (.dit ks) ds, f, v, n, e, r, h => by unfold D.py at h; cases h
  | .con (.ins c) ds, f, v, n, e, r, h => by unfold D.py at h; cases h
theorem reps_dp : ∀ (ds : List D) {fs : List Fr} {vs : List V} {n : Fp} {es : List PyData}, Reps G Fz am H fs vs ds n → D.pys ds = some es → DpAll G.K H vs es
  | [], fs, vs, n, es, r, h => by
    cases r
    unfold D.pys at h
    cases h
    exact .nil
  | d :: ds, fs, vs, n, es, r, h => by
    unfold D.pys at h
    split at h
    · rename_i a b ea eb
      cases h
      cases r with
      | cons r1 r2 _ => exact .cons (rep_dp d r1 ea) (reps_dp ds r2 eb)
    · cases h
end
theorem view_dp {d : D} {v : V} {e : PyData} (h : View G Fz am H v d) (he : d.py = some e) : Dp G.K H v e := by
  have main : ∀ {k : Kd} {ds : List D}, k.seq = true → View G Fz am H v (.con k ds) → ∀ {es}, D.pys ds = some es → ((k = .tup → Dp G.K H v (.tuple es)) ∧ (k.sq = true → Dp G.K H v (.list es))) := fun {k ds} hk h {es} e1 => by
    constructor
    · intro e
      subst e
      obtain ⟨p, vs, rfl, r, s⟩ := h.tup
      exact .tup r (reps_dp ds s e1)
    · intro e
      obtain ⟨p, vs, rfl, r, s⟩ := h.sq e
      exact .lst r (reps_dp ds s e1)
  cases d with
  | non => unfold D.py at he; cases he; rw [h.non]; exact .non
  | bl b => unfold D.py at he; cases he; rw [h.bl]; exact .bl _
  | int b => unfold D.py at he; cases he; rw [h.int]; exact .int _
  | str b => unfold D.py at he; cases he; rw [h.str]; exact .str _
  | fnv k j => unfold D.py at he; cases he
  | ref k => unfold D.py at he; cases he
  | con k ds =>
    cases k with
    | tup =>
      unfold D.py at he
      obtain ⟨es, e1, e2⟩ := Option.map_eq_some_iff.mp he
      subst e2
      exact (main rfl h e1).1 rfl
    | lst =>
      unfold D.py at he
      obtain ⟨es, e1, e2⟩ := Option.map_eq_some_iff.mp he
      subst e2
      exact (main rfl h e1).2 rfl
    | frl =>
      unfold D.py at he
      obtain ⟨es, e1, e2⟩ := Option.map_eq_some_iff.mp he
      subst e2
      exact (main rfl h e1).2 rfl
    | dik ks => unfold D.py at he; cases he
    | dit ks => unfold D.py at he; cases he
    | ins c => unfold D.py at he; cases he
end
/-- equality as data -/
def eqD (a b : D) : Option Bool := match a.py, b.py with
  | some x, some y => bif SeqAt.shaped x && SeqAt.shaped y then some (PyData.eqv x y) else none
  | _, _ => none
@[simp] def oEq : Op := oS2 fun a b => (eqD a b).map D.bl
@[simp] def oNe : Op := oS2 fun a b => (eqD a b).map fun c => D.bl (!c)
theorem eqD_some {a b : D} {c : Bool} (h : eqD a b = some c) : ∃ x y, a.py = some x ∧ b.py = some y ∧ SeqAt.shaped x = true ∧ SeqAt.shaped y = true ∧ PyData.eqv x y = c := by
  unfold eqD at h
  split at h
  · rename_i x y e1 e2
    obtain ⟨c1, c2⟩ := bifS h
    rw [Bool.and_eq_true] at c1
    exact ⟨x, y, e1, e2, c1.1, c1.2, c2⟩
  · cases h
theorem v_eq : VOp G (l2 (rEqD G.K)) oEq := v_S2 fun Fz am H v w a b d Q h1 h2 e q => by
  obtain ⟨c, e1, e2⟩ := Option.map_eq_some_iff.mp e
  subst e2
  obtain ⟨x, y, a1, a2, a3, a4, a5⟩ := eqD_some e1
  exact ⟨x, y, view_dp h1 a1, view_dp h2 a2, a3, a4, q _ a5⟩
theorem v_ne : VOp G (l2 (rNeD G.K)) oNe := v_S2 fun Fz am H v w a b d Q h1 h2 e q => by
  obtain ⟨c, e1, e2⟩ := Option.map_eq_some_iff.mp e
  subst e2
  obtain ⟨x, y, a1, a2, a3, a4, a5⟩ := eqD_some e1
  refine ⟨x, y, view_dp h1 a1, view_dp h2 a2, a3, a4, q _ ?_⟩
  rw [a5]
  exact rfl
/-- is None -/
@[simp] def isN (a : D) : Option Bool := match a with
  | .non => some true
  | .fnv _ _ => none
  | _ => some false
@[simp] def oIsN : Op := oS2 fun a b => match b with
  | .non => (isN a).map D.bl
  | _ => none
@[simp] def oNotN : Op := oS2 fun a b => match b with
  | .non => (isN a).map fun c => D.bl (!c)
  | _ => none
theorem isN_some {a : D} {c : Bool} (h : isN a = some c) : (∀ k j, a ≠ .fnv k j) ∧ (a = .non ↔ c = true) := by
  cases a <;> simp_all [isN]
theorem v_isN : VOp G (l2 fun x y H Q => y = .non ∧ Q (.bl (decide (x = .non))) H) oIsN := v_S2 fun Fz am H v w a b d Q h1 h2 e q => by
  split at e
  · obtain ⟨c, e1, e2⟩ := Option.map_eq_some_iff.mp e
    subst e2
    obtain ⟨a1, a2⟩ := isN_some e1
    refine ⟨h2.non, q _ ?_⟩
    have := h1.nonI a1
    show decide (v = .non) = c
    cases c <;> simp_all
  · cases e
theorem v_notN : VOp G (l2 fun x y H Q => y = .non ∧ Q (.bl (!decide (x = .non))) H) oNotN := v_S2 fun Fz am H v w a b d Q h1 h2 e q => by
  split at e
  · obtain ⟨c, e1, e2⟩ := Option.map_eq_some_iff.mp e
    subst e2
    obtain ⟨a1, a2⟩ := isN_some e1
    refine ⟨h2.non, q _ ?_⟩
    have := h1.nonI a1
    show (!decide (v = .non)) = !c
    cases c <;> simp_all
  · cases e

/-! ### sequences -/
@[simp] def oIxS : Op := fun ds => match ds with
  | [.con k xs, .int i] => bif k.seq then (atI xs i).map fun d => (.z, d) else none
  | _ => none
theorem v_ix : VOp G (l2 (rIx G.K)) oIxS := fun Fz am H vs ds fr d Q h1 h2 h3 => by
  unfold oIxS at h2
  split at h2
  · rename_i k xs i
    obtain ⟨v, w, rfl, a, b⟩ := h1.two
    cases hk : k.seq with
    | false => rw [hk] at h2; cases h2
    | true =>
      rw [hk] at h2
      obtain ⟨d', e1, e2⟩ := Option.map_eq_some_iff.mp h2
      cases e2
      obtain ⟨p, ys, e, r, s⟩ := a.seq hk
      obtain ⟨x, e3, r3⟩ := reps_at s e1
      have q := h3 x H _ (same_refl H) newp0 r3
      rcases r with r | r
      · exact .inl ⟨p, ys, i, x, e, b.int, r, e3, q⟩
      · exact .inr (.inl ⟨p, ys, i, x, e, b.int, r, e3, q⟩)
  · cases h2
@[simp] def oLenS : Op := oS1 fun a => match a with
  | .con k xs => bif k.seq then some (.int xs.length) else none
  | _ => none
theorem v_len : VOp G (fun xs H Q => ∃ p ys, xs = [.ref p] ∧ (SqL G.K H p ys ∨ SqT G.K H p ys) ∧ Q (.int ys.length) H) oLenS := v_C1 fun Fz am H v a d Q h e q => by
  split at e
  · rename_i k xs
    obtain ⟨hk, e2⟩ := bifS e
    subst e2
    obtain ⟨p, ys, rfl, r, s⟩ := h.seq hk
    refine ⟨p, ys, rfl, r, q _ ?_⟩
    show (ys.length : Int) = xs.length
    rw [s.len.2]
  · cases e
/-- a new list -/
theorem fresh_lst {Fz : Addr → Prop} {am : List Addr} {H : Hp} {vs : List V} {ds : List D} {Q : VK} (s : Reps G Fz am H (zs ds.length) vs ds (fun _ => 0))
    (h : ∀ v H' n, Same H H' → Newp H H' n → Rep G Fz am H' (.c .z) v (.con .lst ds) n → Q v H') : ∀ p, H p = none → Q (.ref p) (upd H p (.lst vs)) := fun p hp =>
  h (.ref p) _ (one1 p) (same_upd hp) (newp1 hp trivial) (rep_lst (Ext.same (same_upd hp) fun _ h => h) s)
theorem fresh_tup {Fz : Addr → Prop} {am : List Addr} {H : Hp} {vs : List V} {ds : List D} {Q : VK} (s : Reps G Fz am H (zs ds.length) vs ds (fun _ => 0))
    (h : ∀ v H' n, Same H H' → Newp H H' n → Rep G Fz am H' .z v (.con .tup ds) n → Q v H') : ∀ p, H p = none → Q (.ref p) (upd H p (.tup vs)) := fun p hp =>
  h (.ref p) _ (fun _ => 0) (same_upd hp) newp0 (rep_tup (Ext.same (same_upd hp) fun _ h => h) s)
@[simp] def oList : Op := fun ds => match ds with
  | [.con k xs] => bif k.seq then some (.c .z, .con .lst xs) else none
  | _ => none
theorem v_list : VOp G (fun xs H Q => ∃ p ys, xs = [.ref p] ∧ (SqL G.K H p ys ∨ SqT G.K H p ys) ∧ ∀ l, H l = none → Q (.ref l) (upd H l (.lst ys))) oList := fun Fz am H vs ds fr d Q h1 h2 h3 => by
  unfold oList at h2
  split at h2
  · rename_i k xs
    obtain ⟨v, rfl, a⟩ := h1.one
    obtain ⟨hk, e2⟩ := bifS h2
    cases e2
    obtain ⟨p, ys, rfl, r, s⟩ := a.seq hk
    exact ⟨p, ys, rfl, r, fresh_lst s h3⟩
  · cases h2
@[simp] def oTuple : Op := fun ds => match ds with
  | [.con k xs] => bif k.seq then some (.z, .con .tup xs) else none
  | _ => none
theorem v_tuple : VOp G (fun xs H Q => ∃ p ys, xs = [.ref p] ∧ ((SqL G.K H p ys ∧ ∀ l, H l = none → Q (.ref l) (upd H l (.tup ys))) ∨ (SqT G.K H p ys ∧ Q (.ref p) H))) oTuple := fun Fz am H vs ds fr d Q h1 h2 h3 => by
  unfold oTuple at h2
  split at h2
  · rename_i k xs
    obtain ⟨v, rfl, a⟩ := h1.one
    obtain ⟨hk, e2⟩ := bifS h2
    cases e2
    cases k with
    | tup =>
      obtain ⟨p, ys, rfl, r, s⟩ := a.tup
      exact ⟨p, ys, rfl, .inr ⟨r, h3 _ H _ (same_refl H) newp0 (.zz (k := .tup) r s fun _ => rfl)⟩⟩
    | lst =>
      obtain ⟨p, ys, rfl, r, s⟩ := a.sq rfl
      exact ⟨p, ys, rfl, .inl ⟨r, fresh_tup s h3⟩⟩
    | frl =>
      obtain ⟨p, ys, rfl, r, s⟩ := a.sq rfl
      exact ⟨p, ys, rfl, .inl ⟨r, fresh_tup s h3⟩⟩
    | _ => cases hk
  · cases h2
/-! + by cases -/
@[simp] def oAddS : Op := oS2 fun a b => match a, b with
  | .str x, .str y => bif (x.length + y.length).ble 16777216 then some (.str (x ++ y)) else none
  | _, _ => none
theorem v_addS : VOp G (l2 fun x y H Q => ∃ i j, x = .str i ∧ y = .str j ∧ i.length + j.length ≤ sizeLine ∧ Q (.str (i ++ j)) H) oAddS := v_S2 fun Fz am H v w a b d Q h1 h2 e q => by
  split at e
  · obtain ⟨hk, e2⟩ := bifS e
    subst e2
    exact ⟨_, _, h1.str, h2.str, line24 hk, q _ rfl⟩
  · cases e
@[simp] def oAddL : Op := fun ds => match ds with
  | [.con .lst xs, .con .lst ys] => bif (xs.length + ys.length).ble 16777216 then some (.c .z, .con .lst (xs ++ ys)) else none
  | _ => none
theorem Reps.cat {Fz : Addr → Prop} {am : List Addr} {H : Hp} {vs ws : List V} {xs ys : List D} (s : Reps G Fz am H (zs xs.length) vs xs (fun _ => 0)) (s2 : Reps G Fz am H (zs ys.length) ws ys (fun _ => 0)) : Reps G Fz am H (zs (xs ++ ys).length) (vs ++ ws) (xs ++ ys) (fun _ => 0) := by
  have := Reps.app s2 s
  have e : zs xs.length ++ zs ys.length = zs (xs ++ ys).length := by
    unfold zs
    rw [List.replicate_append_replicate, List.length_append]
  rw [e] at this
  exact this
theorem v_addL : VOp G (l2 rCat) oAddL := fun Fz am H vs ds fr d Q h1 h2 h3 => by
  unfold oAddL at h2
  split at h2
  · rename_i xs ys
    obtain ⟨v, w, rfl, a, b⟩ := h1.two
    obtain ⟨hk, e2⟩ := bifS h2
    cases e2
    obtain ⟨p, as, e, r, s⟩ := a.lst
    obtain ⟨p2, bs, e', r2, s2⟩ := b.lst
    exact ⟨p, p2, as, bs, e, e', r, r2, by rw [s.len.2, s2.len.2]; exact line24 hk, fresh_lst (s.cat s2) h3⟩
  · cases h2
@[simp] def oAddT : Op := fun ds => match ds with
  | [.con .tup xs, .con .tup ys] => bif (xs.length + ys.length).ble 16777216 then some (.z, .con .tup (xs ++ ys)) else none
  | _ => none
theorem Reps.nilD {Fz : Addr → Prop} {am : List Addr} {H : Hp} {fs : List Fr} {n : Fp} {vs : List V} {xs : List D} (s : Reps G Fz am H fs vs xs n) : vs = [] ↔ xs = [] := by
  constructor <;> intro e <;> subst e <;> cases s <;> rfl
theorem v_addT : VOp G (l2 (rCatA G.K)) oAddT := fun Fz am H vs ds fr d Q h1 h2 h3 => by
  unfold oAddT at h2
  split at h2
  · rename_i xs ys
    obtain ⟨v, w, rfl, a, b⟩ := h1.two
    obtain ⟨hk, e2⟩ := bifS h2
    cases e2
    obtain ⟨p, as, e, r, s⟩ := a.tup
    obtain ⟨p2, bs, e', r2, s2⟩ := b.tup
    refine ⟨p, p2, as, bs, e, e', r, r2, by rw [s.len.2, s2.len.2]; exact line24 hk, fun z => ?_, fun z z2 => ?_, fun _ _ => fresh_tup (s.cat s2) h3⟩
    · have z' := s.nilD.mp z
      subst z'
      exact h3 _ H _ (same_refl H) newp0 (.zz (k := .tup) r2 s2 fun _ => rfl)
    · have z' := s2.nilD.mp z2
      subst z'
      rw [List.append_nil] at h3
      exact h3 _ H _ (same_refl H) newp0 (.zz (k := .tup) r s fun _ => rfl)
  · cases h2
@[simp] def oAdd : Op := orOp oAddI (orOp oAddS (orOp oAddL oAddT))
/-! * by cases -/
@[simp] def oMulL : Op := fun ds => match ds with
  | [.con .lst xs, .int k] => bif decide (-16777216 ≤ k) && decide (k ≤ 16777216) && (xs.length * k.toNat).ble 16777216 then some (.c .z, .con .lst (List.replicate k.toNat xs).flatten) else none
  | _ => none
theorem Reps.rep {Fz : Addr → Prop} {am : List Addr} {H : Hp} {vs : List V} {xs : List D} (s : Reps G Fz am H (zs xs.length) vs xs (fun _ => 0)) : ∀ k : Nat, Reps G Fz am H (zs (List.replicate k xs).flatten.length) (List.replicate k vs).flatten (List.replicate k xs).flatten (fun _ => 0)
  | 0 => .nil fun _ => rfl
  | k + 1 => by
    rw [List.replicate_succ, List.replicate_succ, List.flatten_cons, List.flatten_cons]
    exact s.cat (Reps.rep s k)
theorem v_mulL : VOp G (l2 rRep) oMulL := fun Fz am H vs ds fr d Q h1 h2 h3 => by
  unfold oMulL at h2
  split at h2
  · rename_i xs k
    obtain ⟨v, w, rfl, a, b⟩ := h1.two
    obtain ⟨hk, e2⟩ := bifS h2
    cases e2
    simp only [Bool.and_eq_true, decide_eq_true_eq] at hk
    obtain ⟨p, as, e, r, s⟩ := a.lst
    exact ⟨p, k, as, e, b.int, r, by omega, by omega, by rw [s.len.2]; exact line24 hk.2, fresh_lst (s.rep _) h3⟩
  · cases h2
@[simp] def oMul : Op := orOp oMulI oMulL
/-! two ints, one -/
@[simp] def oMin2 : Op := oI2 fun i j => some (.int (if j < i then j else i))
@[simp] def oMax2 : Op := oI2 fun i j => some (.int (if j > i then j else i))
theorem v_min2 : VOp G (fun xs H Q => ∃ i j, xs = [.int i, .int j] ∧ Q (.int (if j < i then j else i)) H) oMin2 := fun Fz am H vs ds fr d Q h1 h2 h3 => by
  unfold oMin2 oI2 at h2
  split at h2
  · cases h2
    obtain ⟨v, w, rfl, a, b⟩ := h1.two
    rw [a.int, b.int]
    exact ⟨_, _, rfl, h3 _ H _ (same_refl H) newp0 (.sc rfl fun _ => rfl)⟩
  · cases h2
theorem v_max2 : VOp G (fun xs H Q => ∃ i j, xs = [.int i, .int j] ∧ Q (.int (if j > i then j else i)) H) oMax2 := fun Fz am H vs ds fr d Q h1 h2 h3 => by
  unfold oMax2 oI2 at h2
  split at h2
  · cases h2
    obtain ⟨v, w, rfl, a, b⟩ := h1.two
    rw [a.int, b.int]
    exact ⟨_, _, rfl, h3 _ H _ (same_refl H) newp0 (.sc rfl fun _ => rfl)⟩
  · cases h2
@[simp] def oAbs : Op := oS1 fun a => match a with
  | .int i => some (.int (if i < 0 then -i else i))
  | _ => none
theorem v_abs : VOp G (fun xs H Q => ∃ i, xs = [.int i] ∧ Q (.int (if i < 0 then -i else i)) H) oAbs := v_C1 fun Fz am H v a d Q h e q => by
  split at e
  · cases e; rw [h.int]; exact ⟨_, rfl, q _ rfl⟩
  · cases e
@[simp] def oInt1 : Op := oS1 fun a => match a with
  | .int i => some (.int i)
  | .bl k => some (.int (if k then 1 else 0))
  | _ => none
theorem v_int1 : VOp G (fun xs H Q => (∃ i, xs = [.int i] ∧ Q (.int i) H) ∨ ∃ k, xs = [.bl k] ∧ Q (.int (if k then 1 else 0)) H) oInt1 := v_C1 fun Fz am H v a d Q h e q => by
  split at e
  · cases e; rw [h.int]; exact .inl ⟨_, rfl, q _ rfl⟩
  · cases e; rw [h.bl]; exact .inr ⟨_, rfl, q _ rfl⟩
  · cases e
/-! all, any of a list of bools -/
theorem scal_bl {v : V} {b : Bool} (h : Scal G v (.bl b)) : v = .bl b := by cases v <;> first | exact congrArg V.bl h | exact h.elim
@[simp] def bools : List D → Option (List Bool)
  | [] => some []
  | .bl b :: ds => (bools ds).map (b :: ·)
  | _ => none
theorem bools_reps {Fz : Addr → Prop} {am : List Addr} {H : Hp} : ∀ {ds : List D} {fs : List Fr} {vs : List V} {n : Fp} {bs : List Bool}, Reps G Fz am H fs vs ds n → bools ds = some bs → vs = bs.map V.bl
  | [], _, _, _, bs, r, h => by cases r; cases h; rfl
  | .bl b :: ds, _, _, _, bs, r, h => by
    obtain ⟨bs', e1, e2⟩ := Option.map_eq_some_iff.mp h
    subst e2
    cases r with
    | cons r1 r2 _ =>
      rw [bools_reps r2 e1]
      cases r1 with
      | sc s _ => rw [scal_bl s]; rfl
@[simp] def oAll : Op := oS1 fun a => match a with
  | .con k xs => bif k.sq then (bools xs).map fun bs => .bl (bs.all id) else none
  | _ => none
@[simp] def oAny : Op := oS1 fun a => match a with
  | .con k xs => bif k.sq then (bools xs).map fun bs => .bl (bs.any id) else none
  | _ => none
theorem v_all : VOp G (rAll G.K) oAll := v_C1 fun Fz am H v a d Q h e q => by
  split at e
  · rename_i k xs
    cases hk : k.sq with
    | false => rw [hk] at e; cases e
    | true =>
      rw [hk] at e
      obtain ⟨bs, e1, e2⟩ := Option.map_eq_some_iff.mp e
      subst e2
      obtain ⟨p, vs, rfl, r, s⟩ := h.sq hk
      exact ⟨p, bs, rfl, bools_reps s e1 ▸ r, q _ rfl⟩
  · cases e
theorem v_any : VOp G (rAny G.K) oAny := v_C1 fun Fz am H v a d Q h e q => by
  split at e
  · rename_i k xs
    cases hk : k.sq with
    | false => rw [hk] at e; cases e
    | true =>
      rw [hk] at e
      obtain ⟨bs, e1, e2⟩ := Option.map_eq_some_iff.mp e
      subst e2
      obtain ⟨p, vs, rfl, r, s⟩ := h.sq hk
      exact ⟨p, bs, rfl, bools_reps s e1 ▸ r, q _ rfl⟩
  · cases e
end
end Hx

set_option Elab.async false
set_option linter.all false
set_option maxRecDepth 100000
set_option autoImplicit false
/-! F10: writing: cells, owned slots; the rules of the operators by name; slices; isinstance; chains. -/
namespace Hx
open PySem PySem.Spec L2
open PyProof.Rows hiding St

section
variable {G : Sg} {g : Gd} {env : Env} {st st' : Store} {T T' : List Tm} {σ : St} {H H' : Hp} {Fz : Addr → Prop} {am : List Addr}
theorem Reps.updAt : ∀ {fs : List Fr} {vs : List V} {ds : List D} {n : Fp} {i : Nat} {xs : List D}, Reps G Fz am H fs vs ds n → (∀ q, n q ≤ 1) → fs[i]? = some (.c .z) → ds[i]? = some (.con .lst xs) →
    ∃ A acc, vs[i]? = some (.ref A) ∧ H A = some (.lst acc) ∧ Reps G Fz am H (zs xs.length) acc xs (fun _ => 0) ∧ 0 < n A ∧
      ∀ acc' xs', Reps G Fz am H (zs xs'.length) acc' xs' (fun _ => 0) → Ext Fz am H Fz am (upd H A (.lst acc')) → Reps G Fz am (upd H A (.lst acc')) fs vs (ds.set i (.con .lst xs')) n
  | [], _, _, _, i, xs, r, _, e1, e2 => by simp at e1
  | f0 :: fs, _, _, _, i, xs, r, hn, e1, e2 => by
    cases r with
    | @cons _ _ _ _ _ _ n1 n2 _ h1 h2 h3 =>
      cases i with
      | zero =>
        simp at e1 e2
        subst e1 e2
        cases h1 with
        | @cc A _ acc _ _ _ m a1 a2 a3 =>
          obtain ⟨_, o, b1, b2⟩ := a1
          have e0 : o = .lst acc := b2
          subst e0
          have m0 := Reps.z0 (k := xs.length) a2
          have hA : 0 < n1 A := by rw [a3]; simp
          have z2 : n2 A = 0 := by have := hn A; rw [h3] at this; omega
          refine ⟨A, acc, by simp, b1, a2.fp m0, by rw [h3]; omega, fun acc' xs' s E => ?_⟩
          refine .cons (.cc (m := fun _ => 0) ⟨by decide, _, upd_same, rfl⟩ (Reps.ext E s fun p u hp => absurd hp (Nat.lt_irrefl 0)) fun q => by rw [a3, m0]) (Reps.ext E h2 (upd_keep z2)) h3
      | succ i =>
        obtain ⟨A, acc, a, b, c, d, k⟩ := Reps.updAt (i := i) (xs := xs) h2 (fun q => by have := hn q; rw [h3] at this; omega) (by simpa using e1) (by simpa using e2)
        have z1 : n1 A = 0 := by have := hn A; rw [h3] at this; omega
        exact ⟨A, acc, by simpa using a, b, c, by rw [h3]; omega, fun acc' xs' s E => .cons (Rep.ext E h1 (upd_keep z1)) (k acc' xs' s E) h3⟩
theorem StoR.updAt {ns : Fp} {c : Nat} {xs : List D} (r : StoR G Fz am H st ns) (hn : ∀ q, ns q ≤ 1) (e : st[c]? = some (.c .z, .con .lst xs)) :
    ∃ A acc, am[c]? = some A ∧ H A = some (.lst acc) ∧ Reps G Fz am H (zs xs.length) acc xs (fun _ => 0) ∧ 0 < ns A ∧
      ∀ acc' xs', Reps G Fz am H (zs xs'.length) acc' xs' (fun _ => 0) → Ext Fz am H Fz am (upd H A (.lst acc')) → StoR G Fz am (upd H A (.lst acc')) (st.set c (.c .z, .con .lst xs')) ns := by
  obtain ⟨A, acc, a, b, s, d, k⟩ := Reps.updAt (i := c) (xs := xs) r hn (by simp [e]) (by simp [e])
  refine ⟨A, acc, ?_, b, s, d, fun acc' xs' s' E => ?_⟩
  · rw [List.getElem?_map] at a
    obtain ⟨p, a1, a2⟩ := Option.map_eq_some_iff.mp a
    cases a2
    exact a1
  · have := k acc' xs' s' E
    unfold StoR
    rw [List.map_set, List.map_set]
    have e1 : (st.map (·.1)).set c (.c .z) = st.map (·.1) := by
      apply List.ext_getElem?
      intro j
      rw [List.getElem?_set]
      split
      · rename_i h
        subst h
        split
        · simp [e]
        · rename_i h; rw [List.getElem?_eq_none (by simpa using h)]
      · rfl
    show Reps G Fz am _ ((st.map (·.1)).set c (.c .z)) _ _ _
    rw [e1]
    exact this
/-- a cell is written -/
theorem Rl.wrc {x v : V} {fv : Fr} {bv : Bool} {c : Nat} {xs xs' : List D} {d : D} {fV : List V → List V} (R : Rl G g env st (⟨v, fv, .ref c, bv⟩ :: ⟨x, .z, d, false⟩ :: T) σ H) (e : st[c]? = some (.c .z, .con .lst xs))
    (up : ∀ Fz am acc, Reps G Fz am H (zs xs.length) acc xs (fun _ => 0) → Rep G Fz am H .z x d (fun _ => 0) → Reps G Fz am H (zs xs'.length) (fV acc) xs' (fun _ => 0)) :
    ∃ A acc, v = .ref A ∧ H A = some (.lst acc) ∧ acc.length = xs.length ∧ Rl G g env (st.set c (.c .z, .con .lst xs')) T σ (upd H A (.lst (fV acc))) := by
  obtain ⟨Fz, am, ne, nt, ns, h1, h2, h3, h4, h5⟩ := R
  obtain ⟨A, acc, a1, a2, a3, a4, a5⟩ := StoR.updAt h3 (fun q => by have := h4.n1 q; omega) e
  have hv : v = .ref A ∧ ∃ nt', TmR G Fz am H ne (⟨x, .z, d, false⟩ :: T) nt' ∧ ∀ q, nt' q ≤ nt q := by
    have key : ∀ {n : Fp}, Rep G Fz am H fv v (.ref c) n → v = .ref A := fun {n} r => by
      cases r with
      | sc s _ => cases v <;> exact s.elim
      | rf s _ => rw [a1] at s; cases s; rfl
    cases h2 with
    | own k1 k2 k3 => exact ⟨key k1, _, k2, fun q => by rw [k3]; omega⟩
    | bor k1 k2 k3 => exact ⟨key k1, _, k3, fun q => Nat.le_refl _⟩
  obtain ⟨hv, nt', k, kl⟩ := hv
  cases k with
  | @own _ _ _ _ n1 n2 _ j1 j2 j3 =>
    have hA : 0 < ne A + nt A + ns A := by omega
    have le := h4.n1 A
    have z1 : ne A = 0 := by omega
    have z2 : n2 A = 0 := by have := kl A; rw [j3] at this; omega
    have E := h4.wext (o := .lst (fV acc)) hA
    refine ⟨A, acc, hv, a2, a3.len.2, Fz, am, ne, n2, ns, h1.ext E (upd_keep z1), j2.ext E (upd_keep z2) (upd_keep z1), a5 _ _ (up _ _ _ a3 (j1.fp j1.z0)) E, (h4.wrel (o := .lst (fV acc)) hA trivial).less fun q => ?_, trivial⟩
    show ne q + n2 q + ns q ≤ _
    have := kl q; rw [j3] at this; omega
theorem EnvR.updAt {ne : Fp} (r : EnvR G Fz am H env σ ne) : (∀ q, ne q ≤ 1) → ∀ {i : Nat} {xs : List D}, env[i]? = some (some (.c .z, .con .lst xs)) →
    ∃ A acc, σ[i]? = some (some (.ref A)) ∧ H A = some (.lst acc) ∧ Reps G Fz am H (zs xs.length) acc xs (fun _ => 0) ∧ 0 < ne A ∧
      ∀ acc' xs', Reps G Fz am H (zs xs'.length) acc' xs' (fun _ => 0) → Ext Fz am H Fz am (upd H A (.lst acc')) → EnvR G Fz am (upd H A (.lst acc')) (env.set i (some (.c .z, .con .lst xs'))) σ ne := by
  induction r with
  | nil h => intro _ i xs e; simp at e
  | @som f' d' v env σ n1 n2 n h1 h2 h3 ih =>
    intro hn i xs e
    cases i with
    | zero =>
      simp at e
      obtain ⟨rfl, rfl⟩ := e
      cases h1 with
      | @cc A _ acc _ _ _ m a1 a2 a3 =>
        obtain ⟨_, o, b1, b2⟩ := a1
        have e0 : o = .lst acc := b2
        subst e0
        have m0 := Reps.z0 (k := xs.length) a2
        have hA : 0 < n1 A := by rw [a3]; simp
        have z2 : n2 A = 0 := by have := hn A; rw [h3] at this; omega
        refine ⟨A, acc, by simp, b1, a2.fp m0, by rw [h3]; omega, fun acc' xs' s E => ?_⟩
        exact .som (.cc (m := fun _ => 0) ⟨by decide, _, upd_same, rfl⟩ (Reps.ext E s fun p u hp => absurd hp (Nat.lt_irrefl 0)) fun q => by rw [a3, m0]) (h2.ext E (upd_keep z2)) h3
    | succ i =>
      obtain ⟨A, acc, a, b, c, d, k⟩ := ih (fun q => by have := hn q; rw [h3] at this; omega) (i := i) (xs := xs) (by simpa using e)
      have z1 : n1 A = 0 := by have := hn A; rw [h3] at this; omega
      exact ⟨A, acc, by simpa using a, b, c, by rw [h3]; omega, fun acc' xs' s E => .som (Rep.ext E h1 (upd_keep z1)) (k acc' xs' s E) h3⟩
  | @non x env σ n h ih =>
    intro hn i xs e
    cases i with
    | zero => simp at e
    | succ i =>
      obtain ⟨A, acc, a, b, c, d, k⟩ := ih hn (i := i) (xs := xs) (by simpa using e)
      exact ⟨A, acc, by simpa using a, b, c, d, fun acc' xs' s E => .non (k acc' xs' s E)⟩
/-- an owned list in a slot is written -/
theorem Rl.wre {x : V} {i : Nat} {xs xs' : List D} {d : D} {fV : List V → List V} (R : Rl G g env st (⟨x, .z, d, false⟩ :: T) σ H) (hT : noBor T) (e : env[i]? = some (some (.c .z, .con .lst xs)))
    (up : ∀ Fz am acc, Reps G Fz am H (zs xs.length) acc xs (fun _ => 0) → Rep G Fz am H .z x d (fun _ => 0) → Reps G Fz am H (zs xs'.length) (fV acc) xs' (fun _ => 0)) :
    ∃ A acc, σ[i]? = some (some (.ref A)) ∧ H A = some (.lst acc) ∧ acc.length = xs.length ∧ Rl G g (env.set i (some (.c .z, .con .lst xs'))) st T σ (upd H A (.lst (fV acc))) := by
  obtain ⟨Fz, am, ne, nt, ns, h1, h2, h3, h4, h5⟩ := R
  obtain ⟨A, acc, a1, a2, a3, a4, a5⟩ := EnvR.updAt h1 (fun q => by have := h4.n1 q; omega) e
  cases h2 with
  | @own _ _ _ _ n1 n2 _ j1 j2 j3 =>
    have hA : 0 < ne A + nt A + ns A := by omega
    have le := h4.n1 A
    have z1 : ns A = 0 := by omega
    have z2 : n2 A = 0 := by have := h4.n1 A; rw [j3] at this; omega
    have E := h4.wext (o := .lst (fV acc)) hA
    refine ⟨A, acc, a1, a2, a3.len.2, Fz, am, ne, n2, ns, a5 _ _ (up _ _ _ a3 (j1.fp j1.z0)) E, ?_, Reps.ext E h3 (upd_keep z1), (h4.wrel (o := .lst (fV acc)) hA trivial).less fun q => ?_, trivial⟩
    · exact (j2.nb hT).ext (ne := fun _ => 0) E (upd_keep z2) (fun _ _ hp => absurd hp (Nat.lt_irrefl 0)) |>.nb hT
    · show ne q + n2 q + ns q ≤ _
      rw [j3]; omega
/-- a slot's thing becomes a cell -/
theorem Rl.pub {i : Nat} {f : Fr} {k : Kd} {ds : List D} (R : Rl G g env st T σ H) (hT : noBor T) (e : env[i]? = some (some (f, .con k ds))) : Rl G g (env.set i (some (.z, .ref st.length))) (st ++ [(f, .con k ds)]) T σ H := by
  obtain ⟨Fz, am, ne, nt, ns, h1, h2, h3, h4, h5⟩ := R
  obtain ⟨v, m, n', a1, a2, a3, a4⟩ := h1.take e
  obtain ⟨p, rfl⟩ : ∃ p, v = .ref p := by
    cases a2 with
    | sc s _ => cases v <;> exact s.elim
    | zz a b c => exact ⟨_, rfl⟩
    | tp a b => exact ⟨_, rfl⟩
    | cc a b c => exact ⟨_, rfl⟩
    | oo a b c => exact ⟨_, rfl⟩
  have hl : am.length = st.length := by have := h3.len.2; simpa using this
  have E : Ext Fz am H Fz (am ++ [p]) H := ⟨fun _ h => h, fun j q h => by
    have : j < am.length := (List.getElem?_eq_some_iff.mp h).1
    rw [List.getElem?_append_left this]; exact h, fun _ _ _ h => h, fun _ _ _ h _ => h, fun _ _ h => h⟩
  have id' : ∀ {n : Fp}, ∀ (p : Addr) (o : HO), 0 < n p → H p = some o → H p = some o := fun {n} _ _ _ h => h
  obtain ⟨n2, b1, b2⟩ := EnvR.set (i := i) (v := .ref p) (f := .z) (d := .ref st.length) (m := fun _ => 0) (G := G) (Fz := Fz) (am := am ++ [p]) (H := H) (.rf (by rw [← hl]; simp) fun _ => rfl) (a4.ext E id')
  have hσ : σ.set i (some (.ref p)) = σ := by
    apply List.ext_getElem?
    intro j
    rw [List.getElem?_set]
    split
    · rename_i h
      subst h
      split
      · rw [a1]
      · rename_i h
        rw [List.getElem?_eq_none (by simpa using h)] at a1
        cases a1
    · rfl
  rw [hσ, List.set_set] at b1
  have h4' : Rel0 G g Fz (am ++ [p]) H (fun p => ne p + nt p + ns p) := ⟨h4.n1, h4.nz, h4.th, h4.zt, h4.k, h4.f, h4.z0, h4.z1, fun j q h => E.cl _ _ (h4.a j q h), h4.tb, h4.hm, h4.kt⟩
  refine ⟨Fz, am ++ [p], n2, nt, fun q => ns q + m q, b1, ((h2.nb (ne' := n2) hT).ext E id' id'), ?_, h4'.less fun q => ?_, trivial⟩
  · show Reps G Fz (am ++ [p]) H ((st ++ _).map (·.1)) ((am ++ [p]).map V.ref) ((st ++ _).map (·.2)) _
    rw [List.map_append, List.map_append, List.map_append]
    exact Reps.snoc (Reps.ext E h3 id') (a2.ext E id') fun _ => rfl
  · have := b2 q; have := a3 q
    show n2 q + nt q + (ns q + m q) ≤ ne q + nt q + ns q
    omega
end

section
variable {S : Sx} {e a b : Expr} {es : List Expr} {da db de di : Den} {das : DenL} {pos p : Pos} {ss : List Stmt} {tr : DenS}
/-- ghost: the thing in the slot becomes a cell -/
@[simp] def dPub (i : Nat) (k : DenS) : DenS := fun env st => match env[i]? with
  | some (some (f, .con kd ds)) => k (env.set i (some (.z, .ref st.length))) (st ++ [(f, .con kd ds)])
  | _ => .stuck
theorem dss_pub {i : Nat} (hr : DSs S ss tr) : DSs S ss (dPub i tr) := fun W => by
  obtain ⟨t, p, q⟩ := hr W
  refine ⟨t, p, fun g env st T σ H D hT R h => ?_⟩
  unfold dPub at h
  split at h
  · rename_i f kd ds e
    exact q _ _ _ _ _ _ _ hT (R.pub hT e) h
  · exact h.elim
theorem reps_set {G : Sg} {Fz : Addr → Prop} {am : List Addr} {H : Hp} {x : V} {d : D} (hx : Rep G Fz am H .z x d (fun _ => 0)) : ∀ {xs : List D} {acc : List V} (j : Nat), Reps G Fz am H (zs xs.length) acc xs (fun _ => 0) → Reps G Fz am H (zs (xs.set j d).length) (acc.set j x) (xs.set j d) (fun _ => 0)
  | [], acc, j, r => by cases r; exact .nil fun _ => rfl
  | y :: xs, acc, j, r => by
    have e : zs (y :: xs).length = .z :: zs xs.length := List.replicate_succ
    rw [e] at r
    cases r with
    | cons r1 r2 h3 =>
      have z1 := r1.z0
      have z2 := Reps.z0 r2
      cases j with
      | zero =>
        show Reps G Fz am H (zs (d :: xs).length) _ _ _
        rw [show zs (d :: xs).length = .z :: zs xs.length from List.replicate_succ]
        exact .cons hx r2 fun q => by rw [z2]
      | succ j =>
        show Reps G Fz am H (zs (y :: xs.set j d).length) _ _ _
        rw [show zs (y :: xs.set j d).length = .z :: zs (xs.set j d).length from List.replicate_succ]
        exact .cons (r1.fp z1 (m := fun _ => 0)) (reps_set hx j (r2.fp z2)) fun q => rfl
/-- c[i] = e, c a cell with a list -/
@[simp] def dPutC (a i e : Den) : DenS := fun env st => match e env st with
  | .ok fe be xe st1 => bif !be || fe.isz then (match a env st1 with
    | .ok _ ba (.ref c) st2 => bif !ba then (match i env st2 with
      | .ok _ _ (.int k) st3 => (match st3[c]? with
        | some (.c .z, .con .lst xs) => (match ixN xs.length k with
          | some j => .nx env (st3.set c (.c .z, .con .lst (xs.set j xe)))
          | none => .stuck)
        | _ => .stuck)
      | .ok _ _ _ _ => .stuck
      | .exc c ds st1 => .exc c ds env st1
      | .stuck => .stuck) else .stuck
    | .ok _ _ _ _ => .stuck
    | .exc c ds st1 => .exc c ds env st1
    | .stuck => .stuck) else .stuck
  | .exc c ds st1 => .exc c ds env st1
  | .stuck => .stuck
theorem asgSub {o i : Expr} {p : Pos} {env : PySem.Env} (h : notSlice i = true) : ∀ v, assign (.Subscript o i p) env v = (do
      let ov ← holding [v] (eval o env)
      let iv ← holding [v, ov] (eval i env)
      standAt p
      holding [v, ov, iv] (setItem ov iv v)
      release [v, ov, iv] []) := fun v => by
  cases i <;> first | rfl | cases h
theorem ds_putc {o i e : Expr} {do_ : Den} (ho : DE S o do_) (hi : DE S i di) (he : DE S e de) (hn : notSlice i = true) (hc : notComp e = true) (hw : noSwap e = true) : DS S (.Assign [.Subscript o i p] e pos) (dPutC do_ di de) := fun W => by
  obtain ⟨to, po, qo⟩ := ho W
  obtain ⟨ti, pi, qi⟩ := hi W
  obtain ⟨te, pe, qe⟩ := he W
  refine ⟨_, fun X hX tk => by
    have hs : swapsWithSole [.Subscript o i p] e pos.line X.env = pure false := swaps_no (t := some (.Subscript o i p)) (l := pos.line) (env := X.env) hc
    exact ps_asg (pe X hX tk) (pg_sub (po X hX tk) (pi X hX tk) set_list (asgSub hn)) hs (noSwap_ok hw), fun g env st T σ H D hT R h => ?_⟩
  refine qe g env st T σ H _ hT R ?_
  unfold dPutC at h
  cases e1 : de env st with
  | stuck => rw [e1] at h; exact h.elim
  | exc c ds st1 => rw [e1] at h; exact h σ
  | ok fe be xe st1 =>
  rw [e1] at h
  dsimp only at h
  obtain ⟨hb, h⟩ := bifT h id
  intro x H1 R1
  have R1' := (R1.unb hb).frz
  refine qo g env st1 _ σ H1 _ (nb_cons hT) R1' ?_
  cases e2 : do_ env st1 with
  | stuck => rw [e2] at h; exact h.elim
  | exc c ds st2 => rw [e2] at h; exact h σ
  | ok fo bo xo st2 =>
  rw [e2] at h
  cases xo with
  | ref c =>
    dsimp only at h
    obtain ⟨hb2, h⟩ := bifT h id
    intro v H2 R2
    have hb2' : bo = false := by simpa using hb2
    subst hb2'
    refine qi g env st2 _ σ H2 _ (nb_cons (nb_cons hT)) R2 ?_
    cases e3 : di env st2 with
    | stuck => rw [e3] at h; exact h.elim
    | exc c ds st3 => rw [e3] at h; exact h σ
    | ok fi bi xi st3 =>
    rw [e3] at h
    cases xi with
    | int k =>
      dsimp only at h
      intro kv H3 R3
      have ek := R3.int
      have R4 := R3.drop
      split at h
      · rename_i xs es
        split at h
        · rename_i j ej
          obtain ⟨A, acc, a1, a2, a3, R5⟩ := Rl.wrc (xs' := xs.set j xe) (fV := fun acc => acc.set j x) R4 es fun Fz am acc r hx => reps_set hx j r
          exact ⟨A, acc, k, j, a1, ek, a2, by rw [a3]; exact ej, h _ _ R5⟩
        · exact h.elim
      · exact h.elim
    | _ => exact h.elim
  | _ => exact h.elim

/-! ### by the first that tells -/
theorem PE.or {X : Cx} {e : Expr} {t1 t2 : TE} (h1 : PE X e t1) (h2 : PE X e t2) : PE X e fun σ H Q => t1 σ H Q ∨ t2 σ H Q := ⟨fun pins s σ H Q I h => h.elim (h1.run pins s σ H Q I) (h2.run pins s σ H Q I)⟩
theorem PT.or {X : Cx} {e : Expr} {t1 t2 : TT} (h1 : PT X e t1) (h2 : PT X e t2) : PT X e fun σ H Q => t1 σ H Q ∨ t2 σ H Q := ⟨fun pins s σ H Q I h => h.elim (h1.run pins s σ H Q I) (h2.run pins s σ H Q I)⟩
theorem dOp_or {a b : Op} {as : DenL} {env : Env} {st : Store} : dOp (orOp a b) as env st = dOp a as env st ∨ dOp (orOp a b) as env st = dOp b as env st := by
  unfold dOp
  cases as env st with
  | stuck => exact .inl rfl
  | exc c ds st1 => exact .inl rfl
  | ok ts st1 =>
    dsimp only
    cases flats ts with
    | false => exact .inl rfl
    | true =>
      dsimp only [orOp, cond_true]
      cases e : a (ts.map fun t => lk st1 t.2.2) with
      | some r => exact .inl rfl
      | none => exact .inr rfl
theorem de_or' {S : Sx} {e : Expr} {a b : Op} {as : DenL} (h1 : DE S e (dOp a as)) (h2 : DE S e (dOp b as)) : DE S e (dOp (orOp a b) as) := fun W => by
  obtain ⟨t1, p1, q1⟩ := h1 W
  obtain ⟨t2, p2, q2⟩ := h2 W
  refine ⟨_, fun X hX tk => PE.or (p1 X hX tk) (p2 X hX tk), fun g env st T σ H Q hT R h => ?_⟩
  rcases dOp_or (a := a) (b := b) (as := as) (env := env) (st := st) with e | e
  · rw [e] at h; exact .inl (q1 g env st T σ H Q hT R h)
  · rw [e] at h; exact .inr (q2 g env st T σ H Q hT R h)
theorem dt_or' {S : Sx} {e : Expr} {a b : Op} {as : DenL} (h1 : DT S e (dB (dOp a as))) (h2 : DT S e (dB (dOp b as))) : DT S e (dB (dOp (orOp a b) as)) := fun W => by
  obtain ⟨t1, p1, q1⟩ := h1 W
  obtain ⟨t2, p2, q2⟩ := h2 W
  refine ⟨_, fun X hX tk => PT.or (p1 X hX tk) (p2 X hX tk), fun g env st T σ H Q hT R h => ?_⟩
  have k : dB (dOp (orOp a b) as) env st = dB (dOp a as) env st ∨ dB (dOp (orOp a b) as) env st = dB (dOp b as) env st := by
    rcases dOp_or (a := a) (b := b) (as := as) (env := env) (st := st) with e | e
    · exact .inl (by unfold dB; rw [e])
    · exact .inr (by unfold dB; rw [e])
  rcases k with e | e
  · rw [e] at h; exact .inl (q1 g env st T σ H Q hT R h)
  · rw [e] at h; exact .inr (q2 g env st T σ H Q hT R h)
/-! ### of dicts, of texts -/
def keyOf : D → Option Key
  | .int i => some (.inl i)
  | .str x => some (.inr x)
  | _ => none
@[simp] theorem keyOf_int {i : Int} : keyOf (.int i) = some (.inl i) := rfl
@[simp] theorem keyOf_str {i : Str} : keyOf (.str i) = some (.inr i) := rfl
def getK : List Key → List D → Key → Option D
  | k :: ks, d :: ds, key => if k = key then some d else getK ks ds key
  | _, _, _ => none
section
variable {G : Sg} {Fz : Addr → Prop} {am : List Addr} {H : Hp} {v : V}
theorem View.dik {ks : List Key} {ds : List D} (h : View G Fz am H v (.con (.dik ks) ds)) : ∃ p vs, v = .ref p ∧ Rd H p (.dK (ks.zip vs)) ∧ ks.length = vs.length ∧ Reps G Fz am H (zs ds.length) vs ds (fun _ => 0) := by
  obtain ⟨p, vs, e, ⟨o, r1, r2⟩, s⟩ := h
  obtain ⟨e2, e3⟩ := r2
  subst e2
  exact ⟨p, vs, e, r1, e3, s⟩
theorem View.key {d : D} {k : Key} (h : View G Fz am H v d) (e : keyOf d = some k) : v = kV k := by
  cases d with
  | int i => cases e; exact h.int
  | str i => cases e; exact h.str
  | _ => cases e
theorem getK_at : ∀ {ks : List Key} {ds : List D} {vs : List V} {k : Key} {d : D}, ks.length = vs.length → Reps G Fz am H (zs ds.length) vs ds (fun _ => 0) → getK ks ds k = some d → ∃ x, valV (ks.zip vs) k = some x ∧ Rep G Fz am H .z x d (fun _ => 0)
  | [], ds, vs, k, d, _, _, e => by cases ds <;> cases e
  | k0 :: ks, [], vs, k, d, _, _, e => by cases e
  | k0 :: ks, d0 :: ds, [], k, d, hl, _, e => by simp at hl
  | k0 :: ks, d0 :: ds, v0 :: vs, k, d, hl, r, e => by
    rw [show zs (d0 :: ds).length = .z :: zs ds.length from List.replicate_succ] at r
    cases r with
    | cons r1 r2 h3 =>
      unfold getK at e
      rw [List.zip_cons_cons]
      unfold valV
      rw [List.find?_cons]
      by_cases c : k0 = k
      · rw [if_pos c] at e
        cases e
        exact ⟨v0, by simp [c], r1.fp r1.z0⟩
      · rw [if_neg c] at e
        obtain ⟨x, e1, e2⟩ := getK_at (by simpa using hl) (r2.fp (Reps.z0 r2)) e
        exact ⟨x, by simpa [c, valV] using e1, e2⟩
end
@[simp] def oIxK : Op := fun ds => match ds with
  | [.con (.dik ks) xs, k] => (keyOf k).bind fun key => (getK ks xs key).map fun d => (.z, d)
  | _ => none
def rDGet : R2 := fun x y H Q => ∃ a v, x = .ref a ∧ DGet H a y (some v) ∧ Q v H
theorem v_ixK {G : Sg} : VOp G (l2 rDGet) oIxK := fun Fz am H vs ds fr d Q h1 h2 h3 => by
  unfold oIxK at h2
  split at h2
  · rename_i ks xs k
    obtain ⟨v, w, rfl, a, b⟩ := h1.two
    obtain ⟨key, e1, e2⟩ := Option.bind_eq_some_iff.mp h2
    obtain ⟨d', e3, e4⟩ := Option.map_eq_some_iff.mp e2
    cases e4
    obtain ⟨p, ys, rfl, rd, hl, s⟩ := a.dik
    obtain ⟨x, g1, g2⟩ := getK_at hl s e3
    exact ⟨p, x, rfl, .inl ⟨_, key, rd, b.key e1, g1.symm⟩, h3 x H _ (same_refl H) newp0 g2⟩
  · cases h2
@[simp] def oIx : Op := fun ds => orOp oIxS oIxK ds
theorem unitsOk {X : Cx} (hX : Stx S X) : X.A.units + 64 < cLine := by have := hX.room.un; omega
theorem de_ixK (ha : DE S a da) (hb : DE S b db) (hm : notSlice b = true) : DE S (.Subscript a b pos) (dOp oIxK (dCons da (dLast db))) := fun W => by
  obtain ⟨ta, pa, qa⟩ := ha W
  obtain ⟨tb, pb, qb⟩ := hb W
  refine ⟨tOp rDGet ta tb, fun X hX tk => pe_dget (by have := unitsOk hX; omega) (pa X hX tk) (pb X hX tk) fun ov iv => (by cases b <;> first | rfl | cases hm), fun g env st T σ H Q hT R h => run2 v_ixK qa qb g env st T σ H Q hT R h⟩
@[simp] def oLenK : Op := oS1 fun a => match a with
  | .con (.dik ks) xs => some (.int ks.length)
  | .str x => bif x.length.ble 16777216 then some (.int x.length) else none
  | _ => none
theorem call_lenR {X : Cx} : CallR X (.builtin "len") (fun xs H Q => ∃ a kvs, xs = [V.ref a] ∧ Rd H a (.dK kvs) ∧ Q (.int kvs.length) H) := by
  intro pins s σ H xs us Q I r h
  obtain ⟨a, kvs, rfl, ha, q⟩ := h
  obtain ⟨u, rfl, ru⟩ := vals1 r
  cases ru
  exact d_len I ha fun t s' I' => ⟨.int kvs.length, H, I', ⟨t, rfl⟩, q⟩
theorem v_lenK {G : Sg} : VOp G (fun xs H Q => (∃ a kvs, xs = [V.ref a] ∧ Rd H a (.dK kvs) ∧ Q (.int kvs.length) H) ∨ (∃ z, xs = [.str z] ∧ z.length ≤ sizeLine ∧ Q (.int z.length) H)) oLenK := v_C1 fun Fz am H v a d Q h e q => by
  split at e
  · cases e
    obtain ⟨p, vs, rfl, rd, hl, s⟩ := h.dik
    refine .inl ⟨p, _, rfl, rd, q _ ?_⟩
    show ((List.zip _ vs).length : Int) = _
    rw [List.length_zip, ← hl, Nat.min_self]
  · obtain ⟨hk, e2⟩ := bifS e
    subst e2
    rw [h.str]
    exact .inr ⟨_, rfl, line24 hk, q _ rfl⟩
  · cases e
@[simp] def oLen : Op := fun ds => orOp oLenS oLenK ds
/-! ### the operators -/
section
variable {X : Cx}
theorem stx_op {f : Value → Value → Sem Value} {r : PySem.W.Frag → R2} (ho : ∀ X : Cx, OpR X f (r X.K)) : ∀ X, Stx S X → OpR X f (r S.G.K) := fun X hX => hX.K ▸ ho X
end
theorem de_add (ha : DE S a da) (hb : DE S b db) : DE S (.BinOp a .Add b pos) (dOp oAdd (dCons da (dLast db))) :=
  de_bin (r := fun x y H Q => rI0 (fun i j => .int (i + j)) x y H Q ∨ ((∃ i j, x = .str i ∧ y = .str j ∧ i.length + j.length ≤ sizeLine ∧ Q (.str (i ++ j)) H) ∨ (rCat x y H Q ∨ rCatA S.G.K x y H Q)))
    (fun X hX => op_add.or (op_add_str.or (op_cat.or (hX.K ▸ op_catA)))) (VOp.or v_addI (VOp.or v_addS (VOp.or v_addL v_addT))) ha hb
theorem de_sub (ha : DE S a da) (hb : DE S b db) : DE S (.BinOp a .Sub b pos) (dOp oSub (dCons da (dLast db))) :=
  de_bin (r := fun x y H Q => rI0 (fun i j => .int (i - j)) x y H Q ∨ rSubB x y H Q) (fun X hX => op_sub.or op_subB) (VOp.or v_subI v_subB) ha hb
theorem de_mul (ha : DE S a da) (hb : DE S b db) : DE S (.BinOp a .Mult b pos) (dOp oMul (dCons da (dLast db))) :=
  de_bin (r := fun x y H Q => rI CMulW (fun i j => .int (i * j)) x y H Q ∨ rRep x y H Q) (fun X hX => op_mulW.or op_rep) (VOp.or v_mulI v_mulL) ha hb
theorem de_fdiv (ha : DE S a da) (hb : DE S b db) : DE S (.BinOp a .FloorDiv b pos) (dOp oFdiv (dCons da (dLast db))) := de_bin (fun X hX => op_fdivF) v_fdiv ha hb
theorem de_mod (ha : DE S a da) (hb : DE S b db) : DE S (.BinOp a .Mod b pos) (dOp oMod (dCons da (dLast db))) := de_bin (fun X hX => op_modN) v_mod ha hb
theorem de_pow (ha : DE S a da) (hb : DE S b db) : DE S (.BinOp a .Pow b pos) (dOp oPow (dCons da (dLast db))) := de_bin (fun X hX => op_pow) v_pow ha hb
theorem de_neg (ha : DE S a da) : DE S (.UnaryOp .USub a pos) (dOp oNeg (dLast da)) := de_un (fun X hX => un_neg) v_neg ha
theorem de_ixs (ha : DE S a da) (hb : DE S b db) (hm : notSlice b = true) : DE S (.Subscript a b pos) (dOp oIx (dCons da (dLast db))) := de_or' (de_ix (fun X hX => hX.K ▸ ix_seq) v_ix ha hb hm) (de_ixK ha hb hm)
/-- the comparisons of the table -/
structure CmpI (S : Sx) (o : CmpOp) (op : Op) : Prop where
  ex : ∃ r : R2, (∀ X, Stx S X → OpR X (compareOp o) r) ∧ VOp S.G (l2 r) op
theorem ci_lt : CmpI S .Lt oLt := ⟨_, fun X hX => op_lt, v_lt⟩
theorem ci_le : CmpI S .LtE oLe := ⟨_, fun X hX => op_le, v_le⟩
theorem ci_gt : CmpI S .Gt oGt := ⟨_, fun X hX => op_gt, v_gt⟩
theorem ci_ge : CmpI S .GtE oGe := ⟨_, fun X hX => op_ge, v_ge⟩
theorem ci_eq : CmpI S .Eq oEq := ⟨_, fun X hX => hX.K ▸ op_eqD (unitsOk hX), v_eq⟩
theorem ci_ne : CmpI S .NotEq oNe := ⟨_, fun X hX => hX.K ▸ op_neD (unitsOk hX), v_ne⟩
theorem ci_is : CmpI S .Is oIsN := ⟨_, fun X hX => op_isN, v_isN⟩
theorem ci_isnot : CmpI S .IsNot oNotN := ⟨_, fun X hX => op_notN, v_notN⟩
theorem de_c {o : CmpOp} {op : Op} (ci : CmpI S o op) (ha : DE S a da) (hb : DE S b db) (hm : notSet b = true) : DE S (.Compare a [o] [b] pos) (dOp op (dCons da (dLast db))) := by
  obtain ⟨r, h1, h2⟩ := ci.ex
  exact de_cmp h1 h2 ha hb hm
theorem dt_c {o : CmpOp} {op : Op} (ci : CmpI S o op) (ha : DE S a da) (hb : DE S b db) (hm : notSet b = true) : DT S (.Compare a [o] [b] pos) (dB (dOp op (dCons da (dLast db)))) := by
  obtain ⟨r, h1, h2⟩ := ci.ex
  exact dt_cmp h1 h2 ha hb hm
/-! built-ins -/
theorem fresh_len : True := trivial
theorem bi_len (hg : S.sc.names.lookup ("len" : Str) = some .globalImplicit) (hm : S.mg "len" = none) (ha : DE S a da) (hp : plainArgs [a] = true) : DE S (.Call (.Name "len" p) [a] [] pos) (dOp oLen (dLast da)) :=
  de_or' (de_bi (id := "len") (fun X hX => hX.K ▸ call_len_seq) v_len hg hm (by rfl) (by decide) (by decide) (da_last ha (plainArgs_ok hp _ (by simp))) hp)
    (de_bi (id := "len") (fun X hX => call_lenR.or call_len_str) v_lenK hg hm (by rfl) (by decide) (by decide) (da_last ha (plainArgs_ok hp _ (by simp))) hp)
theorem bi_list (hg : S.sc.names.lookup ("list" : Str) = some .globalImplicit) (hm : S.mg "list" = none) (ha : DE S a da) (hp : plainArgs [a] = true) : DE S (.Call (.Name "list" p) [a] [] pos) (dOp oList (dLast da)) :=
  de_ty (id := "list") (fun X hX => hX.K ▸ call_list_of) v_list hg hm (by rfl) (by decide) (by decide) (da_last ha (plainArgs_ok hp _ (by simp))) hp
theorem bi_tuple (hg : S.sc.names.lookup ("tuple" : Str) = some .globalImplicit) (hm : S.mg "tuple" = none) (ha : DE S a da) (hp : plainArgs [a] = true) : DE S (.Call (.Name "tuple" p) [a] [] pos) (dOp oTuple (dLast da)) :=
  de_ty (id := "tuple") (fun X hX => hX.K ▸ call_tuple_of) v_tuple hg hm (by rfl) (by decide) (by decide) (da_last ha (plainArgs_ok hp _ (by simp))) hp
theorem bi_int (hg : S.sc.names.lookup ("int" : Str) = some .globalImplicit) (hm : S.mg "int" = none) (ha : DE S a da) (hp : plainArgs [a] = true) : DE S (.Call (.Name "int" p) [a] [] pos) (dOp oInt1 (dLast da)) :=
  de_ty (id := "int") (fun X hX => call_int1) v_int1 hg hm (by rfl) (by decide) (by decide) (da_last ha (plainArgs_ok hp _ (by simp))) hp
theorem bi_abs (hg : S.sc.names.lookup ("abs" : Str) = some .globalImplicit) (hm : S.mg "abs" = none) (ha : DE S a da) (hp : plainArgs [a] = true) : DE S (.Call (.Name "abs" p) [a] [] pos) (dOp oAbs (dLast da)) :=
  de_bi (id := "abs") (fun X hX => call_abs) v_abs hg hm (by rfl) (by decide) (by decide) (da_last ha (plainArgs_ok hp _ (by simp))) hp
theorem bi_all (hg : S.sc.names.lookup ("all" : Str) = some .globalImplicit) (hm : S.mg "all" = none) (ha : DE S a da) (hp : plainArgs [a] = true) : DE S (.Call (.Name "all" p) [a] [] pos) (dOp oAll (dLast da)) :=
  de_bi (id := "all") (fun X hX => hX.K ▸ cr_all hX.calm) v_all hg hm (by rfl) (by decide) (by decide) (da_last ha (plainArgs_ok hp _ (by simp))) hp
theorem bi_any (hg : S.sc.names.lookup ("any" : Str) = some .globalImplicit) (hm : S.mg "any" = none) (ha : DE S a da) (hp : plainArgs [a] = true) : DE S (.Call (.Name "any" p) [a] [] pos) (dOp oAny (dLast da)) :=
  de_bi (id := "any") (fun X hX => hX.K ▸ cr_any hX.calm) v_any hg hm (by rfl) (by decide) (by decide) (da_last ha (plainArgs_ok hp _ (by simp))) hp
theorem bi_min2 (hg : S.sc.names.lookup ("min" : Str) = some .globalImplicit) (hm : S.mg "min" = none) (ha : DE S a da) (hb : DE S b db) (hp : plainArgs [a, b] = true) : DE S (.Call (.Name "min" p) [a, b] [] pos) (dOp oMin2 (dCons da (dLast db))) :=
  de_bi (id := "min") (fun X hX => call_min2 hX.calm) v_min2 hg hm (by rfl) (by decide) (by decide) (da_cons ha (da_last hb (plainArgs_ok hp _ (by simp))) (plainArgs_ok hp _ (by simp))) hp
theorem bi_max2 (hg : S.sc.names.lookup ("max" : Str) = some .globalImplicit) (hm : S.mg "max" = none) (ha : DE S a da) (hb : DE S b db) (hp : plainArgs [a, b] = true) : DE S (.Call (.Name "max" p) [a, b] [] pos) (dOp oMax2 (dCons da (dLast db))) :=
  de_bi (id := "max") (fun X hX => call_max2 hX.calm) v_max2 hg hm (by rfl) (by decide) (by decide) (da_cons ha (da_last hb (plainArgs_ok hp _ (by simp))) (plainArgs_ok hp _ (by simp))) hp
end
end Hx

set_option Elab.async false
set_option linter.all false
set_option maxRecDepth 100000
set_option autoImplicit false
/-! F11: slices, isinstance, chains, append, unpacking of a comprehension. -/
namespace Hx
open PySem PySem.Spec L2
open PyProof.Rows hiding St

section
variable {S : Sx} {e a b c tg : Expr} {es : List Expr} {da db dc de di : Den} {das : DenL} {pos p : Pos} {ss : List Stmt} {tr : DenS}
/-! ### slices -/
def rSl (K : PySem.W.Frag) : V → Option Int → Option Int → Hp → VK → Prop := fun x lo hi H Q => rSlL K x lo hi H Q ∨ rSlA K x lo hi H Q
theorem sl_seq {X : Cx} : SlR X (rSl X.K) := sl_list.or sl_tupA
def cutD (xs : List D) (lo hi : Option Int) : List D := (xs.drop (HT.sIx xs.length 0 lo)).take (HT.sIx xs.length xs.length hi - HT.sIx xs.length 0 lo)
theorem reps_drop {G : Sg} {Fz : Addr → Prop} {am : List Addr} {H : Hp} : ∀ {xs : List D} {vs : List V} (k : Nat), Reps G Fz am H (zs xs.length) vs xs (fun _ => 0) → Reps G Fz am H (zs (xs.drop k).length) (vs.drop k) (xs.drop k) (fun _ => 0)
  | [], vs, k, r => by cases r; simpa using (show Reps G Fz am H (zs 0) [] [] (fun _ => 0) from .nil fun _ => rfl)
  | x :: xs, vs, 0, r => r
  | x :: xs, vs, k + 1, r => by
    have e : zs (x :: xs).length = .z :: zs xs.length := List.replicate_succ
    rw [e] at r
    cases r with
    | cons r1 r2 h3 => exact reps_drop k (r2.fp (Reps.z0 r2))
theorem reps_take {G : Sg} {Fz : Addr → Prop} {am : List Addr} {H : Hp} : ∀ {xs : List D} {vs : List V} (k : Nat), Reps G Fz am H (zs xs.length) vs xs (fun _ => 0) → Reps G Fz am H (zs (xs.take k).length) (vs.take k) (xs.take k) (fun _ => 0)
  | [], vs, k, r => by cases r; simpa using (show Reps G Fz am H (zs 0) [] [] (fun _ => 0) from .nil fun _ => rfl)
  | x :: xs, vs, 0, r => by simpa using (show Reps G Fz am H (zs 0) [] [] (fun _ => 0) from .nil fun _ => rfl)
  | x :: xs, vs, k + 1, r => by
    have e : zs (x :: xs).length = .z :: zs xs.length := List.replicate_succ
    rw [e] at r
    cases r with
    | cons r1 r2 h3 =>
      show Reps G Fz am H (zs (x :: xs.take k).length) _ (x :: xs.take k) _
      rw [show zs (x :: xs.take k).length = .z :: zs (xs.take k).length from List.replicate_succ]
      exact .cons (r1.fp r1.z0 (m := fun _ => 0)) (reps_take k (r2.fp (Reps.z0 r2))) fun q => rfl
theorem reps_cut {G : Sg} {Fz : Addr → Prop} {am : List Addr} {H : Hp} {xs : List D} {vs : List V} (lo hi : Option Int) (r : Reps G Fz am H (zs xs.length) vs xs (fun _ => 0)) : Reps G Fz am H (zs (cutD xs lo hi).length) (cutV vs lo hi) (cutD xs lo hi) (fun _ => 0) := by
  unfold cutV cutD
  rw [r.len.2]
  exact reps_take _ (reps_drop _ r)
@[simp] def slD (lo hi : Option Int) : D → Option (Fr × D)
  | .con .tup xs => some (.z, .con .tup (cutD xs lo hi))
  | .con k xs => bif k.sq then some (.c .z, .con .lst (cutD xs lo hi)) else none
  | _ => none
theorem sl_view {G : Sg} {Fz : Addr → Prop} {am : List Addr} {H : Hp} {v : V} {a : D} {lo hi : Option Int} {f : Fr} {d : D} {Q : VK} (h : View G Fz am H v a) (e : slD lo hi a = some (f, d))
    (h3 : ∀ v H' n, Same H H' → Newp H H' n → Rep G Fz am H' f v d n → Q v H') : rSl G.K v lo hi H Q := by
  have lst : ∀ {k : Kd} {xs : List D}, k.sq = true → View G Fz am H v (.con k xs) → f = .c .z → d = .con .lst (cutD xs lo hi) → rSl G.K v lo hi H Q := fun {k xs} hk h e1 e2 => by
    subst e1 e2
    obtain ⟨p, vs, rfl, r, s⟩ := h.sq hk
    exact .inl ⟨p, vs, rfl, r, fresh_lst (reps_cut lo hi s) h3⟩
  cases a with
  | con k xs =>
    cases k with
    | tup =>
      cases e
      obtain ⟨p, vs, rfl, r, s⟩ := h.tup
      refine .inr ⟨p, vs, rfl, r, fun w => ?_, fun _ => fresh_tup (reps_cut lo hi s) h3⟩
      have ec : cutD xs lo hi = xs := by
        unfold cutD
        rw [s.len.2] at w
        rw [w.1, w.2]
        simp
      rw [ec] at h3
      exact h3 _ H _ (same_refl H) newp0 (.zz (k := .tup) r s fun _ => rfl)
    | lst => cases e; exact lst rfl h rfl rfl
    | frl => cases e; exact lst rfl h rfl rfl
    | _ => cases e
  | _ => cases e
@[simp] def oSlL : Op := fun ds => match ds with
  | [a, .int i] => slD (some i) none a
  | _ => none
@[simp] def oSlH : Op := fun ds => match ds with
  | [a, .int i] => slD none (some i) a
  | _ => none
theorem v_slL {G : Sg} : VOp G (l2 fun x y H Q => ∃ i, y = .int i ∧ rSl G.K x (some i) none H Q) oSlL := fun Fz am H vs ds fr d Q h1 h2 h3 => by
  unfold oSlL at h2
  split at h2
  · obtain ⟨v, w, rfl, a, b⟩ := h1.two
    exact ⟨_, b.int, sl_view a h2 h3⟩
  · cases h2
theorem v_slH {G : Sg} : VOp G (l2 fun x y H Q => ∃ i, y = .int i ∧ rSl G.K x none (some i) H Q) oSlH := fun Fz am H vs ds fr d Q h1 h2 h3 => by
  unfold oSlH at h2
  split at h2
  · obtain ⟨v, w, rfl, a, b⟩ := h1.two
    exact ⟨_, b.int, sl_view a h2 h3⟩
  · cases h2
theorem de_slL {p2 : Pos} (ha : DE S a da) (hb : DE S b db) : DE S (.Subscript a (.Slice (some b) none none p2) pos) (dOp oSlL (dCons da (dLast db))) := fun W => by
  obtain ⟨ta, pa, qa⟩ := ha W
  obtain ⟨tb, pb, qb⟩ := hb W
  exact ⟨_, fun X hX tk => pe_slice (r := rSl S.G.K) (hX.K ▸ sl_seq) (pa X hX tk) (po_some (pb X hX tk)) po_none, fun g env st T σ H Q hT R h => run2 v_slL qa qb g env st T σ H Q hT R h⟩
theorem de_slH {p2 : Pos} (ha : DE S a da) (hb : DE S b db) : DE S (.Subscript a (.Slice none (some b) none p2) pos) (dOp oSlH (dCons da (dLast db))) := fun W => by
  obtain ⟨ta, pa, qa⟩ := ha W
  obtain ⟨tb, pb, qb⟩ := hb W
  exact ⟨_, fun X hX tk => pe_slice (r := rSl S.G.K) (hX.K ▸ sl_seq) (pa X hX tk) po_none (po_some (pb X hX tk)), fun g env st T σ H Q hT R h => run2 v_slH qa qb g env st T σ H Q hT R h⟩

/-! ### isinstance of built-in types -/
inductive Ty7
  | non | bl | int | str | tup | lst | dct
  deriving DecidableEq
def Ty7.nm : Ty7 → String
  | .non => "NoneType" | .bl => "bool" | .int => "int" | .str => "str" | .tup => "tuple" | .lst => "list" | .dct => "dict"
@[simp] def Ty7.isa (t u : Ty7) : Bool := decide (t = u) || (decide (t = .bl) && decide (u = .int))
theorem kit1 {K : PySem.W.Frag} (t u : Ty7) : PySem.W.kitOne K (.type t.nm) (.type u.nm) = some (t.isa u) := by
  cases t <;> cases u <;> rfl
theorem kitN {K : PySem.W.Frag} (t : Ty7) : ∀ us : List Ty7, PySem.W.kitAny K (.type t.nm) (us.map fun u => .type u.nm) = some (us.any t.isa)
  | [] => rfl
  | u :: us => by
    show (match PySem.W.kitOne K (.type t.nm) (.type u.nm) with
      | some true => some true
      | some false => PySem.W.kitAny K (.type t.nm) (us.map fun (u : Ty7) => .type u.nm)
      | none => none) = _
    rw [kit1, kitN t us, List.any_cons]
    cases t.isa u <;> rfl
@[simp] def tyD : D → Option Ty7
  | .non => some .non
  | .bl _ => some .bl
  | .int _ => some .int
  | .str _ => some .str
  | .con .tup _ => some .tup
  | .con .lst _ => some .lst
  | .con .frl _ => some .lst
  | .con (.dik _) _ => some .dct
  | _ => none
theorem tyx_of {G : Sg} {Fz : Addr → Prop} {am : List Addr} {H : Hp} {v : V} {d : D} {t : Ty7} (h : View G Fz am H v d) (e : tyD d = some t) : TyX G.K H v (.type t.nm) := by
  cases d with
  | non => cases e; rw [h.non]; exact .base .non
  | bl b => cases e; rw [h.bl]; exact .base (.bl _)
  | int b => cases e; rw [h.int]; exact .base (.int _)
  | str b => cases e; rw [h.str]; exact .base (.str _)
  | fnv k j => cases e
  | ref k => cases e
  | con k ds =>
    have sq : ∀ {p : Addr} {vs : List V}, SqL G.K H p vs → TyX G.K H (.ref p) (.type Ty7.lst.nm) := fun {p vs} r => by
      rcases r with (r | ⟨o, r⟩) | ⟨o, its, n, r, c, _⟩
      · exact .base (.lst r)
      · exact .base (.frz r)
      · exact .kList r c
    cases k with
    | tup =>
      cases e
      obtain ⟨p, vs, rfl, r, s⟩ := h.tup
      rcases r with (r | ⟨o, r⟩) | ⟨o, its, n, r, c, _⟩
      · exact .base (.tup r)
      · exact .fTuple r
      · exact .kTuple r c
    | lst =>
      cases e
      obtain ⟨p, vs, rfl, r, s⟩ := View.sq (k := .lst) rfl h
      exact sq r
    | frl =>
      cases e
      obtain ⟨p, vs, rfl, r, s⟩ := View.sq (k := .frl) rfl h
      exact sq r
    | dik ks =>
      cases e
      obtain ⟨p, vs, rfl, ⟨o, r1, r2⟩, s⟩ := h
      obtain ⟨r2, _⟩ := r2
      subst r2
      rcases r1 with r1 | ⟨o, r1⟩
      · exact .base (.dK r1)
      · exact .fDict r1
    | dit ks => cases e
    | ins c => cases e
/-- the names of types -/
def TyNs (S : Sx) (es : List Expr) (us : List Ty7) : Prop := ∀ X, Stx S X → PA X es fun _ H Q => Q (us.map fun (u : Ty7) => V.ty u.nm) H
theorem tyns_nil : TyNs S [] [] := fun X hX => pa_nil
theorem tyns_cons {x : Str} {u : Ty7} {us : List Ty7} (hg : S.sc.names.lookup x = some .globalImplicit) (hm : S.mg x = none) (hb : bootBuiltins x = some (.type u.nm)) (hn : x ≠ "__name__") (hdb : (x == ("__debug__" : Str)) = false) (hr : TyNs S es us) : TyNs S (.Name x p :: es) (u :: us) := fun X hX =>
  pa_cons (pe_bltn (show X.env.scope.names.lookup x = some .globalImplicit by rw [hX.sc]; exact hg) (by rw [hX.mg]; exact hm) hb (v := .ty u.nm) rfl hn hdb) (hr X hX)
@[simp] def dIsi (us : List Ty7) (a : Den) : Den := fun env st => match a env st with
  | .ok f b d st1 => bif f.flat then (match tyD (lk st1 d) with
    | some t => .ok .z false (.bl (us.any t.isa)) st1
    | none => .stuck) else .stuck
  | .exc c ds st1 => .exc c ds st1
  | .stuck => .stuck
theorem clsv : ∀ us : List Ty7, Paired ClsV (us.map fun u => V.ty u.nm) (us.map fun u => Value.type u.nm)
  | [] => .nil
  | u :: us => .cons (.ty _) (clsv us)
/-- one look -/
theorem Rl.view1 {G : Sg} {g : Gd} {env : Env} {st : Store} {T : List Tm} {σ : St} {H : Hp} {v : V} {f : Fr} {b : Bool} {d : D} (R : Rl G g env st (⟨v, f, d, b⟩ :: T) σ H) (hf : f.flat = true) : ∃ Fz am, View G Fz am H v (lk st d) := by
  obtain ⟨Fz, am, ne, nt, ns, h1, h2, h3, h4, h5⟩ := R
  have key : ∀ {n : Fp}, Rep G Fz am H f v d n → View G Fz am H v (lk st d) := fun {n} r => by
    have h := Vws.lk h3 (vs := [v]) (ds := [d]) (.cons (r.view hf) .nil)
    cases h with
    | cons h _ => exact h
  cases h2 with
  | own k1 _ _ => exact ⟨_, _, key k1⟩
  | bor k1 _ _ => exact ⟨_, _, key k1⟩
theorem isi_pe (ha : DE S a da) {e2 : Expr} {W : WX} : True := trivial
theorem de_isi {x : Str} {q : Pos} {u : Ty7} (hg : S.sc.names.lookup ("isinstance" : Str) = some .globalImplicit) (hm : S.mg "isinstance" = none) (ha : DE S a da) (hp : plainArgs [a] = true)
    (hg2 : S.sc.names.lookup x = some .globalImplicit) (hm2 : S.mg x = none) (hb : bootBuiltins x = some (.type u.nm)) (hn : x ≠ "__name__") (hdb : (x == ("__debug__" : Str)) = false) :
    DE S (.Call (.Name "isinstance" p) [a, .Name x q] [] pos) (dIsi [u] da) := fun W => by
  obtain ⟨ta, pa, qa⟩ := ha W
  refine ⟨_, fun X hX tk => pe_callB (r := rIsi S.G.K) (hX.K ▸ call_isi) (show X.env.scope.names.lookup ("isinstance" : Str) = some .globalImplicit by rw [hX.sc]; exact hg) (by rw [hX.mg]; exact hm) (by rfl)
    (pa_cons (pa X hX tk) (tyns_cons (p := q) hg2 hm2 hb hn hdb tyns_nil X hX) (starNo (plainArgs_ok hp a (by simp)))) (by decide) (by decide) (starNo (plainArgs_ok hp a (by simp))), fun g env st T σ H Q hT R h => qa g env st T σ H _ hT R ?_⟩
  unfold dIsi at h
  cases e1 : da env st with
  | stuck => rw [e1] at h; exact h.elim
  | exc c ds st1 => rw [e1] at h; exact h
  | ok f b d st1 =>
    rw [e1] at h
    obtain ⟨hf, h⟩ := bifT h id
    intro v H1 R1
    split at h
    · rename_i t et
      obtain ⟨Fz, am, vw⟩ := R1.view1 hf
      exact ⟨v, .ty u.nm, .type t.nm, .type u.nm, [u].any t.isa, rfl, .ty _, tyx_of vw et, by rw [kit1]; simp, h _ H1 (Rl.scal R1.drop rfl)⟩
    · exact h.elim
theorem de_isiT {es : List Expr} {k : Nat} {q : Pos} {us : List Ty7} (hg : S.sc.names.lookup ("isinstance" : Str) = some .globalImplicit) (hm : S.mg "isinstance" = none) (ha : DE S a da) (hp : plainArgs [a] = true)
    (hl : us.length.ble 1000 = true) (ht : TyNs S es us) : DE S (.Call (.Name "isinstance" p) [a, .Tuple es k q] [] pos) (dIsi us da) := fun W => by
  obtain ⟨ta, pa, qa⟩ := ha W
  refine ⟨_, fun X hX tk => pe_callB (r := rIsiT S.G.K) (hX.K ▸ call_isiT) (show X.env.scope.names.lookup ("isinstance" : Str) = some .globalImplicit by rw [hX.sc]; exact hg) (by rw [hX.mg]; exact hm) (by rfl)
    (pa_cons (pa X hX tk) (pa_cons (pe_tup (ht X hX)) pa_nil) (starNo (plainArgs_ok hp a (by simp)))) (by decide) (by decide) (starNo (plainArgs_ok hp a (by simp))), fun g env st T σ H Q hT R h => qa g env st T σ H _ hT R ?_⟩
  unfold dIsi at h
  cases e1 : da env st with
  | stuck => rw [e1] at h; exact h.elim
  | exc c ds st1 => rw [e1] at h; exact h
  | ok f b d st1 =>
    rw [e1] at h
    obtain ⟨hf, h⟩ := bifT h id
    intro v H1 R1
    split at h
    · rename_i t et
      refine ⟨by simpa using small_len hl, fun p hp => ?_⟩
      have R2 : Rl S.G g env st1 (⟨v, f, d, b⟩ :: T) σ (upd H1 p (.tup (us.map fun u => V.ty u.nm))) := by
        have R3 := RlB.new (v := .non) (f := .z) (d := .non) (n := fun _ => 0) (H' := upd H1 p (.tup (us.map fun u => V.ty u.nm))) R1 (same_upd hp) newp0 fun Fz am E k => .sc trivial fun _ => rfl
        exact R3.drop
      obtain ⟨Fz, am, vw⟩ := R2.view1 hf
      exact ⟨v, p, us.map fun u => V.ty u.nm, .type t.nm, us.map fun u => .type u.nm, us.any t.isa, rfl, upd_same, clsv us, tyx_of vw et, kitN t us, h _ _ (Rl.scal R2.drop rfl)⟩
    · exact h.elim

/-! ### chains -/
theorem Rl.dup {G : Sg} {g : Gd} {env : Env} {st : Store} {T : List Tm} {σ : St} {H : Hp} {v : V} {d : D} (R : Rl G g env st (⟨v, .z, d, false⟩ :: T) σ H) : Rl G g env st (⟨v, .z, d, false⟩ :: ⟨v, .z, d, false⟩ :: T) σ H := by
  obtain ⟨Fz, am, ne, nt, ns, h1, h2, h3, h4, h5⟩ := R
  cases h2 with
  | @own _ _ _ _ n1 n2 _ k1 k2 k3 => exact ⟨Fz, am, ne, nt, ns, h1, .own (k1.fp k1.z0 (m := fun _ => 0)) (.own k1 k2 k3) fun q => by simp, h3, h4, trivial⟩
/-- a o b o' c -/
@[simp] def dChain (o o' : Op) (a b c : Den) : Den := fun env st => match a env st with
  | .ok fa ba xa st1 => bif !ba || fa.isz then (match b env st1 with
    | .ok fb bb xb st2 => bif fa.flat && fb.isz then (match o [lk st2 xa, lk st2 xb] with
      | some (.z, .bl true) => (match c env st2 with
        | .ok fc bc xc st3 => bif fc.flat then (match o' [lk st3 xb, lk st3 xc] with
          | some (f, d) => .ok f false d st3
          | none => .stuck) else .stuck
        | .exc c ds st1 => .exc c ds st1
        | .stuck => .stuck)
      | some (.z, .bl false) => .ok .z false (.bl false) st2
      | _ => .stuck) else .stuck
    | .exc c ds st1 => .exc c ds st1
    | .stuck => .stuck) else .stuck
  | .exc c ds st1 => .exc c ds st1
  | .stuck => .stuck
theorem chain_run {r r' : R2} {o o' : Op} {W : WX} {ta tb tc : TE} (hv : VOp S.G (l2 r) o) (hv' : VOp S.G (l2 r') o')
    (qa : ∀ g env st T σ H Q, noBor T → Rl S.G g env st T σ H → PostE S.G g env T σ W Q (da env st) → ta σ H Q)
    (qb : ∀ g env st T σ H Q, noBor T → Rl S.G g env st T σ H → PostE S.G g env T σ W Q (db env st) → tb σ H Q)
    (qc : ∀ g env st T σ H Q, noBor T → Rl S.G g env st T σ H → PostE S.G g env T σ W Q (dc env st) → tc σ H Q)
    (g : Gd) (env : Env) (st : Store) (T : List Tm) (σ : St) (H : Hp) (Q : VK) (hT : noBor T) (R : Rl S.G g env st T σ H) (h : PostE S.G g env T σ W Q (dChain o o' da db dc env st)) : tChain r r' ta tb tc σ H Q := by
  refine qa g env st T σ H _ hT R ?_
  unfold dChain at h
  cases e1 : da env st with
  | stuck => rw [e1] at h; exact h.elim
  | exc c ds st1 => rw [e1] at h; exact h
  | ok fa ba xa st1 =>
  rw [e1] at h
  dsimp only at h
  obtain ⟨hb, h⟩ := bifT h id
  intro v H1 R1
  refine qb g env st1 _ σ H1 _ (nb_cons hT) (R1.unb hb) ?_
  cases e2 : db env st1 with
  | stuck => rw [e2] at h; exact h.elim
  | exc c ds st2 => rw [e2] at h; exact h
  | ok fb bb xb st2 =>
  rw [e2] at h
  dsimp only at h
  obtain ⟨hf, h'⟩ := bifT h id
  clear h
  have h := h'
  clear h'
  rw [Bool.and_eq_true] at hf
  have ez := Fr.isz_eq hf.2
  subst ez
  intro w H2 R2
  have R3 := (R2.unb (by simp [Fr.isz])).dup
  have R4 : Rl S.G g env st2 (mkT [v, w] [(fa, false, xa), (.z, false, xb)] ++ (⟨w, .z, xb, false⟩ :: T)) σ H2 := by
    have := RlB.mid (l := [⟨w, .z, xb, false⟩, ⟨w, .z, xb, false⟩]) R3
    obtain ⟨Fz, am, ne, nt, ns, h1, h2, h3, h4, h5⟩ := this
    exact ⟨Fz, am, ne, nt, ns, h1, h2, h3, h4, h5⟩
  have fl : flats [(fa, false, xa), (Fr.z, false, xb)] = true := by
    show (fa.flat && (Fr.z.flat && true)) = true
    rw [hf.1]
    rfl
  cases e3 : o [lk st2 xa, lk st2 xb] with
  | none => rw [e3] at h; exact h.elim
  | some x =>
    obtain ⟨f', d'⟩ := x
    rw [e3] at h
    refine Rl.op (vs := [v, w]) hv R4 rfl fl e3 fun z H3 R5 => ?_
    split at h
    · rename_i es
      cases es
      refine ⟨true, R5.bl, ?_⟩
      rw [if_pos rfl]
      refine qc g env st2 _ σ H3 _ (nb_cons hT) R5.drop ?_
      cases e4 : dc env st2 with
      | stuck => rw [e4] at h; exact h.elim
      | exc c ds st3 => rw [e4] at h; exact h
      | ok fc bc xc st3 =>
        rw [e4] at h
        dsimp only at h
        obtain ⟨hf2, h'⟩ := bifT h id
        clear h
        have h := h'
        clear h'
        intro u H4 R6
        have R7 : Rl S.G g env st3 (mkT [w, u] [(.z, false, xb), (fc, bc, xc)] ++ T) σ H4 := RlB.mid (l := [_]) R6
        cases e5 : o' [lk st3 xb, lk st3 xc] with
        | none => rw [e5] at h; exact h.elim
        | some y =>
          obtain ⟨f2, d2⟩ := y
          rw [e5] at h
          exact Rl.op (vs := [w, u]) hv' R7 rfl (by
            show (Fr.z.flat && (fc.flat && true)) = true
            rw [hf2]
            rfl) e5 h
    · rename_i es
      cases es
      refine ⟨false, R5.bl, ?_⟩
      rw [if_neg (by decide)]
      exact h _ H3 (Rl.scal R5.drop.drop rfl)
    · exact h.elim
theorem lm2 {o o' : CmpOp} (hb : notSet b = true) (hc : notSet c = true) : lastMarks [o, o'] [b, c] = false := marks (o := o') hc
theorem de_chain {o o' : CmpOp} {op op' : Op} (ci : CmpI S o op) (ci' : CmpI S o' op') (ha : DE S a da) (hb : DE S b db) (hc : DE S c dc) (nb : notSet b = true) (nc : notSet c = true) : DE S (.Compare a [o, o'] [b, c] pos) (dChain op op' da db dc) := fun W => by
  obtain ⟨r, h1, h2⟩ := ci.ex
  obtain ⟨r', h1', h2'⟩ := ci'.ex
  obtain ⟨ta, pa, qa⟩ := ha W
  obtain ⟨tb, pb, qb⟩ := hb W
  obtain ⟨tc, pc, qc⟩ := hc W
  exact ⟨_, fun X hX tk => pe_chain (h1 X hX) (h1' X hX) (pa X hX tk) (pb X hX tk) (pc X hX tk) (lm2 nb nc), fun g env st T σ H Q hT R h => chain_run h2 h2' qa qb qc g env st T σ H Q hT R h⟩
theorem dt_chain {o o' : CmpOp} {op op' : Op} (ci : CmpI S o op) (ci' : CmpI S o' op') (ha : DE S a da) (hb : DE S b db) (hc : DE S c dc) (nb : notSet b = true) (nc : notSet c = true) : DT S (.Compare a [o, o'] [b, c] pos) (dB (dChain op op' da db dc)) := fun W => by
  obtain ⟨r, h1, h2⟩ := ci.ex
  obtain ⟨r', h1', h2'⟩ := ci'.ex
  obtain ⟨ta, pa, qa⟩ := ha W
  obtain ⟨tb, pb, qb⟩ := hb W
  obtain ⟨tc, pc, qc⟩ := hc W
  exact ⟨_, fun X hX tk => pt_chain (h1 X hX) (h1' X hX) (pa X hX tk) (pb X hX tk) (pc X hX tk) (lm2 nb nc), fun g env st T σ H Q hT R h => chain_run h2 h2' qa qb qc g env st T σ H _ hT R (postB h)⟩

/-! ### xs.append(e) -/
theorem reps_snoc {G : Sg} {Fz : Addr → Prop} {am : List Addr} {H : Hp} {x : V} {d : D} {xs : List D} {acc : List V} (r : Reps G Fz am H (zs xs.length) acc xs (fun _ => 0)) (hx : Rep G Fz am H .z x d (fun _ => 0)) : Reps G Fz am H (zs (xs ++ [d]).length) (acc ++ [x]) (xs ++ [d]) (fun _ => 0) :=
  r.cat (.cons (n1 := fun _ => 0) (n2 := fun _ => 0) hx (.nil fun _ => rfl) fun _ => rfl)
def dApp (i : Nat) (a : Den) : DenS := fun env st => match env[i]? with
  | some (some (.c .z, .con .lst xs)) => (match a env st with
    | .ok f b d st1 => bif (!b || f.isz) && xs.length.ble 1000000 then .nx (env.set i (some (.c .z, .con .lst (xs ++ [d])))) st1 else .stuck
    | .exc c ds st1 => .exc c ds env st1
    | .stuck => .stuck)
  | _ => .stuck
theorem len7 {n : Nat} (h : n.ble 1000000 = true) : n < sizeLine := Nat.lt_of_le_of_lt (Nat.le_of_ble_eq_true h) (by decide)
theorem ds_app {i : Nat} {x : Str} {q apos : Pos} (hN : S.N[i]? = some x) (hv : Vis S.sc x) (hd : (x == ("__debug__" : Str)) = false) (hcd : (x == ("__classdict__" : Str)) = false) (hl : (apos.endLine == p.line) = true) (ha : DE S a da) (hp : plainArgs [a] = true) :
    DS S (.Expr (.Call (.Attribute (.Name x q) "append" apos) [a] [] p) pos) (dApp i da) := fun W => by
  obtain ⟨ta, pa, qa⟩ := ha W
  have hs := plainArgs_ok hp a (by simp)
  have pk : ∀ X, Stx S X → Takes X W → PE X (.Call (.Attribute (.Name x q) "append" apos) [a] [] p) (tBM S.G.K "list" rAppend (tVar i) (tCons ta tNil)) := fun X hX tk => by
    have := pe_bm PySem.F.plainAttrs_list PySem.F.slot_list_append PySem.F.type_list_append mt_append (de_pv (p := q) hN hv hd hcd hX) (pa_cons (pa X hX tk) pa_nil (starNo hs)) (by rfl) (by rw [starNo hs]; rfl) hl (starNo hs)
    rw [hX.K] at this
    exact this
  refine ⟨_, fun X hX tk => ps_expr (pk X hX tk), fun g env st T σ H D hT R h => ?_⟩
  unfold dApp at h
  split at h
  · rename_i xs ei
    have ei' := ei
    obtain ⟨v, ev, R0⟩ := R.pushb ei
    have hsq : ∃ A acc, v = .ref A ∧ SqL S.G.K H A acc := by
      obtain ⟨Fz, am, vw⟩ := R0.view1 rfl
      obtain ⟨A, acc, e1, e2, _⟩ := View.sq (k := .lst) rfl vw
      exact ⟨A, acc, e1, e2⟩
    obtain ⟨A, acc, rfl, sq⟩ := hsq
    refine ⟨_, ev, .inl ⟨rfl, _, sq⟩, ?_⟩
    refine qa g env st T σ H _ hT R ?_
    cases e1 : da env st with
    | stuck => rw [e1] at h; exact h.elim
    | exc c ds st1 => rw [e1] at h; exact h σ
    | ok f b d st1 =>
      rw [e1] at h
      obtain ⟨hc, h⟩ := bifT h id
      rw [Bool.and_eq_true] at hc
      intro x H1 R1
      obtain ⟨A', acc', a1, a2, a3, R2⟩ := Rl.wre (xs' := xs ++ [d]) (fV := fun acc => acc ++ [x]) (R1.unb hc.1).frz hT ei fun Fz am acc r hx => reps_snoc r hx
      rw [ev] at a1
      cases a1
      exact ⟨A, acc', x, rfl, rfl, a2, by rw [a3]; exact len7 hc.2, h _ _ R2⟩
  · exact h.elim

/-! ### (a, b) = [.. for ..] -/
theorem ds_unpT {es : List Expr} {k : Nat} {q : Pos} {p : Pat} (hg : DG S (.Tuple es k q) p) (ha : DE S e da) (hw : noSwap e = true) : DS S (.Assign [.Tuple es k q] e pos) (dUnp p da) := fun W => by
  obtain ⟨t, pt, q⟩ := ha W
  obtain ⟨t2, pt2, q2⟩ := hg
  refine ⟨_, fun X hX tk => ps_asg (pt X hX tk) (pt2 X hX) (by cases e <;> rfl) (noSwap_ok hw) (by rfl), fun g env st T σ H D hT R h => q g env st T σ H _ hT R ?_⟩
  unfold dUnp at h
  cases e : da env st with
  | stuck => rw [e] at h; exact h.elim
  | exc c ds st1 => rw [e] at h; exact h σ
  | ok f b d st1 =>
    rw [e] at h
    obtain ⟨hc, h⟩ := bifT h id
    cases e2 : bindP p f d env with
    | none => rw [e2] at h; exact h.elim
    | some env1 =>
      rw [e2] at h
      exact fun v H1 R1 => q2 g env st1 T σ H1 v f d env1 _ hT (R1.unb hc) e2 fun σ' H' _ R' => h σ' H' R'
end
end Hx

set_option Elab.async false
set_option linter.all false
set_option maxRecDepth 100000
set_option autoImplicit false
/-! F12: defs in a row's context. -/
namespace Hx
open PySem PySem.Spec L2
open PyProof.Rows hiding St

@[reducible] def Sx.at (S : Sx) (N : List Str) (sc : Scope) (k : Nat) : Sx := ⟨S.P, S.w, S.mg, S.base, S.G, N, sc, k, true, S.lok, none⟩
theorem Good.at {S : Sx} {x : Str} {n : Nat} {F : Fn} {dd : List D} {k : Nat} (h : Good S x n F dd k) {N : List Str} {sc : Scope} {j : Nat} : Good (S.at N sc j) x n F dd k := ⟨h.ex⟩
theorem Good.blk {S : Sx} {x : Str} {n : Nat} {F : Fn} {dd : List D} {k : Nat} (h : Good S x n F dd k) {sc : Scope} : Good (S.blk sc) x n F dd k := ⟨h.ex⟩
/-- what the top has bound: a def without defaults -/
structure Kn (S : Sx) (x : Str) (st : Stmt) : Prop where
  ex : ∃ f fd, FunD S.G.K x x (defArgs st) (defBody st) (defScope st) [] [] f fd ∧ S.mg x = some (.ref f)
def BindN (x : Str) (st : Stmt) (ps : List Str) : Prop := ∀ (kV doc pm : Value) (an : Option Addr) (cdv ct : Value) (us : List Value), us.length = ps.length → bindArgs (PySem.W.fnOf x x (defArgs st) (defBody st) (defScope st) .none kV doc pm an cdv ct) ⟨us, []⟩ = pure (ps.zip us)
theorem good_fn {S : Sx} {x : Str} {st : Stmt} {N ps : List Str} {n k : Nat} {db : DenS} (h : Kn S x st) (Sc : FnScope N ps (defScope st)) (hb : DSs (S.at N (defScope st) k) (defBody st) db) (hbind : BindN x st ps) (hn : ps.length = n) : Good S x n (dBody N.length db) [] (k + 1) := by
  subst hn
  obtain ⟨f, fd, F, hm⟩ := h.ex
  exact ⟨f, fd, ps, [], [], ok_fn (S := S.at N (defScope st) k) F Sc hb rfl, hm, F.kp, F.bindsN hbind, .nil, fun Fz am H => .nil fun _ => rfl⟩
/-- the promise that is never asked -/
theorem good_stuck {S : Sx} {x : Str} {st : Stmt} {N ps : List Str} {n k : Nat} (h : Kn S x st) (Sc : FnScope N ps (defScope st)) (hbind : BindN x st ps) (hn : ps.length = n) : Good S x n (fun _ _ => .stuck) [] (k + 1) := by
  subst hn
  obtain ⟨f, fd, F, hm⟩ := h.ex
  refine ⟨f, fd, ps, [], [], ?_, hm, F.kp, F.bindsN hbind, .nil, fun Fz am H => .nil fun _ => rfl⟩
  refine F.ok Sc (fun vs H Q E h => h.1) fun cdv A outer s H vs Q E hr h => ?_
  obtain ⟨hl, Fz, am, as, st, na, ns, h1, h2, h3, h4⟩ := h
  exact h4.elim
/-- a block's names, by a look -/
def blkB (N : List Str) (sc scope : Scope) (own : List (Str × Nat)) : Bool :=
  decide (scope.kind = .function) && scope.names.all (fun y => decide (scope.names.lookup y.1 = some y.2)) && own.all (fun p => decide (N[p.2]? = some p.1)) &&
  scope.names.all (fun y => !decide (y.2 = .free) || (decide (sc.names.lookup y.1 = some .cell) || decide (sc.names.lookup y.1 = some .free))) &&
  scope.names.all (fun y => !(decide (y.2 = .local) || decide (y.2 = .cell)) || (decide (y.1 ∈ own.map (·.1)) || !decide (y.1 ∈ N)))
theorem blk_ok {N : List Str} {sc scope : Scope} {own : List (Str × Nat)} (h : blkB N sc scope own = true) : BlkOk N sc scope own := by
  unfold blkB at h
  simp only [Bool.and_eq_true, List.all_eq_true, decide_eq_true_eq] at h
  obtain ⟨⟨⟨⟨h1, h2⟩, h3⟩, h4⟩, h5⟩ := h
  refine ⟨h1, h2, h3, fun y hy e => ?_, fun y hy e => ?_⟩
  · have := h4 y hy
    simpa [e] using this
  · have := h5 y hy
    rcases e with e | e <;> simpa [e] using this
/-- the law's own promise, of a list of ints -/
theorem law_sp {G : Sg} {F : Fn} {H : Hp} {a : Addr} {ns : List Int} {st : Store} (hS : SqL G.K H a (ns.map V.int)) (hT : LamX.Tabs G.T H) (hL : ∀ j, G.lam j = none) (h : F [(.z, .con .frl (ns.map D.int))] [] = .ok .z false (.bl true) st) :
    SpF G 1 F [.ref a] H (fun v _ => v = .bl true) fun _ _ _ => False := by
  have its : ∀ {Fz : Addr → Prop} {am : List Addr} (ns : List Int), Reps G Fz am H (zs (ns.map D.int).length) (ns.map V.int) (ns.map D.int) (fun _ => 0) := fun {Fz am} ns => by
    induction ns with
    | nil => exact .nil fun _ => rfl
    | cons n ns ih =>
      show Reps G Fz am H (zs ((ns.map D.int).length + 1)) (V.int n :: ns.map V.int) (D.int n :: ns.map D.int) _
      rw [show zs ((ns.map D.int).length + 1) = .z :: zs (ns.map D.int).length from List.replicate_succ]
      exact .cons (n1 := fun _ => 0) (n2 := fun _ => 0) (.sc rfl fun _ => rfl) ih fun _ => rfl
  have fin : ∀ g, PostF G g (fun v _ => v = .bl true) (fun _ _ _ => False) (F [(.z, .con .frl (ns.map D.int))] []) := fun g => by
    rw [h]
    exact ⟨rfl, fun v H' R => R.bl⟩
  have fin2 : ∀ Fz : Addr → Prop, (∀ p, Fz p → ∃ o, H p = some o ∧ plainO o = true) → Shr G Fz H a .frl (ns.map V.int) → SpF G 1 F [.ref a] H (fun v _ => v = .bl true) fun _ _ _ => False := fun Fz hz sh => by
    refine ⟨rfl, Fz, [], [(.z, .con .frl (ns.map D.int))], [], fun _ => 0, fun _ => 0, ?_, .nil fun _ => rfl, ⟨fun p => by simp, fun p hp => absurd hp (Nat.lt_irrefl 0), fun p hp => absurd hp (Nat.lt_irrefl 0), hz, fun p o _ e _ => .inl e, fun p hp => absurd hp (Nat.lt_irrefl 0), fun _ z => z, fun _ z => .inl z, fun _ _ z => z, hT, ⟨fun p z => ⟨fun q => absurd q (Nat.lt_irrefl 0), hz p z⟩, fun p q => absurd q (Nat.lt_irrefl 0), fun j l e => by rw [hL] at e; cases e⟩, fun p o t e _ => ⟨o, e, t⟩⟩, fin _⟩
    exact .cons (n1 := fun _ => 0) (n2 := fun _ => 0) (.zz (k := .frl) sh (its ns) fun _ => rfl) (.nil fun _ => rfl) fun _ => rfl
  rcases hS with r | r
  · exact fin2 (fun p => p = a) (fun p e => by
      subst e
      rcases r with r | ⟨o, r⟩
      · exact ⟨_, r, rfl⟩
      · exact ⟨_, r, rfl⟩) (.inl ⟨rfl, r⟩)
  · exact fin2 (fun _ => False) (fun p e => e.elim) (.inr (.inr r))
end Hx

set_option Elab.async false
set_option linter.all false
set_option maxRecDepth 100000
set_option autoImplicit false
/-! F13: what is never reached; stores side by side; constants of the module. -/
namespace Hx
open PySem PySem.Spec L2
open PyProof.Rows hiding St
section
variable {S : Sx} {e a b c tg : Expr} {es : List Expr} {da db dc de di : Den} {das : DenL} {pos p : Pos} {s : Stmt} {ss : List Stmt} {tr : DenS}
/-- a reading that is never asked -/
@[simp] def dNoE : Den := fun _ _ => .stuck
@[simp] def dNoS : DenS := fun _ _ => .stuck
theorem de_no : DE S e dNoE := fun W => ⟨fun _ _ _ => False, fun X hX tk => ⟨fun _ _ _ _ _ _ h => h.elim⟩, fun g env st T σ H Q hT R h => h⟩
theorem ds_no : DS S s dNoS := fun W => ⟨fun _ _ _ => False, fun X hX tk => ⟨fun _ _ _ _ _ _ h => h.elim⟩, fun g env st T σ H D hT R h => h⟩
/-- two names stored side by side -/
def starB : Expr → Bool
  | .Starred _ _ => true
  | _ => false
theorem sw2 {x y : Str} {px py pt p2 : Pos} {kt k2 : Nat} {X : Cx} (hX : Stx S X) (hk : S.sc.kind = .function) (hx : S.sc.names.lookup x = some .local) (hy : S.sc.names.lookup y = some .local) (hne : ([x, y].eraseDups.length != 2) = false) (hl : (py.line == px.line) = true)
    (hs : ([a, b].any fun | .Starred .. => true | _ => false) = false) (hf : [a, b].all (foldedForSure 8) = false) (hc : [a, b].all (constantsAlone 8) = false) :
    swappedStores [.Tuple [.Name x px, .Name y py] kt pt] (.Tuple [a, b] k2 p2) X.env = pure (some [x, y]) := by
  have k1 : X.env.kindOf x = some .local := by show X.env.scope.names.lookup x = _; rw [hX.sc]; exact hx
  have k2 : X.env.kindOf y = some .local := by show X.env.scope.names.lookup y = _; rw [hX.sc]; exact hy
  have k3 : (X.env.blockKind != .function) = false := by
    unfold Env.blockKind
    rw [hX.sc, hk]
    rfl
  unfold swappedStores
  simp [k1, k2, hl, hf, hc, hne, Expr.pos, List.filterMap]
  have k4 : X.env.blockKind = .function := by simpa using k3
  rw [if_pos k4]
  simp only [List.any_cons, List.any_nil, Bool.or_false, Bool.or_eq_false_iff] at hs
  rw [if_neg]
  rintro (h | h)
  · exact absurd (Eq.trans (Eq.symm h) hs.1) (by decide)
  · exact absurd (Eq.trans (Eq.symm h) hs.2) (by decide)
/-- a, b = e1, e2: both names local -/
@[simp] def dPar (i j : Nat) (as : DenL) : DenS := fun env st => match as env st with
  | .ok [(f, b, d), (f', b', d')] st1 => bif (!b || f.isz) && (!b' || f'.isz) then .nx ((env.set i (some (f, d))).set j (some (f', d'))) st1 else .stuck
  | .ok _ _ => .stuck
  | .exc c ds st1 => .exc c ds env st1
  | .stuck => .stuck
theorem ds_par {i j : Nat} {x y : Str} {px py pt p2 : Pos} {kt k2 : Nat} (hN : S.N[i]? = some x) (hM : S.N[j]? = some y) (hij : i ≠ j) (hk : S.sc.kind = .function) (hx : S.sc.names.lookup x = some .local) (hy : S.sc.names.lookup y = some .local) (hne : ([x, y].eraseDups.length != 2) = false) (hl : (py.line == px.line) = true)
    (hs : ([a, b].any fun | .Starred .. => true | _ => false) = false) (hf : [a, b].all (foldedForSure 8) = false) (hc : [a, b].all (constantsAlone 8) = false) (ha : DA S [a, b] das) :
    DS S (.Assign [.Tuple [.Name x px, .Name y py] kt pt] (.Tuple [a, b] k2 p2) pos) (dPar i j das) := fun W => by
  obtain ⟨t, p, q⟩ := ha W
  refine ⟨_, fun X hX tk => ps_par hX.calm hX.nd (by rw [hX.N]; exact hN) (by rw [hX.N]; exact hM) hij (by rw [hX.sc]; exact hx) (by rw [hX.sc]; exact hy) (p X hX tk) (sw2 hX hk hx hy hne hl hs hf hc), fun g env st T σ H D hT R h => q g env st T σ H _ hT R ?_⟩
  unfold dPar at h
  cases e : das env st with
  | stuck => rw [e] at h; exact h.elim
  | exc c ds st1 => rw [e] at h; exact h σ
  | ok ts st1 =>
    rw [e] at h
    intro vs H1 hvl R1
    split at h
    · rename_i f b d f' b' d' st2 e2
      cases e2
      obtain ⟨hb, h⟩ := bifT h id
      rw [Bool.and_eq_true] at hb
      match vs, hvl with
      | [v, w], _ =>
        refine ⟨v, w, rfl, h _ _ ?_⟩
        have R2 : Rl S.G g env st1 (⟨v, f, d, b⟩ :: ⟨w, f', d', b'⟩ :: T) σ H1 := R1
        have R3 := (R2.unb hb.1)
        have R4 : Rl S.G g env st1 (⟨w, f', d', b'⟩ :: ⟨v, f, d, false⟩ :: T) σ H1 := RlB.mid (l := [_]) R3
        have R5 := Rl.unb R4 hb.2
        have R6 : Rl S.G g env st1 (⟨v, f, d, false⟩ :: ⟨w, f', d', false⟩ :: T) σ H1 := RlB.mid (l := [_]) R5
        have R7 := Rl.store (b := false) R6 rfl (nb_cons hT) i
        exact Rl.store (b := false) R7 rfl hT j
    · rename_i e2; cases e2; exact h.elim
    · rename_i e2; cases e2
    · rename_i e2; cases e2
end
/-! ### constants of the module -/
structure GV (S : Sx) (x : Str) (d : D) : Prop where
  ex : ∃ v u, S.mg x = some u ∧ RelV v u ∧ ∀ Fz am H, Rep S.G Fz am H .z v d (fun _ => 0)
theorem GV.at {S : Sx} {x : Str} {d : D} (h : GV S x d) {N : List Str} {sc : Scope} {k : Nat} : GV (S.at N sc k) x d := ⟨h.ex⟩
theorem GV.blk {S : Sx} {x : Str} {d : D} (h : GV S x d) {sc : Scope} : GV (S.blk sc) x d := ⟨h.ex⟩
theorem de_glo {S : Sx} {x : Str} {p : Pos} {d : D} (h : GV S x d) (hg : S.sc.names.lookup x = some .globalImplicit) (hd : (x == ("__debug__" : Str)) = false) : DE S (.Name x p) (dC d) := fun W => by
  obtain ⟨v, u, hm, r, rep⟩ := h.ex
  exact ⟨_, fun X hX tk => pe_glob (show X.env.scope.names.lookup x = some .globalImplicit by rw [hX.sc]; exact hg) (by rw [hX.mg]; exact hm) r hd, fun g env st T σ H Q hT R h => h _ H (R.pz fun Fz am ne nt _ _ => rep Fz am H)⟩
/-- a value of the written part reads as d -/
def kval (K : PySem.W.Frag) : Nat → Value → D → Bool
  | 0, _, _ => false
  | _ + 1, .none, .non => true
  | _ + 1, .bool a, .bl b => a == b
  | _ + 1, .int i _, .int j => decide (i = j)
  | _ + 1, .str x _, .str y => decide (x = y)
  | n + 1, .ref a, .con .tup ds => match K.lookup a with
    | some ⟨.type "tuple", _, .seq its _, _⟩ => decide (its.size ≤ 1000) && decide (its.size = ds.length) && (its.toList.zip ds).all fun q => kval K n q.1 q.2
    | _ => false
  | n + 1, .ref a, .con .frl ds => match K.lookup a with
    | some ⟨.type "list", Option.none, .seq its _, _⟩ => decide (its.size ≤ 1000) && decide (its.size = ds.length) && (its.toList.zip ds).all fun q => kval K n q.1 q.2
    | _ => false
  | _, _, _ => false
section
variable {G : Sg} {Fz : Addr → Prop} {am : List Addr} {H : Hp}
theorem kvals {n : Nat} (ih : ∀ u d, kval G.K n u d = true → ∃ v, RelV v u ∧ ∀ Fz am H, Rep G Fz am H .z v d (fun _ => 0)) : ∀ (us : List Value) (ds : List D), us.length = ds.length → ((us.zip ds).all fun q => kval G.K n q.1 q.2) = true →
    ∃ vs, Vals vs us ∧ ∀ Fz am H, Reps G Fz am H (zs ds.length) vs ds (fun _ => 0)
  | [], [], _, _ => ⟨[], .nil, fun _ _ _ => .nil fun _ => rfl⟩
  | u :: us, d :: ds, hl, h => by
    rw [List.zip_cons_cons, List.all_cons, Bool.and_eq_true] at h
    obtain ⟨v, r, rep⟩ := ih u d h.1
    obtain ⟨vs, rs, reps⟩ := kvals ih us ds (by simpa using hl) h.2
    refine ⟨v :: vs, .cons r rs, fun Fz am H => ?_⟩
    rw [show zs (d :: ds).length = .z :: zs ds.length from List.replicate_succ]
    exact .cons (rep Fz am H) (reps Fz am H) fun q => rfl
theorem small1k {n : Nat} (h : n ≤ 1000) : n ≤ sizeLine := Nat.le_trans h (by decide)
theorem kval_ok : ∀ (n : Nat) (u : Value) (d : D), kval G.K n u d = true → ∃ v, RelV v u ∧ ∀ Fz am H, Rep G Fz am H .z v d (fun _ => 0)
  | 0, u, d, h => by cases h
  | n + 1, u, d, h => by
    have ih := kval_ok n
    unfold kval at h
    split at h
    · cases h
    · exact ⟨.non, rfl, fun _ _ _ => .sc trivial fun _ => rfl⟩
    · rename_i a b e1
      have := eq_of_beq h
      subst this
      exact ⟨.bl a, rfl, fun _ _ _ => .sc rfl fun _ => rfl⟩
    · rename_i i t j e1
      have := of_decide_eq_true h
      subst this
      exact ⟨.int i, ⟨t, rfl⟩, fun _ _ _ => .sc rfl fun _ => rfl⟩
    · rename_i i t j e1
      have := of_decide_eq_true h
      subst this
      exact ⟨.str i, ⟨t, rfl⟩, fun _ _ _ => .sc rfl fun _ => rfl⟩
    · rename_i m a ds e1
      split at h
      · rename_i dx its n0 sl el
        simp only [Bool.and_eq_true, decide_eq_true_eq] at h
        have em : n = m := Nat.succ.inj e1
        subst em
        obtain ⟨vs, rs, reps⟩ := kvals (kval_ok _) its.toList ds (by simpa using h.1.2) h.2
        exact ⟨.ref a, rfl, fun Fz am H => .zz (k := .tup) (.inr ⟨_, its, n0, el, rfl, rfl, small1k h.1.1, rs⟩) (reps Fz am H) fun _ => rfl⟩
      · cases h
    · rename_i m a ds e1
      split at h
      · rename_i its n0 sl el
        simp only [Bool.and_eq_true, decide_eq_true_eq] at h
        have em : n = m := Nat.succ.inj e1
        subst em
        obtain ⟨vs, rs, reps⟩ := kvals (kval_ok _) its.toList ds (by simpa using h.1.2) h.2
        exact ⟨.ref a, rfl, fun Fz am H => .zz (k := .frl) (.inr (.inr ⟨_, its, n0, el, rfl, rfl, rfl, small1k h.1.1, rs⟩)) (reps Fz am H) fun _ => rfl⟩
      · cases h
    · cases h
end
/-- a global name's value reads as d -/
def gval (K : PySem.W.Frag) (x : Str) (d : D) : Bool := match PySem.W.nsIn K mainGlobals x with
  | some (some u) => kval K 8 u d
  | _ => false
theorem gv_of {S : Sx} {h : Heap} (X : S.G.K.In h) (Gn : h.Ns mainGlobals S.mg) {x : Str} {d : D} (c : gval S.G.K x d = true) : GV S x d := by
  unfold gval at c
  split at c
  · rename_i u e
    obtain ⟨v, r, rep⟩ := kval_ok 8 u d c
    exact ⟨v, u, PySem.W.mg_of X Gn e, r, rep⟩
  · cases c
end Hx

set_option Elab.async false
set_option linter.all false
set_option maxRecDepth 100000
set_option autoImplicit false
/-! F14: defs with defaults. -/
namespace Hx
open PySem PySem.Spec L2
open PyProof.Rows hiding St
/-- scalars as values -/
def scV : D → V
  | .bl b => .bl b
  | .int i => .int i
  | .str s => .str s
  | _ => .non
def isSc : D → Bool
  | .non => true
  | .bl _ => true
  | .int _ => true
  | .str _ => true
  | _ => false
theorem sc_reps {G : Sg} : ∀ (ds : List D), ds.all isSc = true → ∀ Fz am H, Reps G Fz am H (zs ds.length) (ds.map scV) ds (fun _ => 0)
  | [], _, _, _, _ => .nil fun _ => rfl
  | d :: ds, h, Fz, am, H => by
    rw [List.all_cons, Bool.and_eq_true] at h
    rw [show zs (d :: ds).length = .z :: zs ds.length from List.replicate_succ]
    refine .cons (n1 := fun _ => 0) (n2 := fun _ => 0) (.sc ?_ fun _ => rfl) (sc_reps ds h.2 Fz am H) fun _ => rfl
    cases d <;> first | trivial | rfl | (exact Bool.noConfusion h.1)
/-- a def with defaults that are scalars -/
structure KnD (S : Sx) (x : Str) (st : Stmt) (dfl : List D) : Prop where
  ex : ∃ f fd, FunD S.G.K x x (defArgs st) (defBody st) (defScope st) (dfl.map scV) [] f fd ∧ S.mg x = some (.ref f)
def BindD (x : Str) (st : Stmt) (ps : List Str) (n m j : Nat) : Prop := ∀ (T : Addr) (kV doc pm : Value) (an : Option Addr) (cdv ct : Value) (us its : List Value), us.length = n → its.length = m →
  ∃ k, bindArgs (PySem.W.fnOf x x (defArgs st) (defBody st) (defScope st) (.ref T) kV doc pm an cdv ct) ⟨us, []⟩ = seqItems? (.ref T) >>= k ∧ k (some its.toArray) = pure (ps.zip (us ++ its.drop j))
/-- called with n arguments; the defaults behind the first j fill up -/
theorem good_fnD {S : Sx} {x : Str} {st : Stmt} {N ps : List Str} {m n j k : Nat} {db : DenS} {dfl dd : List D} (h : KnD S x st dfl) (Sc : FnScope N ps (defScope st)) (hb : DSs (S.at N (defScope st) k) (defBody st) db) (hbind : BindD x st ps n dfl.length j) (hd : dfl ≠ []) (ha : dfl.all isSc = true)
    (hdd : dfl.drop j = dd) (hn : n + dd.length = ps.length) (hm : ps.length = m) : Good S x m (dBody N.length db) dd (k + 1) := by
  subst hm hdd
  obtain ⟨f, fd, F, hmg⟩ := h.ex
  obtain ⟨ds, vd, bd⟩ := F.binds1 (ps := ps) n j (by simpa using hd) (by simpa using hn) fun T kV doc pm an cdv ct us its hu hi => hbind T kV doc pm an cdv ct us its hu (by simpa using hi)
  refine ⟨f, fd, ps, ds, (dfl.drop j).map scV, ok_fn (S := S.at N (defScope st) k) F Sc hb rfl, hmg, F.kp, bd, by rw [List.map_drop]; exact vd, fun Fz am H => sc_reps _ ?_ Fz am H⟩
  rw [List.all_eq_true] at ha ⊢
  exact fun d hd' => ha d (List.mem_of_mem_drop hd')
end Hx

set_option Elab.async false
set_option linter.all false
set_option maxRecDepth 100000
set_option autoImplicit false
/-! M0: readings made plain. -/
namespace Hx
open PySem PySem.Spec L2
abbrev P2 (x y : Int) : D := .con .tup [.int x, .int y]
theorem eqD_int {i j : Int} : eqD (.int i) (.int j) = some (i == j) := by
  simp [eqD, D.py, SeqAt.shaped, PyData.canLay0, PyData.depth, PyData.eqv]
theorem eqD_bl {i j : Bool} : eqD (.bl i) (.bl j) = some (i == j) := by
  simp [eqD, D.py, SeqAt.shaped, PyData.canLay0, PyData.depth, PyData.eqv]
/-- numbers below 2 ^ n -/
def Sm (n : Nat) (i : Int) : Prop := i.natAbs < 2 ^ n
theorem Sm.mono {n m : Nat} {i : Int} (h : Sm n i) (k : n ≤ m) : Sm m i := Nat.lt_of_lt_of_le h (Nat.pow_le_pow_right (by decide) k)
theorem Sm.mul {n m : Nat} {i j : Int} (h : Sm n i) (k : Sm m j) : Sm (n + m) (i * j) := by
  unfold Sm at *
  rw [Int.natAbs_mul, Nat.pow_add]
  exact Nat.mul_lt_mul'' h k
theorem Sm.add {n m : Nat} {i j : Int} (h : Sm n i) (k : Sm m j) : Sm (max n m + 1) (i + j) := by
  have h' := h.mono (Nat.le_max_left n m)
  have k' := k.mono (Nat.le_max_right n m)
  unfold Sm at *
  rw [Nat.pow_succ]
  omega
theorem Sm.sub {n m : Nat} {i j : Int} (h : Sm n i) (k : Sm m j) : Sm (max n m + 1) (i - j) := by
  have h' := h.mono (Nat.le_max_left n m)
  have k' := k.mono (Nat.le_max_right n m)
  unfold Sm at *
  rw [Nat.pow_succ]
  omega
theorem Sm.lg {n : Nat} {i : Int} (h : Sm n i) : i.natAbs.log2 ≤ n := Nat.lt_succ_iff.mp (PySem.Flt.log2_lt_of (Nat.succ_pos n) (h.mono (Nat.le_succ n)))
theorem Sm.ok {n m : Nat} {i j : Int} (h : Sm n i) (k : Sm m j) (a : n ≤ 400000) (b : m ≤ 400000) : mulOk i j = true := by
  have x := h.lg
  have y := k.lg
  simp only [mulOk, decide_eq_true_eq]
  omega
theorem divOk_of {n : Nat} {j : Int} (h : Sm n j) (h0 : j ≠ 0) (k : n ≤ 9000) (p : 0 < n) : divOk j = true := by
  have x : j.natAbs.log2 < n := PySem.Flt.log2_lt_of p h
  simp only [divOk, Bool.and_eq_true, decide_eq_true_eq]
  exact ⟨h0, by omega⟩
/-- the drawing bag in cell c -/
structure Bag (k : Nat) (st : Store) (c : Nat) : Prop where
  ex : ∃ (xs : List Int) (i h s n : Int), st[c]? = some (.c .z, .con .lst [.con .lst (xs.map D.int), .int i, .int h, .int s, .int n]) ∧ 0 ≤ i ∧ 0 ≤ h ∧ 0 ≤ s ∧ s < 2147483647 ∧ 0 ≤ n ∧ n ≤ k
theorem Bag.mono {k j : Nat} {st : Store} {c : Nat} (b : Bag k st c) (h : k ≤ j) : Bag j st c := by
  obtain ⟨xs, i, h', s, n, e, a1, a2, a3, a4, a5, a6⟩ := b.ex
  exact ⟨xs, i, h', s, n, e, a1, a2, a3, a4, a5, by omega⟩
/-- nothing but cell c has changed -/
structure Fro1 (c : Nat) (st st' : Store) : Prop where
  len : st'.length = st.length
  at_ : ∀ j, j ≠ c → st'[j]? = st[j]?
theorem Fro1.refl {c : Nat} {st : Store} : Fro1 c st st := ⟨rfl, fun _ _ => rfl⟩
theorem Fro1.trans {c : Nat} {s1 s2 s3 : Store} (a : Fro1 c s1 s2) (b : Fro1 c s2 s3) : Fro1 c s1 s3 := ⟨b.len.trans a.len, fun j h => (b.at_ j h).trans (a.at_ j h)⟩
theorem Fro1.set {c : Nat} {st : Store} {x : Fr × D} : Fro1 c st (st.set c x) := ⟨List.length_set, fun j h => by rw [List.getElem?_set_ne (Ne.symm h)]⟩
theorem lk_bag {st : Store} {c : Nat} {ds : List D} (e : st[c]? = some (.c .z, .con .lst ds)) : lk st (.ref c) = .con .lst ds := by
  simp [lk, e, Fr.flat, Fr.isz]
theorem get_set {st : Store} {c : Nat} {x y : Fr × D} (e : st[c]? = some x) : (st.set c y)[c]? = some y := by
  have h := (List.getElem?_eq_some_iff.mp e).1
  rw [List.getElem?_set_self h]
theorem atI_map {xs : List Int} {i : Int} (h0 : 0 ≤ i) (h : i < xs.length) : ∃ x, atI (xs.map D.int) i = some (.int x) := by
  have hl : i.toNat < xs.length := by omega
  refine ⟨xs[i.toNat], ?_⟩
  simp [atI, ixN, h0, h, hl]
/-! ### the readings, for simp -/
section
variable {i : Nat} {a b c e o : Den} {as : DenL} {t u : DenB} {s r : DenS} {env : Env} {st : Store} {d d' : D} {ds : List D} {op op' : Op} {j k : Int}
@[simp] theorem eqD_int' {i j : Int} : eqD (.int i) (.int j) = some (decide (i = j)) := by rw [eqD_int]; congr 1
@[simp] theorem eqD_bl' {i j : Bool} : eqD (.bl i) (.bl j) = some (decide (i = j)) := by rw [eqD_bl]; cases i <;> cases j <;> rfl
@[simp] theorem isz_z : Fr.isz .z = true := rfl
@[simp] theorem isz_c {f : Fr} : Fr.isz (.c f) = false := rfl
@[simp] theorem isz_t {fs : List Fr} : Fr.isz (.t fs) = false := rfl
@[simp] theorem flat_z : Fr.flat .z = true := rfl
@[simp] theorem flat_cz : Fr.flat (.c .z) = true := rfl
@[simp] theorem seq_tup : Kd.seq .tup = true := rfl
@[simp] theorem seq_lst : Kd.seq .lst = true := rfl
@[simp] theorem seq_frl : Kd.seq .frl = true := rfl
@[simp] theorem sq_lst : Kd.sq .lst = true := rfl
@[simp] theorem sq_frl : Kd.sq .frl = true := rfl
@[simp] theorem ble_dec {x y : Nat} : Nat.ble x y = decide (x ≤ y) := by rw [Bool.eq_iff_iff]; simp [Nat.ble_eq]
@[simp] theorem lk_int : lk st (.int j) = .int j := rfl
@[simp] theorem lk_bl {x : Bool} : lk st (.bl x) = .bl x := rfl
@[simp] theorem lk_non : lk st .non = .non := rfl
@[simp] theorem lk_str {x : Str} : lk st (.str x) = .str x := rfl
@[simp] theorem lk_con {x : Kd} : lk st (.con x ds) = .con x ds := rfl
theorem lk_set {c : Nat} {f : Fr} (hl : c < st.length) (hf : f.flat = true) : lk (st.set c (f, d)) (.ref c) = d := by
  have e : (st.set c (f, d))[c]? = some (f, d) := List.getElem?_set_self hl
  unfold lk
  dsimp only
  rw [e]
  show (bif f.flat then d else .ref c) = d
  rw [hf]
  rfl
@[simp] theorem lk_setc {c : Nat} (hl : c < st.length) : lk (st.set c (.c .z, d)) (.ref c) = d := lk_set hl rfl
@[simp] theorem at0 {x : D} {xs : List D} : atI (x :: xs) 0 = some x := by simp [atI, ixN]
@[simp] theorem at1 {x y : D} {xs : List D} : atI (x :: y :: xs) 1 = some y := by
  have : (1 : Int) < (xs.length : Int) + 1 + 1 := by omega
  simp [atI, ixN, this]
@[simp] theorem at2 {x y z : D} {xs : List D} : atI (x :: y :: z :: xs) 2 = some z := by
  have : (2 : Int) < (xs.length : Int) + 1 + 1 + 1 := by omega
  simp [atI, ixN, this]
@[simp] theorem at3 {x y z w : D} {xs : List D} : atI (x :: y :: z :: w :: xs) 3 = some w := by
  have : (3 : Int) < (xs.length : Int) + 1 + 1 + 1 + 1 := by omega
  simp [atI, ixN, this]
@[simp] theorem at4 {x y z w v : D} {xs : List D} : atI (x :: y :: z :: w :: v :: xs) 4 = some v := by
  have : (4 : Int) < (xs.length : Int) + 1 + 1 + 1 + 1 + 1 := by omega
  simp [atI, ixN, this]
end
end Hx

set_option Elab.async false
set_option linter.all false
set_option maxRecDepth 100000
set_option autoImplicit false
/-! M1: the head's facts, a law's end, with exceptions by world. -/
namespace Hx
open PySem PySem.Spec L2
open PyProof.Rows hiding St
/-- the context of a row's defs -/
@[reducible] def S0 (P : Program) (w : World) (K : PySem.W.Frag) (mg : Str → Option Value) (base : Heap) : Sx :=
  ⟨P, w, mg, base, ⟨K, fun _ => 0, fun _ => [], [], fun _ => none, []⟩, [], ⟨.function, [], false, false, []⟩, 0, true, lams0 fun _ => rfl, none⟩
theorem kn_of {fa : List He.Fa} {fn : List He.DefD} {P : Program} {w : World} {K : PySem.W.Frag} {h : Heap} {mg : Str → Option Value} {base : Heap} (c : He.SaysD fa fn K) (X : K.In h) (Gn : h.Ns mainGlobals mg) (i j : Nat) {x : Str} {st : Stmt} {d : He.DefD}
    (hd : fn[i]? = some d) (hf : fa[j]? = some (.glo x)) (e : d = ⟨(x, none), x, x, defArgs st, defBody st, defScope st, [], []⟩ := by rfl) : Kn (S0 P w K mg base) x st := by
  subst e
  obtain ⟨fd, F⟩ := c.def_ i hd
  exact ⟨_, fd, F, He.glo_ok X Gn (c.fact j hf)⟩
/-- a law's end, what its defs let out told by the world -/
theorem law_end {l : PySem.W.OpenLaw} {n k : Nat} {q : Program} {loose : List Str} {XP : (Str → Option Value) → Heap → Prop} {YP : World → Heap → Prop} {d : DefRec} {x : Str}
    (hn : l.most = some n) (hn2 : n ≤ sizeLine) (hdf : d.params.defaults = []) (hr : Room k callerA)
    (F : ∀ (w : World) (mg : Str → Option Value) (fa : Addr) (h : Heap), YP w h → h.Ns mainGlobals mg → mg d.name = some (.ref fa) → ∃ (K : PySem.W.Frag) (fd : FuncData) (sp : Sp), K.In h ∧
      (∀ (s : Shared) (u : Value), BindsTo s fd ⟨[u], []⟩ [(x, u)]) ∧ (∀ (H : Hp) (a : Addr) (ns : List Int), ns.length ≤ n → SqL K H a (ns.map V.int) → sp [.ref a] H (fun v _ => v = .bl true) fun _ _ _ => False) ∧
      ∀ base : Heap, K.In base → base.Ns mainGlobals mg → FnOk l.prog w K mg base (L2.CX l.prog w) k fa fd [x] sp) :
    PySem.W.WalkO q loose XP YP l.row.toRowW d [] (fun f vs => PySem.call f vs) := by
  refine Att.attach_call hn hdf fun w s0 s1 mg mb fa o pm cd doc a vs ns Gw Y ho hd hcd hmg hobj hints hlen hg => ?_
  obtain ⟨K, fd, sp, KX, hb, hsp, hF⟩ := F w mg fa _ Y Gw.T.g hmg
  refine law_call KX Gw.T.g Gw.T.b Gw.T.builtins Gw.T.nolimit hg hobj hints (Nat.le_trans hlen hn2) hr hF hb ?_ ?_
  · exact fun H _ hS => hsp H a ns hlen hS
  · intro H e s' z
    obtain ⟨_, _, _, _, _, _, _, _, _, _, _, _, z⟩ := z
    exact z
end Hx

set_option Elab.async false
set_option linter.all false
set_option maxRecDepth 100000
set_option autoImplicit false
/-! M2: a head that tells constants, defaults too. -/
namespace Hx
open PySem PySem.Spec L2
open PyProof.Rows hiding St
/-- the head's look, one Bool more -/
def obsX (as : (Addr → Option Obj) → List Addr) (fa : List He.Fa) (fn : List He.DefD) (ex : PySem.W.Frag → Bool) (g : Addr → Option Obj) : He.AlD × Bool :=
  (He.obsD fa fn (He.frG g (as g)), ex (He.frG g (as g)))
def hookX (as : (Addr → Option Obj) → List Addr) (fa : List He.Fa) (fn : List He.DefD) (ex : PySem.W.Frag → Bool) : PySem.W.Hook where
  α := He.AlD × Bool
  obs := fun s => obsX as fa fn ex s.heap.get?
  val := fun _ => (He.valD fn, true)
  says := fun _ h => ∃ K : PySem.W.Frag, K.In h ∧ He.SaysD fa fn K ∧ ex K = true
  of := fun _ _ e => ⟨_, He.frG_in, congrArg Prod.fst e, congrArg Prod.snd e⟩
  keeps := fun _ _ _ ⟨K, hK, c⟩ k => ⟨K, PySem.W.Frag.In.keeps hK k, c⟩
theorem obsX_eq {as : (Addr → Option Obj) → List Addr} {fa : List He.Fa} {fn : List He.DefD} {ex : PySem.W.Frag → Bool} {g : Addr → Option Obj} {s : Shared} (h : ∀ a, g a = s.heap.get? a) : obsX as fa fn ex g = (hookX as fa fn ex).obs s := by
  have e : g = s.heap.get? := funext h
  rw [e]
  rfl
/-- the constants' look -/
def constsB (cs : List (Str × D)) (K : PySem.W.Frag) : Bool := cs.all fun q => gval K q.1 q.2
theorem constsB_at {cs : List (Str × D)} {K : PySem.W.Frag} (h : constsB cs K = true) (i : Nat) {x : Str} {d : D} (e : cs[i]? = some (x, d)) : gval K x d = true :=
  List.all_eq_true.mp h (x, d) (List.mem_of_getElem? e)
/-- a scalar default as the head tells it -/
def dvOf : D → He.Dv
  | .bl b => .bl b
  | .int i => .int i
  | .str s => .str s
  | _ => .non
theorem dv_v (K : PySem.W.Frag) : ∀ ds : List D, (ds.map dvOf).map (He.Dv.v K) = ds.map scV
  | [] => rfl
  | d :: ds => by
    rw [List.map_cons, List.map_cons, List.map_cons, dv_v K ds]
    cases d <;> rfl
theorem knd_of {fa : List He.Fa} {fn : List He.DefD} {P : Program} {w : World} {K : PySem.W.Frag} {h : Heap} {mg : Str → Option Value} {base : Heap} (c : He.SaysD fa fn K) (X : K.In h) (Gn : h.Ns mainGlobals mg) (i j : Nat) {x : Str} {st : Stmt} {dfl : List D} {d : He.DefD}
    (hd : fn[i]? = some d) (hf : fa[j]? = some (.glo x)) (e : d = ⟨(x, none), x, x, defArgs st, defBody st, defScope st, dfl.map dvOf, []⟩ := by rfl) : KnD (S0 P w K mg base) x st dfl := by
  subst e
  obtain ⟨fd, F⟩ := c.def_ i hd
  have F' : FunD K x x (defArgs st) (defBody st) (defScope st) ((dfl.map dvOf).map (He.Dv.v K)) [] (He.fAd K (x, none)) fd := F
  rw [dv_v] at F'
  exact ⟨_, fd, F', He.glo_ok X Gn (c.fact j hf)⟩
end Hx

set_option Elab.async false
set_option linter.all false
set_option maxRecDepth 100000
set_option maxHeartbeats 4000000
set_option autoImplicit false
/-! X1: own exception classes over any built-in base: made by an own __init__ that stores fields. -/
namespace Hx
open PySem PySem.Spec L2
open PyProof.Rows hiding St
/-- what the written part says of such a class -/
structure XCls (K : PySem.W.Frag) (C : Addr) : Prop where
  ex : ∃ (B newId initId : String) (bmB : List Value), ExcBaseFacts B newId initId bmB ∧ StoreFacts B bmB "object.__setattr__" "object" ∧ PySem.W.excInitIn K C bmB newId = true ∧ PySem.W.excOver K C bmB = true
  hd : PySem.W.hasDictIn K C = true
  sa : PySem.W.findIn K (.ref C) "__setattr__" = some (some (.builtin "object.__setattr__"))
  be : PySem.W.subIn K (.ref C) (.type "BaseException") = some true
  ty : PySem.W.typeIn K (.ref C) = some (.type "type")
  kp : PySem.W.keepIn K (.ref C) = true
abbrev baseV (B : String) : List Value := [.type B, .type "Exception", .type "BaseException", .type "object"]
def xbase (K : PySem.W.Frag) (C : Addr) (B n : String) : Bool := PySem.W.excInitIn K C (baseV B) n && PySem.W.excOver K C (baseV B)
def xclsB (K : PySem.W.Frag) (C : Addr) : Bool :=
  (xbase K C "ValueError" "ValueError.__new__" || (xbase K C "LookupError" "LookupError.__new__" || xbase K C "RuntimeError" "RuntimeError.__new__")) &&
  (PySem.W.hasDictIn K C && (decide (PySem.W.findIn K (.ref C) "__setattr__" = some (some (.builtin "object.__setattr__"))) && (decide (PySem.W.subIn K (.ref C) (.type "BaseException") = some true) && (decide (PySem.W.typeIn K (.ref C) = some (.type "type")) && PySem.W.keepIn K (.ref C)))))
theorem xcls_of {K : PySem.W.Frag} {C : Addr} (h : xclsB K C = true) : XCls K C := by
  unfold xclsB xbase at h
  simp only [Bool.and_eq_true, Bool.or_eq_true, decide_eq_true_eq] at h
  obtain ⟨h0, h1, h2, h3, h4, h5⟩ := h
  refine ⟨?_, h1, h2, h3, h4, h5⟩
  rcases h0 with ⟨a, b⟩ | ⟨a, b⟩ | ⟨a, b⟩
  · exact ⟨_, _, _, _, F.excBase_ValueError, F.store_ValueError, a, b⟩
  · exact ⟨_, _, _, _, F.excBase_LookupError, F.store_LookupError, a, b⟩
  · exact ⟨_, _, _, _, F.excBase_RuntimeError, F.store_RuntimeError, a, b⟩
/-- a plain record of an exception under way -/
abbrev xrec (C t1 : Addr) (d : Option Addr) : Obj := { cls := .ref C, dict := d, data := .fields #[.ref t1, .none, .none, .none, .bool false, .none] }
section
variable {prog : Program} {w : World} {A : Around} {E : Value → Shared → Prop} {hp : Heap} {g : Array GenState} {dr : Drawn} {tk0 : Nat} {os : OsState}
open Builtin Builtin.ObjectAttr
/-- the first field: the dict is made -/
theorem put_first {K : PySem.W.Frag} {C a t1 : Addr} {f : Str} {u : Value} {Q : Unit → Shared → Prop} (T : XCls K C) (X : K.In hp) (ho : hp.get? a = some (xrec C t1 none)) (ht : PySem.W.takerIn K C f = some none)
    (h : ∀ h' tk' dx, (∀ b o, b ≠ a → hp.get? b = some o → h'.get? b = some o) → hp.objs.size ≤ dx → dx ≠ a → h'.get? a = some (xrec C t1 (some dx)) → h'.Ns1 dx (fun y => if y = f then some u else none) → Q () ⟨h', g, dr, tk', os⟩) :
    wpAny (model prog w) A (setAttr (.ref a) f u) Q E ⟨hp, g, dr, tk0, os⟩ := by
  obtain ⟨B, ni, ii, bmB, FB, SF, k1, k2⟩ := T.ex
  refine PySem.W.set_plain X (ox := xrec C t1 none) (od := none) ⟨ho, rfl, rfl, trivial⟩ T.sa ?_
  refine PySem.W.osa_openX (od := none) SF X ⟨ho, rfl, rfl, trivial⟩ k2 ht fun b => ?_
  obtain ⟨cd, hc, hd⟩ := PySem.W.any_some T.hd
  have hcls : PySem.W.Looks (model prog w) hp (classData C) cd := PySem.W.looks_clsIn X hc
  have nxs : a ≠ hp.objs.size := Nat.ne_of_lt (Heap.lt_size ho)
  obtain ⟨nm, bs, mro, ns, qn, hdd, sn, sb, ab, col, del⟩ := cd
  dsimp only at hd
  subst hd
  unfold storeInOwnDict ownDictForStores
  repeat (first | with_reducible refine PySem.HandSPX.store_in_new ?nd ?st | with_reducible refine wpAny_loadPart_at ho ?_ | with_reducible refine hcls.at ?_ | wp_step)
  case nd => exact ⟨_, #[], _, (Heap.get?_update_ne _ _ _ _ nxs.symm).trans (Heap.get?_push_at rfl rfl), rfl, fun e he => absurd he (by simp), fun _ => rfl⟩
  case st =>
    intro h' tk' hn' hs
    have ho1 : (hp.push { cls := .type "dict", data := .dict #[] }).get? a = some (xrec C t1 none) := Heap.get?_push_of_some _ ho
    refine h h' tk' hp.objs.size (fun b o hb hbo => ?_) (Nat.le_refl _) nxs.symm ?_ hn'
    · exact (hs.2 b (Nat.ne_of_lt (Heap.lt_size hbo))).trans ((Heap.get?_update_ne _ _ _ _ hb).trans (Heap.get?_push_of_some _ hbo))
    · exact (hs.2 a nxs).trans (Heap.get?_update_self _ ho1 rfl)
/-- a further one -/
theorem put_next {K : PySem.W.Frag} {C a t1 dx : Addr} {f : Str} {u : Value} {Q : Unit → Shared → Prop} {m0 : Str → Option Value} {nl : List Str} (T : XCls K C) (X : K.In hp) (ho : hp.get? a = some (xrec C t1 (some dx))) (hns : hp.Ns1 dx m0) (hw : Within m0 nl) (hz : nl.length ≤ 1000)
    (ht : PySem.W.takerIn K C f = some none) (h : ∀ h' tk', (∀ b o, b ≠ dx → hp.get? b = some o → h'.get? b = some o) → h'.Ns1 dx (fun y => if y = f then some u else m0 y) → Q () ⟨h', g, dr, tk', os⟩) :
    wpAny (model prog w) A (setAttr (.ref a) f u) Q E ⟨hp, g, dr, tk0, os⟩ := by
  obtain ⟨B, ni, ii, bmB, FB, SF, k1, k2⟩ := T.ex
  obtain ⟨oD, eD, pD, hoD, hdD, _⟩ := hns.count hw
  refine PySem.W.set_plain X (ox := xrec C t1 (some dx)) (od := some oD) ⟨ho, rfl, rfl, hoD⟩ T.sa ?_
  refine PySem.W.osa_openX (od := some oD) SF X ⟨ho, rfl, rfl, hoD⟩ k2 ht fun b => ?_
  obtain ⟨cd, hc, hd⟩ := PySem.W.any_some T.hd
  have hcls : PySem.W.Looks (model prog w) hp (classData C) cd := PySem.W.looks_clsIn X hc
  obtain ⟨nm, bs, mro, ns, qn, hdd, sn, sb, ab, col, del⟩ := cd
  dsimp only at hd
  subst hd
  unfold storeInOwnDict ownDictForStores
  repeat (first | with_reducible refine PySem.OEX.store_in_old hns hw hz ?st | with_reducible refine wpAny_loadPart_at ho ?_ | with_reducible refine hcls.at ?_ | wp_step)
  case st =>
    intro h' tk' hn' hs
    exact h h' tk' (fun b o hb hbo => (hs.2 b hb).trans hbo) hn'
end
section
variable {X : Cx} {pins : List (Addr × Obj)} {σ : St} {H : Hp} {s : Shared} {a C dx : Addr} {f : Str} {y : V} {u : Value} {fs : List (Str × V)} {Q : Unit → Shared → Prop} {E : Value → Shared → Prop} {A : Around}
theorem fld_new (T : XCls X.K C) (I : Inv X pins σ H s) (e : H a = some (exo a C none)) (ht : PySem.W.takerIn X.K C f = some none) (ry : RelV y u)
    (h : ∀ dx s', H dx = none → dx ≠ a → Inv X pins σ (upd (upd H dx (exd dx [(f, y)])) a (exo a C (some dx))) s' → Q () s') : wpAny (model X.prog X.w) A (setAttr (.ref a) f u) Q E s := by
  obtain ⟨t1, ho⟩ := exo_at I.hok e
  obtain ⟨hp, g, d, t, os⟩ := s
  refine put_first T I.kIn ho ht fun h' tk' dx k dn dne hx hn => ?_
  have hnd : H dx = none := I.hok.fresh dn
  have lo : ∀ {b : Addr} {o : Obj}, hp.get? b = some o → b ≠ dx := fun {b o} q => Nat.ne_of_lt (Nat.lt_of_lt_of_le (Heap.lt_size q) dn)
  have na : ∀ {b : Addr}, H b = none → b ≠ a := fun {b} n z => by rw [z, e] at n; cases n
  have old : ∀ {b : Addr} {v : HO}, H b = some v → v ≠ exo a C none → upd (upd H dx (exd dx [(f, y)])) a (exo a C (some dx)) b = some v := fun {b v} q ne => by
    rw [upd_ne fun z => ne (by rw [z, e] at q; exact (Option.some.inj q).symm), upd_ne (ne_of_none q hnd)]; exact q
  have U : Un X.fs [] H (upd (upd H dx (exd dx [(f, y)])) a (exo a C (some dx))) hp h' :=
    ⟨fun b o q n _ _ => k b o (na n) q, fun b o q n _ _ => ⟨o.slots, k b o (na n) q⟩, fun b o q n _ => by rw [upd_ne (na n), upd_ne (lo q)]; exact n,
     fun b o q _ => if hb : b = a then ⟨_, hb ▸ hx⟩ else ⟨o, k b o hb q⟩, fun b xs q => old q fun z => exo_tup z.symm, fun b o v q => old q fun z => exo_frz z.symm, fun b ps q => ⟨#[], by rw [old q fun z => exo_tbl z.symm]; simp⟩⟩
  refine h dx _ hnd dne (I.un (t' := tk') U fun b o q => ?_)
  by_cases hb : b = a
  · subst hb; rw [upd_same] at q; cases q; exact exo_ok hx
  by_cases hd : b = dx
  · subst hd; rw [upd_ne hb, upd_same] at q; cases q; exact exd_ok hn (relO_put (fs := []) ry fun g => True.intro)
  rw [upd_ne hb, upd_ne hd] at q
  refine (I.hok b o q).stay (fun c v hc z => k c v (fun w => ?_) z) (fun c hc => old hc fun z => exo_own z.symm) fun c xs hc => old hc fun z => exo_tup z.symm
  rcases hc with hc | hc
  · exact hb (hc ▸ w)
  · rw [w, e] at hc; exact exo_own (Option.some.inj hc)
theorem fld_old (T : XCls X.K C) (I : Inv X pins σ H s) (e : H a = some (exo a C (some dx))) (ed : H dx = some (exd dx fs)) (hl : fs.length ≤ 900) (ht : PySem.W.takerIn X.K C f = some none) (ry : RelV y u)
    (h : ∀ s', Inv X pins σ (upd H dx (exd dx ((f, y) :: fs))) s' → Q () s') : wpAny (model X.prog X.w) A (setAttr (.ref a) f u) Q E s := by
  obtain ⟨t1, ho⟩ := exo_at I.hok e
  obtain ⟨mA, hns, rel⟩ := exd_at I.hok ed
  have hw := within_of rel
  obtain ⟨hp, g, d, t, os⟩ := s
  refine put_next T I.kIn ho hns hw (by rw [List.length_map]; omega) ht fun h' tk' k hn => ?_
  have there : ∃ o, h'.get? dx = some o := by
    obtain ⟨o, _, _, e', _⟩ := hn
    exact ⟨o, e'⟩
  exact h _ (I.write (t' := tk') (x := dx) (e := dx) (o := exd dx ((f, y) :: fs)) (by rw [ed]; trivial) (.inl rfl) k there (exd_ok hn (relO_put ry rel)))
end
/-! ### rules -/
/-- self.f = e, self an exception under way -/
def tFld (K : PySem.W.Frag) (f : Str) (to te : TE) : TS := fun D σ H => te σ H fun y H1 => to σ H1 fun x H2 => ∃ a C : Addr, x = .ref a ∧ XCls K C ∧ PySem.W.takerIn K C f = some none ∧
  ((H2 a = some (exo a C none) ∧ ∀ dx, H2 dx = none → dx ≠ a → D.nx σ (upd (upd H2 dx (exd dx [(f, y)])) a (exo a C (some dx)))) ∨
    ∃ (dx : Addr) (fs : List (Str × V)), H2 a = some (exo a C (some dx)) ∧ H2 dx = some (exd dx fs) ∧ fs.length ≤ 900 ∧ D.nx σ (upd H2 dx (exd dx ((f, y) :: fs))))
section
variable {X : Cx} {o e : Expr} {es : List Expr} {to te : TE} {ta : TA} {f : Str} {p p' p1 p2 pos : Pos}
theorem ps_fld (ho : PE X o to) (he : PE X e te) (hs : swapsWith e (some (.Attribute o f p')) pos.line X.env = pure false := by rfl) : PS X (.Assign [.Attribute o f p'] e pos) (tFld X.K f to te) := by
  refine ⟨fun pins s σ H D I h => ?_⟩
  refine plainObj_wpAny_Assign_Attribute (thn (he.run pins s σ H _ I h) fun v s1 ⟨y, H1, I1, r1, q1⟩ => thn (ho.run pins s1 σ H1 _ I1 q1) fun u s2 ⟨x, H2, I2, r2, a, C, ex, T, ht, q⟩ => ?_) hs
  subst ex
  obtain rfl : u = Value.ref a := r2
  rcases q with ⟨ea, q⟩ | ⟨dx, fs, ea, ed, hl, q⟩
  · exact fld_new T I2 ea ht r1 fun dx s' n ne J => ⟨σ, _, J, q dx n ne⟩
  · exact fld_old T I2 ea ed hl ht r1 fun s' J => ⟨σ, _, J, q⟩
/-- C(..), made by its own __init__ that keeps sp: behind the arguments -/
def mkX (C : Addr) (sp : Sp) (dvs : List V) (vs : List V) (H1 : Hp) (Q : XK) : Prop := vs.length ≤ 1000 ∧ ∀ a, H1 a = none → sp (.ref a :: (vs ++ dvs)) (upd H1 a (exo a C none))
  (fun v H2 => v = .non ∧ ∃ (d : Addr) (fs : List (Str × V)), H2 a = some (exo a C (some d)) ∧ H2 d = some (exd d fs) ∧ H1 d = none ∧ Q (.ref C) (some d) (upd (del H2 a) d (.xd fs))) (fun _ _ _ => False)
theorem mk_run {CX : CXT} {C fI : Addr} {k : Nat} {fd : FuncData} {ps : List Str} {sp : Sp} {ds : List Value} {dvs : List V} {pins : List (Addr × Obj)} {σ : St} {s1 : Shared} {us : List Value} {vs : List V} {H1 : Hp} {Q : XK} (T : XCls X.K C)
    (iC : PySem.W.findIn X.K (.ref C) "__init__" = some (some (.ref fI))) (tI : PySem.W.typeIn X.K (.ref fI) = some (.type "function"))
    (F1 : FnOk X.prog X.w X.K X.mg X.base CX k fI fd ps sp) (hr : Room (k + 1) X.A) (hb : Binds X.K fd ps ds) (hd : Vals dvs ds) (hx : Passes CX X (fun _ _ _ => False)) (I1 : Inv X pins σ H1 s1) (r1 : Vals vs us) (q1 : mkX C sp dvs vs H1 Q) :
    wpAny (model X.prog X.w) X.A (call (.ref C) us) (MkP X pins σ Q) X.xe s1 := by
  obtain ⟨hz, q1⟩ := q1
  obtain ⟨B, ni, ii, bmB, FB, SF, k1, k2⟩ := T.ex
  obtain ⟨nm, N, qn, bs, bm, hdct, sn, sub, ab, col, dd, k0, k1', k2', k3, k5, hC, hT⟩ := PySem.W.excInit_of I1.kIn k1
  obtain ⟨hp, g, dr, tk, os⟩ := s1
  have hsz : hp.objs.size ≤ hp.objs.size + 1 := Nat.le_succ _
  have hn : H1 (hp.objs.size + 1) = none := I1.hok.fresh hsz
  have hq := q1 (hp.objs.size + 1) hn
  have kk : ∀ b o, hp.get? b = some o → ((hp.push (PySem.W.kdv_tup us)).push (PySem.HandSPX.excO C hp.objs.size)).get? b = some o := fun b o e => Heap.get?_push_of_some _ (Heap.get?_push_of_some _ e)
  have hget : ((hp.push (PySem.W.kdv_tup us)).push (PySem.HandSPX.excO C hp.objs.size)).get? (hp.objs.size + 1) = some (PySem.HandSPX.excO C hp.objs.size) := by heap_get
  have I2 : Inv X pins σ (upd H1 (hp.objs.size + 1) (exo (hp.objs.size + 1) C none)) ⟨(hp.push (PySem.W.kdv_tup us)).push (PySem.HandSPX.excO C hp.objs.size), g, dr, tk, os⟩ :=
    Inv.laid (t' := tk) I1 kk hsz (exo_ok hget)
  have r2 : Vals (V.ref (hp.objs.size + 1) :: (vs ++ dvs)) (Value.ref (hp.objs.size + 1) :: (us ++ ds)) := .cons rfl (r1.append hd)
  have hl : (Value.ref (hp.objs.size + 1) :: us ++ ds).length = ps.length := (r2.length.symm.trans (F1.len _ _ _ _ hq))
  have hus : us.length ≤ sizeLine := by
    have := Paired.length r1
    have := sizeLine_eq
    omega
  refine wpAny_call (PySem.HandSPX.call_own FB hT hC (PySem.W.looks_findIn I1.kIn iC) (fun self => PySem.W.bind_fn I1.kIn self tI) hus ?_)
  refine codeAny_mono (F1.run _ X.stack _ _ ⟨Value.ref (hp.objs.size + 1) :: us, []⟩ (Value.ref (hp.objs.size + 1) :: (us ++ ds)) _ _ (fun _ _ _ => False) (hr.make C us []) (I2.env0.make C us []) (hb _ (Value.ref (hp.objs.size + 1) :: us) I2.kIn hl) r2 hq) fun r s' z => ?_
  cases r with
  | error er => exact hx pins σ _ _ er s' I2 z
  | ok fl =>
    cases fl with
    | ret u =>
      obtain ⟨v, H2, os2, bare2, un2, hok2, rv, ev, d, fs, ea, ed, hd1, q2⟩ := z
      subst ev
      obtain ⟨h2, g2, d2, t2, os'⟩ := s'
      exact ⟨rv, mk_end (raises_own T.be T.ty) I1 hsz kk un2 hok2 os2 bare2 ea ed hd1 q2⟩
    | next => exact z.elim
    | brk => exact z.elim
    | cont => exact z.elim
theorem pmk_x {CX : CXT} {x : Str} {C fI : Addr} {k : Nat} {fd : FuncData} {ps : List Str} {sp : Sp} {ds : List Value} {dvs : List V} (T : XCls X.K C) (iC : PySem.W.findIn X.K (.ref C) "__init__" = some (some (.ref fI))) (tI : PySem.W.typeIn X.K (.ref fI) = some (.type "function"))
    (F1 : FnOk X.prog X.w X.K X.mg X.base CX k fI fd ps sp) (hr : Room (k + 1) X.A) (hb : Binds X.K fd ps ds) (hd : Vals dvs ds) (hx : Passes CX X (fun _ _ _ => False)) (hg : Gl X x) (hm : X.mg x = some (.ref C)) (ha : PA X (e :: es) ta)
    (hdb : (x == ("__debug__" : Str)) = false) (he : starEach (e :: es) X.env = (false, eval e X.env) :: starEach es X.env) (hpl : (backTo pos (starEach es X.env)).any (·.1) = false) :
    PMk X (.Call (.Name x p) (e :: es) [] pos) (fun σ H Q => ta σ H fun vs H1 => mkX C sp dvs vs H1 Q) := by
  intro pins s σ H Q I h
  refine wpAny_Call_Name_kw (ld_glob I hg hm ?_ hdb)
  refine PySem.W.callWith_K (h₀ := X.base) I.ok.mod.kin T.kp (thn (ha.run pos pins s σ H _ I h) fun us s1 ⟨vs, H1, I1, r1, q1⟩ => ⟨I1.kIn, ?_⟩) he hpl
  exact mk_run T iC tI F1 hr hb hd hx I1 r1 q1
theorem pmk_x0 {CX : CXT} {x : Str} {C fI : Addr} {k : Nat} {fd : FuncData} {ps : List Str} {sp : Sp} {ds : List Value} {dvs : List V} (T : XCls X.K C) (iC : PySem.W.findIn X.K (.ref C) "__init__" = some (some (.ref fI))) (tI : PySem.W.typeIn X.K (.ref fI) = some (.type "function"))
    (F1 : FnOk X.prog X.w X.K X.mg X.base CX k fI fd ps sp) (hr : Room (k + 1) X.A) (hb : Binds X.K fd ps ds) (hd : Vals dvs ds) (hx : Passes CX X (fun _ _ _ => False)) (hg : Gl X x) (hm : X.mg x = some (.ref C))
    (hdb : (x == ("__debug__" : Str)) = false) : PMk X (.Call (.Name x p) [] [] pos) (fun σ H Q => mkX C sp dvs [] H Q) := by
  intro pins s σ H Q I h
  refine wpAny_Call_Name_kw (ld_glob I hg hm ?_ hdb)
  exact PySem.W.callWith_K0 I.kIn T.kp (mk_run T iC tI F1 hr hb hd hx I .nil h)
end
end Hx

set_option Elab.async false
set_option linter.all false
set_option maxRecDepth 100000
set_option maxHeartbeats 4000000
set_option autoImplicit false
/-! X2: closures as objects; the cells of a frame shown and hidden. -/
namespace Hx
open PySem PySem.Spec L2
open PyProof.Rows hiding St
/-- a cell's object stands at c, just so -/
def CellO (c : Addr) (o : Obj) : HO := .ext fun h => h.get? c = some o
def pl (H : Hp) (cs : List (Addr × Obj)) : Hp := fun b => match cs.lookup b with
  | some o => some (CellO b o)
  | none => H b
def mn (H : Hp) (cs : List (Addr × Obj)) : Hp := fun b => match cs.lookup b with
  | some _ => none
  | none => H b
/-- they stand, untracked -/
def CsOk (h : Heap) (H : Hp) (cs : List (Addr × Obj)) : Prop := ∀ b o, cs.lookup b = some o → h.get? b = some o ∧ H b = none
def Has (cs : List (Addr × Obj)) (H : Hp) : Prop := ∀ b o, cs.lookup b = some o → H b = some (CellO b o)
section
variable {P : Program} {w : World} {H H' : Hp} {h h' B : Heap} {cs : List (Addr × Obj)} {fs : List Addr}
theorem pl_out {b : Addr} (e : cs.lookup b = none) : pl H cs b = H b := by unfold pl; rw [e]
theorem pl_in {b : Addr} {o : Obj} (e : cs.lookup b = some o) : pl H cs b = some (CellO b o) := by unfold pl; rw [e]
theorem mn_out {b : Addr} (e : cs.lookup b = none) : mn H cs b = H b := by unfold mn; rw [e]
theorem mn_in {b : Addr} {o : Obj} (e : cs.lookup b = some o) : mn H cs b = none := by unfold mn; rw [e]
theorem has_pl : Has cs (pl H cs) := fun b o e => pl_in e
theorem not_cell {b : Addr} {o : Obj} {u : HO} (hne : ∀ φ, u ≠ .ext φ) (e : H b = some u) (hb : Has cs H) : cs.lookup b = none := by
  cases q : cs.lookup b with
  | none => rfl
  | some o' => rw [hb b o' q] at e; exact absurd (Option.some.inj e).symm (hne _)
theorem CsOk.out (k : CsOk h H cs) {b : Addr} {u : HO} (e : H b = some u) : cs.lookup b = none := by
  cases q : cs.lookup b with
  | none => rfl
  | some o => rw [(k b o q).2] at e; cases e
theorem cell_ok {b : Addr} {o : Obj} (e : h.get? b = some o) : ObjOk P w H h b (CellO b o) := ⟨e, ⟨_, e⟩, fun h1 h2 z k => k _ z⟩
theorem hok_pl (hk : HOk P w H h) (k : CsOk h H cs) : HOk P w (pl H cs) h := fun b u e => by
  cases q : cs.lookup b with
  | some o => rw [pl_in q] at e; cases e; exact cell_ok (k b o q).1
  | none =>
    rw [pl_out q] at e
    exact (hk b u e).stay (fun c v _ z => z) (fun c z => by rw [pl_out (k.out z)]; exact z) fun c xs z => by rw [pl_out (k.out z)]; exact z
theorem hok_mn (hk : HOk P w H h) (k : Has cs H) : HOk P w (mn H cs) h := fun b u e => by
  cases q : cs.lookup b with
  | some o => rw [mn_in q] at e; cases e
  | none =>
    rw [mn_out q] at e
    exact (hk b u e).stay (fun c v _ z => z) (fun c z => by rw [mn_out (not_cell (o := default) (fun φ x => by cases x) z k)]; exact z) fun c xs z => by rw [mn_out (not_cell (o := default) (fun φ x => by cases x) z k)]; exact z
theorem has_get (hk : HOk P w H h) (k : Has cs H) {b : Addr} {o : Obj} (e : cs.lookup b = some o) : h.get? b = some o := (hk b _ (k b o e)).1
theorem csok_mn (hk : HOk P w H h) (k : Has cs H) : CsOk h (mn H cs) cs := fun b o e => ⟨has_get hk k e, mn_in e⟩
/-- the cells are hidden again -/
theorem un_hide (u : Un fs [] (pl H cs) H' h h') (k : CsOk h H cs) (hk : HOk P w H' h') (k' : Has cs H') : Un fs [] H (mn H' cs) h h' where
  keep := fun b o e n hf hx => by
    cases q : cs.lookup b with
    | some o' => rw [(k b o' q).1] at e; cases e; exact has_get hk k' q
    | none => exact u.keep b o e (by rw [pl_out q]; exact n) hf hx
  slot := fun b o e n hf hx => by
    cases q : cs.lookup b with
    | some o' => rw [(k b o' q).1] at e; cases e; exact ⟨o.slots, has_get hk k' q⟩
    | none => exact u.slot b o e (by rw [pl_out q]; exact n) hf hx
  free := fun b o e n hx => by
    cases q : cs.lookup b with
    | some o' => exact mn_in q
    | none => rw [mn_out q]; exact u.free b o e (by rw [pl_out q]; exact n) hx
  there := u.there
  tups := fun b xs e => by rw [mn_out (k.out e)]; exact u.tups b xs (by rw [pl_out (k.out e)]; exact e)
  frzs := fun b o v e => by rw [mn_out (k.out e)]; exact u.frzs b o v (by rw [pl_out (k.out e)]; exact e)
  tbls := fun b ps e => by rw [mn_out (k.out e)]; exact u.tbls b ps (by rw [pl_out (k.out e)]; exact e)
theorem csok_after (u : Un fs [] (mn H cs) H' h h') (hk : HOk P w H h) (k : Has cs H) (nf : ∀ b o, cs.lookup b = some o → b ∉ fs) : CsOk h' H' cs := fun b o e =>
  ⟨u.keep b o (has_get hk k e) (mn_in e) (nf b o e) (by simp), u.free b o (has_get hk k e) (mn_in e) (by simp)⟩
/-- the cells are shown again -/
theorem un_show (u : Un fs [] (mn H cs) H' h h') (hk : HOk P w H h) (k : Has cs H) (nf : ∀ b o, cs.lookup b = some o → b ∉ fs) : Un fs [] H (pl H' cs) h h' := by
  have ok := csok_after u hk k nf
  have out : ∀ {b : Addr}, H b = none → cs.lookup b = none := fun {b} n => by
    cases q : cs.lookup b with
    | none => rfl
    | some o => rw [k b o q] at n; cases n
  have nc : ∀ {b : Addr} {v : HO}, (∀ φ, v ≠ .ext φ) → H b = some v → cs.lookup b = none := fun {b v} hne e => not_cell (o := default) hne e k
  exact {
    keep := fun b o e n hf hx => u.keep b o e (by rw [mn_out (out n)]; exact n) hf hx
    slot := fun b o e n hf hx => u.slot b o e (by rw [mn_out (out n)]; exact n) hf hx
    free := fun b o e n hx => by rw [pl_out (out n)]; exact u.free b o e (by rw [mn_out (out n)]; exact n) hx
    there := u.there
    tups := fun b xs e => by
      have q := nc (fun φ z => by cases z) e
      rw [pl_out q]; exact u.tups b xs (by rw [mn_out q]; exact e)
    frzs := fun b o v e => by
      have q := nc (fun φ z => by cases z) e
      rw [pl_out q]; exact u.frzs b o v (by rw [mn_out q]; exact e)
    tbls := fun b ps e => by
      have q := nc (fun φ z => by cases z) e
      rw [pl_out q]; exact u.tbls b ps (by rw [mn_out q]; exact e) }
/-- the same of what an exception leaves -/
theorem ub_hide (u : UB fs (pl H cs) H' h B h') (k : CsOk h H cs) (hk : HOk P w H' B) (k' : Has cs H') : UB fs H (mn H' cs) h B h' where
  keep := fun b o e n hf => by
    cases q : cs.lookup b with
    | some o' => rw [(k b o' q).1] at e; cases e; exact has_get hk k' q
    | none => exact u.keep b o e (by rw [pl_out q]; exact n) hf
  slot := u.slot
  free := fun b o e n => by
    cases q : cs.lookup b with
    | some o' => exact mn_in q
    | none => rw [mn_out q]; exact u.free b o e (by rw [pl_out q]; exact n)
  there := u.there
  tups := fun b xs e => by rw [mn_out (k.out e)]; exact u.tups b xs (by rw [pl_out (k.out e)]; exact e)
  frzs := fun b o v e => by rw [mn_out (k.out e)]; exact u.frzs b o v (by rw [pl_out (k.out e)]; exact e)
  tbls := fun b ps e => by rw [mn_out (k.out e)]; exact u.tbls b ps (by rw [pl_out (k.out e)]; exact e)
theorem csok_afterB (u : UB fs (mn H cs) H' h B h') (hk : HOk P w H h) (k : Has cs H) (nf : ∀ b o, cs.lookup b = some o → b ∉ fs) : CsOk B H' cs := fun b o e =>
  ⟨u.keep b o (has_get hk k e) (mn_in e) (nf b o e), u.free b o (has_get hk k e) (mn_in e)⟩
theorem ub_show (u : UB fs (mn H cs) H' h B h') (hk : HOk P w H h) (k : Has cs H) : UB fs H (pl H' cs) h B h' := by
  have out : ∀ {b : Addr}, H b = none → cs.lookup b = none := fun {b} n => by
    cases q : cs.lookup b with
    | none => rfl
    | some o => rw [k b o q] at n; cases n
  have nc : ∀ {b : Addr} {v : HO}, (∀ φ, v ≠ .ext φ) → H b = some v → cs.lookup b = none := fun {b v} hne e => not_cell (o := default) hne e k
  exact {
    keep := fun b o e n hf => u.keep b o e (by rw [mn_out (out n)]; exact n) hf
    slot := u.slot
    free := fun b o e n => by rw [pl_out (out n)]; exact u.free b o e (by rw [mn_out (out n)]; exact n)
    there := u.there
    tups := fun b xs e => by
      have q := nc (fun φ z => by cases z) e
      rw [pl_out q]; exact u.tups b xs (by rw [mn_out q]; exact e)
    frzs := fun b o v e => by
      have q := nc (fun φ z => by cases z) e
      rw [pl_out q]; exact u.frzs b o v (by rw [mn_out q]; exact e)
    tbls := fun b ps e => by
      have q := nc (fun φ z => by cases z) e
      rw [pl_out q]; exact u.tbls b ps (by rw [mn_out q]; exact e) }
/-- a call with the cells shown is a call without -/
theorem cr_hide {outer : List PySem.Env} {s s' : Shared} {Q : VK} {E : XK} {r : Result} (k : CsOk s.heap H cs)
    (c : CR (L2.CX P w) outer P w (pl H cs) s (fun v H' => Has cs H' ∧ Q v (mn H' cs)) (fun cls d H' => Has cs H' ∧ E cls d (mn H' cs)) r s') : CR (L2.CX P w) outer P w H s Q E r s' := by
  cases r with
  | error e =>
    obtain ⟨a, B, H', cls, d, rfl, fl, hok, ub, na, os, ag, k', hE⟩ := c
    refine ⟨a, B, mn H' cs, cls, d, rfl, fl, hok_mn hok k', ub_hide ub k hok k', ?_, os, ag, hE⟩
    cases q : cs.lookup a with
    | some o => exact mn_in q
    | none => rw [mn_out q]; exact na
  | ok fl =>
    cases fl with
    | ret u =>
      obtain ⟨v, H', os, bare, un, hok, rv, k', q⟩ := c
      exact ⟨v, mn H' cs, os, bare, un_hide un k hok k', hok_mn hok k', rv, q⟩
    | next => exact False.elim c
    | brk => exact False.elim c
    | cont => exact False.elim c
def Off (cs : List (Addr × Obj)) (H : Hp) : Prop := ∀ b o, cs.lookup b = some o → H b = none
theorem CsOk.off {h : Heap} {H : Hp} (k : CsOk h H cs) : Off cs H := fun b o e => (k b o e).2
theorem cr_show {outer : List PySem.Env} {s s' : Shared} {Q : VK} {E : XK} {r : Result} (hk : HOk P w H s.heap) (k : Has cs H) (nf : ∀ b o, cs.lookup b = some o → b ∉ frs outer)
    (c : CR (L2.CX P w) outer P w (mn H cs) s (fun v H' => Off cs H' → Q v (pl H' cs)) (fun cls d H' => Off cs H' → E cls d (pl H' cs)) r s') : CR (L2.CX P w) outer P w H s Q E r s' := by
  cases r with
  | error e =>
    obtain ⟨a, B, H', cls, d, rfl, fl, hok, ub, na, os, ag, hE⟩ := c
    have ok := csok_afterB ub hk k nf
    refine ⟨a, B, pl H' cs, cls, d, rfl, fl, hok_pl hok ok, ub_show ub hk k, ?_, os, ag, hE ok.off⟩
    have hB : B.get? a = none := fl.2.1
    cases q : cs.lookup a with
    | some o => rw [(ok a o q).1] at hB; cases hB
    | none => rw [pl_out q]; exact na
  | ok fl =>
    cases fl with
    | ret u =>
      obtain ⟨v, H', os, bare, un, hok, rv, q⟩ := c
      exact ⟨v, pl H' cs, os, bare, un_show un hk k nf, hok_pl hok (csok_after un hk k nf), rv, q (csok_after un hk k nf).off⟩
    | next => exact False.elim c
    | brk => exact False.elim c
    | cont => exact False.elim c
/-- what a call needs of its surroundings, the cells shown, hidden -/
theorem env0_pl {K : PySem.W.Frag} {mg : Str → Option Value} {base : Heap} {A : Around} {outer : List PySem.Env} {s : Shared} (e : Env0 P w K mg base A outer s H) (k : CsOk s.heap H cs) (nb : ∀ b o, cs.lookup b = some o → base.get? b = none) (nf : ∀ b o, cs.lookup b = some o → b ∉ frs outer) : Env0 P w K mg base A outer s (pl H cs) :=
  ⟨e.frames, e.mod, fun b o q => ⟨(e.bs b o q).1, by
    cases z : cs.lookup b with
    | some o' => rw [nb b o' z] at q; cases q
    | none => rw [pl_out z]; exact (e.bs b o q).2⟩, e.bsz, e.funs, fun b hb => by
    cases z : cs.lookup b with
    | some o' => exact absurd hb (nf b o' z)
    | none => rw [pl_out z]; exact e.frf b hb, hok_pl e.hok k, e.bare⟩
theorem env0_mn {K : PySem.W.Frag} {mg : Str → Option Value} {base : Heap} {A : Around} {outer : List PySem.Env} {s : Shared} (e : Env0 P w K mg base A outer s H) (k : Has cs H) : Env0 P w K mg base A outer s (mn H cs) :=
  ⟨e.frames, e.mod, fun b o q => ⟨(e.bs b o q).1, by
    cases z : cs.lookup b with
    | some o' => exact mn_in z
    | none => rw [mn_out z]; exact (e.bs b o q).2⟩, e.bsz, e.funs, fun b hb => by
    cases z : cs.lookup b with
    | some o' => exact mn_in z
    | none => rw [mn_out z]; exact e.frf b hb, hok_mn e.hok k, e.bare⟩
end
end Hx

set_option Elab.async false
set_option linter.all false
set_option maxRecDepth 100000
set_option maxHeartbeats 4000000
set_option autoImplicit false
/-! X3: a lambda is made; a closure is called. -/
namespace Hx
open PySem PySem.Spec L2 LamX
open PyProof.Rows hiding St
/-- a closure's object -/
def CloO (f : Addr) (q : Str) (params : Arguments) (body : Expr) (scope : Scope) (cl : List (Str × Addr)) (c' : Addr) : HO :=
  .ext fun h => ∃ pm ctv, h.get? f = some (PySem.W.kla_obj "<lambda>" q params body scope cl pm c' ctv)
theorem clo_ok {P : Program} {w : World} {H : Hp} {h : Heap} {f c' : Addr} {q : Str} {params : Arguments} {body : Expr} {scope : Scope} {cl : List (Str × Addr)} {pm ctv : Value} (e : h.get? f = some (PySem.W.kla_obj "<lambda>" q params body scope cl pm c' ctv)) :
    ObjOk P w H h f (CloO f q params body scope cl c') := ⟨⟨pm, ctv, e⟩, ⟨_, e⟩, fun h1 h2 ⟨a, b, z⟩ k => ⟨a, b, k _ z⟩⟩
theorem tabs_one {T : List (Addr × Str)} {H H' : Hp} (t : Tabs T H) (k : ∀ p ∈ T, TabS H p.1 p.2 → TabS H' p.1 p.2) : Tabs T H' := fun p hp => k p hp (t p hp)
/-- tables stay tables -/
def TblK (H H' : Hp) : Prop := ∀ p o, H p = some o → isTbl o = true → ∃ o', H' p = some o' ∧ isTbl o' = true
section
variable {X : Cx} {pins : List (Addr × Obj)} {σ : L2.St} {H : Hp} {s : Shared}
theorem clo_make {T : List (Addr × Str)} {c P : Addr} {params : Arguments} {body : Expr} {scope : Scope} {pos : Pos} {E : Value → Shared → Prop} {Q : Value → Shared → Prop} (I : Inv X pins σ H s) (TB : TabB X.base X.mg c P) (hcode : X.env.code = .ref c)
    (hm : (P, X.env.qual ++ "<lambda>") ∈ T) (hu : ∀ p ∈ T, p.1 = P → p.2 = X.env.qual ++ "<lambda>") (hT : Tabs T H) (hdef : defaultsOf params X.env = ([], [])) (hfree : ∀ y ∈ scope.names, y.2 = .free → ∃ c, X.env.cells.lookup y.1 = some c)
    (h : ∀ (f c' : Addr) (H1 : Hp) (s' : Shared), Inv X pins σ (upd H1 f (CloO f (X.env.qual ++ "<lambda>") params body scope (cloFrom X.env.cells scope.names []) c')) s' → ExtN H H1 → TblK H H1 → Tabs T H1 → H1 f = none → H1 c' = some (CodeO c' (X.env.qual ++ "<lambda>")) → H f = none → Q (.ref f) s') :
    wpAny (model X.prog X.w) X.A (eval (.Lambda params body scope pos) X.env) Q E s := by
  obtain ⟨ps, tabP, trip, among⟩ := hT _ hm
  have bAt : s.heap.BuiltinsAt X.mg P := TB.bm.keeps I.bk
  have getP : s.heap.get? P = some { cls := .none, data := .fields ps } := I.hok P _ tabP
  refine PySem.W.kla_eval hdef ?_
  cases look : codeAmong pos ps.toList with
  | some cv =>
    obtain ⟨c', e, code⟩ := among pos cv look
    subst e
    refine PySem.W.kla_makeFunctionHit (mg := X.mg) (c := c) (P := P) (ps := ps) (closure_ok hfree) I.ok.glob (I.mod.glob.keeps I.bk) hcode (TB.code.keeps I.bk) getP trip look bAt fun ctv h' tk old size => ?_
    have J := I.kept (t' := tk) (h' := h') old
    have fr : H h'.objs.size = none := J.hok.fresh (Nat.le_refl _)
    exact h h'.objs.size c' H _ (J.laid (t' := tk) (fun b u e => Heap.get?_push_of_some _ e) (Nat.le_refl _) (clo_ok (Heap.get?_push_size _ rfl))) (ExtN.refl H) (fun p o e t => ⟨o, e, t⟩) hT fr code fr
  | none =>
    refine PySem.W.kla_makeFunction (mg := X.mg) (c := c) (P := P) (ps := ps) (closure_ok hfree) I.ok.glob (I.mod.glob.keeps I.bk) hcode (TB.code.keeps I.bk) getP trip look TB.gP bAt fun c' ctv h' tk old ge lt rec_ tab => ?_
    obtain ⟨c2, oc, vs, t, e2, hoc, hd, hv⟩ := rec_
    cases e2
    have freshC : H c' = none := I.hok.fresh ge
    have J := inv_table (t' := tk) (more := #[rawInt pos.line, rawInt pos.col, .ref c']) (h' := h') I tabP (fun b o hb e => old b o hb e) tab ge ⟨oc, vs, t, hoc, hd, hv⟩
    have nPC : P ≠ c' := ne_of_none tabP freshC
    have ext : ExtN H (upd (upd H P (.tbl (ps ++ #[rawInt pos.line, rawInt pos.col, .ref c']))) c' (CodeO c' (X.env.qual ++ "<lambda>"))) := fun b o e n => by
      have nb : b ≠ P := fun z => by rw [z, tabP] at e; exact n ps (Option.some.inj e).symm
      rw [upd_ne (ne_of_none e freshC), upd_ne nb]; exact e
    have toL : (ps ++ #[rawInt pos.line, rawInt pos.col, .ref c']).toList = ps.toList ++ [rawInt pos.line, rawInt pos.col, .ref c'] := by simp
    have tabs : Tabs T (upd (upd H P (.tbl (ps ++ #[rawInt pos.line, rawInt pos.col, .ref c']))) c' (CodeO c' (X.env.qual ++ "<lambda>"))) := tabs_one hT fun p hp old => by
      by_cases hb : p.1 = P
      · rw [hu p hp hb, hb]
        refine ⟨_, by rw [upd_ne nPC, upd_same], by rw [toL]; exact PySem.TriplesOk_snoc _ _ _ _ trip, fun p' cv z => ?_⟩
        rw [toL] at z
        rcases among_app _ trip z with z | z
        · obtain ⟨c0, e1, e2⟩ := among p' cv z
          exact ⟨c0, e1, ext _ _ e2 codeO_ne⟩
        · exact ⟨c', z, upd_same⟩
      · obtain ⟨ps', a1, a2, a3⟩ := old
        refine ⟨ps', by rw [upd_ne (ne_of_none a1 freshC), upd_ne hb]; exact a1, a2, fun p' cv z => ?_⟩
        obtain ⟨c0, e1, e2⟩ := a3 p' cv z
        exact ⟨c0, e1, ext _ _ e2 codeO_ne⟩
    have fr := J.hok.fresh (a := h'.objs.size) (Nat.le_refl _)
    have szS : s.heap.objs.size ≤ h'.objs.size := Nat.le_of_lt (Nat.lt_of_le_of_lt ge lt)
    exact h h'.objs.size c' _ _ (J.laid (t' := tk) (fun b u e => Heap.get?_push_of_some _ e) (Nat.le_refl _) (clo_ok (Heap.get?_push_size _ rfl))) ext (fun p o e t => by
      by_cases hp : p = P
      · exact ⟨_, by rw [hp, upd_ne nPC, upd_same], rfl⟩
      · exact ⟨o, by rw [upd_ne (ne_of_none e freshC), upd_ne hp]; exact e, t⟩) tabs fr upd_same (I.hok.fresh szS)
end
/-! ### a closure is called -/
/-- its names: parameters local, all others captured or global -/
structure CloS (N ps : List Str) (scope : Scope) : Prop where
  kind : scope.kind = .function
  co : scope.isCoroutine = false
  gen : scope.isGenerator = false
  nd : N.Nodup
  cl0 : ∀ y ∈ scope.names, y.2 ≠ .cell
  par : ∀ y ∈ scope.names, y.2 = .local → y.1 ∈ ps
  loc : ∀ y ∈ ps, scope.names.lookup y = some .local
  one : ∀ y ∈ scope.names, scope.names.lookup y.1 = some y.2
abbrev cloEnv (q : Str) (scope : Scope) (L f c' : Addr) (cl : List (Str × Addr)) : PySem.Env := PySem.W.envX q scope L f (.ref c') cl
/-- the context of a closure's body, entered at s -/
def cloCx (P : Program) (w : World) (K : PySem.W.Frag) (mg : Str → Option Value) (base : Heap) (N : List Str) (q : Str) (scope : Scope) (f c' : Addr) (cl : List (Str × Addr)) (A : Around) (outer : List PySem.Env) (s : Shared) (H : Hp) (E : XK) : Cx where
  prog := P
  w := w
  K := K
  mg := mg
  base := base
  A := A.deeper (cloEnv q scope s.heap.objs.size f c' cl)
  N := N
  s_0 := s
  H_0 := H
  env := cloEnv q scope s.heap.objs.size f c' cl
  outer := outer
  stack := cloEnv q scope s.heap.objs.size f c' cl :: outer
  ex := []
  fn := fun _ => false
  calm := true
  pn := []
  xe := fun e s' => wpAny (model P w) (A.deeper (cloEnv q scope s.heap.objs.size f c' cl)) (leaving (cloEnv q scope s.heap.objs.size f c' cl) e) (fun _ s'' => L2.CX P w outer H s E e s'') (fun e' s'' => L2.CX P w outer H s E e' s'') s'
/-- what a closure's captured names hold: the cells of cl at cs hold σ's values -/
def CapOk (N : List Str) (scope : Scope) (cl : List (Str × Addr)) (cs : List (Addr × Obj)) (σ : L2.St) : Prop :=
  (∀ y c, cl.lookup y = some c → ∃ o v, cs.lookup c = some o ∧ o.data = .cell v) ∧
  ∀ (i : Nat) (y : Str) (v : V), N[i]? = some y → σ[i]? = some (some v) → scope.names.lookup y = some .free → ∃ c o u, cl.lookup y = some c ∧ cs.lookup c = some o ∧ o.data = .cell (some u) ∧ RelV v u
section
variable {P : Program} {w : World} {K : PySem.W.Frag} {mg : Str → Option Value} {base : Heap} {N ps : List Str} {q : Str} {params : Arguments} {body : Expr} {scope : Scope} {f c' : Addr} {cl : List (Str × Addr)} {cs : List (Addr × Obj)} {k : Nat} {σ : L2.St}
theorem clo_run (S : CloS N ps scope) (inj : ∀ x y c, cl.lookup x = some c → cl.lookup y = some c → x = y) (has : ∀ y, scope.names.lookup y = some .free → ∃ c, cl.lookup y = some c)
    {A : Around} {outer : List PySem.Env} {s : Shared} {H : Hp} {args : Args} {us : List Value} {vs : List V} {Q : VK} {E : XK} {te : TE} (hr : Room (k + 1) A) (e0 : Env0 P w K mg base A outer s H)
    (hf : H f = some (CloO f q params body scope cl c')) (hc : H c' = some (CodeO c' q)) (hcs : Has cs H) (cap : CapOk N scope cl cs σ) (nf : ∀ b o, cs.lookup b = some o → b ∉ frs outer)
    (hb : ∀ pm ctv, bindArgs (PySem.W.kla_fn "<lambda>" q params body scope cl pm (.ref c') ctv) args = pure (ps.zip us)) (r : Vals vs us) (hl : vs.length = ps.length)
    (hσ : ∀ (i : Nat) (y : Str) (v : V), N[i]? = some y → y ∈ ps → σ[i]? = some (some v) → ∃ j : Nat, ps[j]? = some y ∧ vs[j]? = some v) (hlen : σ.length = N.length) (nps : ps.Nodup)
    (hbody : ∀ (A : Around) (outer : List PySem.Env) (s : Shared) (H : Hp), Room k (A.deeper (cloEnv q scope s.heap.objs.size f c' cl)) → PE (cloCx P w K mg base N q scope f c' cl A outer s H fun cls d H' => Off cs H' → E cls d (pl H' cs)) body te)
    (ht : te σ (mn H cs) fun v H' => Off cs H' → Q v (pl H' cs)) :
    codeAny (model P w) A (.call (.ref f) args) (CR (L2.CX P w) outer P w H s Q E) s := by
  have hok := e0.hok
  obtain ⟨⟨pm, ctv, getF⟩, _, _⟩ := hok f _ hf
  obtain ⟨⟨oc, ws, t, hoc, hdc, hvc⟩, _, _⟩ := hok c' _ hc
  have e1 := env0_mn e0 hcs
  have ok := csok_mn hok hcs
  refine codeAny_mono (R := CR (L2.CX P w) outer P w (mn H cs) s (fun v H' => Off cs H' → Q v (pl H' cs)) (fun cls d H' => Off cs H' → E cls d (pl H' cs))) ?_ fun r' s' z => cr_show hok hcs nf z
  refine PySem.W.kla_callFunE hr.depth getF rfl S.co S.gen rfl ⟨c', oc, ws, t, rfl, hoc, hdc, hvc⟩ ?_
  rw [hb]
  have locs : ∀ y ∈ ps.zip us, scope.names.lookup y.1 = some .local := fun ⟨n, v⟩ hy => S.loc n (List.of_mem_zip hy).1
  refine wpAny_pure (wpAny_newFunctionEnv (fun y hy => S.cl0 y hy) locs (fun h₁ hns hsb => ⟨(e0.mod.nolimit.keeps fun b o e => (e0.bs b o e).1).fresh _ hsb, ?_⟩) S.kind)
  have kp : ∀ b o, s.heap.get? b = some o → h₁.get? b = some o := fun b o e => hsb.extBut b o (Nat.ne_of_lt (Heap.lt_size e)) (Heap.get?_push_of_some _ e)
  have J : Inv (cloCx P w K mg base N q scope f c' cl A outer s (mn H cs) fun cls d H' => Off cs H' → E cls d (pl H' cs)) [] σ (mn H cs) { s with heap := h₁, toks := s.toks + (ps.zip us).length } := by
    have no : ∀ {α : Prop} {b : Addr}, b ∈ (cloCx P w K mg base N q scope f c' cl A outer s (mn H cs) fun cls d H' => Off cs H' → E cls d (pl H' cs)).ex → α := fun {α b} z => absurd (show b ∈ ([] : List Addr) from z) (by simp)
    refine ⟨{ mod := e0.mod, kind := S.kind, glob := rfl, blt := rfl, above := Nat.le_refl _, inj := inj, has := fun y hy => ?_, cab := fun y c z => ?_, hd := fun _ => hr.hd, frames := Around.frames_deeper e1.frames, stk := .inr ⟨rfl, rfl⟩, exf := fun b z => no z, bs := e1.bs, bsz := e1.bsz, noex := fun b _ _ z => no z, exfs := fun b z => no z, funs := e1.funs, frf := e1.frf },
      rfl, e1.bare, Un.kept kp, ⟨_, hns, fun i y v e1 e2 e3 => ?_⟩, fun y c e => ?_, e1.hok.fresh (Nat.le_refl _), fun y c e => ?_, fun p hp => absurd (show p ∈ ([] : List (Addr × Obj)) from hp) (by simp), e1.hok.kept kp, hlen⟩
    · have hy : scope.names.lookup y = some .cell ∨ scope.names.lookup y = some .free := hy
      rcases hy with hy | hy
      · exact absurd rfl (S.cl0 _ (PySem.mem_of_lookup hy))
      · exact has y hy
    · have z : false = true := z
      cases z
    · have e3 : Vis scope y := e3
      rcases e3 with k1 | k1 | k1
      · have yp := S.par _ (PySem.mem_of_lookup k1) rfl
        obtain ⟨j, j1, j2⟩ := hσ i y v e1 yp e2
        obtain ⟨u, hu, rv⟩ := r.get j2
        exact ⟨u, rv, .inl ⟨k1, NdefX.zip_look nps j1 hu⟩⟩
      · exact absurd rfl (S.cl0 _ (PySem.mem_of_lookup k1))
      · obtain ⟨c, o, u, a1, a2, a3, a4⟩ := cap.2 i y v e1 e2 k1
        exact ⟨u, a4, .inr ⟨.inr k1, c, a1, o, kp _ _ (ok c o a2).1, a3⟩⟩
    · obtain ⟨o, v, a1, a2⟩ := cap.1 y c e
      exact ⟨v, o, kp _ _ (ok c o a1).1, a2⟩
    · obtain ⟨o, v, a1, a2⟩ := cap.1 y c e
      exact mn_in a1
  refine PySem.W.kla_codeExpr (wpAny_mono ((hbody A outer s (mn H cs) (hr.deeper _)).run [] _ σ (mn H cs) (fun v H' => Off cs H' → Q v (pl H' cs)) J ht) (fun v s' hq => ?_) fun e s' hq => hq)
  obtain ⟨w', H', J', rv, q⟩ := hq
  exact ⟨w', H', J'.os, J'.bare, J'.base, J'.hok, rv, q⟩
end
end Hx

set_option Elab.async false
set_option linter.all false
set_option maxRecDepth 100000
set_option autoImplicit false
/-! X4: other closures, the same things; a closure is called by its slot. -/
namespace Hx
open PySem PySem.Spec L2 LamX
open PyProof.Rows hiding St
@[reducible] def Sg.wl (G : Sg) (l : Nat → Option LamD) : Sg := { G with lam := l }
section
variable {G : Sg} {g : Gd} {env : Env} {st st' : Store} {T T' : List Tm} {σ : St} {H H' : Hp} {Fz : Addr → Prop} {am : List Addr} {B B' : (Addr → Prop) → List Addr → Prop}
mutual
theorem Rep.wl {f : Fr} {v : V} {d : D} {n : Fp} (l : Nat → Option LamD) (r : Rep G Fz am H f v d n) : Rep (G.wl l) Fz am H f v d n :=
  match r with
  | .sc h1 h2 => .sc h1 h2
  | .rf h1 h2 => .rf h1 h2
  | .zz h1 h2 h3 => .zz h1 (Reps.wl l h2) h3
  | .tp h1 h2 => .tp h1 (Reps.wl l h2)
  | .cc h1 h2 h3 => .cc h1 (Reps.wl l h2) h3
  | .oo h1 h2 h3 => .oo h1 (Reps.wl l h2) h3
theorem Reps.wl {f : List Fr} {v : List V} {d : List D} {n : Fp} (l : Nat → Option LamD) (r : Reps G Fz am H f v d n) : Reps (G.wl l) Fz am H f v d n :=
  match r with
  | .nil h => .nil h
  | .cons h1 h2 h3 => .cons (Rep.wl l h1) (Reps.wl l h2) h3
end
theorem EnvR.wl {n : Fp} (l : Nat → Option LamD) (r : EnvR G Fz am H env σ n) : EnvR (G.wl l) Fz am H env σ n := by
  induction r with
  | nil h => exact .nil h
  | som h1 h2 h3 ih => exact .som (h1.wl l) ih h3
  | non h ih => exact .non ih
theorem TmR.wl {ne n : Fp} (l : Nat → Option LamD) (r : TmR G Fz am H ne T n) : TmR (G.wl l) Fz am H ne T n := by
  induction r with
  | nil h => exact .nil h
  | own h1 h2 h3 ih => exact .own (h1.wl l) ih h3
  | bor h1 h2 h3 ih => exact .bor (h1.wl l) h2 ih
theorem StoR.wl {n : Fp} (l : Nat → Option LamD) (r : StoR G Fz am H st n) : StoR (G.wl l) Fz am H st n := Reps.wl l r
theorem Rel0.wl {t : Fp} {l : Nat → Option LamD} (r : Rel0 G g Fz am H t) (h : Home (G.wl l) g) : Rel0 (G.wl l) g Fz am H t :=
  ⟨r.n1, r.nz, r.th, r.zt, r.k, r.f, r.z0, r.z1, r.a, r.tb, h, r.kt⟩
theorem Home.off (h : Home G g) : Home G.off g := ⟨h.fz, h.a, fun j l e => by cases e⟩
theorem RlB.wl {l : Nat → Option LamD} (r : RlB G g env st T σ H B) (h : Home (G.wl l) g) (hB : ∀ Fz am, B Fz am → B' Fz am) : RlB (G.wl l) g env st T σ H B' := by
  obtain ⟨Fz, am, ne, nt, ns, h1, h2, h3, h4, h5⟩ := r
  exact ⟨Fz, am, ne, nt, ns, h1.wl l, h2.wl l, h3.wl l, h4.wl h, hB _ _ h5⟩
theorem ExcB.wl {c : Nat} {ds : List D} {cls : Value} {dx : Option Addr} (l : Nat → Option LamD) (h : ExcB G H c ds cls dx Fz am) : ExcB (G.wl l) H c ds cls dx Fz am := by
  obtain ⟨hx, p, fs, vs, h1, h2, h3, h4, h5⟩ := h
  exact ⟨hx, p, fs, vs, h1, h2, h3, h4.wl l, h5⟩
theorem RlB.off (r : RlB G g env st T σ H B) (hB : ∀ Fz am, B Fz am → B' Fz am) : RlB G.off g env st T σ H B' := by
  obtain ⟨Fz, am, ne, nt, ns, h1, h2, h3, h4, h5⟩ := r
  exact RlB.wl ⟨Fz, am, ne, nt, ns, h1, h2, h3, h4, h5⟩ h4.hm.off hB
theorem Rl.home (R : RlB G g env st T σ H B) : Home G g := by
  obtain ⟨Fz, am, ne, nt, ns, h1, h2, h3, h4, h5⟩ := R
  exact h4.hm
/-- back again -/
theorem RlB.on (r : RlB G.off g env st T σ H B) (h : Home G g) (hB : ∀ Fz am, B Fz am → B' Fz am) : RlB G g env st T σ H B' := RlB.wl (G := G.off) (l := G.lam) r h hB
end
/-! ### the reading of a closure's call -/
abbrev LamR := Nat → Option (Addr × Nat × Fn)
def LamD.o (l : LamD) : Addr × Nat × Fn := (l.f, l.n, l.r)
def Sg.lr (G : Sg) : LamR := fun j => (G.lam j).map LamD.o
@[simp] def dClo (lr : LamR) (i : Nat) (as : DenL) : Den := fun env st => match env[i]? with
  | some (some (.z, .fnv f j)) => match lr j with
    | some (a, n, r) => bif f == a then (match as env st with
      | .ok ts st1 => bif (ts.length == n) && keeps ts then fin (r (zd (ts.map fun t => t.2.2)) st1) else .stuck
      | .exc c ds st1 => .exc c ds st1
      | .stuck => .stuck) else .stuck
    | none => .stuck
  | _ => .stuck
/-- what a closure's call comes to -/
def tClo (G : Sg) (i : Nat) (W : WX) (ta : TA) : TE := fun σ H Q => ∃ j l, G.lam j = some l ∧ σ[i]? = some (some (.ref l.f)) ∧ (∀ e ∈ l.ent, H e.1 = some e.2) ∧ ta σ H fun vs H1 => (∀ e ∈ l.ent, H1 e.1 = some e.2) ∧ SpL G.off l vs H1 Q (WE W σ)
section
variable {X : Cx} {G : Sg} {x : Str} {p pos : Pos} {e : Expr} {es : List Expr} {ta : TA} {W : WX} {i : Nat}
theorem clo_end {f : Addr} {ent : List (Addr × HO)} {sp : Sp} {pins : List (Addr × Obj)} {s : Shared} {σ : St} {H : Hp} {Q : VK} {us : List Value} {vs : List V} (C : CloOk X.prog X.w X.K X.mg X.base LK f ent sp) (hr : Room LK X.A) (tk : Takes X W)
    (I : Inv X pins σ H s) (r : Vals vs us) (h : sp vs H Q (WE W σ)) : wpAny (model X.prog X.w) X.A (call (.ref f) us) (EP X pins σ Q) X.xe s := by
  refine wpAny_call (codeAny_mono (C.run X.A X.stack s H us vs Q (WE W σ) hr I.env0 r h) fun r s' hq => ?_)
  cases r with
  | error e => exact passAt tk σ pins H s e s' I hq
  | ok fl =>
    cases fl with
    | ret u => exact I.after hq
    | next => exact False.elim hq
    | brk => exact False.elim hq
    | cont => exact False.elim hq
theorem pe_clo (lok : LamsOk X.prog X.w X.mg X.base G) (hK : G.K = X.K) (hr : Room LK X.A) (tk : Takes X W) (hN : X.N[i]? = some x) (hv : Vis X.env.scope x) (ha : PA X (e :: es) ta)
    (hdb : (x == ("__debug__" : Str)) = false := by decide) (hcd : (x == ("__classdict__" : Str)) = false := by decide)
    (he : starEach (e :: es) X.env = (false, eval e X.env) :: starEach es X.env := by rfl) (hpl : (backTo pos (starEach es X.env)).any (·.1) = false := by rfl) : PE X (.Call (.Name x p) (e :: es) [] pos) (tClo G i W ta) := by
  refine ⟨fun pins s σ H Q I h => ?_⟩
  obtain ⟨j, l, hl, hs, hen, ht⟩ := h
  have C := lok j l hl
  rw [hK] at C
  refine wpAny_Call_Name_kw (thn ((pe_var (pos := p) hN hv hdb hcd).run pins s σ H (fun v H1 => v = .ref l.f ∧ H1 = H) I ⟨.ref l.f, hs, rfl, rfl⟩) fun u s1 ⟨v, H1, I1, r1, q1⟩ => ?_)
  obtain ⟨rfl, rfl⟩ := q1
  cases r1
  exact PySem.W.callWith_F (C.at_ _ _ I1.hok hen) (thn (ha.run pos pins s1 σ _ _ I1 ht) fun us s2 ⟨vs, H2, I2, r, hen2, q⟩ => ⟨C.at_ _ _ I2.hok hen2, clo_end C hr tk I2 r q⟩) he hpl
theorem pe_clo0 (lok : LamsOk X.prog X.w X.mg X.base G) (hK : G.K = X.K) (hr : Room LK X.A) (tk : Takes X W) (hN : X.N[i]? = some x) (hv : Vis X.env.scope x)
    (hdb : (x == ("__debug__" : Str)) = false := by decide) (hcd : (x == ("__classdict__" : Str)) = false := by decide) : PE X (.Call (.Name x p) [] [] pos) (tClo G i W tNil) := by
  refine ⟨fun pins s σ H Q I h => ?_⟩
  obtain ⟨j, l, hl, hs, hen, ht⟩ := h
  have C := lok j l hl
  rw [hK] at C
  refine wpAny_Call_Name_kw (thn ((pe_var (pos := p) hN hv hdb hcd).run pins s σ H (fun v H1 => v = .ref l.f ∧ H1 = H) I ⟨.ref l.f, hs, rfl, rfl⟩) fun u s1 ⟨v, H1, I1, r1, q1⟩ => ?_)
  obtain ⟨rfl, rfl⟩ := q1
  cases r1
  exact PySem.W.callWith_F0 (C.at_ _ _ I1.hok hen) (clo_end (us := []) C hr tk I1 .nil ht.2)
end
section
variable {S : Sx} {e a b : Expr} {es : List Expr} {da db : Den} {das : DenL} {pos p : Pos}
theorem RlB.ents {g : Gd} {env : Env} {st : Store} {T : List Tm} {σ : St} {H : Hp} {B : (Addr → Prop) → List Addr → Prop} {G : Sg} {j : Nat} {l : LamD} (R : RlB G g env st T σ H B) (hl : G.lam j = some l) : ∀ e ∈ l.ent, H e.1 = some e.2 := by
  obtain ⟨Fz, am, ne, nt, ns, h1, h2, h3, h4, h5⟩ := R
  exact fun e he => (((Rel0.home (m := fun _ => 0) h4 fun q => Nat.zero_le _).lam j l hl).1 e he).2
theorem spl_of {g : Gd} {env : Env} {st : Store} {T : List Tm} {σ : St} {H : Hp} {Q : VK} {W : WX} {vs : List V} {ts : List (Fr × Bool × D)} {G : Sg} {j : Nat} {l : LamD} (hL : G.lam j = some l)
    (hn : ts.length = l.n) (R : Rl G g env st (mkT vs ts ++ T) σ H) (hl : vs.length = ts.length) (hk : keeps ts = true)
    (h : PostE G g env T σ W Q (fin (l.r (zd (ts.map fun t => t.2.2)) st))) : SpL G.off l vs H Q (WE W σ) := by
  have ents := R.ents hL
  obtain ⟨Fz, am, ne, nt, ns, h1, h2, h3, h4, h5⟩ := Rl.frzL R hl hk
  have hm := h4.hm
  have hc := ((Rel0.home (m := fun _ => 0) h4 fun q => Nat.zero_le _).lam j l hL).2
  have h4' : Rel0 G.off g Fz am H fun p => (fun _ => 0) p + (ne p + nt p + ns p) := (h4.less fun q => by show 0 + (ne q + nt q + ns q) ≤ _; omega).wl hm.off
  refine ⟨by rw [hl, hn], ents, Fz, am, zd (ts.map fun t => t.2.2), st, fun _ => 0, ns, ?_, h3.wl _, Reps.wl _ hc, Rel0.base (g := g) (ne := ne) (nt := nt) h4', ?_⟩
  · rw [zd_fst, zd_snd, List.length_map]
    exact Reps.wl _ h5
  · cases e : l.r (zd (ts.map fun t => t.2.2)) st with
    | stuck => rw [e] at h; exact h.elim
    | exc c ds st1 =>
      rw [e] at h
      exact fun cls dx H' R1 => h cls dx H' (RlB.on (join (T := T) h4' (h1.wl _) (h2.wl _) R1).notmp hm fun _ _ z => z.wl _)
    | ok f b d st1 =>
      rw [e] at h
      cases b with
      | true => exact h.elim
      | false => exact ⟨rfl, fun v H' R1 => h v H' (RlB.on (join h4' (h1.wl _) (h2.wl _) R1) hm fun _ _ z => z)⟩
theorem EnvR.at_ {G : Sg} {Fz : Addr → Prop} {am : List Addr} {H : Hp} {env : Env} {σ : St} {n : Fp} (r : EnvR G Fz am H env σ n) {i : Nat} {f : Addr} {j : Nat} (e : env[i]? = some (some (.z, .fnv f j))) : σ[i]? = some (some (.ref f)) := by
  obtain ⟨v, m, e1, e2, e3⟩ := r.get e
  cases e2 with
  | sc h _ =>
    have : v = .ref f := by cases v <;> exact h
    rw [← this]; exact e1
theorem stx_lok {X : Cx} (hX : Stx S X) : LamsOk X.prog X.w X.mg X.base S.G := by
  rw [hX.pr, hX.w, hX.mg, hX.base]; exact S.lok
theorem clo_post {g : Gd} {env : Env} {st : Store} {T : List Tm} {σ : St} {H : Hp} {Q : VK} {W : WX} {i : Nat} {ta : TA} (R : Rl S.G g env st T σ H)
    (qa : ∀ Q', PostL S.G g env T σ W Q' (das env st) → ta σ H Q') (h : PostE S.G g env T σ W Q (dClo S.G.lr i das env st)) : tClo S.G i W ta σ H Q := by
  unfold dClo at h
  split at h
  · rename_i f j e1
    split at h
    · rename_i a n r e2
      obtain ⟨l, hl, e3⟩ := Option.map_eq_some_iff.mp (show (S.G.lam j).map LamD.o = some (a, n, r) from e2)
      cases e3
      have h2 := (bifT h id).2
      have hf := eq_of_beq (bifT h id).1
      clear h
      subst hf
      have e4 : σ[i]? = some (some (.ref l.f)) := by
        obtain ⟨Fz, am, ne, nt, ns, h1, _⟩ := R
        exact h1.at_ e1
      refine ⟨j, l, hl, e4, R.ents hl, qa _ ?_⟩
      split at h2
      · rename_i ts st1 e5
        obtain ⟨hc, h⟩ := bifT h2 id
        rw [Bool.and_eq_true] at hc
        rw [e5]
        exact fun vs H1 hv R1 => ⟨(RlB.tail R1).ents hl, spl_of hl (eq_of_beq hc.1) R1 hv hc.2 h⟩
      · rename_i c ds st1 e5
        rw [e5]
        exact h2
      · exact h2.elim
    · exact h.elim
  · exact h.elim
theorem de_clo {x : Str} {i : Nat} (hN : S.N[i]? = some x) (hv : Vis S.sc x) (hk : LK ≤ S.k) (ha : DA S (e :: es) das) (hp : plainArgs (e :: es) = true)
    (hdb : (x == ("__debug__" : Str)) = false := by decide) (hcd : (x == ("__classdict__" : Str)) = false := by decide) : DE S (.Call (.Name x p) (e :: es) [] pos) (dClo S.G.lr i das) := fun W => by
  obtain ⟨ta, pa, qa⟩ := ha W
  have h1 := plainArgs_ok hp
  exact ⟨_, fun X hX tk => pe_clo (stx_lok hX) hX.K.symm (hX.room.mono hk) tk (by rw [hX.N]; exact hN) (by rw [hX.sc]; exact hv) (pa X hX tk) hdb hcd (starNo (h1 e List.mem_cons_self)) (noStar fun y hy => h1 y (List.mem_cons_of_mem _ hy)),
    fun g env st T σ H Q hT R h => clo_post R (fun Q' z => qa g env st T σ H Q' hT R z) h⟩
theorem de_clo0 {x : Str} {i : Nat} (hN : S.N[i]? = some x) (hv : Vis S.sc x) (hk : LK ≤ S.k)
    (hdb : (x == ("__debug__" : Str)) = false := by decide) (hcd : (x == ("__classdict__" : Str)) = false := by decide) : DE S (.Call (.Name x p) [] [] pos) (dClo S.G.lr i dNil) := fun W =>
  ⟨_, fun X hX tk => pe_clo0 (stx_lok hX) hX.K.symm (hX.room.mono hk) tk (by rw [hX.N]; exact hN) (by rw [hX.sc]; exact hv) hdb hcd,
    fun g env st T σ H Q hT R h => clo_post (das := dNil) (ta := tNil) R (fun Q' z => show Q' [] H from (show PostL S.G g env T σ W Q' (.ok [] st) from z) [] H rfl R) h⟩
end
end Hx

set_option Elab.async false
set_option linter.all false
set_option maxRecDepth 100000
set_option autoImplicit false
/-! X5: the state relation, the cells shown and hidden. -/
namespace Hx
open PySem PySem.Spec L2 LamX
open PyProof.Rows hiding St
section
variable {G : Sg} {g : Gd} {env : Env} {st st' : Store} {T T' : List Tm} {σ : St} {H H' : Hp} {Fz : Addr → Prop} {am : List Addr} {tot : Fp} {B B' : (Addr → Prop) → List Addr → Prop} {cs : List (Addr × Obj)}
theorem Has.out (k : Has cs H) {b : Addr} {o : HO} (e : H b = some o) (h : isExt o = false) : cs.lookup b = none := by
  cases q : cs.lookup b with
  | none => rfl
  | some o' => rw [k b o' q] at e; cases e; cases h
theorem pl_ne {o : HO} (h : plainO o = true) : isExt o = false := by cases o <;> first | rfl | cases h
theorem Has.mn (k : Has cs H) {b : Addr} {o : HO} (e : H b = some o) (h : isExt o = false) : mn H cs b = some o := by rw [mn_out (k.out e h)]; exact e
theorem tbl_ne {o : HO} (h : isTbl o = true) : isExt o = false := by cases o <;> first | rfl | cases h
/-- hidden -/
theorem ext_mn (k : Has cs H) (zt : ∀ p, Fz p → ∃ o, H p = some o ∧ plainO o = true) : Ext Fz am H Fz am (mn H cs) where
  fz := fun _ h => h
  cl := fun _ _ h => h
  rd := fun p u z h => by
    obtain ⟨o, e, po⟩ := zt p z
    have q := k.out e (pl_ne po)
    unfold Rd at h ⊢
    rw [mn_out q]; exact h
  st := fun p u z h _ => by
    obtain ⟨o, e, po⟩ := zt p z
    rw [mn_out (k.out e (pl_ne po))]; exact h
  tp := fun p xs h => h.imp (fun e => k.mn e rfl) fun ⟨o, e⟩ => ⟨o, k.mn e rfl⟩
theorem own_mn (k : Has cs H) (r : Rel0 G g Fz am H tot) : ∀ p o, 0 < tot p → H p = some o → mn H cs p = some o := fun p o hp e => by
  obtain ⟨o', e', ow⟩ := r.th p hp
  rw [e] at e'; cases e'
  exact k.mn e (pl_ne ow.pl)
theorem tabs_mn (k : Has cs H) {T : List (Addr × Str)} (t : Tabs T H) (kc : ∀ c q, H c = some (CodeO c q) → cs.lookup c = none) : Tabs T (mn H cs) := fun p hp => by
  obtain ⟨ps, a1, a2, a3⟩ := t p hp
  refine ⟨ps, k.mn a1 rfl, a2, fun p' cv z => ?_⟩
  obtain ⟨c, e1, e2⟩ := a3 p' cv z
  exact ⟨c, e1, by rw [mn_out (kc c _ e2)]; exact e2⟩
/-- a code object is no cell -/
def NoCode (cs : List (Addr × Obj)) : Prop := ∀ c o, cs.lookup c = some o → ∀ vs, o.data ≠ .fields vs
theorem nocode {P : Program} {w : World} {h : Heap} (hk : HOk P w H h) (n : NoCode cs) (k : Has cs H) : ∀ c q, H c = some (CodeO c q) → cs.lookup c = none := fun c q e => by
  cases z : cs.lookup c with
  | none => rfl
  | some o =>
    obtain ⟨⟨oc, vs, t, h1, h2, h3⟩, _⟩ := hk c _ e
    rw [has_get hk k z] at h1
    cases h1
    exact absurd h2 (n c o z vs)
/-- the code objects are apart from the cells -/
def CodeFree (cs : List (Addr × Obj)) (H : Hp) : Prop := ∀ c q, H c = some (CodeO c q) → cs.lookup c = none
/-- a call's ground, the cells hidden in it -/
theorem Rel0.hide0 {A0 : Addr → Prop} (r : Rel0 G ⟨H, A0, Fz, am⟩ Fz am H tot) (k : Has cs H) (cf : CodeFree cs H) (hl : ∀ j, G.lam j = none) : Rel0 G ⟨mn H cs, A0, Fz, am⟩ Fz am (mn H cs) tot where
  n1 := r.n1
  nz := r.nz
  th := fun p hp => by
    obtain ⟨o, e, ow⟩ := r.th p hp
    exact ⟨o, k.mn e (pl_ne ow.pl), ow⟩
  zt := fun p z => by
    obtain ⟨o, e, po⟩ := r.zt p z
    exact ⟨o, k.mn e (pl_ne po), po⟩
  k := fun p o nt e _ => .inl e
  f := fun p hp => (r.f p hp).imp id fun e => by
    obtain ⟨o, e2, _⟩ := r.th p hp
    rw [show H p = none from e] at e2; cases e2
  z0 := r.z0
  z1 := fun p z => .inl z
  a := r.a
  tb := tabs_mn k r.tb cf
  hm := ⟨fun p z => by
    obtain ⟨na, o, e, po⟩ := r.hm.fz p z
    exact ⟨na, o, k.mn e (pl_ne po), po⟩, fun p q => by
    obtain ⟨o, e, ow⟩ := r.hm.a p q
    exact ⟨o, k.mn e (pl_ne ow.pl), ow⟩, fun j l e => by rw [hl] at e; cases e⟩
  kt := fun p o t e _ => ⟨o, e, t⟩
theorem Off.out (k : Off cs H) {b : Addr} {o : HO} (e : H b = some o) : cs.lookup b = none := by
  cases q : cs.lookup b with
  | none => rfl
  | some o' => rw [k b o' q] at e; cases e
theorem Off.same (k : Off cs H) : Same H (pl H cs) := fun b o e => by rw [pl_out (k.out e)]; exact e
/-- shown again -/
theorem Rel0.show0 {A0 F0 : Addr → Prop} {am0 : List Addr} (r : Rel0 G ⟨mn H cs, A0, F0, am0⟩ Fz am H' tot) (hm : Home G ⟨H, A0, F0, am0⟩) (k : Has cs H) (o' : Off cs H') : Rel0 G ⟨H, A0, F0, am0⟩ Fz am (pl H' cs) tot where
  n1 := r.n1
  nz := r.nz
  th := fun p hp => by
    obtain ⟨o, e, ow⟩ := r.th p hp
    exact ⟨o, o'.same _ _ e, ow⟩
  zt := fun p z => by
    obtain ⟨o, e, po⟩ := r.zt p z
    exact ⟨o, o'.same _ _ e, po⟩
  k := fun p o nt e na => by
    have e : H p = some o := e
    cases q : cs.lookup p with
    | some u => rw [k p u q] at e; cases e; exact .inl (pl_in q)
    | none => exact (r.k p o nt (by show mn H cs p = _; rw [mn_out q]; exact e) na).map fun u _ k => by rw [pl_out q]; exact k
  f := fun p hp => (r.f p hp).imp id fun e => by
    obtain ⟨o, e2, _⟩ := r.th p hp
    have e : mn H cs p = none := e
    rw [mn_out (o'.out e2)] at e
    exact e
  z0 := r.z0
  z1 := fun p z => by
    rcases r.z1 p z with y | y | y
    · exact .inl y
    · exact .inr (.inl y)
    · obtain ⟨o, e2, _⟩ := r.zt p z
      have y : mn H cs p = none := y
      rw [mn_out (o'.out e2)] at y
      exact .inr (.inr y)
  a := r.a
  tb := r.tb.ext o'.same
  hm := hm
  kt := fun p o t e na => by
    have e : H p = some o := e
    obtain ⟨u, e1, t1⟩ := r.kt p o t (k.mn e (tbl_ne t)) na
    exact ⟨u, o'.same _ _ e1, t1⟩
/-- hidden behind a call -/
theorem Rel0.hide (r : Rel0 G g Fz am H tot) (k : Has cs H) (cf : CodeFree cs H) (hg : ∀ b o, cs.lookup b = some o → g.A0 b ∨ g.H0 b = none) : Rel0 G g Fz am (mn H cs) tot where
  n1 := r.n1
  nz := r.nz
  th := fun p hp => by
    obtain ⟨o, e, ow⟩ := r.th p hp
    exact ⟨o, k.mn e (pl_ne ow.pl), ow⟩
  zt := fun p z => by
    obtain ⟨o, e, po⟩ := r.zt p z
    exact ⟨o, k.mn e (pl_ne po), po⟩
  k := fun p o nt e na => by
    cases q : cs.lookup p with
    | none => exact (r.k p o nt e na).map fun u _ k => by rw [mn_out q]; exact k
    | some u =>
      rcases hg p u q with y | y
      · exact absurd y na
      · rw [e] at y; cases y
  f := r.f
  z0 := r.z0
  z1 := r.z1
  a := r.a
  tb := tabs_mn k r.tb cf
  hm := r.hm
  kt := fun p o t e na => by
    obtain ⟨u, e1, t1⟩ := r.kt p o t e na
    exact ⟨u, k.mn e1 (tbl_ne t1), t1⟩
theorem RlB.hide (R : RlB G g env st T σ H B) (k : Has cs H) (cf : CodeFree cs H) (hg : ∀ b o, cs.lookup b = some o → g.A0 b ∨ g.H0 b = none) (hB : ∀ Fz am, Ext Fz am H Fz am (mn H cs) → B Fz am → B' Fz am) : RlB G g env st T σ (mn H cs) B' := by
  obtain ⟨Fz, am, ne, nt, ns, h1, h2, h3, h4, h5⟩ := R
  have E : Ext Fz am H Fz am (mn H cs) := ext_mn k h4.zt
  have ow := own_mn k h4
  exact ⟨Fz, am, ne, nt, ns, h1.ext E fun p o hp e => ow p o (by show 0 < ne p + nt p + ns p; omega) e, h2.ext E (fun p o hp e => ow p o (by show 0 < ne p + nt p + ns p; omega) e) fun p o hp e => ow p o (by show 0 < ne p + nt p + ns p; omega) e,
    Reps.ext E h3 fun p o hp e => ow p o (by show 0 < ne p + nt p + ns p; omega) e, h4.hide k cf hg, hB _ _ E h5⟩
theorem ExcB.mn {c : Nat} {ds : List D} {cls : Value} {dx : Option Addr} (k : Has cs H) (E : Ext Fz am H Fz am (mn H cs)) (h : ExcB G H c ds cls dx Fz am) : ExcB G (mn H cs) c ds cls dx Fz am := by
  obtain ⟨hx, p, fs, vs, h1, h2, h3, h4, h5⟩ := h
  exact ⟨hx, p, fs, vs, h1, h2, k.mn h3 rfl, Reps.ext E h4 fun p o hp => absurd hp (Nat.lt_irrefl 0), h5⟩
/-- the cells come into sight -/
theorem RlB.shown (R : RlB G g env st T σ H B) (o : Off cs H) (hB : ∀ Fz am, Ext Fz am H Fz am (pl H cs) → B Fz am → B' Fz am) : RlB G g env st T σ (pl H cs) B' := by
  obtain ⟨Fz, am, ne, nt, ns, h1, h2, h3, h4, h5⟩ := R
  have E : Ext Fz am H Fz am (pl H cs) := Ext.same o.same fun _ h => h
  exact ⟨Fz, am, ne, nt, ns, h1.ext E fun p u _ e => o.same _ _ e, h2.ext E (fun p u _ e => o.same _ _ e) fun p u _ e => o.same _ _ e, Reps.ext E h3 fun p u _ e => o.same _ _ e, h4.grow o.same (m := fun _ => 0) (fun p hp => absurd hp (Nat.lt_irrefl 0)) fun q => by simp, hB _ _ E h5⟩
end
end Hx

set_option Elab.async false
set_option linter.all false
set_option maxRecDepth 100000
set_option autoImplicit false
/-! X6: a lambda's promise, from its body's reading. -/
namespace Hx
open PySem PySem.Spec L2 LamX
open PyProof.Rows hiding St
theorem lk_mem {α : Type} {b : Addr} {o : α} : ∀ {l : List (Addr × α)}, l.lookup b = some o → (b, o) ∈ l
  | (k, v) :: r, h => by
    rw [List.lookup_cons] at h
    split at h
    · rename_i e
      cases h
      rw [eq_of_beq e]
      exact List.mem_cons_self
    · exact List.mem_cons_of_mem _ (lk_mem h)
/-- the judgement of a lambda's body -/
@[reducible] def Sx.cl (S : Sx) (N : List Str) (sc : Scope) : Sx := ⟨S.P, S.w, S.mg, S.base, S.G.off, N, sc, 59, false, lams0 fun _ => rfl, none⟩
@[simp] def dLamB (db : Den) (cd : List D) : Fn := fun as st => fin (db (as.map some ++ cd.map fun d => some (.z, d)) st)
def entOf (f : Addr) (q : Str) (params : Arguments) (body : Expr) (scope : Scope) (cl : List (Str × Addr)) (c' : Addr) (cs : List (Addr × Obj)) : List (Addr × HO) :=
  (f, CloO f q params body scope cl c') :: (c', CodeO c' q) :: cs.map fun x => (x.1, CellO x.1 x.2)
theorem reps_env {G : Sg} {Fz : Addr → Prop} {am : List Addr} {H : Hp} : ∀ {cd : List D} {cv : List V}, Reps G Fz am H (zs cd.length) cv cd (fun _ => 0) → EnvR G Fz am H (cd.map fun d => some (.z, d)) (cv.map some) (fun _ => 0)
  | [], [], _ => .nil fun _ => rfl
  | d :: cd, v :: cv, r => by
    rw [show zs (d :: cd).length = .z :: zs cd.length from List.replicate_succ] at r
    cases r with
    | cons h1 h2 h3 => exact .som (h1.fp h1.z0) (reps_env (h2.fp h2.z0)) (n1 := fun _ => 0) (n2 := fun _ => 0) fun _ => rfl
theorem env_app {G : Sg} {Fz : Addr → Prop} {am : List Addr} {H : Hp} {e2 : Env} {s2 : St} (r2 : EnvR G Fz am H e2 s2 (fun _ => 0)) : ∀ {as : List (Fr × D)} {vs : List V} {n : Fp}, Reps G Fz am H (as.map (·.1)) vs (as.map (·.2)) n → EnvR G Fz am H (as.map some ++ e2) (vs.map some ++ s2) n
  | [], [], n, .nil h => by
    have e : n = fun _ => 0 := funext h
    rw [e]; exact r2
  | (f, d) :: as, v :: vs, n, .cons h1 h2 h3 => .som h1 (env_app r2 h2) h3
section
variable {S : Sx} {ps cap : List Str} {params : Arguments} {body : Expr} {scope : Scope} {db : Den} {q : Str} {f c' : Addr} {cl : List (Str × Addr)} {cs : List (Addr × Obj)} {cv : List V} {cd : List D}
theorem clo_lam (hS : CloS (ps ++ cap) ps scope) (hb : DE (S.cl (ps ++ cap) scope) body db) (hbind : ∀ (q : Str) (cl : List (Str × Addr)) (pm cv ctv : Value) (us : List Value), us.length = ps.length → bindArgs (PySem.W.kla_fn "<lambda>" q params body scope cl pm cv ctv) ⟨us, []⟩ = pure (ps.zip us))
    (inj : ∀ x y c, cl.lookup x = some c → cl.lookup y = some c → x = y) (has : ∀ y, scope.names.lookup y = some .free → ∃ c, cl.lookup y = some c) (cell : ∀ y c, cl.lookup y = some c → ∃ o v, cs.lookup c = some o ∧ o.data = .cell v)
    (hcv : cv.length = cap.length) (cap2 : ∀ (i : Nat) (y : Str) (v : V), cap[i]? = some y → cv[i]? = some v → ∃ c o u, cl.lookup y = some c ∧ cs.lookup c = some o ∧ o.data = .cell (some u) ∧ RelV v u) (ncs : ∀ c o, cs.lookup c = some o → ∃ v, o.data = .cell v) :
    CloOk S.P S.w S.G.K S.mg S.base LK f (entOf f q params body scope cl c' cs) (SpL S.G.off ⟨f, ps.length, dLamB db cd, entOf f q params body scope cl c' cs, cv, cd⟩) where
  at_ := fun H h hk he => by
    obtain ⟨⟨pm, ctv, g⟩, _, _⟩ := hk f _ (he _ (List.mem_cons_self))
    exact ⟨_, _, _, _, g⟩
  run := fun A outer s H us vs Q E hr e0 r h => by
    obtain ⟨hl, hen, Fz, am, as, st, na, ns, h1, h2, h3, h4, h5⟩ := h
    have hl : vs.length = ps.length := hl
    have hf : H f = some (CloO f q params body scope cl c') := hen _ List.mem_cons_self
    have hc : H c' = some (CodeO c' q) := hen (c', CodeO c' q) (List.mem_cons_of_mem _ List.mem_cons_self)
    have hcs : Has cs H := fun b o e => hen (b, CellO b o) (List.mem_cons_of_mem _ (List.mem_cons_of_mem _ (List.mem_map.mpr ⟨(b, o), lk_mem e, rfl⟩)))
    have ndN := hS.nd
    obtain ⟨te, pt, qt⟩ := hb fun cls d _ H' => Off cs H' → E cls d (pl H' cs)
    have sub : ∀ (i : Nat) (y : Str), (ps ++ cap)[i]? = some y → y ∈ ps → i < ps.length := fun i y e hy => by
      rcases Nat.lt_or_ge i ps.length with z | z
      · exact z
      · rw [List.getElem?_append_right z] at e
        exact absurd (List.mem_of_getElem? e) ((List.nodup_append.mp ndN).2.2 y hy y · rfl)
    refine clo_run (k := 59) (σ := vs.map some ++ cv.map some) (te := te) hS inj has hr e0 hf hc hcs ⟨cell, fun i y v e1 e2 e3 => ?_⟩ (fun b o e z => ?_) (fun pm ctv => hbind _ _ _ _ _ us (r.length.symm.trans hl)) r hl (fun i y v e1 e2 e3 => ?_) (by simp [hl, hcv]) (List.nodup_append.mp ndN).1 (fun A outer s H hr => pt _ ?_ ?_) ?_
    · rcases Nat.lt_or_ge i ps.length with z | z
      · have hy : y ∈ ps := by
          rw [List.getElem?_append_left z] at e1
          exact List.mem_of_getElem? e1
        rw [hS.loc y hy] at e3; cases e3
      · rw [List.getElem?_append_right z] at e1
        rw [List.getElem?_append_right (by simpa [hl] using z), List.getElem?_map, List.length_map, hl] at e2
        obtain ⟨v', e4, e5⟩ := Option.map_eq_some_iff.mp e2
        have e5 := Option.some.inj e5
        rw [e5] at e4
        exact cap2 _ y v e1 e4
    · have := e0.frf b z
      rw [hcs b o e] at this; cases this
    · have z := sub i y e1 e2
      rw [List.getElem?_append_left (by simpa [hl] using z), List.getElem?_map] at e3
      obtain ⟨v', e4, e5⟩ := Option.map_eq_some_iff.mp e3
      have e5 := Option.some.inj e5
      rw [e5] at e4
      rw [List.getElem?_append_left z] at e1
      exact ⟨i, e1, e4⟩
    · exact ⟨rfl, rfl, rfl, rfl, rfl, rfl, rfl, ndN, rfl, hr, passes_of rfl, fun h => Bool.noConfusion h, fun h => Bool.noConfusion h, fun c q h => nomatch h⟩
    · exact takes_of rfl rfl rfl rfl
    · have cf : CodeFree cs H := nocode e0.hok (fun c o e vs z => by
        obtain ⟨v, e2⟩ := ncs c o e
        rw [e2] at z; cases z) hcs
      have R0 := Rel0.hide0 h4 hcs cf fun _ => rfl
      have E1 : Ext Fz am H Fz am (mn H cs) := ext_mn hcs h4.zt
      have ow := own_mn hcs h4
      refine qt ⟨mn H cs, fun p => 0 < na p + ns p, Fz, am⟩ (as.map some ++ cd.map fun d => some (.z, d)) st [] _ _ _ (fun a ha => by cases ha) ⟨Fz, am, na, fun _ => 0, ns, ?_, .nil fun _ => rfl, Reps.ext E1 h2 fun p o hp e => ow p o (by omega) e, R0.less fun q => by show na q + 0 + ns q ≤ _; omega, trivial⟩ ?_
      · exact env_app (reps_env (Reps.ext E1 h3 fun p o hp => absurd hp (Nat.lt_irrefl 0))) (Reps.ext E1 h1 fun p o hp e => ow p o (by omega) e)
      · have h5 : PostF S.G.off ⟨H, fun p => 0 < na p + ns p, Fz, am⟩ Q E (fin (db (as.map some ++ cd.map fun d => some (.z, d)) st)) := h5
        have back : ∀ {T1 : List Tm} {st1 : Store} {H' : Hp} {σ : St} {env : Env} {B B' : (Addr → Prop) → List Addr → Prop}, Off cs H' → (∀ Fz am, Ext Fz am H' Fz am (pl H' cs) → B Fz am → B' Fz am) → (∀ a ∈ T1, a.bor = false) → RlB S.G.off ⟨mn H cs, fun p => 0 < na p + ns p, Fz, am⟩ env st1 T1 σ H' B → RlB S.G.off ⟨H, fun p => 0 < na p + ns p, Fz, am⟩ [] st1 T1 [] (pl H' cs) B' := fun {T1 st1 H' σ env B B'} o hB hT R => by
          obtain ⟨Fz', am', ne, nt, ns', k1, k2, k3, k4, k5⟩ := R
          have E2 : Ext Fz' am' H' Fz' am' (pl H' cs) := Ext.same o.same fun _ h => h
          refine ⟨Fz', am', fun _ => 0, nt, ns', .nil fun _ => rfl, (TmR.nb (ne' := fun _ => 0) k2 hT).ext E2 (fun p u _ e => o.same _ _ e) (fun p u _ e => o.same _ _ e), Reps.ext E2 k3 fun p u _ e => o.same _ _ e, (Rel0.show0 k4 h4.hm hcs o).less fun q => by show 0 + nt q + ns' q ≤ _; omega, hB _ _ E2 k5⟩
        cases e : db (as.map some ++ cd.map fun d => some (.z, d)) st with
        | stuck => rw [e] at h5; exact h5.elim
        | exc c ds st1 =>
          rw [e] at h5
          refine fun cls dx H' R o => h5 cls dx _ (back o (fun Fz am E2 z => ?_) (fun a ha => by cases ha) R)
          obtain ⟨hx, p, fs, us, g1, g2, g3, g4, g5⟩ := z
          exact ⟨hx, p, fs, us, g1, g2, o.same _ _ g3, Reps.ext E2 g4 fun p o hp => absurd hp (Nat.lt_irrefl 0), g5⟩
        | ok fr b d st1 =>
          rw [e] at h5
          cases b with
          | true => exact h5.elim
          | false => exact fun v H' R o => h5.2 v _ (back o (fun _ _ _ z => z) (fun a ha => by simp at ha; rw [ha]) R)
end
end Hx

set_option Elab.async false
set_option linter.all false
set_option maxRecDepth 100000
set_option autoImplicit false
/-! X7: a def is handed a lambda. -/
namespace Hx
open PySem PySem.Spec L2 LamX
open PyProof.Rows hiding St
/-- the cells of the names, as they stand -/
def cellsOf (cells : List (Str × Addr)) (h : Heap) (names : List Str) : List (Addr × Obj) := names.filterMap fun y => match cells.lookup y with
  | some c => (h.get? c).map fun o => (c, o)
  | none => none
theorem cellsOf_in {cells : List (Str × Addr)} {h : Heap} {names : List Str} {c : Addr} {o : Obj} (e : (cellsOf cells h names).lookup c = some o) : h.get? c = some o ∧ ∃ y, cells.lookup y = some c := by
  obtain ⟨y, _, hy⟩ := List.mem_filterMap.mp (lk_mem e)
  split at hy
  · rename_i c2 e2
    obtain ⟨o2, e3, e4⟩ := Option.map_eq_some_iff.mp hy
    cases e4
    exact ⟨e3, y, e2⟩
  · cases hy
theorem lk_of {α : Type} {b : Addr} {o : α} : ∀ {l : List (Addr × α)}, (b, o) ∈ l → (∀ x ∈ l, x.1 = b → x.2 = o) → l.lookup b = some o
  | (k, v) :: r, h, q => by
    rw [List.lookup_cons]
    cases e : b == k with
    | true => exact congrArg some (q (k, v) List.mem_cons_self (eq_of_beq e).symm)
    | false =>
      refine lk_of ?_ fun x hx => q x (List.mem_cons_of_mem _ hx)
      rcases List.mem_cons.mp h with z | z
      · cases z; rw [beq_self_eq_true] at e; cases e
      · exact z
theorem cellsOf_has {cells : List (Str × Addr)} {h : Heap} {names : List Str} {y : Str} {c : Addr} {o : Obj} (hy : y ∈ names) (e1 : cells.lookup y = some c) (e2 : h.get? c = some o) : (cellsOf cells h names).lookup c = some o := by
  refine lk_of (List.mem_filterMap.mpr ⟨y, hy, by rw [e1]; show (h.get? c).map _ = _; rw [e2]; rfl⟩) fun x hx e => ?_
  obtain ⟨z, _, hz⟩ := List.mem_filterMap.mp hx
  split at hz
  · rename_i c2 e3
    obtain ⟨o2, e4, e5⟩ := Option.map_eq_some_iff.mp hz
    cases e5
    have e : c2 = c := e
    subst e
    rw [e2] at e4
    exact (Option.some.inj e4).symm
  · cases hz
theorem cellsOf_mem {cells : List (Str × Addr)} {h : Heap} {names : List Str} {x : Addr × Obj} (hx : x ∈ cellsOf cells h names) : (cellsOf cells h names).lookup x.1 = some x.2 := by
  obtain ⟨y, hy, e⟩ := List.mem_filterMap.mp hx
  split at e
  · rename_i c2 e2
    obtain ⟨o2, e3, e4⟩ := Option.map_eq_some_iff.mp e
    cases e4
    exact cellsOf_has hy e2 e3
  · cases e
/-- the cells stand in some heap -/
structure CsReal (cs : List (Addr × Obj)) : Prop where
  at_ : ∃ h : Heap, ∀ c o, cs.lookup c = some o → h.get? c = some o ∧ ∃ v, o.data = .cell v
  mem : ∀ x ∈ cs, cs.lookup x.1 = some x.2
theorem codeFree {cs : List (Addr × Obj)} {H : Hp} (r : CsReal cs) (k : Has cs H) : CodeFree cs H := fun c q e => by
  obtain ⟨h, r⟩ := r.at_
  cases z : cs.lookup c with
  | none => rfl
  | some o =>
    obtain ⟨g, v, d⟩ := r c o z
    rw [k c o z] at e
    have e1 : CellO c o = CodeO c q := Option.some.inj e
    unfold CellO CodeO at e1
    injection e1 with e1
    have e2 := congrFun e1 h
    have : ∃ oc vs t, h.get? c = some oc ∧ oc.data = .fields vs ∧ vs[1]? = some (.str q t) := e2 ▸ g
    obtain ⟨oc, vs, t, h1, h2, _⟩ := this
    rw [g] at h1; cases h1
    rw [d] at h2; cases h2
/-- what is known of a closure's cells: cap, its captured names, ci, their slots here -/
structure CapF (scope : Scope) (cap : List Str) (ci : List Nat) (σ : St) (cl : List (Str × Addr)) (cs : List (Addr × Obj)) : Prop where
  inj : ∀ x y c, cl.lookup x = some c → cl.lookup y = some c → x = y
  has : ∀ y, scope.names.lookup y = some .free → ∃ c, cl.lookup y = some c
  cell : ∀ y c, cl.lookup y = some c → ∃ o v, cs.lookup c = some o ∧ o.data = .cell v
  val : ∀ (k i : Nat) (y : Str) (v : V), cap[k]? = some y → ci[k]? = some i → σ[i]? = some (some v) → ∃ c o u, cl.lookup y = some c ∧ cs.lookup c = some o ∧ o.data = .cell (some u) ∧ RelV v u
/-- a lambda among the names of its frame -/
structure CapS (S : Sx) (scope : Scope) (cap : List Str) (ci : List Nat) : Prop where
  free : ∀ y ∈ scope.names, y.2 = .free → y.1 ∈ cap ∧ (S.sc.names.lookup y.1 = some .cell ∨ S.sc.names.lookup y.1 = some .free)
  cp : ∀ y ∈ cap, scope.names.lookup y = some .free
  sl : ∀ (k i : Nat) (y : Str), cap[k]? = some y → ci[k]? = some i → S.N[i]? = some y
section
variable {S : Sx} {X : Cx} {k : Nat} {f : Addr} {fd : FuncData} {ps : List Str} {sp : Sp} {dvs : List V} {ds : List Value} {W : WX} {pins : List (Addr × Obj)} {σ : St} {H : Hp} {s : Shared} {Q : VK} {scope : Scope} {cap : List Str} {ci : List Nat}
theorem cells_ok (hX : Stx S X) (hf : S.fnA = true) (I : Inv X pins σ H s) : CsOk s.heap H (cellsOf X.env.cells s.heap cap) ∧ (∀ b o, (cellsOf X.env.cells s.heap cap).lookup b = some o → X.base.get? b = none) ∧ (∀ b o, (cellsOf X.env.cells s.heap cap).lookup b = some o → b ∉ frs X.stack) ∧ CsReal (cellsOf X.env.cells s.heap cap) := by
  have dat : ∀ b o, (cellsOf X.env.cells s.heap cap).lookup b = some o → ∃ v, o.data = .cell v := fun b o e => by
    obtain ⟨e1, y, e2⟩ := cellsOf_in e
    obtain ⟨v, o2, e3, e4⟩ := I.cell y b e2
    rw [e1] at e3; cases e3
    exact ⟨v, e4⟩
  have big : ∀ b o, (cellsOf X.env.cells s.heap cap).lookup b = some o → X.s_0.heap.objs.size ≤ b := fun b o e => by
    obtain ⟨_, y, e2⟩ := cellsOf_in e
    exact I.ok.cab y b (hX.fn hf y) e2
  refine ⟨fun b o e => ?_, fun b o e => ?_, fun b o e z => ?_, ⟨s.heap, fun b o e => ⟨(cellsOf_in e).1, dat b o e⟩⟩, fun x hx => cellsOf_mem hx⟩
  · obtain ⟨e1, y, e2⟩ := cellsOf_in e
    exact ⟨e1, I.freeC y b e2⟩
  · exact Heap.get?_none_of_le (Nat.le_trans I.ok.bsz (big b o e))
  · rcases List.mem_cons.mp (I.stkSub b z) with q | q
    · obtain ⟨m, ⟨o2, es, ep, g1, g2, _⟩, _⟩ := I.loc
      obtain ⟨v, d⟩ := dat b o e
      rw [← q, (cellsOf_in e).1] at g1
      cases g1
      rw [d] at g2; cases g2
    · obtain ⟨_, o2, g1, _⟩ := I.ok.funs.mem q
      exact absurd (Heap.lt_size g1) (Nat.not_lt.mpr (big b o e))
theorem cap_f (hX : Stx S X) (C : CapS S scope cap ci) (I : Inv X pins σ H s) : CapF scope cap ci σ (cloFrom X.env.cells scope.names []) (cellsOf X.env.cells s.heap cap) := by
  have free : ∀ y ∈ scope.names, y.2 = .free → ∃ c, X.env.cells.lookup y.1 = some c := fun y hy e => by
    have z := (C.free y hy e).2
    rw [← hX.sc] at z
    exact I.ok.has _ z
  have cm : ∀ {y c}, (cloFrom X.env.cells scope.names []).lookup y = some c → X.env.cells.lookup y = some c ∧ y ∈ cap := fun {y c} e => by
    rcases cloFrom_mem (PySem.mem_of_lookup e) with hm | ⟨h1, h2⟩
    · cases hm
    · obtain ⟨c1, hc⟩ := free _ h1 rfl
      have hc : X.env.cells.lookup y = some c1 := hc
      have e2 : c = c1 := by
        rw [h2, hc] <;> rfl
      rw [e2]
      exact ⟨hc, (C.free _ h1 rfl).1⟩
  have look : ∀ {y}, scope.names.lookup y = some .free → ∃ c, (cloFrom X.env.cells scope.names []).lookup y = some c := fun {y} hl => by
    have hy : (y, NameKind.free) ∈ scope.names := PySem.mem_of_lookup hl
    exact mem_lookup (cloFrom_has (cells := X.env.cells) (acc := []) hy)
  have cellAt : ∀ {y c}, X.env.cells.lookup y = some c → y ∈ cap → ∃ o v, (cellsOf X.env.cells s.heap cap).lookup c = some o ∧ o.data = .cell v := fun {y c} e hy => by
    obtain ⟨v, o, e1, e2⟩ := I.cell y c e
    exact ⟨o, v, cellsOf_has hy e e1, e2⟩
  refine ⟨fun x y c e1 e2 => I.ok.inj x y c (cm e1).1 (cm e2).1, fun y e => look e, fun y c e => cellAt (cm e).1 (cm e).2, fun k i y v e1 e2 e3 => ?_⟩
  have hfr := C.cp y (List.mem_of_getElem? e1)
  obtain ⟨c, e4⟩ := look hfr
  obtain ⟨m, hn, hl⟩ := I.loc
  have z := (C.free _ (PySem.mem_of_lookup hfr) rfl).2
  have z : S.sc.names.lookup y = some .cell ∨ S.sc.names.lookup y = some .free := z
  rw [← hX.sc] at z
  obtain ⟨u, ru, lk⟩ := hl i y v (by rw [hX.N]; exact C.sl k i y e1 e2) e3 (.inr z)
  rcases lk with ⟨k1, _⟩ | ⟨_, c3, e5, o, e6, e7⟩
  · have k1 : X.env.scope.names.lookup y = some .local := k1
    rcases z with z | z <;> rw [z] at k1 <;> cases k1
  · have e8 := (cm e4).1
    rw [e5] at e8
    cases e8
    exact ⟨_, o, u, e4, cellsOf_has (cm e4).2 e5 e6, e7, ru⟩
theorem run_cells {us : List Value} {vs : List V} {cs : List (Addr × Obj)} (F : FnOk X.prog X.w X.K X.mg X.base (L2.CX X.prog X.w) k f fd ps sp) (hr : Room k X.A) (hb : Binds X.K fd ps ds) (hd : Vals dvs ds) (tk : Takes X W) (I : Inv X pins σ H s) (r : Vals vs us)
    (c1 : CsOk s.heap H cs) (c2 : ∀ b o, cs.lookup b = some o → X.base.get? b = none) (c3 : ∀ b o, cs.lookup b = some o → b ∉ frs X.stack)
    (h : sp (vs ++ dvs) (pl H cs) (fun v H' => Has cs H' ∧ Q v (mn H' cs)) (fun cls d H' => Has cs H' ∧ WE W σ cls d (mn H' cs))) : wpAny (model X.prog X.w) X.A (call (.ref f) us) (EP X pins σ Q) X.xe s := by
  have r2 : Vals (vs ++ dvs) (us ++ ds) := r.append hd
  have hl : (us ++ ds).length = ps.length := by rw [← r2.length]; exact F.len _ _ _ _ h
  refine wpAny_call (codeAny_mono (F.run X.A X.stack s (pl H cs) ⟨us, []⟩ (us ++ ds) (vs ++ dvs) _ _ hr (env0_pl I.env0 c1 c2 c3) (hb s us I.kIn hl) r2 h) fun r s' hq => ?_)
  have hq := cr_hide c1 hq
  cases r with
  | error e => exact passAt tk σ pins H s e s' I hq
  | ok fl =>
    cases fl with
    | ret u => exact I.after hq
    | next => exact False.elim hq
    | brk => exact False.elim hq
    | cont => exact False.elim hq
/-- a lambda is made, all is handed over; ta: what stands ahead of it -/
def tLamC (T : List (Addr × Str)) (q : Str) (params : Arguments) (body : Expr) (scope : Scope) (cap : List Str) (ci : List Nat) (sp : Sp) (dvs : List V) (W : WX) (ta : TA) : TE := fun σ H Q => ta σ H fun vs H1 => Tabs T H1 ∧
  ∀ (f c' : Addr) (cl : List (Str × Addr)) (cs : List (Addr × Obj)) (H2 : Hp), ExtN H1 H2 → TblK H1 H2 → Tabs T H2 → H2 f = none → H1 f = none → H2 c' = some (CodeO c' q) → CapF scope cap ci σ cl cs →
    Off cs (upd H2 f (CloO f q params body scope cl c')) → (∀ c o, cs.lookup c = some o → H1 c = none) → CsReal cs →
    sp (vs ++ .ref f :: dvs) (pl (upd H2 f (CloO f q params body scope cl c')) cs) (fun v H' => Has cs H' ∧ Q v (mn H' cs)) (fun cls d H' => Has cs H' ∧ WE W σ cls d (mn H' cs))

variable {T : List (Addr × Str)} {x q : Str} {params : Arguments} {body a : Expr} {lpos p pos : Pos} {c P : Addr} {ta : TE}
theorem lam_end {us : List Value} {vs : List V} (hX : Stx S X) (hfA : S.fnA = true) (C : CapS S scope cap ci) (TB : TabB X.base X.mg c P) (hcode : X.env.code = .ref c) (hq : X.env.qual = q) (hm : (P, q ++ "<lambda>") ∈ T) (hu : ∀ p ∈ T, p.1 = P → p.2 = q ++ "<lambda>")
    (hdef : defaultsOf params X.env = ([], [])) (F : FnOk X.prog X.w X.K X.mg X.base (L2.CX X.prog X.w) k f fd ps sp) (hr : Room k X.A) (hb : Binds X.K fd ps ds) (hd : Vals dvs ds) (tk : Takes X W) (I : Inv X pins σ H s) (r : Vals vs us)
    (h : tLamC T (q ++ "<lambda>") params body scope cap ci sp dvs W (fun _ H1 Q1 => Q1 vs H1) σ H Q) :
    wpAny (model X.prog X.w) X.A (eval (.Lambda params body scope lpos) X.env) (fun v s1 => X.K.In s1.heap ∧ wpAny (model X.prog X.w) X.A (call (.ref f) (us ++ [v])) (EP X pins σ Q) X.xe s1) X.xe s := by
  subst hq
  obtain ⟨hT, h⟩ := h
  have hfree : ∀ y ∈ scope.names, y.2 = .free → ∃ c, X.env.cells.lookup y.1 = some c := fun y hy e => by
    have z := (C.free y hy e).2
    rw [← hX.sc] at z
    exact I.ok.has _ z
  refine clo_make I TB hcode hm hu hT hdef hfree fun g c' H1 s' I1 eN tK T1 hfn hco hHf => ⟨I1.kIn, ?_⟩
  obtain ⟨c1, c2, c3, c4⟩ := cells_ok (cap := cap) hX hfA I1
  have h := h g c' _ _ H1 eN tK T1 hfn hHf hco (cap_f hX C I1) c1.off (fun b o e => by
    obtain ⟨_, y, e2⟩ := cellsOf_in e
    exact I.freeC y b e2) c4
  have e1 : vs ++ V.ref g :: dvs = (vs ++ [V.ref g]) ++ dvs := by simp
  rw [e1] at h
  exact run_cells F hr hb hd tk I1 (r.append (.cons (show RelV (V.ref g) (Value.ref g) from rfl) .nil)) c1 c2 c3 h
theorem pe_lamcall1 (hX : Stx S X) (hfA : S.fnA = true) (C : CapS S scope cap ci) (TB : TabB X.base X.mg c P) (hcode : X.env.code = .ref c) (hq : X.env.qual = q) (hm : (P, q ++ "<lambda>") ∈ T) (hu : ∀ p ∈ T, p.1 = P → p.2 = q ++ "<lambda>")
    (hdef : defaultsOf params X.env = ([], [])) (F : FnOk X.prog X.w X.K X.mg X.base (L2.CX X.prog X.w) k f fd ps sp) (hr : Room k X.A) (hb : Binds X.K fd ps ds) (hd : Vals dvs ds) (tk : Takes X W) (hg : Gl X x) (hmx : X.mg x = some (.ref f)) (hk : PySem.W.keepIn X.K (.ref f) = true) (hdb : (x == ("__debug__" : Str)) = false) :
    PE X (.Call (.Name x p) [.Lambda params body scope lpos] [] pos) (tLamC T (q ++ "<lambda>") params body scope cap ci sp dvs W tNil) := by
  refine ⟨fun pins s σ H Q I h => ?_⟩
  refine wpAny_Call_Name_kw (ld_glob I hg hmx ?_ hdb)
  refine PySem.W.callWith_K (h₀ := X.base) I.ok.mod.kin hk ?_ (by rfl) (by rfl)
  show wpAny _ _ (spliced ((false, eval (.Lambda params body scope lpos) X.env) :: backTo pos (starEach [] X.env))) _ _ s
  refine Calls.spliced_cons (thn (lam_end (us := []) hX hfA C TB hcode hq hm hu hdef F hr hb hd tk I .nil h) fun v s1 ⟨h1, h2⟩ => ?_)
  exact Calls.spliced_nil ⟨h1, h2⟩
theorem pe_lamcall2 (hX : Stx S X) (hfA : S.fnA = true) (C : CapS S scope cap ci) (TB : TabB X.base X.mg c P) (hcode : X.env.code = .ref c) (hq : X.env.qual = q) (hm : (P, q ++ "<lambda>") ∈ T) (hu : ∀ p ∈ T, p.1 = P → p.2 = q ++ "<lambda>")
    (hdef : defaultsOf params X.env = ([], [])) (F : FnOk X.prog X.w X.K X.mg X.base (L2.CX X.prog X.w) k f fd ps sp) (hr : Room k X.A) (hb : Binds X.K fd ps ds) (hd : Vals dvs ds) (tk : Takes X W) (hg : Gl X x) (hmx : X.mg x = some (.ref f)) (hk : PySem.W.keepIn X.K (.ref f) = true) (hdb : (x == ("__debug__" : Str)) = false)
    (ha : PE X a ta) (hs : starEach (a :: [.Lambda params body scope lpos]) X.env = (false, eval a X.env) :: starEach [.Lambda params body scope lpos] X.env) :
    PE X (.Call (.Name x p) [a, .Lambda params body scope lpos] [] pos) (tLamC T (q ++ "<lambda>") params body scope cap ci sp dvs W fun σ H Q => ta σ H fun v H1 => Q [v] H1) := by
  refine ⟨fun pins s σ H Q I h => ?_⟩
  refine wpAny_Call_Name_kw (ld_glob I hg hmx ?_ hdb)
  refine PySem.W.callWith_K (h₀ := X.base) I.ok.mod.kin hk ?_ hs (by rfl)
  rw [hs]
  show wpAny _ _ (spliced ((false, eval a X.env) :: (false, eval (.Lambda params body scope lpos) X.env) :: backTo pos (starEach [] X.env))) _ _ s
  refine Calls.spliced_cons (thn (ha.run pins s σ H _ I h) fun u s0 ⟨v, H0, I0, r0, q0⟩ => ?_)
  refine Calls.spliced_cons (thn (lam_end (us := [u]) hX hfA C TB hcode hq hm hu hdef F hr hb hd tk I0 (.cons r0 .nil) q0) fun v s1 ⟨h1, h2⟩ => ?_)
  exact Calls.spliced_nil ⟨h1, h2⟩
end
end Hx

set_option Elab.async false
set_option linter.all false
set_option maxRecDepth 100000
set_option autoImplicit false
/-! X8: the reading of a call that is handed a lambda. -/
namespace Hx
open PySem PySem.Spec L2 LamX
open PyProof.Rows hiding St
@[simp] def capt (env : Env) : List Nat → Option (List D)
  | [] => some []
  | i :: r => match env[i]? with
    | some (some (.z, d)) => match capt env r with
      | some ds => some (d :: ds)
      | none => none
    | _ => none
def oneL (f : Addr) (n : Nat) (r : Fn) : LamR := fun j => match j with
  | 0 => some (f, n, r)
  | _ + 1 => none
@[simp] theorem oneL_0 {f : Addr} {n : Nat} {r : Fn} : oneL f n r 0 = some (f, n, r) := rfl
/-- what comes whatever the address is -/
noncomputable def dPick (h : Addr → Res) : Res := open Classical in if ∀ f, h f = h 0 then h 0 else .stuck
@[simp] theorem dPick_c (r : Res) : dPick (fun _ => r) = r := by simp [dPick]
theorem dPick_ok {G : Sg} {g : Gd} {env : Env} {T : List Tm} {σ : St} {W : WX} {Q : VK} {h : Addr → Res} (e : PostE G g env T σ W Q (dPick h)) (f : Addr) : PostE G g env T σ W Q (h f) := by
  unfold dPick at e
  split at e
  · rename_i k; rw [k f]; exact e
  · exact e.elim
@[simp] noncomputable def dLam (ci : List Nat) (n : Nat) (db : Den) (F : LamR → Fn) (as : DenL) : Den := fun env st => match as env st with
  | .ok ts st1 => bif keeps ts then match capt env ci with
    | some cd => dPick fun f => fin (F (oneL f n (dLamB db cd)) (zd (ts.map fun t => t.2.2) ++ [(.z, .fnv f 0)]) st1)
    | none => .stuck else .stuck
  | .exc c ds st1 => .exc c ds st1
  | .stuck => .stuck
section
variable {G : Sg} {g : Gd} {env : Env} {st st' : Store} {T T' : List Tm} {σ : St} {H H' : Hp} {Fz : Addr → Prop} {am : List Addr} {tot : Fp} {B B' : (Addr → Prop) → List Addr → Prop} {cs : List (Addr × Obj)}
theorem capt_vs {n : Fp} (r : EnvR G Fz am H env σ n) : ∀ {ci : List Nat} {cd : List D}, capt env ci = some cd → ∃ cv : List V, cv.length = ci.length ∧ Reps G Fz am H (zs cd.length) cv cd (fun _ => 0) ∧ ∀ (k i : Nat) (v : V), ci[k]? = some i → cv[k]? = some v → σ[i]? = some (some v)
  | [], cd, e => by
    cases e
    exact ⟨[], rfl, .nil fun _ => rfl, fun k i v e => by simp at e⟩
  | i :: ci, cd, e => by
    unfold capt at e
    split at e
    · rename_i d e1
      split at e
      · rename_i ds e2
        cases e
        obtain ⟨cv, k1, k2, k3⟩ := capt_vs r e2
        obtain ⟨v, m, a1, a2, a3⟩ := r.get e1
        refine ⟨v :: cv, by simp [k1], ?_, fun k i' v' h1 h2 => ?_⟩
        · rw [show zs (d :: ds).length = .z :: zs ds.length from List.replicate_succ]
          exact .cons (a2.fp a2.z0) k2 (n1 := fun _ => 0) (n2 := fun _ => 0) fun _ => rfl
        · cases k with
          | zero => simp at h1 h2; rw [← h1, ← h2]; exact a1
          | succ k => exact k3 k i' v' (by simpa using h1) (by simpa using h2)
      · cases e
    · cases e
def KeepN (H H' : Hp) : Prop := ∀ b o, H b = some o → isTbl o = false → H' b = some o
theorem KeepN.ext (k : KeepN H H') (zt : ∀ p, Fz p → ∃ o, H p = some o ∧ plainO o = true) : Ext Fz am H Fz am H' where
  fz := fun _ h => h
  cl := fun _ _ h => h
  rd := fun p u z h => by
    obtain ⟨o, e, po⟩ := zt p z
    rcases h with h | ⟨w, h⟩
    · rw [h] at e; cases e
      exact .inl (k _ _ h (pl_nt po))
    · exact .inr ⟨w, k _ _ h rfl⟩
  st := fun p u z h _ => by
    obtain ⟨o, e, po⟩ := zt p z
    rw [h] at e; cases e
    exact k _ _ h (pl_nt po)
  tp := fun p xs h => h.imp (fun e => k _ _ e rfl) fun ⟨o, e⟩ => ⟨o, k _ _ e rfl⟩
theorem Rel0.keepN (r : Rel0 G g Fz am H tot) (k : KeepN H H') (t : TblK H H') (tb : Tabs G.T H') : Rel0 G g Fz am H' tot where
  n1 := r.n1
  nz := r.nz
  th := fun p hp => by
    obtain ⟨o, e, ow⟩ := r.th p hp
    exact ⟨o, k _ _ e ow.nt, ow⟩
  zt := fun p z => by
    obtain ⟨o, e, po⟩ := r.zt p z
    exact ⟨o, k _ _ e (pl_nt po), po⟩
  k := fun p o nt e na => (r.k p o nt e na).map fun u h z => k _ _ z (h.elim (fun x => x ▸ nt) id)
  f := r.f
  z0 := r.z0
  z1 := r.z1
  a := r.a
  tb := tb
  hm := r.hm
  kt := fun p o tt e na => by
    obtain ⟨o', e1, t1⟩ := r.kt p o tt e na
    exact t p o' e1 t1
theorem Rel0.owned (r : Rel0 G g Fz am H tot) (k : KeepN H H') : ∀ p o, 0 < tot p → H p = some o → H' p = some o := fun p o hp e => by
  obtain ⟨o', e', ow⟩ := r.th p hp
  rw [e] at e'; cases e'
  exact k _ _ e ow.nt
/-- the ground's look-ons stand behind a call -/
theorem RlB.stands {g : Gd} (R : RlB G g env st T σ H B) {b : Addr} {u : HO} (e : g.H0 b = some u) (x : isExt u = true) : H b = some u := by
  obtain ⟨Fz, am, ne, nt, ns, h1, h2, h3, h4, h5⟩ := R
  refine (h4.k b u (ext_nt x) e fun q => ?_).nd (ext_dk x)
  obtain ⟨o, e1, ow⟩ := h4.hm.a b q
  rw [e] at e1; cases e1
  exact ext_no x ow
end
/-- what is known of a def that is handed closures -/
structure GoodL (S : Sx) (x : Str) (n : Nat) (F : LamR → Fn) (k : Nat) : Prop where
  ex : ∃ f fd ps, (∀ l, LamsOk S.P S.w S.mg S.base (S.G.wl l) → FnOk S.P S.w S.G.K S.mg S.base (L2.CX S.P S.w) k f fd ps (SpF (S.G.wl l) n (F (S.G.wl l).lr))) ∧ S.mg x = some (.ref f) ∧ PySem.W.keepIn S.G.K (.ref f) = true ∧ L2.Binds S.G.K fd ps []
/-- of one of the closures' sets -/
def SpU (S : Sx) (n : Nat) (F : LamR → Fn) : Sp := fun vs H Q E => ∃ l, LamsOk S.P S.w S.mg S.base (S.G.wl l) ∧ SpF (S.G.wl l) n (F (S.G.wl l).lr) vs H Q E
/-- the making def -/
structure MkOk (S : Sx) (c P : Addr) (q : Str) : Prop where
  lmk : S.lmk = some (c, q)
  tab : TabB S.base S.mg c P
  mem : (P, q ++ "<lambda>") ∈ S.G.T
  one : ∀ p ∈ S.G.T, p.1 = P → p.2 = q ++ "<lambda>"
section
variable {S : Sx} {ps cap : List Str} {ci : List Nat} {params : Arguments} {body : Expr} {scope : Scope} {db : Den} {n k : Nat} {F : LamR → Fn}
theorem lam_post (hS : CloS (ps ++ cap) ps scope) (hb : DE (S.cl (ps ++ cap) scope) body db) (hbind : ∀ (q : Str) (cl : List (Str × Addr)) (pm cv ctv : Value) (us : List Value), us.length = ps.length → bindArgs (PySem.W.kla_fn "<lambda>" q params body scope cl pm cv ctv) ⟨us, []⟩ = pure (ps.zip us))
    (hci : ci.length = cap.length) {q : Str} {g : Gd} {env : Env} {st : Store} {T : List Tm} {σ : St} {H : Hp} {Q : VK} {W : WX} {vs : List V} {ts : List (Fr × Bool × D)} {cd : List D} (hn : ts.length + 1 = n)
    (R : Rl S.G g env st (mkT vs ts ++ T) σ H) (hl : vs.length = ts.length) (hk : keeps ts = true) (hcd : capt env ci = some cd)
    (h : PostE S.G g env T σ W Q (dPick fun f => fin (F (oneL f ps.length (dLamB db cd)) (zd (ts.map fun t => t.2.2) ++ [(.z, .fnv f 0)]) st))) :
    Tabs S.G.T H ∧ ∀ (f c' : Addr) (cl : List (Str × Addr)) (cs : List (Addr × Obj)) (H2 : Hp), ExtN H H2 → TblK H H2 → Tabs S.G.T H2 → H2 f = none → H f = none → H2 c' = some (CodeO c' q) → CapF scope cap ci σ cl cs →
      Off cs (upd H2 f (CloO f q params body scope cl c')) → (∀ c o, cs.lookup c = some o → H c = none) → CsReal cs →
      SpU S n F (vs ++ .ref f :: []) (pl (upd H2 f (CloO f q params body scope cl c')) cs) (fun v H' => Has cs H' ∧ Q v (mn H' cs)) (fun cls d H' => Has cs H' ∧ WE W σ cls d (mn H' cs)) := by
  obtain ⟨Fz, am, ne, nt, ns, h1, h2, h3, h4, h5⟩ := Rl.frzL R hl hk
  refine ⟨h4.tb, fun f c' cl cs H2 eN tK tb hf2 hf1 hc' cf off hcs real => ?_⟩
  have h := dPick_ok h f
  obtain ⟨cv, v1, v2, v3⟩ := capt_vs h1 hcd
  let O := CloO f q params body scope cl c'
  let ent := entOf f q params body scope cl c' cs
  let l : Nat → Option LamD := fun j => match j with
    | 0 => some ⟨f, ps.length, dLamB db cd, ent, cv, cd⟩
    | _ + 1 => none
  have fcs : cs.lookup f = none := off.out (o := O) upd_same
  have kn : KeepN H (pl (upd H2 f O) cs) := fun b o e nt => by
    have nb : b ≠ f := ne_of_none e hf1
    have e2 : H2 b = some o := eN b o e fun ps z => by rw [z] at nt; cases nt
    exact off.same b o (by rw [upd_ne nb]; exact e2)
  have tk : TblK H (pl (upd H2 f O) cs) := fun p o e t => by
    obtain ⟨o', e1, t1⟩ := tK p o e t
    exact ⟨o', off.same p o' (by rw [upd_ne (ne_of_none e1 hf2)]; exact e1), t1⟩
  have tb' : Tabs S.G.T (pl (upd H2 f O) cs) := tb.ext fun b o e => off.same b o (by rw [upd_ne (ne_of_none e hf2)]; exact e)
  have E : Ext Fz am H Fz am (pl (upd H2 f O) cs) := kn.ext h4.zt
  have ow := h4.owned kn
  have h4s := h4.keepN kn tk tb'
  have lok : LamsOk S.P S.w S.mg S.base (S.G.wl l) := fun j l' e => by
    cases j with
    | succ j => cases e
    | zero =>
      cases e
      exact clo_lam hS hb hbind cf.inj cf.has cf.cell (v1.trans hci) (fun k y v e1 e2 => by
        have hk : k < ci.length := by
          have := (List.getElem?_eq_some_iff.mp e1).1
          omega
        have e3 : ci[k]? = some ci[k] := List.getElem?_eq_getElem hk
        exact cf.val k _ y v e1 e3 (v3 k _ v e3 e2)) (fun c o e => by
        obtain ⟨hh, r⟩ := real.at_
        exact (r c o e).2)
  have lr : (S.G.wl l).lr = oneL f ps.length (dLamB db cd) := by
    funext j
    cases j with
    | zero => rfl
    | succ j => rfl
  have h4b : Rel0 S.G g Fz am (pl (upd H2 f O) cs) fun p => (fun _ => 0) p + (ne p + nt p + ns p) := h4s.less fun q => by show 0 + (ne q + nt q + ns q) ≤ _; omega
  have B0 := Rel0.base (g := g) (ne := ne) (nt := nt) h4b
  have hm' : Home (S.G.wl l) ⟨pl (upd H2 f O) cs, fun p => 0 < (fun _ => 0) p + ns p, Fz, am⟩ := ⟨B0.hm.fz, B0.hm.a, fun j l' e => by
    cases j with
    | succ j => cases e
    | zero =>
      cases e
      refine ⟨fun x hx => ?_, Reps.wl _ (Reps.ext E v2 fun p o hp => absurd hp (Nat.lt_irrefl 0))⟩
      rcases List.mem_cons.mp hx with z | hx
      · rw [z]
        exact ⟨rfl, off.same f O upd_same⟩
      rcases List.mem_cons.mp hx with z | hx
      · rw [z]
        exact ⟨rfl, off.same c' _ (by rw [upd_ne (ne_of_none hc' hf2)]; exact hc')⟩
      · obtain ⟨y, hy, z⟩ := List.mem_map.mp hx
        rw [← z]
        exact ⟨rfl, pl_in (real.mem y hy)⟩⟩
  refine ⟨l, lok, by rw [List.length_append, hl]; exact hn, Fz, am, zd (ts.map fun t => t.2.2) ++ [(.z, .fnv f 0)], st, fun _ => 0, ns, ?_, StoR.wl l (Reps.ext E h3 fun p o hp e => ow p o (by omega) e), B0.wl hm', ?_⟩
  · rw [List.map_append, List.map_append, zd_fst, zd_snd, List.length_map]
    exact Reps.wl l (Reps.app (.cons (.sc (show Scal S.G (.ref f) (.fnv f 0) from rfl) fun _ => rfl) (.nil (n := fun _ => 0) fun _ => rfl) (n1 := fun _ => 0) fun _ => rfl) (Reps.ext E h5 fun p o hp => absurd hp (Nat.lt_irrefl 0)))
  · rw [lr]
    have e1 : EnvR S.G Fz am (pl (upd H2 f O) cs) env σ ne := h1.ext E fun p o hp e => ow p o (by omega) e
    have e2 : TmR S.G Fz am (pl (upd H2 f O) cs) ne T nt := h2.ext E (fun p o hp e => ow p o (by omega) e) fun p o hp e => ow p o (by omega) e
    have hasc : ∀ {env' : Env} {st' : Store} {T' : List Tm} {σ' : St} {H' : Hp} {B : (Addr → Prop) → List Addr → Prop}, RlB (S.G.wl l) ⟨pl (upd H2 f O) cs, fun p => 0 < (fun _ => 0) p + ns p, Fz, am⟩ env' st' T' σ' H' B → Has cs H' := fun R1 b o e => R1.stands (pl_in e) rfl
    have back : ∀ {st' : Store} {T1 : List Tm} {H' : Hp} {B B' : (Addr → Prop) → List Addr → Prop}, RlB (S.G.wl l) ⟨pl (upd H2 f O) cs, fun p => 0 < (fun _ => 0) p + ns p, Fz, am⟩ [] st' T1 [] H' B → (∀ Fz am, Ext Fz am H' Fz am (mn H' cs) → B Fz am → B' Fz am) → RlB S.G g env st' (T1 ++ T) σ (mn H' cs) B' := fun {st' T1 H' B B'} R1 hB => by
      have k := hasc R1
      have R2 : RlB S.G _ [] st' T1 [] H' B := RlB.wl (G := S.G.wl l) (l := S.G.lam) R1 B0.hm fun _ _ z => z
      exact RlB.hide (join (T := T) h4b e1 e2 R2) k (codeFree real k) (fun b o e => h4.new (hcs b o e)) hB
    have h : PostE S.G g env T σ W Q (fin (F (oneL f ps.length (dLamB db cd)) (zd (ts.map fun t => t.2.2) ++ [(.z, .fnv f 0)]) st)) := h
    cases e : F (oneL f ps.length (dLamB db cd)) (zd (ts.map fun t => t.2.2) ++ [(.z, .fnv f 0)]) st with
    | stuck => rw [e] at h; exact h.elim
    | exc c ds st1 =>
      rw [e] at h
      exact fun cls dx H' R1 => ⟨hasc R1, h cls dx _ (back R1 fun Fz am E z => ExcB.mn (hasc R1) E (z.wl S.G.lam)).notmp⟩
    | ok fr b d st1 =>
      rw [e] at h
      cases b with
      | true => exact h.elim
      | false => exact ⟨rfl, fun v H' R1 => ⟨hasc R1, h v _ (back R1 fun _ _ _ z => z)⟩⟩
end
end Hx

set_option Elab.async false
set_option linter.all false
set_option maxRecDepth 100000
set_option autoImplicit false
/-! X9: x(lambda: e), x(a, lambda ..: e); defs that take closures, defs that make them. -/
namespace Hx
open PySem PySem.Spec L2 LamX
open PyProof.Rows hiding St
@[reducible] def Sx.lamS (S : Sx) (l : Nat → Option LamD) (ok : LamsOk S.P S.w S.mg S.base (S.G.wl l)) : Sx := ⟨S.P, S.w, S.mg, S.base, S.G.wl l, S.N, S.sc, S.k, S.fnA, ok, none⟩
/-- what a lambda's text must be -/
structure LamT (S : Sx) (ps cap : List Str) (ci : List Nat) (params : Arguments) (scope : Scope) (body : Expr) : Prop where
  cs : CloS (ps ++ cap) ps scope
  cp : CapS S scope cap ci
  ci : ci.length = cap.length
  dfl : ∀ env, defaultsOf params env = ([], [])
  bind : ∀ (q : Str) (cl : List (Str × Addr)) (pm cv ctv : Value) (us : List Value), us.length = ps.length → bindArgs (PySem.W.kla_fn "<lambda>" q params body scope cl pm cv ctv) ⟨us, []⟩ = pure (ps.zip us)
section
variable {S : Sx} {ps cap : List Str} {ci : List Nat} {params : Arguments} {body a : Expr} {scope : Scope} {db da : Den} {n k : Nat} {F : LamR → Fn} {x q : Str} {c P : Addr} {p lpos pos : Pos}
theorem fnu (hG : GoodL S x n F k) : ∃ f fd ps', FnOk S.P S.w S.G.K S.mg S.base (L2.CX S.P S.w) k f fd ps' (SpU S n F) ∧ S.mg x = some (.ref f) ∧ PySem.W.keepIn S.G.K (.ref f) = true ∧ L2.Binds S.G.K fd ps' [] := by
  obtain ⟨f, fd, ps', h1, h2, h3, h4⟩ := hG.ex
  exact ⟨f, fd, ps', ⟨fun vs H Q E ⟨l, ok, z⟩ => (h1 l ok).len vs H Q E z, fun A outer s H args us vs Q E hr e0 hb r ⟨l, ok, z⟩ => (h1 l ok).run A outer s H args us vs Q E hr e0 hb r z⟩, h2, h3, h4⟩
theorem de_lam1 (hT : LamT S ps cap ci params scope body) (hb : DE (S.cl (ps ++ cap) scope) body db) (hG : GoodL S x 1 F k) (hk : k ≤ S.k) (hM : MkOk S c P q) (hfA : S.fnA = true) (hg : S.sc.names.lookup x = some .globalImplicit) (hdb : (x == ("__debug__" : Str)) = false) :
    DE S (.Call (.Name x p) [.Lambda params body scope lpos] [] pos) (dLam ci ps.length db F dNil) := fun W => by
  obtain ⟨f, fd, ps', hF, hm, hkp, hbi⟩ := fnu hG
  refine ⟨tLamC S.G.T (q ++ "<lambda>") params body scope cap ci (SpU S 1 F) [] W tNil, fun X hX tk => ?_, fun g env st T σ H Q hB R h => ?_⟩
  · obtain ⟨k1, k2⟩ := hX.lmk c q hM.lmk
    exact pe_lamcall1 hX hfA hT.cp (by rw [hX.base, hX.mg]; exact hM.tab) k1 k2 hM.mem hM.one (hT.dfl _) (by rw [hX.pr, hX.w, hX.mg, hX.base, hX.K]; exact hF) (hX.room.mono hk) (by rw [hX.K]; exact hbi) .nil tk (show X.env.scope.names.lookup x = some .globalImplicit by rw [hX.sc]; exact hg) (by rw [hX.mg]; exact hm) (by rw [hX.K]; exact hkp) hdb
  · unfold dLam at h
    dsimp only [dNil] at h
    obtain ⟨hc, h⟩ := bifT h id
    split at h
    · rename_i cd e
      exact lam_post hT.cs hb hT.bind hT.ci (ts := []) (vs := []) rfl R rfl rfl e h
    · exact h.elim
theorem de_lam2 (hT : LamT S ps cap ci params scope body) (hb : DE (S.cl (ps ++ cap) scope) body db) (hG : GoodL S x 2 F k) (hk : k ≤ S.k) (hM : MkOk S c P q) (hfA : S.fnA = true) (hg : S.sc.names.lookup x = some .globalImplicit) (hdb : (x == ("__debug__" : Str)) = false)
    (ha : DE S a da) (hp : plainArgs [a] = true) :
    DE S (.Call (.Name x p) [a, .Lambda params body scope lpos] [] pos) (dLam ci ps.length db F (dLast da)) := fun W => by
  obtain ⟨f, fd, ps', hF, hm, hkp, hbi⟩ := fnu hG
  obtain ⟨ta, pa, qa⟩ := ha W
  refine ⟨tLamC S.G.T (q ++ "<lambda>") params body scope cap ci (SpU S 2 F) [] W fun σ H Q => ta σ H fun v H1 => Q [v] H1, fun X hX tk => ?_, fun g env st T σ H Q hB R h => ?_⟩
  · obtain ⟨k1, k2⟩ := hX.lmk c q hM.lmk
    exact pe_lamcall2 hX hfA hT.cp (by rw [hX.base, hX.mg]; exact hM.tab) k1 k2 hM.mem hM.one (hT.dfl _) (by rw [hX.pr, hX.w, hX.mg, hX.base, hX.K]; exact hF) (hX.room.mono hk) (by rw [hX.K]; exact hbi) .nil tk (show X.env.scope.names.lookup x = some .globalImplicit by rw [hX.sc]; exact hg) (by rw [hX.mg]; exact hm) (by rw [hX.K]; exact hkp) hdb
      (pa X hX tk) (starNo (plainArgs_ok hp a List.mem_cons_self))
  · unfold dLam dLast at h
    refine qa g env st T σ H _ hB R ?_
    cases e1 : da env st with
    | stuck => rw [e1] at h; exact h.elim
    | exc c ds st1 => rw [e1] at h; exact h
    | ok fr b d st1 =>
      rw [e1] at h
      dsimp only at h
      obtain ⟨hc, h⟩ := bifT h id
      split at h
      · rename_i cd e
        exact fun v H1 R1 => lam_post hT.cs hb hT.bind hT.ci (ts := [(fr, b, d)]) (vs := [v]) rfl R1 rfl hc e h
      · exact h.elim
end
/-! ### defs that take closures -/
theorem goodL_fn {S : Sx} {x : Str} {st : Stmt} {N ps : List Str} {n k : Nat} {db : LamR → DenS} (h : Kn S x st) (Sc : FnScope N ps (defScope st)) (hb : ∀ l ok, DSs ((S.lamS l ok).at N (defScope st) k) (defBody st) (db (S.G.wl l).lr)) (hbind : BindN x st ps) (hn : ps.length = n) :
    GoodL S x n (fun lr => dBody N.length (db lr)) (k + 1) := by
  subst hn
  obtain ⟨f, fd, F, hm⟩ := h.ex
  exact ⟨f, fd, ps, fun l ok => ok_fn (S := (S.lamS l ok).at N (defScope st) k) F Sc (hb l ok) rfl, hm, F.kp, F.bindsN hbind⟩
/-! ### defs that make closures -/
@[reducible] def Sx.atL (S : Sx) (N : List Str) (sc : Scope) (k : Nat) (c : Addr) (q : Str) : Sx := ⟨S.P, S.w, S.mg, S.base, S.G, N, sc, k, true, S.lok, some (c, q)⟩
/-- the def's code object is c, its table P -/
structure Mk0 (S : Sx) (x : Str) (c P : Addr) : Prop where
  code : ∀ f o fd, S.mg x = some (.ref f) → S.G.K.lookup f = some o → o.data = .func fd → fd.code = .ref c
  tab : TabB S.base S.mg c P
  mem : (P, x ++ ".<locals>.<lambda>") ∈ S.G.T
  one : ∀ p ∈ S.G.T, p.1 = P → p.2 = x ++ ".<locals>.<lambda>"
theorem ok_fnT {S : Sx} {x : Str} {params : Arguments} {body : List Stmt} {dvs : List V} {kws : List (Str × V)} {f c P : Addr} {fd : FuncData} {N ps : List Str} {sc : Scope} {k : Nat} {db : DenS} (F : FunD S.G.K x x params body sc dvs kws f fd) (M : Mk0 S x c P) (hm : S.mg x = some (.ref f)) (Sc : FnScope N ps sc)
    (hb : DSs (S.atL N sc k c (x ++ ".<locals>.")) body db) : FnOk S.P S.w S.G.K S.mg S.base (L2.CX S.P S.w) (k + 1) f fd ps (SpF S.G ps.length (dBody N.length db)) := by
  obtain ⟨oc, od, dV, kV, doc, pm, an, cdv, ct, osl, rfl, lk, hcd, _, _⟩ := F.ex
  have hc : cdv = .ref c := M.code f _ _ hm lk rfl
  subst hc
  refine fn_of lk hcd Sc (fun vs H Q E h => h.1) fun A outer s H vs Q E hr h => ?_
  obtain ⟨hl, Fz, am, as, st, na, ns, h1, h2, h3, h4⟩ := h
  obtain ⟨t, pt, qt⟩ := hb fun cls d _ H => E cls d H
  have hX : Stx (S.atL N sc k c (x ++ ".<locals>.")) (cxOf (L2.CX S.P S.w) S.P S.w S.G.K S.mg S.base N x sc f (.ref c) A outer s H E) := ⟨rfl, rfl, rfl, rfl, rfl, rfl, rfl, Sc.nd, rfl, hr, passes_of rfl, fun _ _ => rfl, fun _ => ⟨rfl, rfl⟩, fun c' q' e => by cases e; exact ⟨rfl, rfl⟩⟩
  refine ⟨t, pt _ hX (takes_of rfl rfl rfl rfl), ?_⟩
  have la : as.length = vs.length := by have := h1.len; simpa using this.2.symm
  refine qt ⟨H, fun p => 0 < na p + ns p, Fz, am⟩ (start0 N.length as) st [] (L2.start N vs) H _ (fun a ha => by cases ha) ⟨Fz, am, na, fun _ => 0, ns, ?_, .nil fun _ => rfl, h2, h3.less fun q => by show na q + 0 + ns q ≤ _; omega, trivial⟩ ?_
  · unfold start0 L2.start
    rw [la]
    exact env_start h1
  · unfold dBody at h4
    cases e : db (start0 N.length as) st with
    | stuck => rw [e] at h4; exact h4.elim
    | bk env1 st1 => rw [e] at h4; exact h4.elim
    | ct env1 st1 => rw [e] at h4; exact h4.elim
    | rt f d st1 => rw [e] at h4; exact h4.2
    | nx env1 st1 => rw [e] at h4; exact fun σ' H' R => h4.2 .non H' (Rl.ret (b := false) (Rl.scal (v := .non) (d := .non) R trivial) rfl)
    | exc c ds env1 st1 =>
      rw [e] at h4
      intro σ' cls dx H' R
      refine h4 cls dx H' ?_
      obtain ⟨Fz', am', ne, nt, ns', k1, k2, k3, k4, k5⟩ := R
      cases k2 with
      | nil h0 => exact ⟨Fz', am', fun _ => 0, fun _ => 0, ns', .nil fun _ => rfl, .nil fun _ => rfl, k3, k4.less fun q => by show 0 + 0 + ns' q ≤ _; omega, k5⟩
theorem mk_ok {S : Sx} {x : Str} {c P : Addr} {N : List Str} {sc : Scope} {k : Nat} (M : Mk0 S x c P) (e : (x ++ ".<locals>.") ++ "<lambda>" = x ++ ".<locals>.<lambda>") : MkOk (S.atL N sc k c (x ++ ".<locals>.")) c P (x ++ ".<locals>.") :=
  ⟨rfl, M.tab, by rw [e]; exact M.mem, fun p hp h => by rw [e]; exact M.one p hp h⟩
theorem good_fnT {S : Sx} {x : Str} {st : Stmt} {N ps : List Str} {n k : Nat} {db : DenS} {c P : Addr} (h : Kn S x st) (M : Mk0 S x c P) (Sc : FnScope N ps (defScope st)) (hb : DSs (S.atL N (defScope st) k c (x ++ ".<locals>.")) (defBody st) db) (hbind : BindN x st ps) (hn : ps.length = n) : Good S x n (dBody N.length db) [] (k + 1) := by
  subst hn
  obtain ⟨f, fd, F, hm⟩ := h.ex
  exact ⟨f, fd, ps, [], [], ok_fnT F M hm Sc hb, hm, F.kp, F.bindsN hbind, .nil, fun Fz am H => .nil fun _ => rfl⟩
end Hx

set_option Elab.async false
set_option linter.all false
set_option maxRecDepth 100000
set_option maxHeartbeats 4000000
set_option autoImplicit false
/-! X10: try with several clauses, each of one class or a tuple of classes, each with a name. -/
namespace Hx
open PySem PySem.Spec L2
open PyProof.Rows hiding St
/-- what a clause's test names -/
inductive TestX (X : Cx) : Expr → List Value → Prop
  | one {x : Str} {c : Value} {p : Pos} : Names X x c → TestX X (.Name x p) [c]
  | two {x1 x2 : Str} {c1 c2 : Value} {p1 p2 p : Pos} {k : Nat} : Names X x1 c1 → Names X x2 c2 → TestX X (.Tuple [.Name x1 p1, .Name x2 p2] k p) [c1, c2]
  | three {x1 x2 x3 : Str} {c1 c2 c3 : Value} {p1 p2 p3 p : Pos} {k : Nat} : Names X x1 c1 → Names X x2 c2 → Names X x3 c3 → TestX X (.Tuple [.Name x1 p1, .Name x2 p2, .Name x3 p3] k p) [c1, c2, c3]
abbrev ClauseX := List Value × Nat × (Addr → Value → Option Addr → TS)
inductive ClsX (X : Cx) : List ExceptHandler → List ClauseX → Prop
  | nil : ClsX X [] []
  | cons {t : Expr} {cs : List Value} {i : Nat} {n : Str} {ts : Addr → Value → Option Addr → TS} {b₀ : Stmt} {suite : List Stmt} {pos : Pos} {hds : List ExceptHandler} {l : List ClauseX} (ht : TestX X t cs) (hi : X.N[i]? = some n) (hl : X.env.kindOf n = some .local)
      (hsu : ∀ (a : Addr) (oe : Obj) (cls : Value) (d : Option Addr) (pn : List (Addr × Obj)), Zc cls d oe → (∃ vs, oe.data = .fields vs) → PSs (X.suite a ((a, oe) :: pn)) (b₀ :: suite) (ts a cls d)) (r : ClsX X hds l) :
      ClsX X (.ExceptHandler (some t) (some n) (b₀ :: suite) pos :: hds) ((cs, i, ts) :: l)
/-- the suite's ends: the name goes -/
@[reducible] def endX (i : Nat) (D : Ends) : Ends := { nx := fun σ H => D.nx (σ.set i none) H, rt := D.rt, bk := fun σ H => D.bk (σ.set i none) H, ct := fun σ H => D.ct (σ.set i none) H }
/-- what the clauses wish of an exception -/
def wX (K : PySem.W.Frag) (Wout : WX) (D : Ends) : List ClauseX → WX
  | [] => Wout
  | (cs, i, ts) :: l => fun cls d σ H => ∃ b, PySem.W.exmAny K cls cs = some b ∧ (b = true → ∀ a, H a = none → ts a cls d (endX i D) (σ.set i (some (.ref a))) H) ∧ (b = false → wX K Wout D l cls d σ H)
theorem flyZ_kept {B h h' : Heap} {l : List PySem.Env} {e : Addr} {Z : Obj → Prop} (R : HandSPX.FlyingZ B l e Z h) (k : ∀ b o, h.get? b = some o → h'.get? b = some o) : HandSPX.FlyingZ B l e Z h' := by
  obtain ⟨f1, f2, f3, oe, vs, T, oT, ts, g1, g2, g3, g4, g5, g6, g7, g8⟩ := R
  exact ⟨fun b o q => k b o (f1 b o q), f2, f3.of_keeps fun b o q _ => ⟨o, k b o q, rfl⟩, oe, vs, T, oT, ts, k _ _ g1, g2, g3, g4, g5, g6, k _ _ g7, g8⟩
theorem exm1 {K : PySem.W.Frag} {cls c : Value} {b : Bool} (h : PySem.W.exmAny K cls [c] = some b) : PySem.W.exmOne K cls c = some b := by
  obtain ⟨b1, d1, x1, y1, z1⟩ := PySem.W.exmAny_cons h
  have w : some false = some d1 := y1
  cases w
  rw [x1, z1]
  cases b1 <;> rfl
section
variable {X : Cx} {body : List Stmt} {h₀ : ExceptHandler} {hds : List ExceptHandler} {l : List ClauseX} {pos : Pos} {tb : WX → TS} {Wout : WX}
/-- a class's name is read in a suite's context -/
theorem names_at {pn pins : List (Addr × Obj)} {σ : St} {H : Hp} {s : Shared} {a : Addr} {x : Str} {c : Value} {np : Pos} {Q : Value → Shared → Prop} {E : Value → Shared → Prop} (hc : Names X x c) (S3 : Inv (X.suite a pn) pins σ H s) (q : Q c s) :
    wpAny (model X.prog X.w) (X.A.mark (some (.ref a))) (eval (.Name x np) X.env) Q E s := by
  obtain ⟨hg, hd, hm | ⟨hm, hv, hn⟩⟩ := hc
  · exact ld_glob (X := X.suite a pn) S3 hg hm q hd
  · exact ld_blt (X := X.suite a pn) S3 hg hm hv q hn hd
/-- the test of a clause answers b; the heap may have grown -/
theorem test_at {t : Expr} {cs : List Value} (ht : TestX X t cs) {pn pins : List (Addr × Obj)} {σ : St} {H : Hp} {s : Shared} {a : Addr} {oe : Obj} {cls : Value} {b : Bool} {Q : Bool → Shared → Prop} {E : Value → Shared → Prop} (S3 : Inv (X.suite a pn) pins σ H s)
    (he : s.heap.get? a = some oe) (hz : oe.cls = cls) (hx : PySem.W.exmAny X.K cls cs = some b) (q : ∀ h', (∀ b o, s.heap.get? b = some o → h'.get? b = some o) → Q b { s with heap := h' }) :
    wpAny (model X.prog X.w) (X.A.mark (some (.ref a))) (eval t X.env) (fun c s1 => wpAny (model X.prog X.w) (X.A.mark (some (.ref a))) (excMatches (.ref a) c) Q E s1) E s := by
  have kin : X.K.In s.heap := S3.kIn
  have LT : PySem.W.Looks (model X.prog X.w) s.heap (typeOf (.ref a)) cls := fun A Q E s k q => wpAny_typeOf_ref (k _ _ he) (by rw [hz]; exact q)
  have kp : ∀ (o2 : Obj) b o, s.heap.get? b = some o → (s.heap.push o2).get? b = some o := fun o2 _ _ z => Heap.get?_push_of_some _ z
  cases ht with
  | one h1 =>
    exact names_at h1 S3 ((PySem.W.exm_one (M := model X.prog X.w) kin LT (exm1 hx)).here (q s.heap fun _ _ z => z))
  | @two x1 x2 c1 c2 p1 p2 p k h1 h2 =>
    refine wpAny_Tuple (wpAny_items_cons (names_at h1 S3 (wpAny_items_cons (names_at h2 S3 (wpAny_items_nil ⟨by size_fits, ?_⟩)))))
    exact (PySem.W.exm_tup2 (M := model X.prog X.w) (kin.keeps (kp _)) (LT.keeps (kp _)) (Heap.get?_push_size s.heap rfl) hx).here (q _ (kp _))
  | @three x1 x2 x3 c1 c2 c3 p1 p2 p3 p k h1 h2 h3 =>
    refine wpAny_Tuple (wpAny_items_cons (names_at h1 S3 (wpAny_items_cons (names_at h2 S3 (wpAny_items_cons (names_at h3 S3 (wpAny_items_nil ⟨by size_fits, ?_⟩)))))))
    exact (PySem.W.exm_tup3 (M := model X.prog X.w) (kin.keeps (kp _)) (LT.keeps (kp _)) (Heap.get?_push_size s.heap rfl) hx).here (q _ (kp _))
theorem ps_tryX (hs : X.stack = X.env :: X.outer) (hf : X.env.frame = some X.env.locals) (hN : X.N.Nodup) (tk : Takes X Wout)
    (hb : ∀ (W : WX) (pn : List (Addr × Obj)) (xe : Value → Shared → Prop), Takes (X.tr pn xe) W → PassesOwn (model X.prog X.w) X.A X.env xe → PSs (X.tr pn xe) body (tb W))
    (hh : ClsX X (h₀ :: hds) l) : PS X (.Try body (h₀ :: hds) [] [] pos) (fun D σ H => tb (wX X.K Wout D l) D σ H) := by
  refine ⟨fun pins s σ H D I h => ?_⟩
  have ok := I.ok
  have hfr : X.A.frames = some (X.env :: X.outer) := by rw [ok.frames, hs]
  refine wpAny_Try_except (wpAny_mono ((hb (wX X.K Wout D l) (X.pn ++ pins) (fun e s₁ => wpAny (model X.prog X.w) X.A (noteFrame e X.env) (fun _ s₂ => wpAny (model X.prog X.w) X.A (setFlight e none) (fun _ s₃ =>
    wpAny (model X.prog X.w) X.A (handleBy e X.env (h₀ :: hds)) (SP X pins D) X.xe s₃) X.xe s₂) X.xe s₁) (fun u s' xx => ?_) PassesOwn.looking).run [] s σ H D (I.toTry _) h) (fun f s1 z => ?_) fun _ _ z => z)
  · obtain ⟨a, B, sI, pins', σ', H', cls, d, rfl, J', nb, up, sky, na, os, ag, w⟩ := xx
    have J : Inv X pins σ' H' sI := J'.ofTry ok
    have sky' : Sky B (X.env :: X.outer) a (Zc cls d) X.env.locals s'.heap := by rw [← hs]; exact sky
    show wpAny (model X.prog X.w) X.A (noteFrame (.ref a) X.env) _ _ _
    refine Sky.land Zc.steady hfr hf sky' fun h3 fl3 up3 => ?_
    have go : ∀ {hds' : List ExceptHandler} {l' : List ClauseX}, ClsX X hds' l' → wX X.K Wout D l' cls d σ' H' → ∀ h3, HandSPX.FlyingZ B (X.env :: X.outer) a (Zc cls d) h3 → s'.heap.UpToSlots h3 →
        wpAny (model X.prog X.w) X.A (handleBy (.ref a) X.env hds') (SP X pins D) X.xe { s' with heap := h3 } := by
      intro hds' l' hk
      induction hk with
      | nil =>
        intro w h3 fl3 up3
        refine wpAny_handleBy_nil ?_
        obtain ⟨_, _, _, oe, vs, T, oT, ts', he, hz, hd, h1, _⟩ := id fl3
        unfold PySem.passOn
        refine wpAny_bind (wpAny_field he hd h1 ?_)
        rw [if_neg (show ¬ ((Value.ref T == Value.none) = true) from by simp)]
        have out : wpAny (model X.prog X.w) X.A (setFlight (.ref a) X.env.frame) (fun _ s4 => wpAny (model X.prog X.w) X.A (throw (.ref a) : Sem Flow) (SP X pins D) X.xe s4) X.xe { s' with heap := h3 } := by
          rw [hf]
          exact HandSPX.setFlight_upZ fl3 fun h4 hh4 up4 => wpAny_throw (tk _ _ ⟨a, B, sI, pins, σ', H', cls, d, rfl, J, nb, (up.trans up3).trans up4, .inr (.inr (by rw [hs]; exact hh4)), na, os, ag, w⟩)
        first
          | exact wpAny_bind (wpAny_pure (wpAny_bind out))
          | exact wpAny_bind out
      | @cons t cs i n ts b₀ suite pos' hds2 l2 ht hi hln hsu r ih =>
        intro w h3 fl3 up3
        obtain ⟨b, hb1, hyes, hno⟩ := w
        have loc : Loc X.env.scope n := .inl hln
        have J3 : Inv X pins σ' H' { s' with heap := h3 } := J.landed nb fl3.1 (up.trans up3) os ag
        obtain ⟨oe3, vs3, he3, hz3, hd3⟩ := fl3.there
        have nfr : a ∉ frs (X.env :: X.outer) := fun hm => by
          obtain ⟨_, o', e', hnf⟩ := fl3.2.2.1.mem hm
          rw [he3] at e'; cases e'
          exact hnf _ hd3
        have nL : a ≠ X.env.locals := fun z => nfr (List.mem_filterMap.mpr ⟨X.env, List.mem_cons_self, by rw [hf, z]⟩)
        have nF : a ∉ X.fs := fun hm => by
          obtain ⟨e, he, q⟩ := List.mem_filterMap.mp hm
          exact nfr (List.mem_filterMap.mpr ⟨e, List.mem_cons_of_mem _ he, q⟩)
        refine wpAny_handleBy_cons (codeAny_handlers_test (test_at ht (J3.suite he3 hd3 na nL nF) he3 hz3.1 hb1 fun h5 kp => ?_)) (by intro q; cases q)
        have fl5 := flyZ_kept fl3 kp
        have up5 := up3.trans (Heap.UpToSlots.of_keeps kp)
        cases b with
        | false => exact ih (hno rfl) h5 fl5 up5
        | true =>
          refine codeAny_handlers_suite_as ?_
          refine HandSPX.lands_againZ fl5 fun h4 fl4 up4 => ?_
          have J4 : Inv X pins σ' H' { s' with heap := h4 } := J.landed nb fl4.1 ((up.trans up5).trans up4) os ag
          obtain ⟨oe4, vs4, he4, hz4, hd4⟩ := fl4.there
          refine store_ok (X := X.suite a ((a, oe4) :: (X.pn ++ pins))) (v := .ref a) (J4.suite he4 hd4 na nL nF) hN hi loc rfl (fun s5 S5 => ?_) (.inr hln)
          have back : ∀ {s6 : Shared} {σ6 : St} {H6 : Hp} {Q : Shared → Prop}, Inv (X.suite a ((a, oe4) :: (X.pn ++ pins))) [] σ6 H6 s6 → (∀ s7, Inv X pins (σ6.set i none) H6 s7 → Q s7) →
              wpAny (model X.prog X.w) X.A (do bindName X.env n .none; unbindBehindTheSuite X.env n pos') (fun _ s7 => Q s7) X.xe s6 := fun {s6 σ6 H6 Q} S6 hq => gone_ok (S6.unsuite ok) hN hi hln hq
          refine wpAny_mono ((hsu a oe4 cls d (X.pn ++ pins) hz4 ⟨_, hd4⟩).run [] s5 _ H' _ S5 (hyes rfl a na)) (fun f s6 z => ?_) (fun _ _ z => False.elim z)
          cases f with
          | ret u =>
            obtain ⟨v6, σ6, H6, S6, r6, q6⟩ := z
            exact back S6 fun s7 J7 => ⟨_, _, _, J7, r6, q6⟩
          | next => obtain ⟨σ6, H6, S6, q6⟩ := z; exact back S6 fun s7 J7 => ⟨_, _, J7, q6⟩
          | brk => obtain ⟨σ6, H6, S6, q6⟩ := z; exact back S6 fun s7 J7 => ⟨_, _, J7, q6⟩
          | cont => obtain ⟨σ6, H6, S6, q6⟩ := z; exact back S6 fun s7 J7 => ⟨_, _, J7, q6⟩
    exact go hh w h3 fl3 up3
  · cases f with
    | ret u => obtain ⟨v, σ', H', J', r, q⟩ := z; exact ⟨v, σ', H', J'.ofTry ok, r, q⟩
    | next => obtain ⟨σ', H', J', q⟩ := z; exact wpAny_execs_nil ⟨σ', H', J'.ofTry ok, q⟩
    | brk => obtain ⟨σ', H', J', q⟩ := z; exact ⟨σ', H', J'.ofTry ok, q⟩
    | cont => obtain ⟨σ', H', J', q⟩ := z; exact ⟨σ', H', J'.ofTry ok, q⟩
end
end Hx

set_option Elab.async false
set_option linter.all false
set_option maxRecDepth 100000
set_option autoImplicit false
/-! X11: try: .. except C as e: return (e.f, ..), its reading. -/
namespace Hx
open PySem PySem.Spec L2
open PyProof.Rows hiding St
abbrev HdD := List Nat × Nat × List Str
@[simp] def pickL (fl : List Str) (ds : List D) : List Str → Option (List D)
  | [] => some []
  | f :: r => match (fl.zip ds).lookup f with
    | some d => match pickL fl ds r with
      | some vs => some (d :: vs)
      | none => none
    | none => none
@[simp] def dHds (up : Nat → List Nat) (fld : Nat → List Str) : List HdD → Nat → List D → Env → Store → ResS
  | [], c, ds, env, st => .exc c ds env st
  | (cl, i, fs) :: r, c, ds, env, st => bif cl.any fun d => (up c).contains d then (match pickL (fld c) ds fs with
    | some vs => bif vs.length.ble 1000 && Nat.blt i env.length then .rt .z (.con .tup vs) st else .stuck
    | none => .stuck) else dHds up fld r c ds env st
@[simp] def dTry (up : Nat → List Nat) (fld : Nat → List Str) (b : DenS) (hs : List HdD) : DenS := fun env st => match b env st with
  | .exc c ds env1 st1 => dHds up fld hs c ds env1 st1
  | r => r
/-- what is known of the exception classes -/
structure XF (K : PySem.W.Frag) (G : Sg) (up : Nat → List Nat) (fld : Nat → List Str) : Prop where
  exm : ∀ c ∈ G.xs, ∀ d ∈ G.xs, PySem.W.exmOne K (.ref (G.cls c)) (.ref (G.cls d)) = some ((up c).contains d)
  xf : ∀ c ∈ G.xs, XfC K (G.cls c)
  no : ∀ c ∈ G.xs, ∀ f ∈ fld c, PySem.W.findIn K (.ref (G.cls c)) f = some none
  fl : ∀ c ∈ G.xs, G.fld c = fld c
/-! ### a suite -/
def tXu (K : PySem.W.Frag) (a : Addr) (cls : Value) (d : Option Addr) (i : Nat) (f : Str) : TE := fun σ H Q => ∃ C dd fs v, cls = .ref C ∧ XfC K C ∧ PySem.W.findIn K (.ref C) f = some none ∧ σ[i]? = some (some (.ref a)) ∧ d = some dd ∧ H dd = some (.xd fs) ∧ fs.lookup f = some v ∧ Q v H
def tXs (K : PySem.W.Frag) (a : Addr) (cls : Value) (d : Option Addr) (i : Nat) : List Str → TA
  | [] => tNil
  | f :: r => tCons (tXu K a cls d i f) (tXs K a cls d i r)
section
variable {X : Cx} {a : Addr} {oe : Obj} {cls : Value} {d : Option Addr} {pn : List (Addr × Obj)} {i : Nat} {n f : Str} {p pos : Pos}
theorem pe_xu (hN : X.N[i]? = some n) (hv : Vis X.env.scope n) (hz : Zc cls d oe) (hf : ∃ vs, oe.data = .fields vs) (hdb : (n == ("__debug__" : Str)) = false) (hcd : (n == ("__classdict__" : Str)) = false) (hb : attributeBase (.Name n p) f X.env (eval (.Name n p) X.env) = eval (.Name n p) X.env) :
    PE (X.suite a ((a, oe) :: pn)) (.Attribute (.Name n p) f pos) (tXu X.K a cls d i f) := by
  refine ⟨fun pins s σ H Q I h => ?_⟩
  obtain ⟨C, dd, fs, v, e1, h1, h2, h3, h4, h5, h6, q⟩ := h
  exact (pe_xf (C := C) h1 h2 hz hf (pe_var (i := i) hN hv hdb hcd) hb).run pins s σ H Q I ⟨.ref a, h3, rfl, e1, dd, fs, v, h4, h5, h6, q⟩
/-- the suite's row -/
inductive FldsX (n : Str) : List Expr → List Str → Prop
  | nil : FldsX n [] []
  | cons {p pos : Pos} {f : Str} {es : List Expr} {fs : List Str} : FldsX n es fs → FldsX n (.Attribute (.Name n p) f pos :: es) (f :: fs)
theorem pa_xs (hN : X.N[i]? = some n) (hv : Vis X.env.scope n) (hz : Zc cls d oe) (hf : ∃ vs, oe.data = .fields vs) (hdb : (n == ("__debug__" : Str)) = false) (hcd : (n == ("__classdict__" : Str)) = false) {es : List Expr} {fs : List Str} (h : FldsX n es fs)
    (hb : ∀ f ∈ fs, ∀ p, attributeBase (.Name n p) f X.env (eval (.Name n p) X.env) = eval (.Name n p) X.env) : PA (X.suite a ((a, oe) :: pn)) es (tXs X.K a cls d i fs) := by
  induction h with
  | nil => exact pa_nil
  | @cons p pos f es fs h ih => exact pa_cons (pe_xu hN hv hz hf hdb hcd (hb f List.mem_cons_self p)) (ih fun g hg => hb g (List.mem_cons_of_mem _ hg)) (by rfl)
end
theorem zip_look {fl : List Str} {ds : List D} {f : Str} {d : D} (h : (fl.zip ds).lookup f = some d) : ∃ i : Nat, fl[i]? = some f ∧ ds[i]? = some d := by
  induction fl generalizing ds with
  | nil => cases h
  | cons g fl ih =>
    cases ds with
    | nil => cases h
    | cons x ds =>
      rw [List.zip_cons_cons, List.lookup_cons] at h
      split at h
      · rename_i e
        cases h
        exact ⟨0, by rw [eq_of_beq e]; rfl, rfl⟩
      · obtain ⟨i, h1, h2⟩ := ih h
        exact ⟨i + 1, h1, h2⟩
theorem xreps_get {G : Sg} {Fz : Addr → Prop} {am : List Addr} {H : Hp} : ∀ {ds : List D} {vs : List V} {i : Nat} {d : D}, Reps G Fz am H (zs ds.length) vs ds (fun _ => 0) → ds[i]? = some d → ∃ v, vs[i]? = some v ∧ Rep G Fz am H .z v d (fun _ => 0)
  | x :: ds, v :: vs, i, d, r, e => by
    rw [show zs (x :: ds).length = .z :: zs ds.length from List.replicate_succ] at r
    cases r with
    | cons h1 h2 h3 =>
      cases i with
      | zero => cases e; exact ⟨v, rfl, h1.fp h1.z0⟩
      | succ i => exact xreps_get (ds := ds) (vs := vs) (i := i) (h2.fp h2.z0) (by simpa using e)
section
variable {G : Sg} {K : PySem.W.Frag} {up : Nat → List Nat} {fld : Nat → List Str}
/-- the fields are read -/
theorem xs_run {Fz : Addr → Prop} {am : List Addr} {H : Hp} {c : Nat} {ds : List D} {vs : List V} {a dd : Addr} {fs : List (Str × V)} {i : Nat} {σ : St} (F : XF K G up fld) (hc : c ∈ G.xs) (r : Reps G Fz am H (zs ds.length) vs ds (fun _ => 0))
    (hv : ∀ (i : Nat) (x : Str), (G.fld c)[i]? = some x → ∀ v, vs[i]? = some v → fs.lookup x = some v) (hd : H dd = some (.xd fs)) (hσ : σ[i]? = some (some (.ref a))) : ∀ {l : List Str} {pd : List D}, pickL (fld c) ds l = some pd →
    ∃ pv : List V, Reps G Fz am H (zs pd.length) pv pd (fun _ => 0) ∧ ∀ Q, Q pv H → tXs K a (.ref (G.cls c)) (some dd) i l σ H Q
  | [], pd, e => by
    cases e
    exact ⟨[], .nil fun _ => rfl, fun Q q => q⟩
  | f :: l, pd, e => by
    unfold pickL at e
    split at e
    · rename_i d e1
      split at e
      · rename_i ps e2
        cases e
        obtain ⟨pv, k1, k2⟩ := xs_run F hc r hv hd hσ e2
        obtain ⟨j, j1, j2⟩ := zip_look e1
        obtain ⟨v, v1, v2⟩ := xreps_get r j2
        refine ⟨v :: pv, ?_, fun Q q => ⟨G.cls c, dd, fs, v, rfl, F.xf c hc, F.no c hc f (List.mem_of_getElem? j1), hσ, rfl, hd, hv j f (by rw [F.fl c hc]; exact j1) v v1, k2 _ q⟩⟩
        rw [show zs (d :: ps).length = .z :: zs ps.length from List.replicate_succ]
        exact .cons v2 k1 (n1 := fun _ => 0) (n2 := fun _ => 0) fun _ => rfl
      · cases e
    · cases e
theorem exm_any {c : Nat} (F : XF K G up fld) (hc : c ∈ G.xs) : ∀ {cl : List Nat}, (∀ d ∈ cl, d ∈ G.xs) → PySem.W.exmAny K (.ref (G.cls c)) (cl.map fun d => Value.ref (G.cls d)) = some (cl.any fun d => (up c).contains d)
  | [], _ => rfl
  | d :: cl, h => by
    show (match PySem.W.exmOne K _ _, PySem.W.exmAny K _ _ with | some b, some d => some (b || d) | _, _ => none) = _
    rw [F.exm c hc d (h d List.mem_cons_self), exm_any F hc fun x hx => h x (List.mem_cons_of_mem _ hx)]
    rfl
def tsX (K : PySem.W.Frag) (i : Nat) (fs : List Str) : Addr → Value → Option Addr → TS := fun a cls d => tRet (tTup (tXs K a cls d i fs))
def clsOf (K : PySem.W.Frag) (G : Sg) (hs : List HdD) : List ClauseX := hs.map fun h => (h.1.map fun d => Value.ref (G.cls d), h.2.1, tsX K h.2.1 h.2.2)
theorem hds_run {g : Gd} {T : List Tm} {W : WX} {En : Ends} {c : Nat} {ds : List D} {env : Env} {st : Store} {σ : St} (F : XF K G up fld) : ∀ {hs : List HdD}, (∀ h ∈ hs, ∀ d ∈ h.1, d ∈ G.xs) → PostS G g T W En (dHds up fld hs c ds env st) →
    ∀ cls dx H', RlB G g env st [] σ H' (ExcB G H' c ds cls dx) → wX K W En (clsOf K G hs) cls dx σ H'
  | [], _, h => fun cls dx H' R => h σ cls dx H' R
  | (cl, i, fs) :: hs, hx, h => fun cls dx H' R => by
    have h1 := hx _ List.mem_cons_self
    obtain ⟨Fz, am, ne, nt, ns, r1, r2, r3, r4, hc, p, xs, vs, b1, b2, b3, b4, b5⟩ := R
    subst b1 b2
    refine ⟨_, exm_any F hc h1, fun hb a na => ?_, fun hb => ?_⟩
    · unfold dHds at h
      rw [hb] at h
      dsimp only [cond_true] at h
      split at h
      · rename_i pd e
        obtain ⟨hn, h⟩ := bifT h id
        rw [Bool.and_eq_true] at hn
        have h2 : i < σ.length := r1.len ▸ Nat.blt_eq.mp hn.2
        obtain ⟨pv, k1, k2⟩ := xs_run (a := a) (σ := σ.set i (some (.ref a))) F hc b4 b5 b3 (by rw [List.getElem?_set_self h2]) e
        refine k2 _ ⟨by have := k1.len.2; rw [this]; exact small_len hn.1, fun q hq => h _ _ ?_⟩
        have z : ∀ q, nt q = 0 := by cases r2 with | nil h => exact h
        have R0 : RlB G g [] st [] [] H' fun Fz am => Reps G Fz am H' (zs pd.length) pv pd (fun _ => 0) := ⟨Fz, am, fun _ => 0, fun _ => 0, ns, .nil fun _ => rfl, .nil fun _ => rfl, r3, r4.less fun q => by show 0 + 0 + ns q ≤ _; omega, k1⟩
        exact RlB.new R0 (same_upd hq) newp0 fun Fz am E k => rep_tup E k
      · exact h.elim
    · refine hds_run (T := T) F (fun x hx' => hx x (List.mem_cons_of_mem _ hx')) ?_ _ _ H' ⟨Fz, am, ne, nt, ns, r1, r2, r3, r4, hc, p, xs, vs, rfl, rfl, b3, b4, b5⟩
      unfold dHds at h
      rw [hb] at h
      exact h
end
/-! ### the statement -/
/-- the clauses' text -/
inductive HdsT (S : Sx) : List ExceptHandler → List HdD → Prop
  | nil : HdsT S [] []
  | cons {t : Expr} {cl : List Nat} {i : Nat} {n : Str} {es : List Expr} {fs : List Str} {x1 : Nat} {p1 p2 pos : Pos} {hds : List ExceptHandler} {l : List HdD} (ht : ∀ X, Stx S X → TestX X t (cl.map fun d => Value.ref (S.G.cls d))) (hcl : ∀ d ∈ cl, d ∈ S.G.xs) (hN : S.N[i]? = some n) (hv : S.sc.names.lookup n = some .local)
      (hdb : (n == ("__debug__" : Str)) = false) (hcd : (n == ("__classdict__" : Str)) = false) (he : FldsX n es fs) (hb : ∀ (env : PySem.Env), env.scope = S.sc → ∀ f ∈ fs, ∀ p, attributeBase (.Name n p) f env (eval (.Name n p) env) = eval (.Name n p) env) (r : HdsT S hds l) :
      HdsT S (.ExceptHandler (some t) (some n) [.Return (some (.Tuple es x1 p1)) p2] pos :: hds) ((cl, i, fs) :: l)
section
variable {S : Sx} {body : List Stmt} {h₀ : ExceptHandler} {hds : List ExceptHandler} {l : List HdD} {pos : Pos} {db : DenS} {up : Nat → List Nat} {fld : Nat → List Str}
theorem stx_tr {X : Cx} (hX : Stx S X) (pn : List (Addr × Obj)) (xe : Value → Shared → Prop) (po : PassesOwn (model X.prog X.w) X.A X.env xe) : Stx S (X.tr pn xe) :=
  ⟨hX.pr, hX.w, hX.mg, hX.base, hX.K, hX.N, hX.sc, hX.nd, hX.calm, hX.room, po, hX.fn, hX.stk, hX.lmk⟩
theorem cls_ok {X : Cx} (hX : Stx S X) : ∀ {hds : List ExceptHandler} {l : List HdD}, HdsT S hds l → ClsX X hds (clsOf S.G.K S.G l)
  | _, _, .nil => .nil
  | _, _, .cons (n := n) ht hcl hN hv hdb hcd he hb r => by
    have k : X.env.scope.names.lookup n = some .local := by rw [hX.sc]; exact hv
    refine .cons (ht X hX) (by rw [hX.N]; exact hN) k (fun a oe cls d pn hz hf => ?_) (cls_ok hX r)
    have z := pa_xs (X := X) (a := a) (pn := pn) (by rw [hX.N]; exact hN) (.inl k) hz hf hdb hcd he (fun f hf p => hb X.env hX.sc f hf p)
    rw [hX.K] at z
    exact pss_one (ps_ret (pe_tup z))
theorem hds_xs : ∀ {hds : List ExceptHandler} {l : List HdD}, HdsT S hds l → ∀ h ∈ l, ∀ d ∈ h.1, d ∈ S.G.xs
  | _, _, .nil, h, hm => by cases hm
  | _, _, .cons ht hcl hN hv hdb hcd he hb r, h, hm => by
    rcases List.mem_cons.mp hm with e | hm
    · rw [e]; exact hcl
    · exact hds_xs r h hm
theorem ds_try (hb : DSs S body db) (hh : HdsT S (h₀ :: hds) l) (F : XF S.G.K S.G up fld) (hf : S.fnA = true) : DS S (.Try body (h₀ :: hds) [] [] pos) (dTry up fld db l) := fun W => by
  let tb : WX → TS := fun W' => Classical.choose (hb W')
  have tbs := fun W' => Classical.choose_spec (hb W')
  refine ⟨fun D σ H => tb (wX S.G.K W D (clsOf S.G.K S.G l)) D σ H, fun X hX tk => ?_, fun g env st T σ H D hT R h => ?_⟩
  · have z := ps_tryX (X := X) (tb := tb) (pos := pos) (hX.stk hf).1 (hX.stk hf).2 hX.nd tk (fun W pn xe tk' po => (tbs W).1 _ (stx_tr hX pn xe po) tk') (cls_ok hX hh)
    rw [hX.K] at z
    exact z
  · refine (tbs _).2 g env st T σ H D hT R ?_
    unfold dTry at h
    cases e : db env st with
    | exc c ds env1 st1 =>
      rw [e] at h
      exact fun σ' cls dx H' R1 => hds_run (T := T) F (hds_xs hh) h cls dx H' R1
    | nx env1 st1 => rw [e] at h; exact h
    | rt f d st1 => rw [e] at h; exact h
    | bk env1 st1 => rw [e] at h; exact h
    | ct env1 st1 => rw [e] at h; exact h
    | stuck => rw [e] at h; exact h
end
end Hx

set_option Elab.async false
set_option linter.all false
set_option maxRecDepth 100000
set_option maxHeartbeats 1000000
set_option autoImplicit false
/-! X12: raise C(..), its reading. -/
namespace Hx
open PySem PySem.Spec L2
open PyProof.Rows hiding St
def tRows (K : PySem.W.Frag) : List (Str × TE) → TS
  | [] => tNext
  | (f, te) :: r => tSeq (tFld K f (tVar 0) te) (tRows K r)
/-- self.f = e, row by row -/
inductive RowsX (X : Cx) : List Stmt → List (Str × TE) → Prop
  | nil : RowsX X [] []
  | cons {x f : Str} {p1 p2 pos : Pos} {e : Expr} {te : TE} {ss : List Stmt} {r : List (Str × TE)} (ho : PE X (.Name x p1) (tVar 0)) (he : PE X e te) (hs : swapsWith e (some (.Attribute (.Name x p1) f p2)) pos.line X.env = pure false) (hr : RowsX X ss r) :
      RowsX X (.Assign [.Attribute (.Name x p1) f p2] e pos :: ss) ((f, te) :: r)
theorem rows_pss {X : Cx} {ss : List Stmt} {r : List (Str × TE)} (h : RowsX X ss r) : PSs X ss (tRows X.K r) := by
  induction h with
  | nil => exact pss_nil
  | cons ho he hs hr ih => exact pss_cons (ps_fld ho he hs) ih
theorem upd_id {H : Hp} {a : Addr} {o : HO} (e : H a = some o) : upd H a o = H := by
  funext b
  by_cases h : b = a
  · subst h; rw [upd_same, e]
  · rw [upd_ne h]
theorem upd_upd {H : Hp} {a : Addr} {o u : HO} : upd (upd H a o) a u = upd H a u := by
  funext b
  by_cases h : b = a
  · subst h; rw [upd_same, upd_same]
  · rw [upd_ne h, upd_ne h, upd_ne h]
theorem rows_run {K : PySem.W.Frag} {C a dx : Addr} (T : XCls K C) {σ : St} (hσ : σ[0]? = some (some (.ref a))) {D : Ends} (hne : dx ≠ a) : ∀ {r : List (Str × TE)} {vs : List V} {fs : List (Str × V)} {H : Hp}, vs.length = r.length → (∀ (i : Nat) f te v, r[i]? = some (f, te) → vs[i]? = some v → ∀ H Q, Q v H → te σ H Q) →
    (∀ x ∈ r, PySem.W.takerIn K C x.1 = some none) → H a = some (exo a C (some dx)) → H dx = some (exd dx fs) → fs.length + r.length ≤ 900 → D.nx σ (upd H dx (exd dx (((r.map (·.1)).zip vs).reverse ++ fs))) → tRows K r D σ H
  | [], vs, fs, H, hl, hv, ht, ha, hd, hn, h => by
    have e : upd H dx (exd dx fs) = H := upd_id hd
    have h : D.nx σ (upd H dx (exd dx fs)) := h
    rw [e] at h
    exact h
  | (f, te) :: r, v :: vs, fs, H, hl, hv, ht, ha, hd, hn, h => by
    have hn : fs.length + (r.length + 1) ≤ 900 := hn
    show tFld K f (tVar 0) te _ σ H
    refine hv 0 f te v rfl rfl _ _ ⟨.ref a, hσ, a, C, rfl, T, ht _ List.mem_cons_self, .inr ⟨dx, fs, ha, hd, by omega, ?_⟩⟩
    refine rows_run T hσ hne (r := r) (vs := vs) (fs := (f, v) :: fs) (by simpa using hl) (fun i g te' w e1 e2 => hv (i + 1) g te' w (by simpa using e1) (by simpa using e2)) (fun x hx => ht x (List.mem_cons_of_mem _ hx)) (by rw [upd_ne hne.symm]; exact ha) upd_same (by simp; omega) ?_
    rw [upd_upd]
    have e : ((r.map (·.1)).zip vs).reverse ++ (f, v) :: fs = ((((f, te) :: r).map (·.1)).zip (v :: vs)).reverse ++ fs := by simp
    rw [e]
    exact h
/-- what an __init__ of such rows promises: the fields' names fl, their values from what is handed over -/
def spX (C : Addr) (n : Nat) (fl : List Str) (val : List V → List V) : Sp := fun vs H Q _ => ∃ a rest, vs = .ref a :: rest ∧ rest.length = n ∧ H a = some (exo a C none) ∧
  ∀ dx, H dx = none → dx ≠ a → Q .non (upd (upd (upd H dx (exd dx [])) a (exo a C (some dx))) dx (exd dx (fl.zip (val rest)).reverse))
theorem rows_first {K : PySem.W.Frag} {C a : Addr} (T : XCls K C) {σ : St} (hσ : σ[0]? = some (some (.ref a))) {D : Ends} {f : Str} {te : TE} {r : List (Str × TE)} {v : V} {vs : List V} {H : Hp} (hl : vs.length = r.length) (hv : ∀ (i : Nat) g te' w, ((f, te) :: r)[i]? = some (g, te') → (v :: vs)[i]? = some w → ∀ H Q, Q w H → te' σ H Q)
    (ht : ∀ x ∈ (f, te) :: r, PySem.W.takerIn K C x.1 = some none) (ha : H a = some (exo a C none)) (hn : r.length ≤ 800)
    (h : ∀ dx, H dx = none → dx ≠ a → D.nx σ (upd (upd (upd H dx (exd dx [])) a (exo a C (some dx))) dx (exd dx ((((f, te) :: r).map (·.1)).zip (v :: vs)).reverse))) : tRows K ((f, te) :: r) D σ H := by
  show tFld K f (tVar 0) te _ σ H
  refine hv 0 f te v rfl rfl _ _ ⟨.ref a, hσ, a, C, rfl, T, ht _ List.mem_cons_self, .inl ⟨ha, fun dx n ne => ?_⟩⟩
  refine rows_run T hσ (dx := dx) ne (r := r) (vs := vs) (fs := [(f, v)]) hl (fun i g te' w e1 e2 => hv (i + 1) g te' w (by simpa using e1) (by simpa using e2)) (fun x hx => ht x (List.mem_cons_of_mem _ hx)) upd_same (by rw [upd_ne ne, upd_same]) (by simp; omega) ?_
  have e1 : upd (upd (upd H dx (exd dx [(f, v)])) a (exo a C (some dx))) dx (exd dx (((r.map (·.1)).zip vs).reverse ++ [(f, v)])) = upd (upd (upd H dx (exd dx [])) a (exo a C (some dx))) dx (exd dx ((((f, te) :: r).map (·.1)).zip (v :: vs)).reverse) := by
    have e2 : ((r.map (·.1)).zip vs).reverse ++ [(f, v)] = ((((f, te) :: r).map (·.1)).zip (v :: vs)).reverse := by simp
    rw [e2]
    funext b
    by_cases h1 : b = dx
    · subst h1; rw [upd_same, upd_same]
    · rw [upd_ne h1, upd_ne h1]
      by_cases h2 : b = a
      · subst h2; rw [upd_same, upd_same]
      · rw [upd_ne h2, upd_ne h2, upd_ne h1, upd_ne h1]
  rw [e1]
  exact h dx n ne
/-- what is known of a class that is raised: n arguments behind the word w -/
structure XR (S : Sx) (x : Str) (c n : Nat) (w : Str) : Prop where
  mem : c ∈ S.G.xs
  mg : S.mg x = some (.ref (S.G.cls c))
  cl : XCls S.G.K (S.G.cls c)
  nd : (S.G.fld c).Nodup
  len : (S.G.fld c).length = n + 1
  ini : ∃ fI fd ps, PySem.W.findIn S.G.K (.ref (S.G.cls c)) "__init__" = some (some (.ref fI)) ∧ PySem.W.typeIn S.G.K (.ref fI) = some (.type "function") ∧
    FnOk S.P S.w S.G.K S.mg S.base (L2.CX S.P S.w) 1 fI fd ps (spX (S.G.cls c) n (S.G.fld c) (fun r => .str w :: r)) ∧ L2.Binds S.G.K fd ps []
theorem zip_take : ∀ {fl : List Str} {vs : List V}, (fl.zip vs).map (·.1) = fl.take vs.length
  | [], vs => by simp
  | a :: fl, [] => by simp
  | a :: fl, b :: vs => by simp [zip_take (fl := fl) (vs := vs)]
theorem zip_rev_look {fl : List Str} {vs : List V} (nd : fl.Nodup) {i : Nat} {x : Str} {v : V} (h1 : fl[i]? = some x) (h2 : vs[i]? = some v) : ((fl.zip vs).reverse).lookup x = some v := by
  have uni : ∀ {l : List (Str × V)}, (l.map (·.1)).Nodup → (x, v) ∈ l → l.lookup x = some v := by
    intro l
    induction l with
    | nil => intro _ h; cases h
    | cons a l ih =>
      intro nd h
      obtain ⟨y, u⟩ := a
      rw [List.lookup_cons]
      rcases List.mem_cons.mp h with e | h
      · cases e; rw [beq_self_eq_true]
      · have nd' := List.nodup_cons.mp (show (y :: l.map (·.1)).Nodup from nd)
        have ne : (x == y) = false := by
          cases e : x == y with
          | false => rfl
          | true => exact absurd (eq_of_beq e ▸ List.mem_map.mpr ⟨(x, v), h, rfl⟩) nd'.1
        rw [ne]
        exact ih nd'.2 h
  refine uni ?_ (List.mem_reverse.mpr (List.mem_of_getElem? (i := i) (by rw [List.getElem?_zip_eq_some]; exact ⟨h1, h2⟩)))
  rw [List.map_reverse]
  refine (List.reverse_perm _).nodup_iff.mpr (List.Nodup.sublist ?_ nd)
  rw [zip_take]
  exact List.take_sublist _ _
@[simp] def dRaise (c : Nat) (w : Str) (as : DenL) : DenS := fun env st => match as env st with
  | .ok ts st1 => bif keeps ts && ts.length.ble 900 then .exc c (.str w :: ts.map fun t => t.2.2) env st1 else .stuck
  | .exc c' ds st1 => .exc c' ds env st1
  | .stuck => .stuck
section
variable {S : Sx} {x w : Str} {c n : Nat} {g : Gd} {env : Env} {st : Store} {T : List Tm} {σ : St} {H : Hp} {W : WX} {vs : List V} {ts : List (Fr × Bool × D)}
theorem raise_post (R : XR S x c n w) (hn : ts.length = n) (hT : noBor T) (R0 : Rl S.G g env st (mkT vs ts ++ T) σ H) (hl : vs.length = ts.length) (hk : keeps ts = true) (hs : ts.length.ble 900 = true) {D : Ends}
    (h : PostS S.G g T W D (.exc c (.str w :: ts.map fun t => t.2.2) env st)) : mkX (S.G.cls c) (spX (S.G.cls c) n (S.G.fld c) (fun r => .str w :: r)) [] vs H fun cls d H' => W cls d σ H' := by
  refine ⟨by have := Nat.le_of_ble_eq_true hs; omega, fun a na => ?_⟩
  rw [List.append_nil]
  refine ⟨a, vs, rfl, by rw [hl, hn], upd_same, fun dx ndx hne => ⟨rfl, dx, ((S.G.fld c).zip (.str w :: vs)).reverse, by rw [upd_ne hne.symm, upd_same], upd_same, ?_, ?_⟩⟩
  · rw [upd_ne hne] at ndx; exact ndx
  · rw [upd_ne hne] at ndx
    have same : Same H (upd (del (upd (upd (upd (upd H a (exo a (S.G.cls c) none)) dx (exd dx [])) a (exo a (S.G.cls c) (some dx))) dx (exd dx ((S.G.fld c).zip (.str w :: vs)).reverse)) a) dx (.xd ((S.G.fld c).zip (.str w :: vs)).reverse)) := fun b o e => by
      have n1 : b ≠ dx := ne_of_none e ndx
      have n2 : b ≠ a := ne_of_none e na
      rw [upd_ne n1, del_ne n2, upd_ne n1, upd_ne n2, upd_ne n1, upd_ne n2]
      exact e
    obtain ⟨Fz, am, ne, nt, ns, h1, h2, h3, h4, h5⟩ := Rl.frzL R0 hl hk
    have E : Ext Fz am H Fz am (upd (del (upd (upd (upd (upd H a (exo a (S.G.cls c) none)) dx (exd dx [])) a (exo a (S.G.cls c) (some dx))) dx (exd dx ((S.G.fld c).zip (.str w :: vs)).reverse)) a) dx (.xd ((S.G.fld c).zip (.str w :: vs)).reverse)) := Ext.same same fun _ z => z
    refine h σ _ _ _ ⟨Fz, am, ne, fun _ => 0, ns, h1.ext E fun p o _ e => same _ _ e, .nil fun _ => rfl, Reps.ext E h3 fun p o _ e => same _ _ e, (h4.grow same (m := fun _ => 0) (fun p hp => absurd hp (Nat.lt_irrefl 0)) (t' := fun p => ne p + nt p + ns p) fun q => by simp).less fun q => by show ne q + 0 + ns q ≤ _; omega, R.mem, dx, _, .str w :: vs, rfl, rfl, upd_same, ?_, fun i y e1 v e2 => zip_rev_look R.nd e1 e2⟩
    show Reps S.G Fz am _ (zs ((ts.map fun t => t.2.2).length + 1)) _ _ _
    rw [show zs ((ts.map fun t => t.2.2).length + 1) = .z :: zs (ts.map fun t => t.2.2).length from List.replicate_succ, List.length_map]
    exact .cons (.sc (show Scal S.G (.str w) (.str w) from rfl) fun _ => rfl) (Reps.ext E h5 fun p o hp => absurd hp (Nat.lt_irrefl 0)) (n1 := fun _ => 0) (n2 := fun _ => 0) fun _ => rfl
end
section
variable {S : Sx} {x w : Str} {c n : Nat} {e : Expr} {es : List Expr} {das : DenL} {p pos pos2 : Pos}
theorem ds_raise0 (R : XR S x c 0 w) (hk : 2 ≤ S.k) (hg : S.sc.names.lookup x = some .globalImplicit) (hdb : (x == ("__debug__" : Str)) = false) : DS S (.Raise (some (.Call (.Name x p) [] [] pos)) none pos2) (dRaise c w dNil) := fun W => by
  obtain ⟨fI, fd, ps, i1, i2, i3, i4⟩ := R.ini
  refine ⟨_, fun X hX tk => ps_raise hX.calm tk (pmk_x0 (CX := L2.CX X.prog X.w) (k := 1) (sp := spX (S.G.cls c) 0 (S.G.fld c) (fun r => .str w :: r)) (by rw [hX.K]; exact R.cl) (by rw [hX.K]; exact i1) (by rw [hX.K]; exact i2) (by rw [hX.pr, hX.w, hX.mg, hX.base, hX.K]; exact i3) (hX.room.mono hk) (by rw [hX.K]; exact i4) .nil
    (passes_call tk fun _ _ _ _ z => z.elim) (show X.env.scope.names.lookup x = some .globalImplicit by rw [hX.sc]; exact hg) (by rw [hX.mg]; exact R.mg) hdb), fun g env st T σ H D hT R0 h => ?_⟩
  unfold dRaise dNil at h
  exact raise_post (ts := []) (vs := []) R rfl hT R0 rfl rfl rfl h
theorem ds_raise (R : XR S x c n w) (hk : 2 ≤ S.k) (hg : S.sc.names.lookup x = some .globalImplicit) (hdb : (x == ("__debug__" : Str)) = false) (ha : DA S (e :: es) das) (hp : plainArgs (e :: es) = true) (hlen : ∀ env st ts st1, das env st = .ok ts st1 → ts.length = n) :
    DS S (.Raise (some (.Call (.Name x p) (e :: es) [] pos)) none pos2) (dRaise c w das) := fun W => by
  obtain ⟨fI, fd, ps, i1, i2, i3, i4⟩ := R.ini
  obtain ⟨ta, pa, qa⟩ := ha W
  have h1 := plainArgs_ok hp
  refine ⟨_, fun X hX tk => ps_raise hX.calm tk (pmk_x (CX := L2.CX X.prog X.w) (k := 1) (sp := spX (S.G.cls c) n (S.G.fld c) (fun r => .str w :: r)) (by rw [hX.K]; exact R.cl) (by rw [hX.K]; exact i1) (by rw [hX.K]; exact i2) (by rw [hX.pr, hX.w, hX.mg, hX.base, hX.K]; exact i3) (hX.room.mono hk) (by rw [hX.K]; exact i4) .nil
    (passes_call tk fun _ _ _ _ z => z.elim) (show X.env.scope.names.lookup x = some .globalImplicit by rw [hX.sc]; exact hg) (by rw [hX.mg]; exact R.mg) (pa X hX tk) hdb (starNo (h1 e List.mem_cons_self)) (noStar fun y hy => h1 y (List.mem_cons_of_mem _ hy))), fun g env st T σ H D hT R0 h => ?_⟩
  refine qa g env st T σ H _ hT R0 ?_
  unfold dRaise at h
  cases e1 : das env st with
  | stuck => rw [e1] at h; exact h.elim
  | exc c' ds st1 => rw [e1] at h; exact h σ
  | ok ts st1 =>
    rw [e1] at h
    dsimp only at h
    cases hc : (keeps ts && ts.length.ble 900) with
    | false => rw [hc] at h; exact h.elim
    | true =>
      rw [hc] at h
      rw [Bool.and_eq_true] at hc
      exact fun vs H1 hl R1 => raise_post R (hlen env st ts st1 e1) hT R1 hl hc.1 hc.2 h
end
end Hx

set_option Elab.async false
set_option linter.all false
set_option maxRecDepth 100000
set_option maxHeartbeats 1000000
set_option autoImplicit false
/-! X13: the program's exception classes; what the head must tell of them; tables. -/
namespace Hx
open PySem PySem.Spec L2
open PyProof.Rows hiding St
def XNL : List Str := ["ShadeError", "Missing", "Crowded", "BadPlace", "BadLight", "BadSift", "BadBlock", "BadPiece", "BadMenu", "BadChoice", "BadSetting", "BadSort", "BadDeed", "BadView", "BadWish", "BadText", "Nought", "Unknown", "NoThing", "NoLook", "NothingLeft", "Full", "Looked", "TooMany"]
def XNM (c : Nat) : Str := XNL.getD c ""
@[simp] def XUP : Nat → List Nat
  | 0 => [0] | 1 => [1] | 2 => [2] | 3 => [3, 0] | 4 => [4, 0] | 5 => [5, 0] | 6 => [6, 0] | 7 => [7, 0] | 8 => [8, 0] | 9 => [9, 0] | 10 => [10, 0] | 11 => [11, 0] | 12 => [12, 0] | 13 => [13, 0] | 14 => [14, 0] | 15 => [15, 0] | 16 => [16, 0] | 17 => [17, 0]
  | 18 => [18, 1] | 19 => [19, 1] | 20 => [20, 1] | 21 => [21, 2] | 22 => [22, 2] | 23 => [23, 2] | _ => []
@[simp] def XFL : Nat → List Str
  | 15 => ["word", "row"] | 18 => ["word", "kind", "number"] | 19 => ["word", "number"] | 22 => ["word", "number"] | _ => ["word"]
def argRows : Nat → List Str → List (Str × TE)
  | _, [] => []
  | k, f :: r => (f, tVar k) :: argRows (k + 1) r
theorem argRows_at : ∀ {fl : List Str} {k i : Nat} {f : Str} {te : TE}, (argRows k fl)[i]? = some (f, te) → te = tVar (k + i) ∧ fl[i]? = some f
  | g :: fl, k, 0, f, te, e => by
    have e : some (g, tVar k) = some (f, te) := e
    cases e
    exact ⟨rfl, rfl⟩
  | g :: fl, k, i + 1, f, te, e => by
    have e : (argRows (k + 1) fl)[i]? = some (f, te) := by simpa [argRows] using e
    obtain ⟨h1, h2⟩ := argRows_at e
    exact ⟨by rw [h1]; congr 1; omega, by simpa using h2⟩
theorem argRows_len : ∀ {fl : List Str} {k : Nat}, (argRows k fl).length = fl.length
  | [], _ => rfl
  | f :: fl, k => congrArg Nat.succ argRows_len
theorem argRows_map : ∀ {fl : List Str} {k : Nat}, (argRows k fl).map (·.1) = fl
  | [], _ => rfl
  | f :: fl, k => congrArg (f :: ·) argRows_map
theorem init_ok {S : Sx} {qual : Str} {params : Arguments} {body : List Stmt} {sc : Scope} {f C : Addr} {fd : FuncData} {N ps fl : List Str} {w g : Str} (F : FunD S.G.K "__init__" qual params body sc [] [] f fd) (Sc : FnScope N ps sc) (T : XCls S.G.K C) (hN : N = ps) (hps : ps.length = fl.length + 1)
    (ht : ∀ x ∈ g :: fl, PySem.W.takerIn S.G.K C x = some none) (hfl : fl.length ≤ 800)
    (hr : ∀ cdv A outer s H E, RowsX (cxOf (L2.CX S.P S.w) S.P S.w S.G.K S.mg S.base N qual sc f cdv A outer s H E) body ((g, tC (.str w)) :: argRows 1 fl)) :
    FnOk S.P S.w S.G.K S.mg S.base (L2.CX S.P S.w) 1 f fd ps (spX C fl.length (g :: fl) (fun r => .str w :: r)) := by
  refine F.ok (k := 0) Sc (fun vs H Q E ⟨a, rest, e, hl, _⟩ => by rw [e, hps]; simp [hl]) fun cdv A outer s H vs Q E hroom h => ?_
  obtain ⟨a, rest, e, hl, ha, hq⟩ := h
  subst e hN
  have st : L2.start N (V.ref a :: rest) = some (V.ref a) :: rest.map some := by
    unfold L2.start
    have : N.length - (V.ref a :: rest).length = 0 := by simp [hps, hl]
    rw [this]; simp
  refine ⟨tRows S.G.K ((g, tC (.str w)) :: argRows 1 fl), rows_pss (hr cdv A outer s H E), ?_⟩
  rw [st]
  refine rows_first (C := C) (a := a) (v := .str w) (vs := rest) T rfl (by rw [argRows_len, hl]) (fun i f' te v e1 e2 H Q q => ?_) (fun x hx => ?_) ha (by rw [argRows_len]; exact hfl) fun dx n ne => ?_
  · cases i with
    | zero => cases e1; cases e2; exact q
    | succ i =>
      obtain ⟨h1, h2⟩ := argRows_at (show (argRows 1 fl)[i]? = some (f', te) from by simpa using e1)
      rw [h1]
      refine ⟨v, ?_, q⟩
      have e2 : rest[i]? = some v := by simpa using e2
      show (some (V.ref a) :: rest.map some)[1 + i]? = _
      rw [Nat.add_comm, List.getElem?_cons_succ, List.getElem?_map, e2]; rfl
  · refine ht x.1 ?_
    rcases List.mem_cons.mp hx with e | hx
    · rw [e]; exact List.mem_cons_self
    · have : x.1 ∈ (argRows 1 fl).map (·.1) := List.mem_map.mpr ⟨x, hx, rfl⟩
      rw [argRows_map] at this
      exact List.mem_cons_of_mem _ this
  · have e1 : (((g, tC (.str w)) :: argRows 1 fl).map (·.1)) = g :: fl := by rw [List.map_cons, argRows_map]
    rw [e1]
    exact hq dx n ne
/-- the present classes xs, the raised ones rs -/
def xsB (xs rs : List Nat) (K : PySem.W.Frag) : Bool :=
  (xs.all fun c => xfB K (He.ga K (XNM c)) && (((XFL c).all fun f => decide (PySem.W.findIn K (.ref (He.ga K (XNM c))) f = some none)) && (xs.all fun d => decide (PySem.W.exmOne K (.ref (He.ga K (XNM c))) (.ref (He.ga K (XNM d))) = some ((XUP c).contains d))))) &&
  rs.all fun c => xs.contains c && (xclsB K (He.ga K (XNM c)) && (XFL c).all fun f => decide (PySem.W.takerIn K (He.ga K (XNM c)) f = some none))
/-- the tables: def by def -/
def tabsB (own : List Str) (K : PySem.W.Frag) : Bool := own.all (fun x => (PySem.W.tabIn K x).isSome) &&
  (own.all fun x => match PySem.W.tabIn K x with
    | some (_, P) => (K.lookup P).isNone && own.all fun y => match PySem.W.tabIn K y with
      | some (_, P') => (x == y) || !(P == P')
      | none => false
    | none => false)
def tabsOf (own : List Str) (K : PySem.W.Frag) : List (Addr × Str) := own.filterMap fun x => (PySem.W.tabIn K x).map fun q => (q.2, x ++ ".<locals>.<lambda>")
/-- the context of a row's defs, closures and exceptions among them -/
@[reducible] def S1 (P : Program) (w : World) (K : PySem.W.Frag) (mg : Str → Option Value) (base : Heap) (xs : List Nat) (own : List Str) : Sx :=
  ⟨P, w, mg, base, ⟨K, fun c => He.ga K (XNM c), XFL, tabsOf own K, fun _ => none, xs⟩, [], ⟨.function, [], false, false, []⟩, 0, true, lams0 fun _ => rfl, none⟩
theorem xf_of {P : Program} {w : World} {K : PySem.W.Frag} {mg : Str → Option Value} {base : Heap} {xs rs : List Nat} {own : List Str} (h : xsB xs rs K = true) : XF K (S1 P w K mg base xs own).G XUP XFL := by
  unfold xsB at h
  rw [Bool.and_eq_true] at h
  have h1 := List.all_eq_true.mp h.1
  refine ⟨fun c hc d hd => ?_, fun c hc => ?_, fun c hc f hf => ?_, fun c hc => rfl⟩
  all_goals
    have z := h1 c hc
    simp only [Bool.and_eq_true, List.all_eq_true, decide_eq_true_eq] at z
  · exact z.2.2 d hd
  · exact xfB_ok z.1
  · exact z.2.1 f hf
end Hx

set_option Elab.async false
set_option linter.all false
set_option maxRecDepth 100000
set_option maxHeartbeats 1000000
set_option autoImplicit false
/-! X14: a law's end with tables and exceptions. -/
namespace Hx
open PySem PySem.Spec L2
open PyProof.Rows hiding St
section
variable {fa : List He.Fa} {fn : List He.DefD} {P : Program} {w : World} {K : PySem.W.Frag} {h : Heap} {mg : Str → Option Value} {base : Heap} {xs rs : List Nat} {own : List Str}
/-- the same facts in the wider context -/
theorem kn_at {x : Str} {st : Stmt} (k : Kn (S0 P w K mg base) x st) : Kn (S1 P w K mg base xs own) x st := ⟨k.ex⟩
theorem knd_at {x : Str} {st : Stmt} {ds : List D} (k : KnD (S0 P w K mg base) x st ds) : KnD (S1 P w K mg base xs own) x st ds := ⟨k.ex⟩
theorem xr_of (c : He.SaysD fa fn K) (X : K.In h) (Gn : h.Ns mainGlobals mg) (hx : xsB xs rs K = true) {x qual wd g : Str} {k : Nat} {st : Stmt} {N ps fl : List Str} (hk : rs.contains k = true) (hxn : XNM k = x) (i j m : Nat)
    (hd : fn[i]? = some ⟨(x, some "__init__"), "__init__", qual, defArgs st, defBody st, defScope st, [], []⟩) (hf : fa[j]? = some (.glo x)) (hm : fa[m]? = some (.meth x "__init__"))
    (hfl : XFL k = g :: fl) (nd : (XFL k).Nodup) (Sc : FnScope N ps (defScope st)) (hN : N = ps) (hps : ps.length = fl.length + 1) (hl : fl.length ≤ 800)
    (hb : ∀ (kV doc pm : Value) (an : Option Addr) (cdv ct : Value) (us : List Value), us.length = ps.length → bindArgs (PySem.W.fnOf "__init__" qual (defArgs st) (defBody st) (defScope st) .none kV doc pm an cdv ct) ⟨us, []⟩ = pure (ps.zip us))
    (hr : ∀ (f : Addr) cdv A outer s H E, RowsX (cxOf (L2.CX P w) P w K mg base N qual (defScope st) f cdv A outer s H E) (defBody st) ((g, tC (.str wd)) :: argRows 1 fl)) : XR (S1 P w K mg base xs own) x k fl.length wd := by
  subst hxn
  obtain ⟨fd, F⟩ := c.def_ i hd
  have F' : FunD K "__init__" qual (defArgs st) (defBody st) (defScope st) [] [] (He.ma K (He.ga K (XNM k)) "__init__") fd := F
  unfold xsB at hx
  rw [Bool.and_eq_true] at hx
  have z := List.all_eq_true.mp hx.2 k (by simpa using hk)
  simp only [Bool.and_eq_true, List.all_eq_true, decide_eq_true_eq] at z
  have M := He.meth_ok (c.fact m hm)
  have T : XCls K (He.ga K (XNM k)) := xcls_of z.2.1
  have q := init_ok (S := S1 P w K mg base xs own) (C := He.ga K (XNM k)) (w := wd) (g := g) (fl := fl) F' Sc T hN hps (fun x hx => z.2.2 x (by rw [hfl]; exact hx)) hl (hr _)
  refine ⟨by simpa using z.1, He.glo_ok X Gn (c.fact j hf), T, nd, congrArg List.length hfl, _, fd, ps, M.at_, beq_iff_eq.mp M.fn, ?_, F'.bindsN hb⟩
  rw [show (S1 P w K mg base xs own).G.fld k = g :: fl from hfl]
  exact q
end
/-! ### tables -/
/-- the empty tables are left out of the look -/
def noTab (q : Addr → Option Obj) (l : List Addr) : List Addr := l.filter fun a => match q a with
  | some o => (match o.data with
    | .fields vs => !(vs.size == 0)
    | _ => true)
  | none => true
theorem tabs_at {own : List Str} {K : PySem.W.Frag} (h : tabsB own K = true) {x : Str} (hx : x ∈ own) : ∃ c P, PySem.W.tabIn K x = some (c, P) ∧ K.lookup P = none ∧ ∀ y ∈ own, ∀ c' P', PySem.W.tabIn K y = some (c', P') → P' = P → y = x := by
  unfold tabsB at h
  rw [Bool.and_eq_true] at h
  have h1 := List.all_eq_true.mp h.1 x hx
  have h2 := List.all_eq_true.mp h.2 x hx
  obtain ⟨⟨c, P⟩, e⟩ := Option.isSome_iff_exists.mp h1
  rw [e] at h2
  simp only [Bool.and_eq_true, List.all_eq_true] at h2
  refine ⟨c, P, e, by simpa using h2.1, fun y hy c' P' e' ep => ?_⟩
  have z := h2.2 y hy
  rw [e'] at z
  subst ep
  exact (by simpa using z : x = y).symm
theorem mk0_of {P' : Program} {w : World} {K : PySem.W.Frag} {h : Heap} {mg : Str → Option Value} {base : Heap} {xs : List Nat} {own : List Str} {x : Str} (X : K.In h) (Gn : h.Ns mainGlobals mg) (ht : tabsB own K = true) (hx : x ∈ own)
    (hb : ∀ y c P, y ∈ own → PySem.W.tabIn K y = some (c, P) → LamX.TabB base mg c P) : ∃ c P, Mk0 (S1 P' w K mg base xs own) x c P := by
  obtain ⟨c, P, e, hn, hu⟩ := tabs_at ht hx
  refine ⟨c, P, fun f o fd hm ho hd => PySem.W.law_code X Gn e hm (X _ _ ho) hd, hb x c P hx e, List.mem_filterMap.mpr ⟨x, hx, by rw [e]; rfl⟩, fun p hp ep => ?_⟩
  obtain ⟨y, hy, e2⟩ := List.mem_filterMap.mp hp
  obtain ⟨⟨c', P2⟩, e3, e4⟩ := Option.map_eq_some_iff.mp e2
  cases e4
  rw [hu y hy c' P2 e3 ep]
theorem law_endT {l : PySem.W.OpenLaw} {n k : Nat} {q : Program} {loose : List Str} {XP : (Str → Option Value) → Heap → Prop} {YP : World → Heap → Prop} {d : DefRec} {x : Str} (own : List Str)
    (hn : l.most = some n) (hn2 : n ≤ sizeLine) (hdf : d.params.defaults = []) (hr : Room k callerA) (hown : (own.all fun x => ((recsOf q).find? fun e => e.name == x).isSome) = true)
    (F : ∀ (w : World) (mg : Str → Option Value) (fa : Addr) (h : Heap), YP w h → h.Ns mainGlobals mg → mg d.name = some (.ref fa) → ∃ (K : PySem.W.Frag) (fd : FuncData) (sp : Sp), K.In h ∧ tabsB own K = true ∧
      (∀ (s : Shared) (u : Value), BindsTo s fd ⟨[u], []⟩ [(x, u)]) ∧ (∀ (H : Hp) (a : Addr) (ns : List Int), ns.length ≤ n → LamX.Tabs (tabsOf own K) H → SqL K H a (ns.map V.int) → sp [.ref a] H (fun v _ => v = .bl true) fun _ _ _ => False) ∧
      ∀ base : Heap, K.In base → base.Ns mainGlobals mg → (∀ y c P, y ∈ own → PySem.W.tabIn K y = some (c, P) → LamX.TabB base mg c P) → FnOk l.prog w K mg base (L2.CX l.prog w) k fa fd [x] sp) :
    PySem.W.WalkO q loose XP YP l.row.toRowW d [] (fun f vs => PySem.call f vs) := by
  refine Att.attach_callB hn hdf fun w s0 s1 mg mb fa o pm cd doc a vs ns Gw Y ho hd hcd hmg hobj hints hlen hbits hg => ?_
  obtain ⟨K, fd, sp, KX, ht, hb, hsp, hF⟩ := F w mg fa _ Y Gw.T.g hmg
  have tab : ∀ p ∈ own.filterMap (PySem.W.tabIn K), PySem.W.CodeHd s1.heap p.1 p.2 ∧ s1.heap.get? p.2 = some { cls := .none, data := .fields #[] } ∧ K.lookup p.2 = none := fun p hp => by
    obtain ⟨y, hy, e⟩ := List.mem_filterMap.mp hp
    obtain ⟨r, er⟩ := Option.isSome_iff_exists.mp (List.all_eq_true.mp hown y hy)
    obtain ⟨c, P, e2, hnone, _⟩ := tabs_at ht hy
    rw [e] at e2
    cases e2
    obtain ⟨z1, z2⟩ := PySem.W.tab_of Gw.T KX er e
    exact ⟨z1, z2, hnone⟩
  refine LamX.law_callTs (CX := L2.CX l.prog w) (sp := sp) (cs := own.filterMap (PySem.W.tabIn K)) KX Gw.T.g Gw.T.b Gw.T.builtins Gw.T.nolimit hg (fun p hp => (tab p hp).2.1) (fun p hp => (tab p hp).2.2) (fun p hp => (tab p hp).1) Gw.T.bmain hobj hints (Nat.le_trans hlen hn2) hr ?_ hb ?_ ?_
  · exact fun base h1 h2 h3 => hF base h1 h2 fun y c P hy e => h3 (c, P) (List.mem_filterMap.mpr ⟨y, hy, e⟩)
  · refine fun H hH hS => hsp H a ns hlen (fun p hp => ?_) hS
    obtain ⟨y, hy, e⟩ := List.mem_filterMap.mp hp
    obtain ⟨⟨c, P⟩, e1, e2⟩ := Option.map_eq_some_iff.mp e
    cases e2
    exact LamX.TabS.nil (hH (c, P) (List.mem_filterMap.mpr ⟨y, hy, e1⟩))
  · intro H e s' z
    obtain ⟨_, _, _, _, _, _, _, _, _, _, _, _, z⟩ := z
    exact z
end Hx

set_option Elab.async false
set_option linter.all false
set_option maxRecDepth 100000
set_option autoImplicit false
/-! X15: facts taken from context to context; a lambda's text by a look. -/
namespace Hx
open PySem PySem.Spec L2
open PyProof.Rows hiding St
@[reducible] def Sx.c0 (S : Sx) : Sx := S.cl [] ⟨.function, [], false, false, []⟩
section
variable {S : Sx} {x w : Str} {n k c : Nat} {F : Fn} {dd : List D} {FL : LamR → Fn} {N N' : List Str} {sc sc' : Scope} {j : Nat} {st : Stmt} {d : D} {ds : List D} {l : Nat → Option LamD}
theorem Good.cl (h : Good S.c0 x n F dd k) : Good (S.cl N sc) x n F dd k := ⟨h.ex⟩
theorem Good.atL {q : Str} (h : Good S x n F dd k) : Good (S.atL N sc j c q) x n F dd k := ⟨h.ex⟩
theorem GoodL.at (h : GoodL S x n FL k) : GoodL (S.at N sc j) x n FL k := ⟨h.ex⟩
theorem GoodL.atL {q : Str} (h : GoodL S x n FL k) : GoodL (S.atL N sc j c q) x n FL k := ⟨h.ex⟩
theorem GoodL.blk (h : GoodL S x n FL k) : GoodL (S.blk sc) x n FL k := ⟨h.ex⟩
/-- a taker called with what closures there are -/
theorem GoodL.on (h : GoodL S x n FL k) : Good S x n (FL S.G.lr) [] k := by
  obtain ⟨f, fd, ps, h1, h2, h3, h4⟩ := h.ex
  exact ⟨f, fd, ps, [], [], h1 S.G.lam S.lok, h2, h3, h4, .nil, fun Fz am H => .nil fun _ => rfl⟩
theorem XR.at (h : XR S x c n w) : XR (S.at N sc j) x c n w := ⟨h.mem, h.mg, h.cl, h.nd, h.len, h.ini⟩
theorem XR.atL {q : Str} {a : Addr} (h : XR S x c n w) : XR (S.atL N sc j a q) x c n w := ⟨h.mem, h.mg, h.cl, h.nd, h.len, h.ini⟩
theorem XR.c0 (h : XR S x c n w) : XR S.c0 x c n w := ⟨h.mem, h.mg, h.cl, h.nd, h.len, h.ini⟩
theorem XR.lamS {ok} (h : XR S x c n w) : XR (S.lamS l ok) x c n w := ⟨h.mem, h.mg, h.cl, h.nd, h.len, h.ini⟩
theorem Kn.c0 (h : Kn S x st) : Kn S.c0 x st := ⟨h.ex⟩
theorem Kn.lamS {ok} (h : Kn S x st) : Kn (S.lamS l ok) x st := ⟨h.ex⟩
theorem KnD.c0 (h : KnD S x st ds) : KnD S.c0 x st ds := ⟨h.ex⟩
theorem KnD.lamS {ok} (h : KnD S x st ds) : KnD (S.lamS l ok) x st ds := ⟨h.ex⟩
theorem GV.c0 (h : GV S x d) : GV S.c0 x d := by
  obtain ⟨v, u, h1, h2, h3⟩ := h.ex
  exact ⟨v, u, h1, h2, fun Fz am H => (h3 Fz am H).wl _⟩
theorem GV.lamS {ok} (h : GV S x d) : GV (S.lamS l ok) x d := by
  obtain ⟨v, u, h1, h2, h3⟩ := h.ex
  exact ⟨v, u, h1, h2, fun Fz am H => (h3 Fz am H).wl _⟩
theorem GV.atL {q : Str} {a : Addr} (h : GV S x d) : GV (S.atL N sc j a q) x d := ⟨h.ex⟩
theorem GV.cl (h : GV S.c0 x d) : GV (S.cl N sc) x d := ⟨h.ex⟩
theorem XF.lamS {K : PySem.W.Frag} {G : Sg} {up fld} (h : XF K G up fld) : XF K (G.wl l) up fld := ⟨h.exm, h.xf, h.no, h.fl⟩
theorem Mk0.lamS {ok} {a P : Addr} (h : Mk0 S x a P) : Mk0 (S.lamS l ok) x a P := ⟨h.code, h.tab, h.mem, h.one⟩
theorem Mk0.c0 {a P : Addr} (h : Mk0 S x a P) : Mk0 S.c0 x a P := ⟨h.code, h.tab, h.mem, h.one⟩
theorem names_of {X : Cx} (hX : Stx S X) (hg : S.sc.names.lookup x = some .globalImplicit) (hm : S.mg x = some (.ref (S.G.cls c))) (hdb : (x == ("__debug__" : Str)) = false := by decide) : Names X x (.ref (S.G.cls c)) :=
  ⟨show X.env.scope.names.lookup x = some .globalImplicit by rw [hX.sc]; exact hg, hdb, .inl (by rw [hX.mg]; exact hm)⟩
theorem mem_sub {pres cl xs : List Nat} (h : ∀ d ∈ pres, d ∈ xs) (hs : (cl.all fun d => pres.contains d) = true) : ∀ d ∈ cl, d ∈ xs := fun d hd => h d (by simpa using List.all_eq_true.mp hs d hd)
end
/-- a lambda's text -/
def lamTB (N : List Str) (sc : Scope) (ps cap : List Str) (ci : List Nat) (scope : Scope) : Bool :=
  (decide (scope.kind = .function) && !scope.isCoroutine && !scope.isGenerator && decide (ps ++ cap).Nodup) &&
  (scope.names.all fun y => !decide (y.2 = .cell) && (!decide (y.2 = .local) || decide (y.1 ∈ ps)) && decide (scope.names.lookup y.1 = some y.2) && (!decide (y.2 = .free) || (decide (y.1 ∈ cap) && (decide (sc.names.lookup y.1 = some .cell) || decide (sc.names.lookup y.1 = some .free))))) &&
  (ps.all fun y => decide (scope.names.lookup y = some .local)) && (cap.all fun y => decide (scope.names.lookup y = some .free)) && decide (ci.length = cap.length) && ((cap.zip ci).all fun p => decide (N[p.2]? = some p.1))
theorem lamT_of {S : Sx} {ps cap : List Str} {ci : List Nat} {params : Arguments} {scope : Scope} {body : Expr} (h : lamTB S.N S.sc ps cap ci scope = true) (dfl : ∀ env, defaultsOf params env = ([], []))
    (bind : ∀ (q : Str) (cl : List (Str × Addr)) (pm cv ctv : Value) (us : List Value), us.length = ps.length → bindArgs (PySem.W.kla_fn "<lambda>" q params body scope cl pm cv ctv) ⟨us, []⟩ = pure (ps.zip us)) : LamT S ps cap ci params scope body := by
  unfold lamTB at h
  simp only [Bool.and_eq_true, List.all_eq_true, decide_eq_true_eq, Bool.not_eq_true', Bool.or_eq_true, decide_eq_false_iff_not] at h
  obtain ⟨⟨⟨⟨⟨⟨⟨⟨h1, h2⟩, h3⟩, h4⟩, h5⟩, h6⟩, h7⟩, h8⟩, h9⟩ := h
  refine ⟨⟨h1, h2, h3, h4, fun y hy => (h5 y hy).1.1.1, fun y hy e => ?_, h6, fun y hy => (h5 y hy).1.2⟩, ⟨fun y hy e => ?_, h7, fun k i y e1 e2 => ?_⟩, h8, dfl, bind⟩
  · rcases (h5 y hy).1.1.2 with z | z
    · exact absurd e z
    · exact z
  · rcases (h5 y hy).2 with z | z
    · exact absurd e z
    · exact z
  · exact h9 (y, i) (List.mem_of_getElem? (i := k) (by rw [List.getElem?_zip_eq_some]; exact ⟨e1, e2⟩))
end Hx

set_option Elab.async false
set_option linter.all false
set_option maxRecDepth 100000
set_option autoImplicit false
/-! X16: names stored side by side, one of them a cell; what is turned about by a slice. -/
namespace HT
open PySem PySem.Spec PyProof.Rows L2
section
variable {prog : Program} {w : World} {A : Around} {E : Value → Shared → Prop} {s : Shared}
theorem adjust_rev (n : Nat) : Builtin.Slice.sliceAdjust none none (-1) (n : Int) = ((n : Int) - 1, -1) := rfl
theorem places_rev (n : Nat) : Builtin.Slice.slicePlaces ((n : Int) - 1) (-1) (-1) = n := by
  unfold Builtin.Slice.slicePlaces
  have h1 : ¬ ((-1 : Int) > 0) := by omega
  simp only [h1, if_false, Int.neg_neg, Int.ediv_one]
  split <;> omega
theorem sliceApplied_rev {sl : Addr} {vs : Value} {n : Nat} {Q : Int × Int × Nat → Shared → Prop} (hs : s.heap.IsSliceOf sl .none .none vs) (ps : IsPart vs (some (-1)))
    (h : Q ((n : Int) - 1, -1, n) s) : wpAny (model prog w) A (Builtin.Slice.sliceApplied (.ref sl) (pure (n : Int))) Q E s := by
  obtain ⟨os, hos, hcs, hds⟩ := id hs
  unfold Builtin.Slice.sliceApplied Builtin.Slice.sliceFields
  refine wpAny_bind (wpAny_bind (wpAny_field hos hds (x := .none) rfl (wpAny_bind (wpAny_field hos hds (x := .none) rfl (wpAny_bind (wpAny_field hos hds (x := vs) rfl (wpAny_pure ?_)))))))
  refine wpAny_bind (slicePart_ ps ?_)
  show wpAny _ _ (if ((-1 : Int) == 0) = true then _ else _) _ _ s
  rw [if_neg (by decide)]
  refine wpAny_bind (slicePart_none (wpAny_bind (slicePart_none (wpAny_bind (wpAny_pure ?_)))))
  show wpAny _ _ (match Builtin.Slice.sliceAdjust none none (-1) (n : Int) with | (lo, hi) => pure (lo, (-1 : Int), Builtin.Slice.slicePlaces lo hi (-1))) _ _ s
  rw [adjust_rev]
  show wpAny _ _ (pure ((n : Int) - 1, (-1 : Int), Builtin.Slice.slicePlaces ((n : Int) - 1) (-1) (-1))) _ _ s
  rw [places_rev]
  exact wpAny_pure h
theorem pick_rev (xs : Array Value) : ((List.range xs.size).filterMap fun (m : Nat) => xs[(((xs.size : Int) - 1) + (m : Int) * (-1)).toNat]?).toArray = xs.toList.reverse.toArray := by
  congr 1
  apply List.ext_getElem?
  intro i
  have e : ∀ k, k ≤ xs.size → ((List.range k).filterMap fun (m : Nat) => xs[(((xs.size : Int) - 1) + (m : Int) * (-1)).toNat]?) = (List.range k).map fun m => xs[xs.size - 1 - m]?.getD .none := by
    intro k
    induction k with
    | zero => intro _; rfl
    | succ m ih =>
      intro hm
      have : (((xs.size : Int) - 1) + (m : Int) * (-1)).toNat = xs.size - 1 - m := by omega
      rw [List.range_succ, List.filterMap_append, List.map_append, ih (by omega)]
      have hx : xs[xs.size - 1 - m]? = some xs[xs.size - 1 - m] := Array.getElem?_eq_getElem (by omega)
      simp only [List.filterMap_cons, List.filterMap_nil, List.map_cons, List.map_nil, this, hx, Option.getD_some]
  rw [e _ (Nat.le_refl _)]
  by_cases hi : i < xs.size
  · have : xs.size - 1 - i < xs.size := by omega
    simp [hi, this, List.getElem?_reverse]
  · simp [hi]
theorem getItem_tuple_rev {t sl : Addr} {items : Array Value} {vs : Value} {Q : Value → Shared → Prop} (ht : IsTup s.heap t items) (hs : s.heap.IsSliceOf sl .none .none vs) (ps : IsPart vs (some (-1)))
    (h : Q (.ref s.heap.objs.size) { s with heap := s.heap.push { cls := .type "tuple", data := .seq items.toList.reverse.toArray } })
    (hsz : items.size ≤ sizeLine) : wpAny (model prog w) A (getItem (.ref t) (.ref sl)) Q E s := by
  have htake : sizeOk (.seq items.toList.reverse.toArray) := by
    show items.toList.reverse.toArray.size ≤ sizeLine
    rw [List.size_toArray, List.length_reverse, Array.length_toList]
    exact hsz
  obtain ⟨os, hos, hcs, hds⟩ := id hs
  have hTs : s.TypeIs (.ref sl) "slice" := ⟨os, hos, hcs⟩
  unfold getItem
  try with_reducible refine wpAny_holding ?_
  first | refine wpAny_bind (wpAny_pure ?_) | skip
  refine wpAny_bind (wpAny_sequenceKey ht.typeIs (by decide) ?_)
  refine wpAny_bind (wpAny_callSpecial?_slot (name := Str.ofString "__getitem__") ht.typeIs PyProof.Rows.slot_tuple_getitem
    (wpAny_call_entry PyProof.Rows.slot_tuple_getitem ht.typeIs entry_tuple_getitem ?_ (args_tuple_getitem _ _)))
  show wpAny _ _ (Builtin.Tuple.tupleItemsOf (.ref t) >>= _) _ _ s
  refine wpAny_bind (tupleItemsOf_ ht ?_)
  refine wpAny_bind (wpAny_typeOf hTs ?_)
  rw [if_pos (by decide)]
  refine wpAny_bind (sliceApplied_rev hs ps ?_)
  have hno : ¬ ((((items.size : Int) - 1) == 0 && (-1 : Int) == 1 && items.size == items.size) = true) := by
    intro q
    rw [Bool.and_eq_true, Bool.and_eq_true] at q
    exact absurd (eq_of_beq q.1.2) (by decide)
  show wpAny _ _ (if (((items.size : Int) - 1) == 0 && (-1 : Int) == 1 && items.size == items.size) = true then _ else _) _ _ s
  rw [if_neg hno, pick_rev]
  first
    | exact wpAny_bind (m := Builtin.Tuple.tupleExact _) (wpAny_newObj_type (wpAny_pure ⟨_, rfl, wpAny_pure h⟩) htake)
    | exact wpAny_bind (m := Builtin.Tuple.tupleExact _) (wpAny_newObj_type (wpAny_bind (wpAny_pure (wpAny_pure ⟨_, rfl, wpAny_pure h⟩))) htake)
    | exact wpAny_bind (wpAny_bind (m := Builtin.Tuple.tupleExact _) (wpAny_newObj_type (wpAny_pure (wpAny_pure ⟨_, rfl, wpAny_pure h⟩)) htake))
    | exact wpAny_bind (wpAny_bind (m := Builtin.Tuple.tupleExact _) (wpAny_newObj_type (wpAny_pure ⟨_, rfl, wpAny_pure h⟩) htake))
end
end HT
namespace Hx
open PySem PySem.Spec L2
open PyProof.Rows hiding St
section
variable {X : Cx}
def rRev (K : PySem.W.Frag) : List V → Hp → VK → Prop := fun vs H Q => ∃ a xs, vs = [.ref a] ∧ ((SqL K H a xs ∧ ∀ p, H p = none → Q (.ref p) (upd H p (.lst xs.reverse))) ∨ (SqT K H a xs ∧ ∀ p, H p = none → Q (.ref p) (upd H p (.tup xs.reverse))))
def tRevA (K : PySem.W.Frag) (te : TE) : TE := fun σ H Q => te σ H fun x H1 => rRev K [x] H1 Q
theorem pe_revA {e : Expr} {te : TE} {k : Nat} {p1 p2 p3 pos : Pos} (he : PE X e te) : PE X (.Subscript e (.Slice none none (some (.UnaryOp .USub (.Constant (.int 1) k p1) p2)) p3) pos) (tRevA X.K te) := by
  refine ⟨fun pins s σ H Q I h => ?_⟩
  refine Subscript_ (thn (he.run pins s σ H _ I h) fun v s1 ⟨x, H1, I1, r1, q1⟩ => ?_)
  obtain ⟨a, xs, ex, q1⟩ := q1
  cases ex
  cases r1
  have hst : PO X (some (.UnaryOp .USub (.Constant (.int 1) k p1) p2)) (tPart (tUn (rU fun i => .int (-i)) (tC (.int 1)))) := po_some (pe_un un_neg pe_int)
  refine wpAny_Slice (thn (po_none.run pins s1 σ H1 (fun o H2 => o = none ∧ H2 = H1) I1 ⟨rfl, rfl⟩) fun vl s2 ⟨l, H2, I2, pl, el, e2⟩ => ?_)
  subst el e2
  refine thn (po_none.run pins s2 σ H2 (fun o H3 => o = none ∧ H3 = H2) I2 ⟨rfl, rfl⟩) fun vu s3 ⟨u, H3, I3, pu, eu, e3⟩ => ?_
  subst eu e3
  refine thn (hst.run pins s3 σ H3 (fun o H4 => o = some (-1) ∧ H4 = H3) I3 ⟨1, rfl, -1, rfl, rfl, rfl⟩) fun vs s4 ⟨o, H4, I4, ps, eo, e4⟩ => ?_
  subst eo e4
  have I5 : Inv X pins σ H4 { s4 with heap := s4.heap.push { cls := .type "slice", data := .fields #[vl, vu, vs] } } := I4.kept (t' := s4.toks) fun b ob q => Heap.get?_push_of_some _ q
  cases pl
  cases pu
  show wpAny (model X.prog X.w) X.A (subscriptTail e (.Slice none none (some (.UnaryOp .USub (.Constant (.int 1) k p1) p2)) p3) (.ref a) (.ref s4.heap.objs.size)) (EP X pins σ Q) X.xe { s4 with heap := s4.heap.push { cls := .type "slice", data := .fields #[.none, .none, vs] } }
  rcases q1 with ⟨hx, q⟩ | ⟨hx, q⟩
  · obtain ⟨its, r, ht, hz⟩ := I5.list hx
    have hlen := r.length
    refine tail_any (ops := [.ref a, .ref s4.heap.objs.size]) ht.isList.typeIs (PySem.slot_list_getitem.lookup) ?_ (by with_unfolding_all rfl)
    refine wpAny_getItem_list_slice ht.isList (Heap.IsSliceOf.new _ .none .none vs) .none .none ps (by decide) ?_ (by rw [List.size_toArray]; omega)
    rw [PySem.W.krv_pick]
    refine ⟨.ref _, _, I5.laid (t' := s4.toks) (o := .lst xs.reverse) (fun b ob q => Heap.get?_push_of_some _ q) (Nat.le_refl _) ?_, rfl, q _ (I5.hok.fresh (Nat.le_refl _))⟩
    exact ⟨by rw [List.length_reverse]; exact hz, _, 0, r.reverse, Heap.get?_push_size _ rfl⟩
  · obtain ⟨its, r, ht, hz⟩ := I5.tuple hx
    have hlen := r.length
    refine tail_any (ops := [.ref a, .ref s4.heap.objs.size]) ht.typeIs PyProof.Rows.slot_tuple_getitem.lookup ?_ (by with_unfolding_all rfl)
    refine HT.getItem_tuple_rev ht (Heap.IsSliceOf.new _ .none .none vs) ps ?_ (by rw [List.size_toArray]; omega)
    refine ⟨.ref _, _, I5.laid (t' := s4.toks) (o := .tup xs.reverse) (fun b ob q => Heap.get?_push_of_some _ q) (Nat.le_refl _) ?_, rfl, q _ (I5.hok.fresh (Nat.le_refl _))⟩
    exact ⟨by rw [List.length_reverse]; exact hz, _, r.reverse, IsTup.new _ _⟩
end
section
variable {S : Sx} {e a b c tg : Expr} {es : List Expr} {da db dc de di : Den} {das : DenL} {pos p : Pos} {ss : List Stmt} {tr : DenS}
@[simp] def revD : D → Option (Fr × D)
  | .con .tup xs => some (.z, .con .tup xs.reverse)
  | .con k xs => bif k.sq then some (.c .z, .con .lst xs.reverse) else none
  | _ => none
@[simp] def oRev : Op := fun ds => match ds with
  | [a] => revD a
  | _ => none
theorem reps_rev {G : Sg} {Fz : Addr → Prop} {am : List Addr} {H : Hp} : ∀ {xs : List D} {vs : List V}, Reps G Fz am H (zs xs.length) vs xs (fun _ => 0) → Reps G Fz am H (zs xs.reverse.length) vs.reverse xs.reverse (fun _ => 0)
  | [], vs, r => by cases r; exact .nil fun _ => rfl
  | x :: xs, vs, r => by
    have e : zs (x :: xs).length = .z :: zs xs.length := List.replicate_succ
    rw [e] at r
    cases r with
    | cons r1 r2 h3 =>
      have ih := reps_rev (r2.fp (Reps.z0 r2))
      have s := Reps.snoc (k := fun _ => 0) ih (r1.fp r1.z0 (m := fun _ => 0)) fun _ => rfl
      have e2 : zs (x :: xs).reverse.length = zs xs.reverse.length ++ [.z] := by
        rw [List.reverse_cons, List.length_append]
        exact (List.replicate_append_replicate (n := xs.reverse.length) (m := 1)).symm
      rw [e2, List.reverse_cons, List.reverse_cons]
      exact s
theorem v_rev {G : Sg} : VOp G (rRev G.K) oRev := fun Fz am H vs ds fr d Q h1 h2 h3 => by
  unfold oRev at h2
  split at h2
  · rename_i a
    obtain ⟨v, rfl, h⟩ := h1.one
    have lst : ∀ {k : Kd} {xs : List D}, k.sq = true → View G Fz am H v (.con k xs) → fr = .c .z → d = .con .lst xs.reverse → rRev G.K [v] H Q := fun {k xs} hk h e1 e2 => by
      subst e1 e2
      obtain ⟨p, vs, rfl, r, s⟩ := h.sq hk
      exact ⟨p, vs, rfl, .inl ⟨r, fresh_lst (reps_rev s) h3⟩⟩
    cases a with
    | con k xs =>
      cases k with
      | tup =>
        cases h2
        obtain ⟨p, vs, rfl, r, s⟩ := h.tup
        exact ⟨p, vs, rfl, .inr ⟨r, fresh_tup (reps_rev s) h3⟩⟩
      | lst => cases h2; exact lst rfl h rfl rfl
      | frl => cases h2; exact lst rfl h rfl rfl
      | _ => cases h2
    | _ => cases h2
  · cases h2
theorem de_rev {k : Nat} {p1 p2 p3 : Pos} (ha : DE S a da) : DE S (.Subscript a (.Slice none none (some (.UnaryOp .USub (.Constant (.int 1) k p1) p2)) p3) pos) (dOp oRev (dLast da)) := fun W => by
  obtain ⟨ta, pa, qa⟩ := ha W
  exact ⟨tRevA S.G.K ta, fun X hX tk => hX.K ▸ pe_revA (pa X hX tk), fun g env st T σ H Q hT R h => run1 v_rev qa g env st T σ H Q hT R h⟩
/-! ### stores side by side, not all plain -/
def swapNames (sc : Scope) (line : Nat) (ts : List Expr) : List Str := ts.filterMap fun
  | .Name id pos => if sc.names.lookup id == some .local && pos.line == line then some id else none
  | _ => none
theorem noSwapC {ts vs : List Expr} {k k2 : Nat} {q q2 : Pos} {env : PySem.Env} {sc : Scope} (hs : env.scope = sc) (h : ((swapNames sc ((ts.head?.map (·.pos.line)).getD 0) ts).length != ts.length) = true) :
    swappedStores [.Tuple ts k q] (.Tuple vs k2 q2) env = pure none := by
  subst hs
  unfold swappedStores
  dsimp only
  split
  · rfl
  · split
    · rfl
    · show (if ((swapNames env.scope ((ts.head?.map (·.pos.line)).getD 0) ts).length != ts.length || _) = true then pure none else _) = _
      rw [if_pos (by rw [h]; rfl)]
/-- a, b = e1, e2: not all names are plain: a pair is made -/
theorem ds_unpC {ts vs : List Expr} {k k2 : Nat} {q q2 : Pos} {p : Pat} (hg : DG S (.Tuple ts k q) p) (ha : DE S (.Tuple vs k2 q2) da) (hw : ((swapNames S.sc ((ts.head?.map (·.pos.line)).getD 0) ts).length != ts.length) = true) :
    DS S (.Assign [.Tuple ts k q] (.Tuple vs k2 q2) pos) (dUnp p da) := fun W => by
  obtain ⟨t, pt, q⟩ := ha W
  obtain ⟨t2, pt2, q2⟩ := hg
  refine ⟨_, fun X hX tk => ps_asg (pt X hX tk) (pt2 X hX) (by rfl) (noSwapC hX.sc hw) (by rfl), fun g env st T σ H D hT R h => q g env st T σ H _ hT R ?_⟩
  unfold dUnp at h
  cases e : da env st with
  | stuck => rw [e] at h; exact h.elim
  | exc c ds st1 => rw [e] at h; exact h σ
  | ok f b d st1 =>
    rw [e] at h
    obtain ⟨hc, h⟩ := bifT h id
    cases e2 : bindP p f d env with
    | none => rw [e2] at h; exact h.elim
    | some env1 =>
      rw [e2] at h
      exact fun v H1 R1 => q2 g env st1 T σ H1 v f d env1 _ hT (R1.unb hc) e2 fun σ' H' _ R' => h σ' H' R'
end
end Hx

set_option Elab.async false
set_option linter.all false
set_option maxRecDepth 100000
set_option autoImplicit false
/-! Z0: zip of two iterators of any kind, strict or not, at the library's level. -/
namespace HxZ
open PySem
open PySem.Sem (wp)
abbrev IsZipB (b : Bool) (h : Heap) (z TI TO : Addr) (f0 : Value) : Prop :=
  h.get? z = some { cls := .type "zip", dict := none, data := .fields #[f0, .bool false, .bool b, .ref TI, .ref TO], slots := #[] }
section
variable {prog : Program} {w : World} {A : Around} {E : Value → Shared → Prop} {s : Shared} {z TI TO i1 i2 : Addr} {fp1 fp2 : List Addr} {n1 n2 i : Nat} {P1 P2 : Nat → Value → Prop} {St1 St2 : Nat → Heap → Prop} {a1 a2 : Value} {b : Bool}
def drawB (b : Bool) (it : Value) : Sem (Option Value) := if b = true then Builtin.SmallTypes.nextOrEnd it else (do return some (← Builtin.SmallTypes.nextOf it))
theorem draw_item {it : Addr} {fp : List Addr} {n i : Nat} {P : Nat → Value → Prop} {St : Nat → Heap → Prop} {Q : Option Value → Shared → Prop} (D : Draws prog w A it fp n P St) (hi : i < n) (st : St i s.heap)
    (hQ : ∀ x h' tk, P i x → St (i + 1) h' → Heap.SameBut it s.heap h' → Q (some x) { s with heap := h', toks := tk }) : wpAny (model prog w) A (drawB b (.ref it)) Q E s := by
  unfold drawB
  cases b with
  | true =>
    rw [if_pos rfl]
    unfold Builtin.SmallTypes.nextOrEnd
    refine wpAny_bind (wpAny_attempt (D.item i s _ _ hi st fun x h' tk p st' k => ?_))
    exact wpAny_pure (hQ x h' tk p st' k)
  | false =>
    rw [if_neg Bool.false_ne_true]
    exact wpAny_bind (D.item i s _ _ hi st fun x h' tk p st' k => wpAny_pure (hQ x h' tk p st' k))
/-- strict: the end is told -/
theorem draw_end {it : Addr} {fp : List Addr} {n : Nat} {P : Nat → Value → Prop} {St : Nat → Heap → Prop} {Q : Option Value → Shared → Prop} (D : Draws prog w A it fp n P St) (st : St n s.heap)
    (hQ : ∀ h', Heap.ExtBut it s.heap h' → Q none { s with heap := h' }) : wpAny (model prog w) A (Builtin.SmallTypes.nextOrEnd (.ref it)) Q E s := by
  unfold Builtin.SmallTypes.nextOrEnd
  refine wpAny_bind (wpAny_attempt (D.done s _ _ st fun h' e hk he => ?_))
  obtain ⟨o, ho, hc⟩ := he
  refine wpAny_bind (wpAny_isInstance (T := "StopIteration") (b := true) ⟨o, ho, hc⟩ isSubtype_stop ?_)
  rw [if_pos rfl]
  exact wpAny_pure (hQ h' hk)
theorem updPair {T : Addr} {x : Value} {k : Nat} {Q : Unit → Shared → Prop} (hT : IsTupOf2 s.heap T a1 a2)
    (h : ∀ h', h'.get? T = some { cls := .type "tuple", data := .seq ((#[a1, a2] : Array Value).setIfInBounds k x) } → Heap.SameBut T s.heap h' → Q () { s with heap := h' }) :
    wpAny (model prog w) A (updateSeq T (·.setIfInBounds k x)) Q E s := by
  refine wpAny_updateSeq hT rfl (h _ ?_ (Heap.SameBut.update ..))
  rw [Heap.get?_update_self _ hT rfl]
  simp [Obj.mapSeq]
theorem zipB_next_item {Q : Value → Shared → Prop} (S : ZipSep2 z TI TO i1 i2 fp1 fp2) (D1 : Draws prog w A i1 fp1 n1 P1 St1) (D2 : Draws prog w A i2 fp2 n2 P2 St2)
    (hz : IsZipB b s.heap z TI TO .none) (hTI : IsTupOf2 s.heap TI (.ref i1) (.ref i2)) (hTO : IsTupOf2 s.heap TO a1 a2) (st1 : St1 i s.heap) (st2 : St2 i s.heap) (hlt1 : i < n1) (hlt2 : i < n2)
    (hQ : ∀ x1 x2 h' tk, P1 i x1 → P2 i x2 → IsZipB b h' z TI TO (rawInt s.heap.objs.size) → IsTupOf2 h' TO x1 x2 → St1 (i + 1) h' → St2 (i + 1) h' → IsTupOf2 h' s.heap.objs.size x1 x2 → h'.objs.size = s.heap.objs.size + 1 →
      (∀ c o, c ≠ z → c ≠ TO → c ≠ i1 → c ≠ i2 → s.heap.get? c = some o → h'.get? c = some o) → Q (.ref s.heap.objs.size) { s with heap := h', toks := tk }) :
    wpAny (model prog w) A (Builtin.«zip.__next__» ⟨[.ref z], []⟩) (fun fin s' => ∃ v, fin = .done (.ret v) ∧ Q v s') E s := by
  obtain ⟨hp, g, d, tk0, os⟩ := s
  show wpAny _ _ (field (.ref z) 2 >>= _) _ _ _
  refine wpAny_bind (wpAny_field hz rfl (x := .bool b) rfl ?_)
  show wpAny _ _ (field (.ref z) 3 >>= _) _ _ _
  refine wpAny_bind (wpAny_field hz rfl (x := .ref TI) rfl ?_)
  refine wpAny_bind (wpAny_seqItems hTI rfl ?_)
  show wpAny _ _ (Builtin.SmallTypes.ownedTupleIsFree (.ref z) >>= _) _ _ _
  refine wpAny_bind ?_
  unfold Builtin.SmallTypes.ownedTupleIsFree
  refine wpAny_bind (wpAny_field hz rfl (x := .none) rfl (wpAny_pure ?_))
  simp only [if_true]
  refine wpAny_bind (wpAny_rule ?_)
  refine wpAny_bind (wpAny_field hz rfl (x := .ref TO) rfl ?_)
  refine wpAny_bind (wpAny_setField_rec hz (by simp) fun g0 hz0 hs0 => ?_)
  replace hz0 : IsZipB b g0 z TI TO .ellipsis := hz0
  replace hs0 : Heap.SameBut z hp g0 := hs0
  have hb : ((Value.bool b == Value.bool true) = true) = (b = true) := by cases b <;> rfl
  refine wpAny_bind ?_
  simp only [List.zipIdx_cons, List.zipIdx_nil, List.forIn_cons, List.forIn_nil]
  refine wpAny_bind (wpAny_bind (wpAny_onRaise ?_))
  have key : ∀ it, ((if (Value.bool b == Value.bool true) = true then Builtin.SmallTypes.nextOrEnd it else (do return some (← Builtin.SmallTypes.nextOf it))) : Sem (Option Value)) = drawB b it := fun it => by unfold drawB; cases b <;> rfl
  show wpAny _ _ (if (Value.bool b == Value.bool true) = true then Builtin.SmallTypes.nextOrEnd (.ref i1) else (do return some (← Builtin.SmallTypes.nextOf (.ref i1)))) _ _ ⟨g0, g, d, tk0, os⟩
  rw [key]
  refine draw_item (s := ⟨g0, g, d, tk0, os⟩) D1 hlt1 (D1.over st1 hs0 S.zf1) fun x1 p1 tk1 hx1 sn1 hp1 => ?_
  replace hp1 : Heap.SameBut i1 g0 p1 := hp1
  have hU1 : IsTupOf2 p1 TO a1 a2 := hp1.extBut _ _ S.Ti1 (hs0.extBut _ _ S.TOz hTO)
  refine wpAny_bind (wpAny_seqItems (s := ⟨p1, g, d, tk1, os⟩) hU1 rfl ?_)
  refine wpAny_bind (updPair (s := ⟨p1, g, d, tk1, os⟩) hU1 fun g1 hT1 hs1 => ?_)
  replace hT1 : IsTupOf2 g1 TO x1 a2 := hT1
  replace hs1 : Heap.SameBut TO p1 g1 := hs1
  refine wpAny_bind (wpAny_letGo (wpAny_pure ?_))
  refine wpAny_bind (wpAny_bind (wpAny_onRaise ?_))
  show wpAny _ _ (if (Value.bool b == Value.bool true) = true then Builtin.SmallTypes.nextOrEnd (.ref i2) else (do return some (← Builtin.SmallTypes.nextOf (.ref i2)))) _ _ ⟨g1, g, d, tk1, os⟩
  rw [key]
  refine draw_item (s := ⟨g1, g, d, tk1, os⟩) D2 hlt2 (D2.over (D2.over (D2.over st2 hs0 S.zf2) hp1 S.sep1_2) hs1 S.Tf2) fun x2 p2 tk2 hx2 sn2 hp2 => ?_
  replace hp2 : Heap.SameBut i2 g1 p2 := hp2
  have hU2 : IsTupOf2 p2 TO x1 a2 := hp2.extBut _ _ S.Ti2 hT1
  refine wpAny_bind (wpAny_seqItems (s := ⟨p2, g, d, tk2, os⟩) hU2 rfl ?_)
  refine wpAny_bind (updPair (s := ⟨p2, g, d, tk2, os⟩) hU2 fun g2 hT2 hs2 => ?_)
  replace hT2 : IsTupOf2 g2 TO x1 x2 := hT2
  replace hs2 : Heap.SameBut TO p2 g2 := hs2
  refine wpAny_bind (wpAny_letGo (wpAny_pure (wpAny_pure ?_)))
  refine wpAny_bind (wpAny_seqItems (s := ⟨g2, g, d, tk2, os⟩) hT2 rfl ?_)
  refine wpAny_bind (wpAny_newTuple ?_)
  have hsz : g2.objs.size = hp.objs.size := by rw [hs2.1, hp2.1, hs1.1, hp1.1, hs0.1]
  have hzz : IsZipB b g2 z TI TO .ellipsis := (hs2.extBut _ _ S.TOz.symm (hp2.extBut _ _ S.zi2 (hs1.extBut _ _ S.TOz.symm (hp1.extBut _ _ S.zi1 hz0))))
  have hkk : ∀ c o, c ≠ z → c ≠ TO → c ≠ i1 → c ≠ i2 → hp.get? c = some o → g2.get? c = some o := fun c o cz cT c1 c2 e =>
    (hs2.extBut _ _ cT (hp2.extBut _ _ c2 (hs1.extBut _ _ cT (hp1.extBut _ _ c1 (hs0.extBut _ _ cz e)))))
  have hj1 : St1 (i + 1) g2 := (D1.over (D1.over (D1.over sn1 hs1 S.Tf1) hp2 S.sep2_1) hs2 S.Tf1)
  have hj2 : St2 (i + 1) g2 := (D2.over sn2 hs2 S.Tf2)
  have hzlt : z < g2.objs.size := Heap.lt_size hzz
  show wpAny _ _ (Builtin.SmallTypes.ownedTupleHandOut (.ref z) (.ref g2.objs.size) >>= _) _ _ ⟨g2.push { cls := .type "tuple", data := .seq #[x1, x2] }, g, d, tk2, os⟩
  refine wpAny_bind ?_
  unfold Builtin.SmallTypes.ownedTupleHandOut
  have hz₆ : IsZipB b (g2.push { cls := .type "tuple", data := .seq #[x1, x2] }) z TI TO .ellipsis := Heap.get?_push_of_some _ hzz
  refine wpAny_bind (wpAny_setField_rec hz₆ (by simp) fun h₇ hz₇ hs₇ => ?_)
  replace hz₇ : IsZipB b h₇ z TI TO (rawInt g2.objs.size) := hz₇
  refine wpAny_setField_rec hz₇ (by simp) fun h₈ hz₈ hs₈ => ?_
  replace hz₈ : IsZipB b h₈ z TI TO (rawInt g2.objs.size) := hz₈
  replace hs₇ : Heap.SameBut z (g2.push { cls := .type "tuple", data := .seq #[x1, x2] }) h₇ := hs₇
  replace hs₈ : Heap.SameBut z h₇ h₈ := hs₈
  have up : ∀ c o, c ≠ z → g2.get? c = some o → h₈.get? c = some o := fun c o c1 e => hs₈.extBut _ _ c1 (hs₇.extBut _ _ c1 (Heap.get?_push_of_some _ e))
  have hT₈ : IsTupOf2 h₈ g2.objs.size x1 x2 := hs₈.extBut _ _ (Nat.ne_of_gt hzlt) (hs₇.extBut _ _ (Nat.ne_of_gt hzlt) (Heap.get?_push_size _ rfl))
  have hz8 : h₈.objs.size = g2.objs.size + 1 := by rw [hs₈.1, hs₇.1, Heap.size_push]
  rw [hsz] at hz₈ hT₈ hz8
  refine wpAny_pure ⟨_, rfl, ?_⟩
  show Q (.ref g2.objs.size) ⟨h₈, g, d, tk2, os⟩
  rw [hsz]
  exact hQ x1 x2 h₈ tk2 hx1 hx2 hz₈ (up _ _ S.TOz hT2) (D1.frame _ _ _ hj1 fun b hb o e => up b o (fun q => S.zf1 (q ▸ hb)) e) (D2.frame _ _ _ hj2 fun b hb o e => up b o (fun q => S.zf2 (q ▸ hb)) e) hT₈ hz8 fun c o cz cT c1 c2 e => up c o cz (hkk c o cz cT c1 c2 e)
/-- strict: both have ended -/
theorem zipS_next_end {Q : Fin → Shared → Prop} (hh : A.handled = none) (S : ZipSep2 z TI TO i1 i2 fp1 fp2) (D1 : Draws prog w A i1 fp1 i P1 St1) (D2 : Draws prog w A i2 fp2 i P2 St2)
    (hz : IsZipB true s.heap z TI TO .none) (hTI : IsTupOf2 s.heap TI (.ref i1) (.ref i2)) (hTO : IsTupOf2 s.heap TO a1 a2) (st1 : St1 i s.heap) (st2 : St2 i s.heap)
    (hE : ∀ h' tk e, (∀ c o, c ≠ z → c ≠ TO → c ≠ i1 → c ≠ i2 → s.heap.get? c = some o → h'.get? c = some o) → (∃ o, h'.get? e = some o ∧ o.cls = .type "StopIteration") → E (.ref e) { s with heap := h', toks := tk }) :
    wpAny (model prog w) A (Builtin.«zip.__next__» ⟨[.ref z], []⟩) Q E s := by
  obtain ⟨hp, g, d, tk0, os⟩ := s
  show wpAny _ _ (field (.ref z) 2 >>= _) _ _ _
  refine wpAny_bind (wpAny_field hz rfl (x := .bool true) rfl ?_)
  show wpAny _ _ (field (.ref z) 3 >>= _) _ _ _
  refine wpAny_bind (wpAny_field hz rfl (x := .ref TI) rfl ?_)
  refine wpAny_bind (wpAny_seqItems hTI rfl ?_)
  show wpAny _ _ (Builtin.SmallTypes.ownedTupleIsFree (.ref z) >>= _) _ _ _
  refine wpAny_bind ?_
  unfold Builtin.SmallTypes.ownedTupleIsFree
  refine wpAny_bind (wpAny_field hz rfl (x := .none) rfl (wpAny_pure ?_))
  simp only [if_true]
  refine wpAny_bind (wpAny_rule ?_)
  refine wpAny_bind (wpAny_field hz rfl (x := .ref TO) rfl ?_)
  refine wpAny_bind (wpAny_setField_rec hz (by simp) fun g0 hz0 hs0 => ?_)
  replace hz0 : IsZipB true g0 z TI TO .ellipsis := hz0
  replace hs0 : Heap.SameBut z hp g0 := hs0
  refine wpAny_bind ?_
  simp only [List.zipIdx_cons, List.zipIdx_nil, List.forIn_cons, List.forIn_nil]
  refine wpAny_bind (wpAny_bind (wpAny_onRaise ?_))
  show wpAny _ _ (Builtin.SmallTypes.nextOrEnd (.ref i1)) _ _ ⟨g0, g, d, tk0, os⟩
  refine draw_end (s := ⟨g0, g, d, tk0, os⟩) D1 (D1.over st1 hs0 S.zf1) fun q hq => ?_
  replace hq : Heap.ExtBut i1 g0 q := hq
  have hzq : IsZipB true q z TI TO .ellipsis := hq _ _ S.zi1 hz0
  refine wpAny_bind (wpAny_setField_rec (s := ⟨q, g, d, tk0, os⟩) hzq (by simp) fun q' _ hq' => ?_)
  replace hq' : Heap.SameBut z q q' := hq'
  refine wpAny_bind (wpAny_bind ?_)
  simp only [List.drop_succ_cons, List.drop_zero, List.zipIdx_cons, List.zipIdx_nil, List.forIn_cons, List.forIn_nil]
  have hi2 : St2 i q' := D2.frame _ _ _ (D2.over st2 hs0 S.zf2) fun c hc o e => hq'.extBut c o (fun x => S.zf2 (x ▸ hc)) (hq c o (fun x => S.sep1_2 (x ▸ hc)) e)
  refine wpAny_bind (wpAny_bind (draw_end (s := ⟨q', g, d, tk0, os⟩) D2 hi2 fun q2 hq2 => ?_))
  replace hq2 : Heap.ExtBut i2 q' q2 := hq2
  simp only [Option.isSome_none, Bool.false_eq_true, if_false]
  refine wpAny_pure (wpAny_pure ?_)
  refine wpAny_bind (wpAny_rule ?_)
  show wpAny _ _ (newExc (.type "StopIteration") [] >>= _) _ _ _
  refine wpAny_bind ?_
  simp only [newExc, newTuple]
  refine wpAny_bind (wpAny_newObj_type ?_ (by size_fits))
  refine wpAny_bind (m := firstArgMember _ _) (wpAny_of_eq (a := Value.none) (by first | rfl | (simp only [firstArgMember]; rfl)) ?_)
  refine wpAny_newObj_type ?_ (by size_fits)
  simp only [raiseNew]
  refine wpAny_bind (wpAny_handled ?_)
  first | rw [show A.in1.handled = none from hh] | rw [hh]
  refine wpAny_bind (wpAny_pure (wpAny_throw ?_))
  refine hE _ tk0 _ (fun c o cz cT c1 c2 x => ?_) ⟨_, Heap.get?_push_size _ rfl, rfl⟩
  exact Heap.get?_push_of_some _ (Heap.get?_push_of_some _ (hq2 _ _ c2 (hq'.extBut _ _ cz (hq _ _ c1 (hs0.extBut _ _ cz x)))))
end
end HxZ

set_option Elab.async false
set_option linter.all false
set_option maxRecDepth 100000
set_option autoImplicit false
/-! Z1: zip of two sequences of any kind, strict or not: the iterator, its rule. -/
namespace PySem.F
theorem typeCall_zip_strict (a b c : Value) : checkTypeCall "zip" ⟨[a, b], [(Str.ofString "strict", c)]⟩ = pure () := by kernel_rfl
theorem newCall_zip_strict (a b c : Value) : checkBuiltinCall "zip.__new__" ⟨[.type "zip", a, b], [(Str.ofString "strict", c)]⟩ = pure () := by kernel_rfl
theorem args_object_init_strict (obj a b c : Value) : argsOk "object.__init__" ⟨[obj, a, b], [(Str.ofString "strict", c)]⟩ := by unfold argsOk; kernel_rfl
end PySem.F
namespace HxZ
open PySem PySem.Spec L2 PyProof.Rows
abbrev gsZ2 (h : Heap) (o1 o2 : Obj) : Heap := (gzO2 h o1 o2).push { cls := .type "zip", data := .fields #[.none, .bool false, .bool true, .ref ((h.push o1).push o2).objs.size, .ref (gzT2 h o1 o2).objs.size] }
set_option maxHeartbeats 2000000 in
theorem meets_zip_newS {v1 v2 : Value} {o1 o2 : Obj} {H1 H2 : Heap → Prop} (B1 : Begins v1 o1 H1) (B2 : Begins v2 o2 H2) :
    Meets (Builtin.«zip.__new__» ⟨[.type "zip", v1, v2], [(Str.ofString "strict", .bool true)]⟩) (fun _ R s => (H1 s.heap ∧ H2 s.heap) ∧
      R (.ok (.ret (.ref (gzO2 s.heap o1 o2).objs.size))) { s with heap := gsZ2 s.heap o1 o2 }) :=
  .of_wp fun prog w A R s h => by
    obtain ⟨hp, g, d, tk, os⟩ := s; obtain ⟨⟨h1, h2⟩, h⟩ := h
    have hsub := sub_zip
    have e1 : (Str.ofString "strict" != ("strict" : Str)) = false := by decide +kernel
    have q1 : ∀ {A' : Around} {E : Value → Shared → Prop} {Q : Value → Shared → Prop}, Q (.ref hp.objs.size) ⟨(hp.push o1), g, d, tk, os⟩ → wpAny (model prog w) A' (pyIter v1) Q E ⟨hp, g, d, tk, os⟩ :=
      fun q => B1.iter prog w _ _ ⟨hp, g, d, tk, os⟩ _ (B1.keeps _ _ h1 fun b o' e => e) q
    have q2 : ∀ {A' : Around} {E : Value → Shared → Prop} {Q : Value → Shared → Prop}, Q (.ref (hp.push o1).objs.size) ⟨((hp.push o1).push o2), g, d, tk, os⟩ → wpAny (model prog w) A' (pyIter v2) Q E ⟨(hp.push o1), g, d, tk, os⟩ :=
      fun q => B2.iter prog w _ _ ⟨(hp.push o1), g, d, tk, os⟩ _ (B2.keeps _ _ h2 fun b o' e => (Heap.get?_push_of_some _ e)) q
    wp_walk using q1, q2
    exact ⟨_, rfl, h⟩
section
variable {prog : Program} {w : World} {A : Around} {E : Value → Shared → Prop} {s : Shared}
theorem zip_beginsS {v1 v2 : Value} {o1 o2 : Obj} {H1 H2 : Heap → Prop} {Q : Value → Shared → Prop} (B1 : Begins v1 o1 H1) (B2 : Begins v2 o2 H2) (h1 : H1 s.heap) (h2 : H2 s.heap)
    (h : ∀ h', IsZipB true h' (s.heap.objs.size + 4) (s.heap.objs.size + 2) (s.heap.objs.size + 3) .none → IsTupOf2 h' (s.heap.objs.size + 2) (.ref s.heap.objs.size) (.ref (s.heap.objs.size + 1)) →
      IsTupOf2 h' (s.heap.objs.size + 3) .none .none → h'.get? s.heap.objs.size = some o1 → h'.get? (s.heap.objs.size + 1) = some o2 → h'.objs.size = s.heap.objs.size + 5 →
      (∀ c o, s.heap.get? c = some o → h'.get? c = some o) → Q (.ref (s.heap.objs.size + 4)) { s with heap := h' }) :
    wpAny (model prog w) A (call (.type "zip") [v1, v2] [(Str.ofString "strict", .bool true)]) Q E s := by
  refine callType_newKw F.called_zip (by decide) (F.typeCall_zip_strict _ _ _) (F.newCall_zip_strict _ _ _) (fun obj => F.args_object_init_strict obj _ _ _) F.entry_zip_new
    (meets_zip_newS B1 B2) ⟨⟨h1, h2⟩, ?_⟩
  have z1 : (s.heap.push o1).objs.size = s.heap.objs.size + 1 := by rw [Heap.size_push]
  have z2 : ((s.heap.push o1).push o2).objs.size = s.heap.objs.size + 2 := by rw [Heap.size_push, z1]
  have zT : (gzT2 s.heap o1 o2).objs.size = s.heap.objs.size + 3 := by rw [Heap.size_push, z2]
  have zO : (gzO2 s.heap o1 o2).objs.size = s.heap.objs.size + 4 := by rw [Heap.size_push, zT]
  have zZ : (gsZ2 s.heap o1 o2).objs.size = s.heap.objs.size + 5 := by rw [Heap.size_push, zO]
  have gZ : (gsZ2 s.heap o1 o2).get? (gzO2 s.heap o1 o2).objs.size = some { cls := .type "zip", data := .fields #[.none, .bool false, .bool true, .ref ((s.heap.push o1).push o2).objs.size, .ref (gzT2 s.heap o1 o2).objs.size] } := Heap.get?_push_size _ rfl
  have gO : (gsZ2 s.heap o1 o2).get? (gzT2 s.heap o1 o2).objs.size = some { cls := .type "tuple", data := .seq #[.none, .none] } := Heap.get?_push_of_some _ (Heap.get?_push_size _ rfl)
  have gT : (gsZ2 s.heap o1 o2).get? ((s.heap.push o1).push o2).objs.size = some { cls := .type "tuple", data := .seq #[.ref s.heap.objs.size, .ref (s.heap.push o1).objs.size] } := Heap.get?_push_of_some _ (Heap.get?_push_of_some _ (Heap.get?_push_size _ rfl))
  have g1 : (gsZ2 s.heap o1 o2).get? s.heap.objs.size = some o1 := Heap.get?_push_of_some _ (Heap.get?_push_of_some _ (Heap.get?_push_of_some _ (Heap.get?_push_of_some _ (Heap.get?_push_size _ B1.free))))
  have g2 : (gsZ2 s.heap o1 o2).get? (s.heap.push o1).objs.size = some o2 := Heap.get?_push_of_some _ (Heap.get?_push_of_some _ (Heap.get?_push_of_some _ (Heap.get?_push_size _ B2.free)))
  rw [zO, zT, z2] at gZ
  rw [zT] at gO
  rw [z2, z1] at gT
  rw [z1] at g2
  show _ ∧ _
  rw [zO]
  exact ⟨⟨_, gZ, rfl⟩, h _ gZ gT gO g1 g2 zZ fun c o e => Heap.get?_push_of_some _ (Heap.get?_push_of_some _ (Heap.get?_push_of_some _ (Heap.get?_push_of_some _ (Heap.get?_push_of_some _ e))))⟩
theorem letGo_zipB {b : Bool} {elts : List Expr} {x1 : Nat} {pos : Pos} {z TI TO T : Addr} {Q : Unit → Shared → Prop} (hz : IsZipB b s.heap z TI TO (rawInt T))
    (hQ : ∀ h', IsZipB b h' z TI TO .none → Heap.SameBut z s.heap h' → Q () { s with heap := h' }) :
    wpAny (model prog w) A (letOwnedTupleGo (.Tuple elts x1 pos) (.ref z) (.ref T)) Q E s := by
  unfold letOwnedTupleGo
  refine wpAny_bind (wpAny_load hz ?_)
  show wpAny _ _ (if (["enumerate", "zip", "dict_itemiterator", "dict_reverseitemiterator", "odict_iterator", "itertools.zip_longest", "itertools.pairwise"].contains "zip" &&
      (#[rawInt T, .bool false, .bool b, .ref TI, .ref TO] : Array Value)[0]? == some (rawInt T)) = true then _ else _) Q E s
  rw [if_pos (by simp)]
  refine wpAny_bind (wpAny_rule ?_)
  show wpAny _ _ (setField (.ref z) 0 .none) Q E s
  exact wpAny_setField_rec hz (by simp) fun h' hz' hs' => hQ h' hz' hs'
theorem pyIter_zipB {b : Bool} {z TI TO : Addr} {f0 : Value} {Q : Value → Shared → Prop} (hz : IsZipB b s.heap z TI TO f0) (h : Q (.ref z) s) : wpAny (model prog w) A (pyIter (.ref z)) Q E s := by
  have hT : s.TypeIs (.ref z) "zip" := ⟨_, hz, rfl⟩
  refine wpAny_pyIter_slot hT F.slot_zip_iter (wpAny_call_entry F.slot_zip_iter hT F.entry_zip_iter ?_ (F.args_zip_iter_1 _))
  show wpAny _ _ (ret (.ref z)) _ _ s
  exact wpAny_pure ⟨_, rfl, "zip", _, hT, F.slot_zip_next.lookup, h⟩
end
/-! ### what is zipped -/
inductive Src
  | lst (a : Addr) | tup (a : Addr) | str (x : Str)
def Src.ok (K : PySem.W.Frag) (n : Nat) : Src → Hp → Prop
  | .lst a, H => ∃ xs, SqL K H a xs ∧ xs.length = n
  | .tup a, H => ∃ xs, SqT K H a xs ∧ xs.length = n
  | .str x, _ => x.cps.size = n
def Src.item (K : PySem.W.Frag) (H : Hp) : Src → Nat → V → Prop
  | .lst a, i, v => ∀ xs, SqL K H a xs → xs[i]? = some v
  | .tup a, i, v => ∀ xs, SqT K H a xs → xs[i]? = some v
  | .str x, i, v => ∃ c, x.cps[i]? = some c ∧ v = .str ⟨#[c]⟩
def Src.un : Src → List Addr
  | .lst a => [a]
  | .tup a => [a]
  | .str _ => []
def Src.st (t : Tok) : Src → Addr → Nat → Heap → Prop
  | .lst a, it, i, h => h.IsListIter it a i
  | .tup a, it, i, h => h.IsTupleIter it a i
  | .str x, it, i, h => h.IsStrIter it (strIterType x) x t i
def Src.v : Src → V
  | .lst a => .ref a
  | .tup a => .ref a
  | .str x => .str x
def Src.obj (t : Tok) : Src → Obj
  | .lst a => { cls := .type "list_iterator", data := .fields #[.ref a, .int 0 0] }
  | .tup a => { cls := .type "tuple_iterator", data := .fields #[.ref a, .int 0 0] }
  | .str x => { cls := .type (strIterType x), data := .fields #[.str x t, .int 0 0] }
theorem Src.st_obj {t : Tok} {u : Src} {it : Addr} {h : Heap} (e : h.get? it = some (u.obj t)) : u.st t it 0 h := by
  cases u <;> exact ⟨_, e, rfl, rfl⟩
theorem Src.st_at {t : Tok} {u : Src} {it : Addr} {i : Nat} {h h' : Heap} (k : ∀ o, h.get? it = some o → h'.get? it = some o) (st : u.st t it i h) : u.st t it i h' := by
  cases u with
  | lst a => exact Heap.IsListIter.at st k
  | tup a => exact Heap.IsTupleIter.at st k
  | str x => obtain ⟨o, ho, r⟩ := st; exact ⟨o, k o ho, r⟩
theorem Src.st_some {t : Tok} {u : Src} {it : Addr} {i : Nat} {h : Heap} (st : u.st t it i h) : ∃ o, h.get? it = some o ∧ ∀ v, o.data ≠ .cell v := by
  cases u with
  | lst a => obtain ⟨o, e, _, d⟩ := st; exact ⟨o, e, fun v z => by rw [d] at z; cases z⟩
  | tup a => obtain ⟨o, e, _, d⟩ := st; exact ⟨o, e, fun v z => by rw [d] at z; cases z⟩
  | str x => obtain ⟨o, e, _, d⟩ := st; exact ⟨o, e, fun v z => by rw [d] at z; cases z⟩
section
variable {X : Cx} {pins : List (Addr × Obj)} {σ : L2.St} {H : Hp} {s : Shared}
theorem vals_back' : ∀ {xs : List V} {us : List Value} {i : Nat} {v : Value}, Vals xs us → us[i]? = some v → ∃ x, xs[i]? = some x ∧ RelV x v
  | _, _, i, v, .nil, e => by simp at e
  | x :: xs, u :: us, i, v, .cons r t, e => by
    cases i with
    | zero => simp at e; subst e; exact ⟨x, by simp, r⟩
    | succ i =>
      obtain ⟨y, e1, r1⟩ := vals_back' (i := i) t (by simpa using e)
      exact ⟨y, by simpa using e1, r1⟩
theorem src_draws (I : Inv X pins σ H s) {u : Src} {n : Nat} (ok : u.ok X.K n H) {A : Around} (hh : A.handled = none) {it : Addr} (hne : ∀ a ∈ u.un, a ≠ it) (t : Tok) : ∃ (P : Nat → Value → Prop) (St : Nat → Heap → Prop),
    Draws X.prog X.w A it (it :: u.un) n P St ∧ (∀ i, u.st t it i s.heap → St i s.heap) ∧ (∀ i h', St i h' → u.st t it i h') ∧ ∀ i v, P i v → ∃ x, u.item X.K H i x ∧ RelV x v := by
  cases u with
  | lst a =>
    obtain ⟨xs, ok, hn⟩ := ok
    obtain ⟨its, rv, p, _⟩ := I.list ok
    have hl : its.toArray.size = n := by rw [← hn, rv.length]; simp
    have D := Draws.list (prog := X.prog) (w := X.w) hh it a (hne a (by simp [Src.un])) its.toArray
    rw [hl] at D
    refine ⟨_, _, D, fun i st => ⟨st, p.isList⟩, fun i h' st => st.1, fun i v e => ?_⟩
    obtain ⟨x, e1, r⟩ := vals_back' rv (i := i) (v := v) (by simpa using e)
    exact ⟨x, fun ys hy => by rw [I.list_inj hy ok]; exact e1, r⟩
  | tup a =>
    obtain ⟨xs, ok, hn⟩ := ok
    obtain ⟨its, rv, p, _⟩ := I.tuple ok
    have hl : its.toArray.size = n := by rw [← hn, rv.length]; simp
    have D := Draws.tuple (prog := X.prog) (w := X.w) hh it a (hne a (by simp [Src.un])) its.toArray
    rw [hl] at D
    refine ⟨_, _, D, fun i st => ⟨st, show s.heap.IsTuple a its.toArray from p⟩, fun i h' st => st.1, fun i v e => ?_⟩
    obtain ⟨x, e1, r⟩ := vals_back' rv (i := i) (v := v) (by simpa using e)
    exact ⟨x, fun ys hy => by rw [I.tuple_inj hy ok]; exact e1, r⟩
  | str x =>
    have ok : x.cps.size = n := ok
    subst ok
    refine ⟨_, _, Draws.text (prog := X.prog) (w := X.w) hh it x t, fun i st => st, fun i h' st => st, fun i v e => ?_⟩
    obtain ⟨c, k, e1, rfl⟩ := e
    exact ⟨_, ⟨c, e1, rfl⟩, ⟨k, rfl⟩⟩
end
/-! ### the turns -/
/-- the pairs, each a new tuple; strict: both end at once -/
def ItG (K : PySem.W.Frag) (b : Bool) (u1 u2 : Src) (n1 n2 : Nat) : It :=
  ⟨fun i H => u1.ok K n1 H ∧ u2.ok K n2 H ∧ i < n1 ∧ i < n2, fun i H v H' => ∃ T x y, v = .ref T ∧ H T = none ∧ H' = upd H T (.tup [x, y]) ∧ u1.item K H i x ∧ u2.item K H i y,
    fun i H => u1.ok K n1 H ∧ u2.ok K n2 H ∧ (i = n1 ∨ i = n2) ∧ i ≤ n1 ∧ i ≤ n2 ∧ (b = true → n1 = n2)⟩
structure Apart (z TI TO i1 i2 : Addr) (u1 u2 : Src) : Prop where
  S : ZipSep2 z TI TO i1 i2 (i1 :: u1.un) (i2 :: u2.un)
  n1 : ∀ a ∈ u1.un, a ≠ i1
  n2 : ∀ a ∈ u2.un, a ≠ i2
theorem turn_zipG {P : Program} {w : World} {K : PySem.W.Frag} {elts : List Expr} {kk : Nat} {tpos : Pos} {b : Bool} {t1 t2 : Tok} {u1 u2 : Src} {n1 n2 : Nat} {z TI TO i1 i2 : Addr} (D : Apart z TI TO i1 i2 u1 u2) :
    Turn P w K (.Tuple elts kk tpos) (ItG K b u1 u2 n1 n2) [z, TI, TO, i1, i2] z (fun i h => IsZipB b h z TI TO .none ∧ IsTupOf2 h TI (.ref i1) (.ref i2) ∧ (∃ x y, IsTupOf2 h TO x y) ∧ u1.st t1 i1 i h ∧ u2.st t2 i2 i h) where
  mem := by simp
  obj := fun i h st c hc => by
    obtain ⟨hz, hTI, ⟨x, y, hTO⟩, h1, h2⟩ := st
    have e' : c = z ∨ c = TI ∨ c = TO ∨ c = i1 ∨ c = i2 := by simpa using hc
    rcases e' with q | q | q | q | q
    · rw [q]; exact ⟨_, hz, fun v q => nomatch q⟩
    · rw [q]; exact ⟨_, hTI, fun v q => nomatch q⟩
    · rw [q]; exact ⟨_, hTO, fun v q => nomatch q⟩
    · rw [q]; exact Src.st_some h1
    · rw [q]; exact Src.st_some h2
  keep := fun i h h' st k => by
    obtain ⟨hz, hTI, ⟨x, y, hTO⟩, h1, h2⟩ := st
    exact ⟨k z (by simp) _ hz, k TI (by simp) _ hTI, ⟨x, y, k TO (by simp) _ hTO⟩, Src.st_at (fun o q => k i1 (by simp) o q) h1, Src.st_at (fun o q => k i2 (by simp) o q) h2⟩
  item := by
    intro X hP hw hK hc i pins s σ H E I hf st hg
    subst hP hw hK
    obtain ⟨hz, hTI, ⟨x0, y0, hTO⟩, h1, h2⟩ := st
    obtain ⟨k1, k2, l1, l2⟩ := hg
    have hd := I.ok.hd hc
    obtain ⟨P1, S1, D1, a1, b1, c1⟩ := src_draws I k1 (A := X.A.in1) hd D.n1 t1
    obtain ⟨P2, S2, D2, a2, b2, c2⟩ := src_draws I k2 (A := X.A.in1) hd D.n2 t2
    have hzl : z < s.heap.objs.size := Heap.lt_size hz
    have hT : s.TypeIs (.ref z) "zip" := ⟨_, hz, rfl⟩
    unfold pyNext
    refine wpAny_bind (wpAny_attempt (wpAny_callSpecial?_slot (name := Str.ofString "__next__") hT F.slot_zip_next
      (wpAny_call_entry F.slot_zip_next hT F.entry_zip_next
        (zipB_next_item D.S D1 D2 hz hTI hTO (a1 _ h1) (a2 _ h2) l1 l2 fun v1 v2 h' tk p1 p2 z' TO' s1' s2' hT' hsz hk => wpAny_pure ?_) (F.args_zip_next_1 _))))
    obtain ⟨x, ix, rx⟩ := c1 _ _ p1
    obtain ⟨y, iy, ry⟩ := c2 _ _ p2
    refine ⟨_, rfl, letGo_zipB (s := { s with heap := h', toks := tk }) z' fun h'' z'' sb => ?_⟩
    have hT2 : h''.get? s.heap.objs.size = some { cls := .type "tuple", data := .seq #[v1, v2] } := (sb.2 _ (Nat.ne_of_gt hzl)).trans hT'
    have new : ObjOk X.prog X.w (upd H s.heap.objs.size (.tup [x, y])) h'' s.heap.objs.size (.tup [x, y]) :=
      ⟨by show 2 ≤ sizeLine; decide, [v1, v2], .cons rx (.cons ry .nil), ⟨_, hT2, rfl, _, rfl⟩⟩
    have I1 : Inv X pins σ (upd H s.heap.objs.size (.tup [x, y])) { s with heap := h'', toks := tk } :=
      I.turnedNew (t' := tk) (ch := [z, TI, TO, i1, i2]) (fun c o hb q => (sb.2 c (fun q' => hb (by simp [q']))).trans (hk c o (fun q' => hb (by simp [q'])) (fun q' => hb (by simp [q'])) (fun q' => hb (by simp [q'])) (fun q' => hb (by simp [q'])) q)) hf (Nat.le_refl _) new
    refine ⟨.ref s.heap.objs.size, _, I1, rfl, ⟨_, x, y, rfl, I.hok.fresh (Nat.le_refl _), rfl, ix, iy⟩, ⟨z'', ?_, ⟨v1, v2, ?_⟩, ?_, ?_⟩, fun c hcm => ?_⟩
    · exact (sb.2 _ D.S.TIz).trans (hk _ _ D.S.TIz D.S.TITO D.S.TIi1 D.S.TIi2 hTI)
    · exact (sb.2 _ D.S.TOz).trans TO'
    · exact Src.st_at (fun o q => (sb.2 _ D.S.zi1.symm).trans q) (b1 _ _ s1')
    · exact Src.st_at (fun o q => (sb.2 _ D.S.zi2.symm).trans q) (b2 _ _ s2')
    · have hlt : c < s.heap.objs.size := by
        have e' : c = z ∨ c = TI ∨ c = TO ∨ c = i1 ∨ c = i2 := by simpa using hcm
        rcases e' with q | q | q | q | q
        · rw [q]; exact hzl
        · rw [q]; exact Heap.lt_size hTI
        · rw [q]; exact Heap.lt_size hTO
        · rw [q]; obtain ⟨_, e1, _⟩ := Src.st_some h1; exact Heap.lt_size e1
        · rw [q]; obtain ⟨_, e2, _⟩ := Src.st_some h2; exact Heap.lt_size e2
      rw [upd_ne (Nat.ne_of_lt hlt)]
      exact (hf c hcm).1
  done := by
    intro X hP hw hK hc i pins s σ H E I hf st hg
    subst hP hw hK
    obtain ⟨hz, hTI, ⟨x0, y0, hTO⟩, h1, h2⟩ := st
    obtain ⟨k1, k2, he, l1, l2, hs⟩ := hg
    have hd := I.ok.hd hc
    obtain ⟨P1, S1, D1, a1, b1, c1⟩ := src_draws I k1 (A := X.A.in1) hd D.n1 t1
    obtain ⟨P2, S2, D2, a2, b2, c2⟩ := src_draws I k2 (A := X.A.in1) hd D.n2 t2
    have hT : s.TypeIs (.ref z) "zip" := ⟨_, hz, rfl⟩
    have fin : ∀ h' tk, (∀ c o, c ≠ z → c ≠ TO → c ≠ i1 → c ≠ i2 → s.heap.get? c = some o → h'.get? c = some o) → Inv X pins σ H { s with heap := h', toks := tk } := fun h' tk hk =>
      I.turnedL (t' := tk) (ch := [z, TI, TO, i1, i2]) (fun c o hb q => hk c o (fun q' => hb (by simp [q'])) (fun q' => hb (by simp [q'])) (fun q' => hb (by simp [q'])) (fun q' => hb (by simp [q'])) q) hf
    unfold pyNext
    refine wpAny_bind (wpAny_attempt (wpAny_callSpecial?_slot (name := Str.ofString "__next__") hT F.slot_zip_next
      (wpAny_call_entry F.slot_zip_next hT F.entry_zip_next ?_ (F.args_zip_next_1 _))))
    have stop : ∀ h' tk e, (∀ c o, c ≠ z → c ≠ TO → c ≠ i1 → c ≠ i2 → s.heap.get? c = some o → h'.get? c = some o) → (∃ o, h'.get? e = some o ∧ o.cls = .type "StopIteration") →
        wpAny (model X.prog X.w) X.A (do if ← isInstance (.ref e) (.type "StopIteration") then pure none else throw (.ref e) : Sem (Option Value)) (fun r s1 => r = none ∧ Inv X pins σ H s1) E { s with heap := h', toks := tk } := fun h' tk e hk ⟨o, ho, hc⟩ => by
      refine wpAny_bind (wpAny_isInstance (T := "StopIteration") (b := true) ⟨o, ho, hc⟩ isSubtype_stop ?_)
      exact wpAny_pure ⟨rfl, fin h' tk hk⟩
    cases b with
    | true =>
      have e := hs rfl
      have e1 : i = n1 := by omega
      have e2 : i = n2 := by omega
      rw [← e1] at D1
      rw [← e2] at D2
      exact zipS_next_end hd D.S D1 D2 hz hTI hTO (a1 _ h1) (a2 _ h2) stop
    | false => exact zipD2_next_end D.S D1 D2 hz hTI hTO (a1 _ h1) (a2 _ h2) l1 l2 he stop
  self := fun A i s Q E st h => pyIter_zipB st.1 h
end HxZ

set_option Elab.async false
set_option linter.all false
set_option maxRecDepth 100000
set_option autoImplicit false
/-! Z2: zip, enumerate, reversed, dicts: what a loop is given. -/
namespace HxZ
open PySem PySem.Spec L2 PyProof.Rows
section
variable {X : Cx} {pins : List (Addr × Obj)} {σ : L2.St} {H : Hp} {s : Shared}
theorem src_begins (I : Inv X pins σ H s) {u : Src} {n : Nat} (ok : u.ok X.K n H) {v : Value} (r : RelV u.v v) : ∃ t HH, Begins v (u.obj t) HH ∧ HH s.heap ∧ ∀ a ∈ u.un, a < s.heap.objs.size := by
  cases u with
  | lst a =>
    obtain ⟨xs, ok, _⟩ := ok
    obtain ⟨its, rv, p, _⟩ := I.list ok
    cases r
    exact ⟨0, _, begins_list a its.toArray, p.isList, fun b hb => by rw [List.mem_singleton.mp hb]; obtain ⟨o, ho, _⟩ := p.isList; exact Heap.lt_size ho⟩
  | tup a =>
    obtain ⟨xs, ok, _⟩ := ok
    obtain ⟨its, rv, p, _⟩ := I.tuple ok
    cases r
    have p' : s.heap.IsTuple a its.toArray := p
    exact ⟨0, _, begins_tuple a its.toArray, p', fun b hb => by rw [List.mem_singleton.mp hb]; obtain ⟨o, ho, _⟩ := p'; exact Heap.lt_size ho⟩
  | str x =>
    obtain ⟨t, rfl⟩ := r
    exact ⟨t, _, begins_text x t, trivial, fun b hb => by cases hb⟩
theorem ne' {a b : Nat} (h : a < b ∨ b < a) : a ≠ b := by omega
theorem out' {u : Src} {n k : Nat} {it : Nat} (h : ∀ a ∈ u.un, a < n) (hk : n ≤ k) (hi : it < k ∨ k < it) : (show Addr from k) ∉ (show Addr from it) :: u.un := fun z => by
  rcases List.mem_cons.mp z with e | e
  · exact ne' hi (show (it : Nat) = k from e.symm)
  · exact Nat.lt_irrefl _ (Nat.lt_of_lt_of_le (show (k : Nat) < n from h _ e) hk)
theorem apart_new {u1 u2 : Src} {n : Nat} (h1 : ∀ a ∈ u1.un, a < n) (h2 : ∀ a ∈ u2.un, a < n) : Apart (n + 4) (n + 2) (n + 3) n (n + 1) u1 u2 where
  S := ⟨ne' (by omega), ne' (by omega), ne' (by omega), ne' (by omega), List.mem_cons_self, out' h1 (by omega) (by omega), out' h1 (by omega) (by omega), ne' (by omega), List.mem_cons_self, out' h2 (by omega) (by omega), out' h2 (by omega) (by omega), out' h2 (by omega) (by omega), out' h1 (by omega) (by omega)⟩
  n1 := fun a ha e => Nat.lt_irrefl _ (show (n : Nat) < n from e ▸ h1 a ha)
  n2 := fun a ha e => Nat.lt_irrefl n (Nat.lt_trans (Nat.lt_succ_self n) (show (n + 1 : Nat) < n from e ▸ h2 a ha))
end
def iZipG (K : PySem.W.Frag) (b : Bool) (ta : TA) : TI := fun σ H R => ta σ H fun vs H1 => ∃ (u1 u2 : Src) (n1 n2 : Nat), vs = [u1.v, u2.v] ∧ u1.ok K n1 H1 ∧ u2.ok K n2 H1 ∧ (b = true → n1 = n2) ∧ R (ItG K b u1 u2 n1 n2) H1
section
variable {X : Cx}
theorem fresh5 {pins : List (Addr × Obj)} {σ : L2.St} {H : Hp} {s : Shared} (I : Inv X pins σ H s) : ∀ c, c ∈ [s.heap.objs.size + 4, s.heap.objs.size + 2, s.heap.objs.size + 3, s.heap.objs.size, s.heap.objs.size + 1] → FpOk X pins H c := fun c hcm => by
  have e' : c = s.heap.objs.size + 4 ∨ c = s.heap.objs.size + 2 ∨ c = s.heap.objs.size + 3 ∨ c = s.heap.objs.size ∨ c = s.heap.objs.size + 1 := by simpa using hcm
  have hle : s.heap.objs.size ≤ c := by omega
  exact I.fpOk hle (I.hok.fresh hle)
theorem pi_zipN {e e2 : Expr} {ta : TA} {p pos tpos : Pos} {elts : List Expr} {kk : Nat} (hg : Gl X "zip") (hm : X.mg "zip" = none) (ha : PA X [e, e2] ta)
    (hs : starEach [e, e2] X.env = (false, eval e X.env) :: starEach [e2] X.env) (hpl : (backTo pos (starEach [e2] X.env)).any (·.1) = false) :
    PI X (.Tuple elts kk tpos) (.Call (.Name "zip" p) [e, e2] [] pos) (iZipG X.K false ta) := by
  refine ⟨fun pins s σ H R I h => ?_⟩
  refine Call_ (ld_blt I hg hm PyProof.Rows.boot_zip (PyProof.Rows.callWith_type1 (thn (ha.run pos pins s σ H _ I h) fun us s1 ⟨vs, H1, I1, r1, q1⟩ => ?_) hs hpl))
  obtain ⟨u1, u2, n1, n2, ex, k1, k2, hl, q⟩ := q1
  subst ex
  cases r1 with
  | cons r rr =>
    cases rr with
    | cons r' rr =>
      cases rr
      obtain ⟨t1, H1', B1, b1, l1⟩ := src_begins I1 k1 r
      obtain ⟨t2, H2', B2, b2, l2⟩ := src_begins I1 k2 r'
      refine zip_begins2 B1 B2 b1 b2 fun h' hz hTI hTO o1 o2 hsz hk => pyIter_zipB (b := false) hz ?_
      exact ⟨s1.heap.objs.size + 4, [s1.heap.objs.size + 4, s1.heap.objs.size + 2, s1.heap.objs.size + 3, s1.heap.objs.size, s1.heap.objs.size + 1], _, _, H1, rfl, I1.kept (t' := s1.toks) hk, turn_zipG (b := false) (t1 := t1) (t2 := t2) (apart_new l1 l2),
        ⟨hz, hTI, ⟨_, _, hTO⟩, Src.st_obj o1, Src.st_obj o2⟩, fresh5 I1, q⟩
theorem callWith_typeKw {M : Model} {A : Around} {E : Value → Shared → Prop} {s : Shared} {pos : Pos} {T : String} {env : PySem.Env} {e : Expr} {rest : List Expr} {kws : List Keyword} {Q : Value → Shared → Prop}
    (h : wpAny M A (spliced (backTo pos (starEach (e :: rest) env))) (fun vs s₁ => wpAny M A (evalAll ((backToKw pos (keywordEach kws env)).map (·.2)))
      (fun kvs s₂ => wpAny M A (call (.type T) vs (((backToKw pos (keywordEach kws env)).filterMap (·.1)).zip kvs)) Q E s₂) E s₁) E s)
    (he : backTo pos (starEach (e :: rest) env) = (false, eval e env) :: backTo pos (starEach rest env))
    (hplain : (backTo pos (starEach (e :: rest) env)).any (·.1) = false)
    (hall : (backToKw pos (keywordEach kws env)).all (·.1.isSome) = true)
    (hkw : (backToKw pos (keywordEach kws env)).any (·.1.isNone) = false) :
    wpAny M A (callWith pos (.type T) [] (backTo pos (starEach (e :: rest) env)) (backToKw pos (keywordEach kws env))) Q E s := by
  unfold callWith
  rw [he] at h ⊢
  refine wpAny_bind (wpAny_holding (wpAny_mono (PyProof.Rows.evalArgs_kwB (Q := fun a s₁ => wpAny M A (call (.type T) a.pos a.kw) Q E s₁) hall h) (fun a s₁ h₁ => wpAny_bind (wpAny_standAt ?_)) fun _ _ x => x))
  rw [← he]
  simp only [hplain, hkw, Bool.or_false]
  refine wpAny_bind (wpAny_pure ?_)
  exact wpAny_bind (wpAny_mono h₁ (fun r s₂ hr => wpAny_bind (wpAny_holding (wpAny_point (wpAny_pure hr)))) fun _ _ x => x)
theorem pi_zipS {e e2 : Expr} {ta : TA} {p pos tpos : Pos} {elts : List Expr} {kk : Nat} {j : Nat} {q kp : Pos} (hg : Gl X "zip") (hm : X.mg "zip" = none) (ha : PA X [e, e2] ta)
    (hs : backTo pos (starEach [e, e2] X.env) = (false, eval e X.env) :: backTo pos (starEach [e2] X.env)) (hpl : (backTo pos (starEach [e, e2] X.env)).any (·.1) = false) :
    PI X (.Tuple elts kk tpos) (.Call (.Name "zip" p) [e, e2] [⟨some "strict", .Constant (.bool true) j q, kp⟩] pos) (iZipG X.K true ta) := by
  refine ⟨fun pins s σ H R I h => ?_⟩
  refine wpAny_Call_Name_kw (ld_blt I hg hm PyProof.Rows.boot_zip ?_)
  refine callWith_typeKw (thn (ha.run pos pins s σ H _ I h) fun us s1 ⟨vs, H1, I1, r1, q1⟩ => ?_) hs hpl rfl rfl
  have kw : PK X [⟨some "strict", .Constant (.bool true) j q, kp⟩] (tCons (tC (.bl true)) tNil) := pk_cons pe_bl pk_nil
  refine thn (kw.run pos pins s1 σ H1 (fun zs H2 => zs = [.bl true] ∧ H2 = H1) I1 ⟨rfl, rfl⟩) fun ws s2 ⟨zs, H2, I2, r2, ez, eh⟩ => ?_
  subst ez eh
  have ew : ws = [.bool true] := by
    cases r2 with
    | cons a b => cases b; cases a; rfl
  subst ew
  show wpAny _ _ (call (.type "zip") us [(("strict" : Str), .bool true)]) _ _ _
  obtain ⟨u1, u2, n1, n2, ex, k1, k2, hl, q⟩ := q1
  subst ex
  cases r1 with
  | cons r rr =>
    cases rr with
    | cons r' rr =>
      cases rr
      obtain ⟨t1, H1', B1, b1, l1⟩ := src_begins I2 k1 r
      obtain ⟨t2, H2', B2, b2, l2⟩ := src_begins I2 k2 r'
      refine zip_beginsS B1 B2 b1 b2 fun h' hz hTI hTO o1 o2 hsz hk => pyIter_zipB (b := true) hz ?_
      exact ⟨s2.heap.objs.size + 4, [s2.heap.objs.size + 4, s2.heap.objs.size + 2, s2.heap.objs.size + 3, s2.heap.objs.size, s2.heap.objs.size + 1], _, _, _, rfl, I2.kept (t' := s2.toks) hk, turn_zipG (b := true) (t1 := t1) (t2 := t2) (apart_new l1 l2),
        ⟨hz, hTI, ⟨_, _, hTO⟩, Src.st_obj o1, Src.st_obj o2⟩, fresh5 I2, q⟩
/-! ### dicts, locked where the loop begins -/
def iKeysF (td : TE) : TI := fun σ H R => td σ H fun x H1 => ∃ d kvs, x = .ref d ∧ ((H1 d = some (.dK kvs) ∧ ∀ o, R (Itk d o kvs) (upd H1 d (.frz o (.dK kvs)))) ∨ ∃ o, H1 d = some (.frz o (.dK kvs)) ∧ R (Itk d o kvs) H1)
def iValsF (td : TE) : TI := fun σ H R => td σ H fun x H1 => ∃ d kvs, x = .ref d ∧ ((H1 d = some (.dK kvs) ∧ ∀ o, R (Itd d o kvs) (upd H1 d (.frz o (.dK kvs)))) ∨ ∃ o, H1 d = some (.frz o (.dK kvs)) ∧ R (Itd d o kvs) H1)
def iItemsF (td : TE) : TI := fun σ H R => td σ H fun x H1 => ∃ d kvs, x = .ref d ∧ ((H1 d = some (.dK kvs) ∧ ∀ o, R (Iti d o kvs) (upd H1 d (.frz o (.dK kvs)))) ∨ ∃ o, H1 d = some (.frz o (.dK kvs)) ∧ R (Iti d o kvs) H1)
/-- an expression whose dict is locked from now on -/
def tLk (td : TE) : TE := fun σ H Q => td σ H fun x H1 => ∃ d kvs, x = .ref d ∧ ((H1 d = some (.dK kvs) ∧ ∀ o, Q x (upd H1 d (.frz o (.dK kvs)))) ∨ ∃ o, H1 d = some (.frz o (.dK kvs)) ∧ Q x H1)
theorem pe_lk {e : Expr} {td : TE} (h : PE X e td) : PE X e (tLk td) := by
  refine ⟨fun pins s σ H Q I hw => ?_⟩
  refine thn (h.run pins s σ H _ I hw) fun v s1 ⟨x, H1, I1, r, d, kvs, ex, q⟩ => ?_
  rcases q with ⟨hd, q⟩ | ⟨o, hd, q⟩
  · obtain ⟨od, I2⟩ := I1.lock hd trivial
    exact ⟨x, _, I2, r, q od⟩
  · exact ⟨x, _, I1, r, q⟩
theorem TI.mono' {X : Cx} {tg e : Expr} {w1 w2 : TI} (h1 : PI X tg e w1) (k : ∀ σ H R, w2 σ H R → w1 σ H R) : PI X tg e w2 := ⟨fun pins s σ H R I h => h1.run pins s σ H R I (k _ _ _ h)⟩
end
end HxZ

set_option Elab.async false
set_option linter.all false
set_option maxRecDepth 100000
set_option autoImplicit false
/-! Y1: what loops are given: zip, enumerate, reversed, dicts. -/
namespace Hx
open PySem PySem.Spec L2
open PyProof.Rows hiding St
/-! ### zip -/
def chars (x : Str) : List D := x.cps.toList.map fun c => D.str ⟨#[c]⟩
def seqD : D → Option (List D)
  | .con .lst ds => some ds
  | .con .tup ds => some ds
  | .con .frl ds => some ds
  | .str x => some (chars x)
  | _ => none
@[simp] theorem seqD_lst {ds : List D} : seqD (.con .lst ds) = some ds := rfl
@[simp] theorem seqD_tup {ds : List D} : seqD (.con .tup ds) = some ds := rfl
@[simp] theorem seqD_frl {ds : List D} : seqD (.con .frl ds) = some ds := rfl
@[simp] theorem seqD_str {x : Str} : seqD (.str x) = some (chars x) := rfl
def srcOf : V → D → HxZ.Src
  | .ref a, .con .tup _ => .tup a
  | .ref a, _ => .lst a
  | _, .str x => .str x
  | _, _ => .str Str.empty
section
variable {G : Sg} {g : Gd} {env : Env} {st st' : Store} {T T' : List Tm} {σ : St} {H H' : Hp} {Fz : Addr → Prop} {am : List Addr}
theorem Shr.lst {p : Addr} {vs : List V} (h : Shr G Fz H p .lst vs) : SqL G.K H p vs := by
  obtain ⟨_, o, e1, e2⟩ := h
  have e2 : o = .lst vs := e2
  subst e2
  exact SqL.of e1
theorem Shr.frl {p : Addr} {vs : List V} (h : Shr G Fz H p .frl vs) : SqL G.K H p vs := by
  rcases h with ⟨_, h⟩ | (h | ⟨_, h⟩) | h
  · exact .inl h
  · cases h
  · cases h
  · exact .inr h
theorem srcRep {v : V} {d : D} {n : Fp} {xs : List D} (r : Rep G Fz am H .z v d n) (h : seqD d = some xs) : v = (srcOf v d).v ∧ (srcOf v d).ok G.K xs.length H ∧
    ∀ (i : Nat) (x : V) (dx : D), (srcOf v d).item G.K H i x → xs[i]? = some dx → Rep G Fz am H .z x dx (fun _ => 0) := by
  cases d with
  | str x =>
    cases h
    cases r with
    | sc s _ =>
      cases v with
      | str y =>
        have s : y = x := s
        subst s
        refine ⟨rfl, by show y.cps.size = (chars y).length; simp [chars], fun i z dx hi e => ?_⟩
        obtain ⟨c, e1, rfl⟩ := hi
        unfold chars at e
        rw [List.getElem?_map, Array.getElem?_toList, e1] at e
        cases e
        exact .sc rfl fun _ => rfl
      | _ => exact s.elim
  | con k ds =>
    have main : ∀ {p : Addr} {vs : List V}, Reps G Fz am H (zs ds.length) vs ds (fun _ => 0) → ∀ (i : Nat) (x : V) (dx : D), vs[i]? = some x → ds[i]? = some dx → Rep G Fz am H .z x dx (fun _ => 0) := fun s i x dx e1 e2 => reps_get s e1 e2
    cases k with
    | lst =>
      cases h
      cases r with
      | sc s _ => cases v <;> exact s.elim
      | zz a b c =>
        have q := a.lst
        exact ⟨rfl, ⟨_, q, b.len.2⟩, fun i x dx hi e => reps_get b (hi _ q) e⟩
    | frl =>
      cases h
      cases r with
      | sc s _ => cases v <;> exact s.elim
      | zz a b c =>
        have q := a.frl
        exact ⟨rfl, ⟨_, q, b.len.2⟩, fun i x dx hi e => reps_get b (hi _ q) e⟩
    | tup =>
      cases h
      cases r with
      | sc s _ => cases v <;> exact s.elim
      | zz a b c =>
        have q : SqT G.K H _ _ := a
        exact ⟨rfl, ⟨_, q, b.len.2⟩, fun i x dx hi e => reps_get b (hi _ q) e⟩
    | dik ks => cases h
    | dit ks => cases h
    | ins c => cases h
  | non => cases h
  | bl b => cases h
  | int b => cases h
  | fnv a j => cases h
  | ref i => cases h
/-- what two temporaries ahead hold -/
theorem Rl.two {v1 v2 : V} {d1 d2 : D} (R : Rl G g env st (⟨v1, .z, d1, false⟩ :: ⟨v2, .z, d2, false⟩ :: T) σ H) {P : Prop} (h : ∀ Fz am, Rep G Fz am H .z v1 d1 (fun _ => 0) → Rep G Fz am H .z v2 d2 (fun _ => 0) → P) : P := by
  obtain ⟨Fz, am, ne, nt, ns, h1, h2, h3, h4, h5⟩ := R
  cases h2 with
  | own k1 k2 k3 =>
    cases k2 with
    | own j1 j2 j3 => exact h Fz am (k1.fp k1.z0) (j1.fp j1.z0)
theorem Rl.twoB {v1 v2 : V} {d1 d2 : D} {B : (Addr → Prop) → List Addr → Prop} (R : Rl G g env st (⟨v1, .z, d1, false⟩ :: ⟨v2, .z, d2, false⟩ :: T) σ H) (h : ∀ Fz am, Rep G Fz am H .z v1 d1 (fun _ => 0) → Rep G Fz am H .z v2 d2 (fun _ => 0) → B Fz am) : RlB G g env st (⟨v1, .z, d1, false⟩ :: ⟨v2, .z, d2, false⟩ :: T) σ H B := by
  obtain ⟨Fz, am, ne, nt, ns, h1, h2, h3, h4, h5⟩ := R
  cases id h2 with
  | own k1 k2 k3 =>
    cases k2 with
    | own j1 j2 j3 => exact ⟨Fz, am, ne, nt, ns, h1, h2, h3, h4, h Fz am (k1.fp k1.z0) (j1.fp j1.z0)⟩
theorem rep_pair {p : Addr} {x y : V} {dx dy : D} (E : Ext Fz am H Fz am (upd H p (.tup [x, y]))) (h1 : Rep G Fz am H .z x dx (fun _ => 0)) (h2 : Rep G Fz am H .z y dy (fun _ => 0)) : Rep G Fz am (upd H p (.tup [x, y])) .z (.ref p) (.con .tup [dx, dy]) (fun _ => 0) :=
  rep_tup E (.cons (n1 := fun _ => 0) (n2 := fun _ => 0) h1 (.cons (n1 := fun _ => 0) (n2 := fun _ => 0) h2 (.nil fun _ => rfl) fun _ => rfl) fun _ => rfl)
theorem it_zip {b : Bool} {v1 v2 : V} {d1 d2 : D} {xs ys : List D} (e1 : seqD d1 = some xs) (e2 : seqD d2 = some ys) (hb : b = true → xs.length = ys.length) :
    ItOk G g (HxZ.ItG G.K b (srcOf v1 d1) (srcOf v2 d2) xs.length ys.length) [⟨v1, .z, d1, false⟩, ⟨v2, .z, d2, false⟩] (List.zipWith (fun x y => .con .tup [x, y]) xs ys) where
  nb := fun x hx => by
    rcases List.mem_cons.mp hx with e | e
    · rw [e]
    · rw [List.mem_singleton.mp e]
  go := fun i env st T σ H R hi => by
    rw [List.length_zipWith] at hi
    exact R.two (P := _) fun Fz am r1 r2 => ⟨(srcRep r1 e1).2.1, (srcRep r2 e2).2.1, by omega, by omega⟩
  yld := fun i env st T σ H x H' d R y e => by
    obtain ⟨Tp, x1, x2, rfl, hT, rfl, i1, i2⟩ := y
    rw [List.getElem?_zipWith] at e
    cases ex : xs[i]? with
    | none => rw [ex] at e; cases e
    | some dx =>
      cases ey : ys[i]? with
      | none => rw [ex, ey] at e; cases e
      | some dy =>
        rw [ex, ey] at e
        cases e
        refine RlB.new (B := fun Fz am => Rep G Fz am H .z x1 dx (fun _ => 0) ∧ Rep G Fz am H .z x2 dy (fun _ => 0)) (n := fun _ => 0) (Rl.twoB R fun Fz am r1 r2 => ⟨(srcRep r1 e1).2.2 i x1 dx i1 ex, (srcRep r2 e2).2.2 i x2 dy i2 ey⟩) (same_upd hT) newp0 fun Fz am E k => rep_pair E k.1 k.2
  stop := fun i env st T σ H R hi => by
    rw [List.length_zipWith] at hi
    exact R.two (P := _) fun Fz am r1 r2 => ⟨(srcRep r1 e1).2.1, (srcRep r2 e2).2.1, by omega, by omega, by omega, hb⟩
/-! ### enumerate, reversed -/
theorem Rl.oneD {v : V} {d : D} (R : Rl G g env st (⟨v, .z, d, false⟩ :: T) σ H) {P : Prop} (h : ∀ Fz am, Rep G Fz am H .z v d (fun _ => 0) → P) : P := by
  obtain ⟨Fz, am, ne, nt, ns, h1, h2, h3, h4, h5⟩ := R
  cases h2 with
  | own k1 k2 k3 => exact h Fz am (k1.fp k1.z0)
theorem Rl.oneB {v : V} {d : D} {B : (Addr → Prop) → List Addr → Prop} (R : Rl G g env st (⟨v, .z, d, false⟩ :: T) σ H) (h : ∀ Fz am, Rep G Fz am H .z v d (fun _ => 0) → B Fz am) : RlB G g env st (⟨v, .z, d, false⟩ :: T) σ H B := by
  obtain ⟨Fz, am, ne, nt, ns, h1, h2, h3, h4, h5⟩ := R
  cases id h2 with
  | own k1 k2 k3 => exact ⟨Fz, am, ne, nt, ns, h1, h2, h3, h4, h Fz am (k1.fp k1.z0)⟩
/-- a shared list, whatever it is -/
theorem sqRep {k : Kd} {ds : List D} {a : Addr} {n : Fp} (hk : k.seq = true) (nt : k ≠ .tup) (r : Rep G Fz am H .z (.ref a) (.con k ds) n) : ∃ vs, SqL G.K H a vs ∧ Reps G Fz am H (zs ds.length) vs ds (fun _ => 0) := by
  cases r with
  | sc s _ => exact s.elim
  | zz x b c =>
    cases k with
    | lst => exact ⟨_, x.lst, b.toz⟩
    | frl => exact ⟨_, x.frl, b.toz⟩
    | tup => exact absurd rfl nt
    | _ => cases hk
def enumD (i : Nat) : List D → List D
  | [] => []
  | d :: ds => .con .tup [.int (i : Int), d] :: enumD (i + 1) ds
theorem enumD_len : ∀ (ds : List D) (i : Nat), (enumD i ds).length = ds.length
  | [], _ => rfl
  | d :: ds, i => by simp [enumD, enumD_len ds]
theorem enumD_at : ∀ (ds : List D) (i j : Nat), (enumD i ds)[j]? = ds[j]?.map fun d => .con .tup [.int ((i + j : Nat) : Int), d]
  | [], i, j => by simp [enumD]
  | d :: ds, i, 0 => by simp [enumD]
  | d :: ds, i, j + 1 => by
    simp only [enumD, List.getElem?_cons_succ, enumD_at ds (i + 1) j]
    congr 1
    funext x
    have : i + 1 + j = i + (j + 1) := by omega
    rw [this]
theorem it_enum {a : Addr} {k : Kd} {ds : List D} (hk : k.seq = true) (nt : k ≠ .tup) : ItOk G g (Ite G.K a) [⟨.ref a, .z, .con k ds, false⟩] (enumD 0 ds) where
  nb := fun x hx => by rw [List.mem_singleton.mp hx]
  go := fun i env st T σ H R hi => by
    rw [enumD_len] at hi
    exact R.oneD (P := _) fun Fz am r => by
      obtain ⟨vs, e1, e2⟩ := sqRep hk nt r
      exact ⟨vs, _, e1, List.getElem?_eq_getElem (by rw [e2.len.2]; exact hi)⟩
  yld := fun i env st T σ H x H' d R y e => by
    obtain ⟨Tp, x1, rfl, hT, rfl, q⟩ := y
    rw [enumD_at] at e
    obtain ⟨dx, e1, e2⟩ := Option.map_eq_some_iff.mp e
    subst e2
    refine RlB.new (B := fun Fz am => Rep G Fz am H .z x1 dx (fun _ => 0)) (n := fun _ => 0) (Rl.oneB R fun Fz am r => ?_) (same_upd hT) newp0 fun Fz am E k => rep_pair E (.sc (by simp [Scal]) fun _ => rfl) k
    obtain ⟨vs, a1, a2⟩ := sqRep hk nt r
    exact reps_get a2 (q vs a1) e1
  stop := fun i env st T σ H R hi => by
    rw [enumD_len] at hi
    exact R.oneD (P := _) fun Fz am r => by
      obtain ⟨vs, e1, e2⟩ := sqRep hk nt r
      exact ⟨vs, e1, by rw [e2.len.2]; omega⟩
theorem it_rev {a : Addr} {k : Kd} {ds : List D} (hk : k.seq = true) (nt : k ≠ .tup) : ItOk G g (Itv G.K a ds.length) [⟨.ref a, .z, .con k ds, false⟩] ds.reverse where
  nb := fun x hx => by rw [List.mem_singleton.mp hx]
  go := fun i env st T σ H R hi => by
    rw [List.length_reverse] at hi
    exact R.oneD (P := _) fun Fz am r => by
      obtain ⟨vs, e1, e2⟩ := sqRep hk nt r
      exact ⟨hi, vs, _, e1, List.getElem?_eq_getElem (by rw [e2.len.2]; omega)⟩
  yld := fun i env st T σ H x H' d R y e => by
    obtain ⟨rfl, q⟩ := y
    have hi : i < ds.length := by have := (List.getElem?_eq_some_iff.mp e).1; rwa [List.length_reverse] at this
    rw [List.getElem?_reverse hi] at e
    exact R.pz fun Fz am ne nt' _ h2 => by
      cases h2 with
      | own k1 k2 k3 =>
        obtain ⟨vs, a1, a2⟩ := sqRep hk nt k1
        exact reps_get a2 (q vs a1) e
  stop := fun i env st T σ H R hi => by
    rw [List.length_reverse] at hi
    show _ ≤ i
    omega
theorem it_revT {a : Addr} {ds : List D} : ItOk G g (RT.ItvT G.K a ds.length) [⟨.ref a, .z, .con .tup ds, false⟩] ds.reverse where
  nb := fun x hx => by rw [List.mem_singleton.mp hx]
  go := fun i env st T σ H R hi => by
    rw [List.length_reverse] at hi
    obtain ⟨vs, e1, e2, _⟩ := tup_at R
    exact ⟨hi, vs, _, e1, List.getElem?_eq_getElem (by rw [e2]; omega)⟩
  yld := fun i env st T σ H x H' d R y e => by
    obtain ⟨rfl, q⟩ := y
    have hi : i < ds.length := by have := (List.getElem?_eq_some_iff.mp e).1; rwa [List.length_reverse] at this
    rw [List.getElem?_reverse hi] at e
    obtain ⟨vs, e1, e2, e3⟩ := tup_at R
    exact e3 _ x d (q vs e1) e
  stop := fun i env st T σ H R hi => by
    rw [List.length_reverse] at hi
    show _ ≤ i
    omega
end
/-! ### as rules -/
@[simp] def dZip (b : Bool) (as : DenL) : DenI := fun env st => match as env st with
  | .ok ts st1 => (match ts with
    | [(f1, b1, d1), (f2, b2, d2)] => bif (!b1 || f1.isz) && (!b2 || f2.isz) then (match seqD d1, seqD d2 with
      | some xs, some ys => bif !b || xs.length == ys.length then .ok (List.zipWith (fun x y => .con .tup [x, y]) xs ys) st1 else .stuck
      | _, _ => .stuck) else .stuck
    | _ => .stuck)
  | .exc c ds st1 => .exc c ds st1
  | .stuck => .stuck
@[simp] def dEnum (a : Den) : DenI := fun env st => match a env st with
  | .ok f b (.con .lst ds) st1 => bif !b || f.isz then .ok (enumD 0 ds) st1 else .stuck
  | .ok f b (.con .frl ds) st1 => bif !b || f.isz then .ok (enumD 0 ds) st1 else .stuck
  | .ok _ _ _ _ => .stuck
  | .exc c ds st1 => .exc c ds st1
  | .stuck => .stuck
@[simp] def dRev (a : Den) : DenI := fun env st => match a env st with
  | .ok f b (.con .lst ds) st1 => bif !b || f.isz then .ok ds.reverse st1 else .stuck
  | .ok f b (.con .frl ds) st1 => bif !b || f.isz then .ok ds.reverse st1 else .stuck
  | .ok f b (.con .tup ds) st1 => bif !b || f.isz then .ok ds.reverse st1 else .stuck
  | .ok _ _ _ _ => .stuck
  | .exc c ds st1 => .exc c ds st1
  | .stuck => .stuck
section
variable {S : Sx} {e a b tg : Expr} {es elts : List Expr} {da db : Den} {das : DenL} {pos p tpos : Pos} {kk : Nat}
theorem zip_post {G : Sg} {g : Gd} {env : Env} {st : Store} {T : List Tm} {σ : St} {W : WX} {b : Bool} {R0 : It → Hp → Prop} {ts : List (Fr × Bool × D)} {st1 : Store} (e1 : das env st = .ok ts st1) (h : PostI G g env T σ W R0 (dZip b das env st)) :
    ∀ vs H1, vs.length = ts.length → Rl G g env st1 (mkT vs ts ++ T) σ H1 → ∃ (u1 u2 : HxZ.Src) (n1 n2 : Nat), vs = [u1.v, u2.v] ∧ u1.ok G.K n1 H1 ∧ u2.ok G.K n2 H1 ∧ (b = true → n1 = n2) ∧ R0 (HxZ.ItG G.K b u1 u2 n1 n2) H1 := by
  unfold dZip at h
  rw [e1] at h
  intro vs H1 hl R1
  dsimp only at h
  split at h
  · rename_i f1 b1 d1 f2 b2 d2
    obtain ⟨hc, h⟩ := bifT h id
    rw [Bool.and_eq_true] at hc
    split at h
    · rename_i xs ys ex ey
      obtain ⟨hb, h⟩ := bifT h id
      have hb' : b = true → xs.length = ys.length := fun z => by
        rw [z] at hb
        simpa using hb
      match vs, hl with
      | [v, w], _ =>
        have R2 : Rl G g env st1 (⟨v, f1, d1, b1⟩ :: ⟨w, f2, d2, b2⟩ :: T) σ H1 := R1
        have R3 := (R2.unb hc.1).frz
        have R4 : Rl G g env st1 (⟨w, f2, d2, b2⟩ :: ⟨v, .z, d1, false⟩ :: T) σ H1 := RlB.mid (l := [_]) R3
        have R5 := (R4.unb hc.2).frz
        have R6 : Rl G g env st1 (⟨v, .z, d1, false⟩ :: ⟨w, .z, d2, false⟩ :: T) σ H1 := RlB.mid (l := [_]) R5
        have q := R6.two (P := v = (srcOf v d1).v ∧ w = (srcOf w d2).v ∧ (srcOf v d1).ok G.K xs.length H1 ∧ (srcOf w d2).ok G.K ys.length H1) fun Fz am r1 r2 => ⟨(srcRep r1 ex).1, (srcRep r2 ey).1, (srcRep r1 ex).2.1, (srcRep r2 ey).2.1⟩
        exact ⟨srcOf v d1, srcOf w d2, xs.length, ys.length, by rw [← q.1, ← q.2.1], q.2.2.1, q.2.2.2, hb', h _ H1 [⟨v, .z, d1, false⟩, ⟨w, .z, d2, false⟩] g .refl (it_zip ex ey hb') R6⟩
    · exact h.elim
  · exact h.elim
theorem di_zip (ha : DA S [a, b] das) (hs : ∀ x q, a ≠ .Starred x q) (hs2 : ∀ x q, b ≠ .Starred x q) (hg : S.sc.names.lookup ("zip" : Str) = some .globalImplicit) (hm : S.mg "zip" = none) : DI S (.Tuple elts kk tpos) (.Call (.Name "zip" p) [a, b] [] pos) (dZip false das) := fun W => by
  obtain ⟨t, pt, q⟩ := ha W
  refine ⟨HxZ.iZipG S.G.K false t, fun X hX tk => by rw [← hX.K]; exact HxZ.pi_zipN (show X.env.scope.names.lookup ("zip" : Str) = some .globalImplicit by rw [hX.sc]; exact hg) (by rw [hX.mg]; exact hm) (pt X hX tk) (by rw [starNo hs, starNo hs2]) (by rw [starNo hs2]; rfl), fun g env st T σ H R0 hT R h => ?_⟩
  refine q g env st T σ H _ hT R ?_
  cases e : das env st with
  | stuck => unfold dZip at h; rw [e] at h; exact h.elim
  | exc c ds st1 => unfold dZip at h; rw [e] at h; exact h
  | ok ts st1 => exact zip_post e h
theorem di_zipS {j : Nat} {q kp : Pos} (ha : DA S [a, b] das) (hs : ∀ x q, a ≠ .Starred x q) (hs2 : ∀ x q, b ≠ .Starred x q) (hg : S.sc.names.lookup ("zip" : Str) = some .globalImplicit) (hm : S.mg "zip" = none) :
    DI S (.Tuple elts kk tpos) (.Call (.Name "zip" p) [a, b] [⟨some "strict", .Constant (.bool true) j q, kp⟩] pos) (dZip true das) := fun W => by
  obtain ⟨t, pt, q⟩ := ha W
  refine ⟨HxZ.iZipG S.G.K true t, fun X hX tk => by rw [← hX.K]; exact HxZ.pi_zipS (show X.env.scope.names.lookup ("zip" : Str) = some .globalImplicit by rw [hX.sc]; exact hg) (by rw [hX.mg]; exact hm) (pt X hX tk) (by rw [starNo hs, starNo hs2]; rfl) (by rw [starNo hs, starNo hs2]; rfl), fun g env st T σ H R0 hT R h => ?_⟩
  refine q g env st T σ H _ hT R ?_
  cases e : das env st with
  | stuck => unfold dZip at h; rw [e] at h; exact h.elim
  | exc c ds st1 => unfold dZip at h; rw [e] at h; exact h
  | ok ts st1 => exact zip_post e h
theorem frlOpen {G : Sg} {g : Gd} {env : Env} {st : Store} {T : List Tm} {σ : St} {H : Hp} {k : Kd} {v : V} {ds : List D} (hk : k.seq = true) (nt : k ≠ .tup) (R : Rl G g env st (⟨v, .z, .con k ds, false⟩ :: T) σ H) : ∃ a vs, v = .ref a ∧ SqL G.K H a vs ∧ vs.length = ds.length :=
  R.oneD (P := _) fun Fz am r => by
    have hv : ∃ a, v = .ref a := by
      cases r with
      | sc s _ => cases v <;> exact s.elim
      | zz a b c => exact ⟨_, rfl⟩
    obtain ⟨a, rfl⟩ := hv
    obtain ⟨vs, e1, e2⟩ := sqRep hk nt r
    exact ⟨a, vs, rfl, e1, e2.len.2⟩
theorem di_enum (ha : DE S a da) (hs : ∀ x q, a ≠ .Starred x q) (hg : S.sc.names.lookup ("enumerate" : Str) = some .globalImplicit) (hm : S.mg "enumerate" = none) : DI S (.Tuple elts kk tpos) (.Call (.Name "enumerate" p) [a] [] pos) (dEnum da) := fun W => by
  obtain ⟨t, pt, q⟩ := ha W
  refine ⟨iEnum S.G.K (tCons t tNil), fun X hX tk => by rw [← hX.K]; exact pi_enum (show X.env.scope.names.lookup ("enumerate" : Str) = some .globalImplicit by rw [hX.sc]; exact hg) (by rw [hX.mg]; exact hm) (pa_cons (pt X hX tk) pa_nil (starNo hs)) (by rw [starNo hs]; rfl), fun g env st T σ H R0 hT R h => q g env st T σ H _ hT R ?_⟩
  have main : ∀ {k : Kd} {ds : List D} {f : Fr} {b : Bool} {st1 : Store}, k.seq = true → k ≠ .tup → PostI S.G g env T σ W R0 (bif !b || f.isz then .ok (enumD 0 ds) st1 else .stuck) → PostE S.G g env T σ W (fun x H1 => ∃ a xs, [x] = [V.ref a] ∧ SqL S.G.K H1 a xs ∧ R0 (Ite S.G.K a) H1) (.ok f b (.con k ds) st1) := fun {k ds f b st1} hk nt h => by
    obtain ⟨hc, h⟩ := bifT h id
    intro v H1 R1
    have R2 := (R1.unb hc).frz
    obtain ⟨a, vs, rfl, e1, e2⟩ := frlOpen hk nt R2
    exact ⟨a, vs, rfl, e1, h _ H1 _ g .refl (it_enum hk nt) R2⟩
  unfold dEnum at h
  cases e : da env st with
  | stuck => rw [e] at h; exact h.elim
  | exc c ds st1 => rw [e] at h; exact h
  | ok f b d st1 =>
    rw [e] at h
    cases d with
    | con k ds =>
      cases k with
      | lst => exact main rfl (by decide) h
      | frl => exact main rfl (by decide) h
      | _ => exact h.elim
    | _ => exact h.elim
theorem di_rev (ha : DE S a da) (hs : ∀ x q, a ≠ .Starred x q) (hg : S.sc.names.lookup ("reversed" : Str) = some .globalImplicit) (hm : S.mg "reversed" = none) : DI S tg (.Call (.Name "reversed" p) [a] [] pos) (dRev da) := fun W => by
  obtain ⟨t, pt, q⟩ := ha W
  refine ⟨RT.iRevA S.G.K t, fun X hX tk => by rw [← hX.K]; exact RT.pi_revA (show X.env.scope.names.lookup ("reversed" : Str) = some .globalImplicit by rw [hX.sc]; exact hg) (by rw [hX.mg]; exact hm) (pt X hX tk) (starNo hs), fun g env st T σ H R0 hT R h => q g env st T σ H _ hT R ?_⟩
  have main : ∀ {k : Kd} {ds : List D} {f : Fr} {b : Bool} {st1 : Store}, k.seq = true → k ≠ .tup → PostI S.G g env T σ W R0 (bif !b || f.isz then .ok ds.reverse st1 else .stuck) → PostE S.G g env T σ W (fun x H1 => ∃ (a : Addr) (xs : List V), x = .ref a ∧ ((SqL S.G.K H1 a xs ∧ R0 (Itv S.G.K a xs.length) H1) ∨ (SqT S.G.K H1 a xs ∧ R0 (RT.ItvT S.G.K a xs.length) H1))) (.ok f b (.con k ds) st1) := fun {k ds f b st1} hk nt h => by
    obtain ⟨hc, h⟩ := bifT h id
    intro v H1 R1
    have R2 := (R1.unb hc).frz
    obtain ⟨a, vs, rfl, e1, e2⟩ := frlOpen hk nt R2
    exact ⟨a, vs, rfl, .inl ⟨e1, by rw [e2]; exact h _ H1 _ g .refl (it_rev hk nt) R2⟩⟩
  unfold dRev at h
  cases e : da env st with
  | stuck => rw [e] at h; exact h.elim
  | exc c ds st1 => rw [e] at h; exact h
  | ok f b d st1 =>
    rw [e] at h
    cases d with
    | con k ds =>
      cases k with
      | lst => exact main rfl (by decide) h
      | frl => exact main rfl (by decide) h
      | tup =>
        obtain ⟨hc, h⟩ := bifT h id
        intro v H1 R1
        have R2 := (R1.unb hc).frz
        obtain ⟨a, vs, f0, rfl, e2, e3, _⟩ := Rl.open R2
        exact ⟨a, vs, rfl, .inr ⟨e2, by rw [e3]; exact h _ H1 _ g .refl it_revT R2⟩⟩
      | _ => exact h.elim
    | _ => exact h.elim
end
end Hx

set_option Elab.async false
set_option linter.all false
set_option maxRecDepth 100000
set_option autoImplicit false
/-! Y2: loops over dicts. -/
namespace Hx
open PySem PySem.Spec L2
open PyProof.Rows hiding St
section
variable {G : Sg} {g : Gd} {env : Env} {st st' : Store} {T T' : List Tm} {σ : St} {H H' : Hp} {Fz : Addr → Prop} {am : List Addr} {p : Addr} {u : HO} {o : Obj} {t : Fp} {B B' : (Addr → Prop) → List Addr → Prop}
theorem Ext.lock (e : H p = some u) (d : dkO u = true) : Ext Fz am H Fz am (upd H p (.frz o u)) := by
  have ne : ∀ q v, H q = some v → dkO v = false → q ≠ p := fun q v h n z => by
    subst z
    rw [e] at h; cases h
    rw [d] at n; cases n
  refine ⟨fun _ h => h, fun _ _ h => h, fun q v _ h => ?_, fun q v _ h n => by rw [upd_ne (ne q v h n)]; exact h, fun q xs h => ?_⟩
  · by_cases c : q = p
    · subst c
      rcases h with h | ⟨o', h⟩
      · rw [e] at h; cases h
        exact .inr ⟨o, upd_same⟩
      · exact absurd rfl (ne q _ h rfl)
    · exact h.imp (fun h => by rw [upd_ne c]; exact h) fun ⟨o', h⟩ => ⟨o', by rw [upd_ne c]; exact h⟩
  · exact h.imp (fun h => by rw [upd_ne (ne q _ h rfl)]; exact h) fun ⟨o', h⟩ => ⟨o', by rw [upd_ne (ne q _ h rfl)]; exact h⟩
theorem Rel0.lock (r : Rel0 G g Fz am H t) (z : Fz p) (e : H p = some u) (d : dkO u = true) : Rel0 G g Fz am (upd H p (.frz o u)) t := by
  have ne : ∀ q v, H q = some v → dkO v = false → q ≠ p := fun q v h n z => by
    subst z
    rw [e] at h; cases h
    rw [d] at n; cases n
  have no : ∀ q, 0 < t q → q ≠ p := fun q hq c => r.nz q hq (by rw [c]; exact z)
  refine ⟨r.n1, r.nz, fun q hq => ?_, fun q hq => ?_, fun q w nt e0 na => ?_, r.f, r.z0, r.z1, r.a, fun x hx => ?_, r.hm, fun q w t e0 na => ?_⟩
  · rw [upd_ne (no q hq)]; exact r.th q hq
  · by_cases c : q = p
    · subst c; exact ⟨_, upd_same, rfl⟩
    · rw [upd_ne c]; exact r.zt q hq
  · by_cases c : q = p
    · subst c
      rcases r.k q w nt e0 na with h | ⟨_, dw, ob, h⟩
      · rw [e] at h; cases h
        refine .inr ⟨?_, d, o, upd_same⟩
        rcases r.z1 q z with y | y | y
        · exact y
        · exact absurd y na
        · rw [y] at e0; cases e0
      · exact absurd rfl (ne q _ h rfl)
    · exact (r.k q w nt e0 na).map fun v _ h => by rw [upd_ne c]; exact h
  · obtain ⟨ps, a1, a2, a3⟩ := r.tb x hx
    refine ⟨ps, by rw [upd_ne (ne _ _ a1 rfl)]; exact a1, a2, fun p' cv z => ?_⟩
    obtain ⟨c, e1, e2⟩ := a3 p' cv z
    refine ⟨c, e1, ?_⟩
    rw [upd_ne (ne _ _ e2 (by unfold LamX.CodeO; rfl))]; exact e2
  · obtain ⟨o', e1, t1⟩ := r.kt q w t e0 na
    refine ⟨o', ?_, t1⟩
    rw [upd_ne (ne _ _ e1 (by cases o' <;> first | rfl | cases t1))]; exact e1
theorem Rl.lock (R : RlB G g env st T σ H B) (hz : ∀ Fz am, B Fz am → Fz p) (e : H p = some u) (d : dkO u = true) : RlB G g env st T σ (upd H p (.frz o u)) B := by
  obtain ⟨Fz, am, ne, nt, ns, h1, h2, h3, h4, h5⟩ := R
  have z := hz _ _ h5
  have E : Ext Fz am H Fz am (upd H p (.frz o u)) := Ext.lock e d
  have ow : ∀ q w, 0 < ne q + nt q + ns q → H q = some w → upd H p (.frz o u) q = some w := fun q w hq h => by
    rw [upd_ne fun c => h4.nz q hq (by rw [c]; exact z)]; exact h
  exact ⟨Fz, am, ne, nt, ns, h1.ext E fun q w hq h => ow q w (by omega) h, h2.ext E (fun q w hq h => ow q w (by omega) h) fun q w hq h => ow q w (by omega) h, Reps.ext E h3 fun q w hq h => ow q w (by omega) h, h4.lock z e d, h5⟩
/-- the ground, a dict of it locked -/
def lockG (g : Gd) (p : Addr) (w : HO) : Gd := ⟨upd g.H0 p w, fun q => g.A0 q ∧ q ≠ p, fun q => g.F0 q ∨ q = p, g.am0⟩
theorem Rel0.lockG (r : Rel0 G g Fz am H t) (z : Fz p) (e : H p = some (.frz o u)) (du : dkO u = true) : Rel0 G (lockG g p (.frz o u)) Fz am H t ∧ Gle G (Hx.lockG g p (.frz o u)) g := by
  have c1 := r.z1 p z
  have nt0 : ∀ w, g.H0 p = some w → isTbl w = false := fun w hw => by
    by_cases a : g.A0 p
    · obtain ⟨w', e', k⟩ := r.hm.a p a
      rw [hw] at e'; cases e'
      exact k.nt
    · cases ht : isTbl w with
      | false => rfl
      | true =>
        obtain ⟨o', e1, t1⟩ := r.kt p w ht hw a
        rw [e] at e1; cases e1; cases t1
  have c2 : ∀ w, g.H0 p = some w → ¬ g.A0 p → (w = u ∧ g.F0 p) ∨ w = .frz o u := fun w hw a => by
    rcases r.k p w (nt0 w hw) hw a with h | ⟨f, dw, ob, h⟩
    · rw [e] at h; cases h; exact .inr rfl
    · rw [e] at h; cases h; exact .inl ⟨rfl, f⟩
  have frz_of : ∀ v, Rd H p v → v = u ∨ v = .frz o u := fun v h => by
    rcases h with h | ⟨o', h⟩
    · rw [e] at h; cases h; exact .inr rfl
    · rw [e] at h; cases h; exact .inl rfl
  have hm : Home G (Hx.lockG g p (.frz o u)) := by
    refine ⟨fun q hq => ?_, fun q hq => ?_, fun j l hl => ?_⟩
    · by_cases c : q = p
      · subst c
        exact ⟨fun z => z.2 rfl, _, upd_same, rfl⟩
      · rcases hq with hq | hq
        · obtain ⟨na, w, e1, e2⟩ := r.hm.fz q hq
          exact ⟨fun z => na z.1, w, by show upd g.H0 p _ q = _; rw [upd_ne c]; exact e1, e2⟩
        · exact absurd hq c
    · obtain ⟨w, e1, k⟩ := r.hm.a q hq.1
      exact ⟨w, by show upd g.H0 p _ q = _; rw [upd_ne hq.2]; exact e1, k⟩
    · obtain ⟨h1, h2⟩ := r.hm.lam j l hl
      refine ⟨fun x hx => ?_, h2.ext ⟨fun q h => .inl h, fun _ _ h => h, fun q v f h => ?_, fun q v f h n => ?_, fun q xs h => ?_⟩ fun q w hq => absurd hq (Nat.lt_irrefl 0)⟩
      · obtain ⟨a1, a3⟩ := h1 x hx
        refine ⟨a1, ?_⟩
        have c : x.1 ≠ p := fun c => by
          have na : ¬ g.A0 x.1 := fun q => by
            obtain ⟨w, e1, k⟩ := r.hm.a _ q
            rw [a3] at e1; cases e1
            exact ext_no a1 k
          have this := (r.k _ _ (ext_nt a1) a3 na).nd (ext_dk a1)
          rw [c, e] at this
          rw [← Option.some.inj this] at a1
          cases a1
        show upd g.H0 p _ x.1 = _
        rw [upd_ne c]; exact a3
      · by_cases c : q = p
        · subst c
          rcases frz_of v (r.ext.rd q v f h) with rfl | rfl
          · exact .inr ⟨o, upd_same⟩
          · exact .inl upd_same
        · exact h.imp (fun h => by show upd g.H0 p _ q = _; rw [upd_ne c]; exact h) fun ⟨o', h⟩ => ⟨o', by show upd g.H0 p _ q = _; rw [upd_ne c]; exact h⟩
      · by_cases c : q = p
        · subst c
          have := r.ext.st q v f h n
          rw [e] at this; cases this
          exact upd_same
        · show upd g.H0 p _ q = _; rw [upd_ne c]; exact h
      · have c : q ≠ p := fun c => by
          subst c
          rcases r.ext.tp q xs h with y | ⟨o', y⟩
          · rw [e] at y; cases y
          · rw [e] at y; cases y; cases du
        exact h.imp (fun h => by show upd g.H0 p _ q = _; rw [upd_ne c]; exact h) fun ⟨o', h⟩ => ⟨o', by show upd g.H0 p _ q = _; rw [upd_ne c]; exact h⟩
  refine ⟨⟨r.n1, r.nz, r.th, r.zt, fun q w nt e0 na => ?_, fun q hq => ?_, fun q hq => ?_, fun q hq => ?_, r.a, r.tb, hm, fun q w tw e0 na => ?_⟩, fun Fz' am' H' t' r' => ?_⟩
  · by_cases c : q = p
    · subst c
      have e0 : upd g.H0 q _ q = some w := e0
      rw [upd_same] at e0; cases e0
      exact .inl e
    · have e0 : upd g.H0 p _ q = some w := e0
      rw [upd_ne c] at e0
      exact (r.k q w nt e0 fun y => na ⟨y, c⟩).imp id fun ⟨f, x⟩ => ⟨.inl f, x⟩
  · have c : q ≠ p := fun c => r.nz q hq (by rw [c]; exact z)
    rcases r.f q hq with y | y
    · exact .inl ⟨y, c⟩
    · exact .inr (by show upd g.H0 p _ q = _; rw [upd_ne c]; exact y)
  · rcases hq with y | y
    · exact r.z0 q y
    · rw [y]; exact z
  · by_cases c : q = p
    · exact .inl (.inr c)
    · rcases r.z1 q hq with y | y | y
      · exact .inl (.inl y)
      · exact .inr (.inl ⟨y, c⟩)
      · exact .inr (.inr (by show upd g.H0 p _ q = _; rw [upd_ne c]; exact y))
  · by_cases c : q = p
    · subst c
      have e0 : upd g.H0 q _ q = some w := e0
      rw [upd_same] at e0; cases e0; cases tw
    · have e0 : upd g.H0 p _ q = some w := e0
      rw [upd_ne c] at e0
      exact r.kt q w tw e0 fun y => na ⟨y, c⟩
  · have hp : H' p = some (.frz o u) := (r'.k p (.frz o u) rfl upd_same fun y => y.2 rfl).nd rfl
    refine ⟨r'.n1, r'.nz, r'.th, r'.zt, fun q w nt e0 na => ?_, fun q hq => ?_, fun q hq => r'.z0 q (.inl hq), fun q hq => ?_, r'.a, r'.tb, r.hm, fun q w tw e0 na => ?_⟩
    · by_cases c : q = p
      · subst c
        rcases c2 w e0 na with ⟨rfl, f⟩ | rfl
        · exact .inr ⟨f, du, o, hp⟩
        · exact .inl hp
      · refine (r'.k q w nt (by show upd g.H0 p _ q = _; rw [upd_ne c]; exact e0) fun y => na y.1).imp id fun ⟨f, x⟩ => ⟨?_, x⟩
        rcases f with f | f
        · exact f
        · exact absurd f c
    · rcases r'.f q hq with y | y
      · exact .inl y.1
      · have y : upd g.H0 p _ q = none := y
        by_cases c : q = p
        · subst c; rw [upd_same] at y; cases y
        · rw [upd_ne c] at y; exact .inr y
    · by_cases c : q = p
      · subst c; exact c1
      · rcases r'.z1 q hq with y | y | y
        · rcases y with y | y
          · exact .inl y
          · exact absurd y c
        · exact .inr (.inl y.1)
        · have y : upd g.H0 p _ q = none := y
          rw [upd_ne c] at y; exact .inr (.inr y)
    · by_cases c : q = p
      · subst c
        rw [nt0 w e0] at tw; cases tw
      · exact r'.kt q w tw (by show upd g.H0 p _ q = _; rw [upd_ne c]; exact e0) fun y => na y.1
theorem Rl.locked {w : HO} (R : RlB G (lockG g p w) env st T σ H B) (nt : isTbl w = false) (nd : dkO w = false) : H p = some w := by
  obtain ⟨Fz, am, ne, nt', ns, h1, h2, h3, h4, h5⟩ := R
  exact (h4.k p w nt upd_same fun y => y.2 rfl).nd nd
theorem Rl.toLock (R : RlB G g env st T σ H B) (hz : ∀ Fz am, B Fz am → Fz p) (e : H p = some (.frz o u)) (du : dkO u = true) : RlB G (lockG g p (.frz o u)) env st T σ H B ∧ Gle G (lockG g p (.frz o u)) g := by
  obtain ⟨Fz, am, ne, nt', ns, h1, h2, h3, h4, h5⟩ := R
  obtain ⟨a, b⟩ := h4.lockG (hz _ _ h5) e du
  exact ⟨⟨Fz, am, ne, nt', ns, h1, h2, h3, a, h5⟩, b⟩
/-! ### what is in a locked dict -/
def keyD : Key → D
  | .inl i => .int i
  | .inr x => .str x
@[simp] theorem keyD_l {i : Int} : keyD (.inl i) = .int i := rfl
@[simp] theorem keyD_r {x : Str} : keyD (.inr x) = .str x := rfl
theorem scal_key {k : Key} : Scal G (kV k) (keyD k) := by cases k <;> rfl
theorem zip_inj {α β : Type} : ∀ {ks : List α} {vs ws : List β}, ks.length = vs.length → ks.length = ws.length → ks.zip vs = ks.zip ws → vs = ws
  | [], [], [], _, _, _ => rfl
  | k :: ks, v :: vs, w :: ws, h1, h2, e => by
    simp only [List.zip_cons_cons, List.cons.injEq, Prod.mk.injEq, true_and] at e
    rw [e.1, zip_inj (by simpa using h1) (by simpa using h2) e.2]
/-- of a shared dict -/
theorem Rep.dik {ks : List Key} {ds : List D} {v : V} {n : Fp} (r : Rep G Fz am H .z v (.con (.dik ks) ds) n) : ∃ p vs, v = .ref p ∧ Fz p ∧ Rd H p (.dK (ks.zip vs)) ∧ ks.length = vs.length ∧ Reps G Fz am H (zs ds.length) vs ds (fun _ => 0) := by
  cases r with
  | sc s _ => cases v <;> exact s.elim
  | zz a b c =>
    obtain ⟨z, o, e1, e2, e3⟩ := a
    subst e2
    exact ⟨_, _, rfl, z, e1, e3, b.toz⟩
theorem Rep.dikL {ks : List Key} {ds : List D} {p : Addr} {n : Fp} {vs : List V} (r : Rep G Fz am H .z (.ref p) (.con (.dik ks) ds) n) (e : H p = some (.frz o (.dK (ks.zip vs)))) (hl : ks.length = vs.length) : Reps G Fz am H (zs ds.length) vs ds (fun _ => 0) := by
  obtain ⟨p', vs', e1, _, e2, e3, e4⟩ := r.dik
  cases e1
  have : ks.zip vs' = ks.zip vs := by
    rcases e2 with e2 | ⟨o', e2⟩
    · rw [e] at e2; cases e2
    · rw [e] at e2
      injection e2 with e2
      injection e2 with _ e2
      injection e2 with e2
      exact e2.symm
  rw [← zip_inj e3 hl this]
  exact e4
theorem kvs_at {ks : List Key} {vs : List V} {i : Nat} {k : Key} {v : V} (e : (ks.zip vs)[i]? = some (k, v)) : ks[i]? = some k ∧ vs[i]? = some v := by
  rw [List.getElem?_zip_eq_some] at e
  exact e
section
variable {ks : List Key} {ds : List D} {vs : List V}
theorem it_keys (hl : ks.length = vs.length) : ItOk G (lockG g p (.frz o (.dK (ks.zip vs)))) (Itk p o (ks.zip vs)) [⟨.ref p, .z, .con (.dik ks) ds, false⟩] (ks.map keyD) where
  nb := fun x hx => by rw [List.mem_singleton.mp hx]
  go := fun i env st T σ H R hi => ⟨Rl.locked (B := fun _ _ => True) R rfl rfl, by rw [List.length_map] at hi; rw [List.length_zip]; omega⟩
  yld := fun i env st T σ H x H' d R y e => by
    obtain ⟨rfl, k, v, e1, rfl⟩ := y
    obtain ⟨a, b⟩ := kvs_at e1
    rw [List.getElem?_map, a] at e
    cases e
    exact R.scal scal_key
  stop := fun i env st T σ H R hi => ⟨Rl.locked (B := fun _ _ => True) R rfl rfl, by rw [List.length_map] at hi; rw [List.length_zip]; omega⟩
theorem it_vals (hl : ks.length = vs.length) (hd : ds.length = vs.length) : ItOk G (lockG g p (.frz o (.dK (ks.zip vs)))) (Itd p o (ks.zip vs)) [⟨.ref p, .z, .con (.dik ks) ds, false⟩] ds where
  nb := fun x hx => by rw [List.mem_singleton.mp hx]
  go := fun i env st T σ H R hi => ⟨Rl.locked (B := fun _ _ => True) R rfl rfl, by rw [List.length_zip]; omega⟩
  yld := fun i env st T σ H x H' d R y e => by
    obtain ⟨rfl, k, e1⟩ := y
    obtain ⟨a, b⟩ := kvs_at e1
    have hp := Rl.locked (B := fun _ _ => True) R rfl rfl
    exact R.pz fun Fz am ne nt _ h2 => by
      cases h2 with
      | own k1 k2 k3 => exact reps_get (k1.dikL hp hl) b e
  stop := fun i env st T σ H R hi => ⟨Rl.locked (B := fun _ _ => True) R rfl rfl, by rw [List.length_zip]; omega⟩
def itemsD (ks : List Key) (ds : List D) : List D := List.zipWith (fun k d => .con .tup [keyD k, d]) ks ds
theorem it_items (hl : ks.length = vs.length) (hd : ds.length = vs.length) : ItOk G (lockG g p (.frz o (.dK (ks.zip vs)))) (Iti p o (ks.zip vs)) [⟨.ref p, .z, .con (.dik ks) ds, false⟩] (itemsD ks ds) where
  nb := fun x hx => by rw [List.mem_singleton.mp hx]
  go := fun i env st T σ H R hi => ⟨Rl.locked (B := fun _ _ => True) R rfl rfl, by unfold itemsD at hi; rw [List.length_zipWith] at hi; rw [List.length_zip]; omega⟩
  yld := fun i env st T σ H x H' d R y e => by
    obtain ⟨Tp, k, v, e1, rfl, hT, rfl⟩ := y
    obtain ⟨a, b⟩ := kvs_at e1
    have hp := Rl.locked (B := fun _ _ => True) R rfl rfl
    unfold itemsD at e
    rw [List.getElem?_zipWith, a] at e
    cases ed : ds[i]? with
    | none => rw [ed] at e; cases e
    | some dx =>
      rw [ed] at e
      cases e
      refine RlB.new (B := fun Fz am => Rep G Fz am H .z v dx (fun _ => 0)) (n := fun _ => 0) (Rl.oneB R fun Fz am r => reps_get (r.dikL hp hl) b ed) (same_upd hT) newp0 fun Fz am E k1 => rep_pair E (.sc scal_key fun _ => rfl) k1
  stop := fun i env st T σ H R hi => ⟨Rl.locked (B := fun _ _ => True) R rfl rfl, by unfold itemsD at hi; rw [List.length_zipWith] at hi; rw [List.length_zip]; omega⟩
end
end
/-! ### as rules -/
@[simp] def dKeysI (a : Den) : DenI := fun env st => match a env st with
  | .ok f b (.con (.dik ks) ds) st1 => bif !b || f.isz then .ok (ks.map keyD) st1 else .stuck
  | .ok _ _ _ _ => .stuck
  | .exc c ds st1 => .exc c ds st1
  | .stuck => .stuck
@[simp] def dValsI (a : Den) : DenI := fun env st => match a env st with
  | .ok f b (.con (.dik ks) ds) st1 => bif !b || f.isz then .ok ds st1 else .stuck
  | .ok _ _ _ _ => .stuck
  | .exc c ds st1 => .exc c ds st1
  | .stuck => .stuck
@[simp] def dItemsI (a : Den) : DenI := fun env st => match a env st with
  | .ok f b (.con (.dik ks) ds) st1 => bif !b || f.isz then .ok (itemsD ks ds) st1 else .stuck
  | .ok _ _ _ _ => .stuck
  | .exc c ds st1 => .exc c ds st1
  | .stuck => .stuck
section
variable {S : Sx} {e a b tg : Expr} {es elts : List Expr} {da db : Den} {das : DenL} {pos p tpos apos cpos : Pos} {kk : Nat}
/-- what stands once a shared dict is locked -/
theorem lock_post {G : Sg} {g : Gd} {env : Env} {st1 : Store} {T : List Tm} {σ : St} {H1 : Hp} {v : V} {f : Fr} {b : Bool} {ks : List Key} {ds : List D} {Q : Addr → Obj → List (Key × V) → Hp → Prop} (hc : (!b || f.isz) = true)
    (k : ∀ p o vs H2, ks.length = vs.length → ds.length = vs.length → H2 p = some (.frz o (.dK (ks.zip vs))) → Gle G (lockG g p (.frz o (.dK (ks.zip vs)))) g → Rl G (lockG g p (.frz o (.dK (ks.zip vs)))) env st1 ([⟨.ref p, .z, .con (.dik ks) ds, false⟩] ++ T) σ H2 → Q p o (ks.zip vs) H2)
    (R1 : Rl G g env st1 (⟨v, f, .con (.dik ks) ds, b⟩ :: T) σ H1) : ∃ d kvs, v = .ref d ∧ ((H1 d = some (.dK kvs) ∧ ∀ o, Q d o kvs (upd H1 d (.frz o (.dK kvs)))) ∨ ∃ o, H1 d = some (.frz o (.dK kvs)) ∧ Q d o kvs H1) := by
  have R2 := (R1.unb hc).frz
  have main : ∃ d vs, v = .ref d ∧ ks.length = vs.length ∧ ds.length = vs.length ∧ RlB G g env st1 ([⟨v, .z, .con (.dik ks) ds, false⟩] ++ T) σ H1 (fun Fz am => Fz d) ∧ Rd H1 d (.dK (ks.zip vs)) := by
    obtain ⟨Fz, am, ne, nt, ns, h1, h2, h3, h4, h5⟩ := R2
    cases id h2 with
    | own k1 k2 k3 =>
      obtain ⟨d, vs, rfl, z, rd, hl, rs⟩ := k1.dik
      exact ⟨d, vs, rfl, hl, rs.len.2.symm, ⟨Fz, am, ne, nt, ns, h1, h2, h3, h4, z⟩, rd⟩
  obtain ⟨d, vs, rfl, hl, hd, R3, rd⟩ := main
  refine ⟨d, ks.zip vs, rfl, ?_⟩
  rcases rd with e | ⟨o, e⟩
  · refine .inl ⟨e, fun o => ?_⟩
    have R4 := Rl.lock (o := o) R3 (fun _ _ z => z) e rfl
    obtain ⟨R5, b⟩ := Rl.toLock R4 (fun _ _ z => z) upd_same rfl
    exact k d o vs _ hl hd upd_same b R5.rl
  · refine .inr ⟨o, e, ?_⟩
    obtain ⟨R5, b⟩ := Rl.toLock R3 (fun _ _ z => z) e rfl
    exact k d o vs _ hl hd e b R5.rl
theorem di_keys (ha : DE S a da) : DI S tg a (dKeysI da) := fun W => by
  obtain ⟨t, pt, q⟩ := ha W
  refine ⟨iKeys (HxZ.tLk t), fun X hX tk => pi_keys (HxZ.pe_lk (pt X hX tk)), fun g env st T σ H R0 hT R h => q g env st T σ H _ hT R ?_⟩
  unfold dKeysI at h
  cases e : da env st with
  | stuck => rw [e] at h; exact h.elim
  | exc c ds st1 => rw [e] at h; exact h
  | ok f b d st1 =>
    rw [e] at h
    cases d with
    | con k ds =>
      cases k with
      | dik ks =>
        obtain ⟨hc, h⟩ := bifT h id
        exact fun v H1 R1 => lock_post (Q := fun d o kvs H2 => ∃ d' o', V.ref d = .ref d' ∧ ((∃ kvs, H2 d' = some (.frz o' (.dK kvs)) ∧ R0 (Itk d' o' kvs) H2) ∨ ∃ kvs, H2 d' = some (.frz o' (.dT kvs)) ∧ R0 (Itkt d' o' kvs) H2)) hc (fun p o vs H2 hl hd e2 b R5 => ⟨p, o, rfl, .inl ⟨_, e2, h _ H2 _ _ b (it_keys hl) R5⟩⟩) R1 |>.imp fun d ⟨kvs, e, q⟩ => ⟨kvs, e, by subst e; exact q⟩
      | _ => exact h.elim
    | _ => exact h.elim
theorem di_vals (ha : DE S a da) (hl : (apos.endLine == cpos.line) = true) (hb : ∀ env, attributeBase a "values" env (eval a env) = eval a env) : DI S tg (.Call (.Attribute a "values" apos) [] [] cpos) (dValsI da) := fun W => by
  obtain ⟨t, pt, q⟩ := ha W
  refine ⟨iVals (HxZ.tLk t), fun X hX tk => pi_values (HxZ.pe_lk (pt X hX tk)) (hb _) hl, fun g env st T σ H R0 hT R h => q g env st T σ H _ hT R ?_⟩
  unfold dValsI at h
  cases e : da env st with
  | stuck => rw [e] at h; exact h.elim
  | exc c ds st1 => rw [e] at h; exact h
  | ok f b d st1 =>
    rw [e] at h
    cases d with
    | con k ds =>
      cases k with
      | dik ks =>
        obtain ⟨hc, h⟩ := bifT h id
        exact fun v H1 R1 => lock_post (Q := fun d o kvs H2 => ∃ d' o' kvs, V.ref d = .ref d' ∧ H2 d' = some (.frz o' (.dK kvs)) ∧ R0 (Itd d' o' kvs) H2) hc (fun p o vs H2 hl hd e2 b R5 => ⟨p, o, _, rfl, e2, h _ H2 _ _ b (it_vals hl hd) R5⟩) R1 |>.imp fun d ⟨kvs, e, q⟩ => ⟨kvs, e, by subst e; exact q⟩
      | _ => exact h.elim
    | _ => exact h.elim
theorem di_items (ha : DE S a da) (hl : (apos.endLine == cpos.line) = true) (hb : ∀ env, attributeBase a "items" env (eval a env) = eval a env) : DI S (.Tuple elts kk tpos) (.Call (.Attribute a "items" apos) [] [] cpos) (dItemsI da) := fun W => by
  obtain ⟨t, pt, q⟩ := ha W
  refine ⟨iItems (HxZ.tLk t), fun X hX tk => pi_items (HxZ.pe_lk (pt X hX tk)) (hb _) hl, fun g env st T σ H R0 hT R h => q g env st T σ H _ hT R ?_⟩
  unfold dItemsI at h
  cases e : da env st with
  | stuck => rw [e] at h; exact h.elim
  | exc c ds st1 => rw [e] at h; exact h
  | ok f b d st1 =>
    rw [e] at h
    cases d with
    | con k ds =>
      cases k with
      | dik ks =>
        obtain ⟨hc, h⟩ := bifT h id
        exact fun v H1 R1 => lock_post (Q := fun d o kvs H2 => ∃ d' o' kvs, V.ref d = .ref d' ∧ H2 d' = some (.frz o' (.dK kvs)) ∧ R0 (Iti d' o' kvs) H2) hc (fun p o vs H2 hl hd e2 b R5 => ⟨p, o, _, rfl, e2, h _ H2 _ _ b (it_items hl hd) R5⟩) R1 |>.imp fun d ⟨kvs, e, q⟩ => ⟨kvs, e, by subst e; exact q⟩
      | _ => exact h.elim
    | _ => exact h.elim
end
end Hx

set_option Elab.async false
set_option linter.all false
set_option maxRecDepth 100000
set_option autoImplicit false
/-! Y3: in, sums, sorted, texts, stores by an operator, more. -/
namespace Hx
open PySem PySem.Spec L2
open PyProof.Rows hiding St
/-! ### in -/
section
variable {G : Sg}
/-- a sign in a text -/
def inS (neg : Bool) : D → D → Option D
  | .str x, .str y => match x.cps with
    | ⟨[c]⟩ => some (.bl (if neg then !decide (c ∈ y.cps.toList) else decide (c ∈ y.cps.toList)))
    | _ => none
  | _, _ => none
@[simp] def oInS (neg : Bool) : Op := oS2 (inS neg)
theorem inS_some {neg : Bool} {a b d : D} (h : inS neg a b = some d) : ∃ c y, a = .str ⟨#[c]⟩ ∧ b = .str y ∧ d = .bl (if neg then !decide (c ∈ y.cps.toList) else decide (c ∈ y.cps.toList)) := by
  unfold inS at h
  split at h
  · rename_i x y
    obtain ⟨x⟩ := x
    split at h
    · rename_i c e
      cases h
      have e : x = ⟨[c]⟩ := e
      subst e
      exact ⟨c, y, rfl, rfl, rfl⟩
    · cases h
  · cases h
theorem v_inS (neg : Bool) : VOp G (l2 fun x y H Q => ∃ (c : Nat) (z : Str), x = .str ⟨#[c]⟩ ∧ y = .str z ∧ Q (.bl (if neg then !decide (c ∈ z.cps.toList) else decide (c ∈ z.cps.toList))) H) (oInS neg) := v_S2 fun Fz am H v w a b d Q h1 h2 e q => by
  obtain ⟨c, y, rfl, rfl, rfl⟩ := inS_some e
  rw [h1.str, h2.str]
  exact ⟨c, y, rfl, rfl, q _ rfl⟩
/-- a key in a dict -/
def memK (k : Key) (ks : List Key) : Bool := ks.any fun x => decide (x = k)
@[simp] def oInK (neg : Bool) : Op := oS2 fun a b => match b with
  | .con (.dik ks) _ => (keyOf a).map fun k => .bl (if neg then !memK k ks else memK k ks)
  | _ => none
theorem valV_in : ∀ {ks : List Key} {vs : List V} {k : Key}, ks.length = vs.length → (valV (ks.zip vs) k).isSome = memK k ks
  | [], _, k, _ => by simp [valV, memK]
  | k0 :: ks, [], k, h => by simp at h
  | k0 :: ks, v0 :: vs, k, h => by
    rw [List.zip_cons_cons]
    unfold valV
    rw [List.find?_cons]
    have ih := valV_in (ks := ks) (vs := vs) (k := k) (by simpa using h)
    unfold valV at ih
    unfold memK at ih ⊢
    by_cases c : k0 = k
    · simp [c]
    · simp only [c, decide_false, Bool.false_eq_true, if_false, List.any_cons, Bool.false_or]
      exact ih
def rDIn (neg : Bool) : R2 := fun y x H Q => ∃ a o, x = .ref a ∧ DGet H a y o ∧ Q (.bl (if neg then !o.isSome else o.isSome)) H
theorem v_inK (neg : Bool) : VOp G (l2 (rDIn neg)) (oInK neg) := v_S2 fun Fz am H v w a b d Q h1 h2 e q => by
  split at e
  · obtain ⟨k, e1, e2⟩ := Option.map_eq_some_iff.mp e
    subst e2
    obtain ⟨p, vs, rfl, rd, hl, s⟩ := h2.dik
    refine ⟨p, _, rfl, .inl ⟨_, k, rd, h1.key e1, rfl⟩, q _ ?_⟩
    rw [valV_in hl]
    exact rfl
  · cases e
/-- one among a list's -/
def inLD (a : D) (ds : List D) : Option Bool := match a.py, D.pys ds with
  | some x, some ys => bif SeqAt.shaped x && SeqAt.shaped (.list ys) then some (ys.any fun z => PyData.eqv z x) else none
  | _, _ => none
@[simp] def oInL (neg : Bool) : Op := oS2 fun a b => match b with
  | .con .lst ds => (inLD a ds).map fun c => .bl (if neg then !c else c)
  | .con .frl ds => (inLD a ds).map fun c => .bl (if neg then !c else c)
  | _ => none
def rInX (K : PySem.W.Frag) (neg : Bool) : R2 := fun x y H Q => ∃ d ds, Dp K H x d ∧ Dp K H y (.list ds) ∧ SeqAt.shaped d = true ∧ SeqAt.shaped (.list ds) = true ∧ Q (.bl (if neg then !(ds.any fun z => PyData.eqv z d) else ds.any fun z => PyData.eqv z d)) H
theorem inLD_some {a : D} {ds : List D} {c : Bool} (h : inLD a ds = some c) : ∃ x ys, a.py = some x ∧ D.pys ds = some ys ∧ SeqAt.shaped x = true ∧ SeqAt.shaped (.list ys) = true ∧ (ys.any fun z => PyData.eqv z x) = c := by
  unfold inLD at h
  split at h
  · rename_i x ys e1 e2
    obtain ⟨c1, c2⟩ := bifS h
    rw [Bool.and_eq_true] at c1
    exact ⟨x, ys, e1, e2, c1.1, c1.2, c2⟩
  · cases h
theorem v_inL (neg : Bool) : VOp G (l2 (rInX G.K neg)) (oInL neg) := v_S2 fun Fz am H v w a b d Q h1 h2 e q => by
  have main : ∀ {k : Kd} {ds : List D}, (k = .lst ∨ k = .frl) → View G Fz am H w (.con k ds) → (inLD a ds).map (fun c => D.bl (if neg then !c else c)) = some d → rInX G.K neg v w H Q := fun {k ds} hk h2 e => by
    obtain ⟨c, e1, e2⟩ := Option.map_eq_some_iff.mp e
    subst e2
    obtain ⟨x, ys, a1, a2, a3, a4, a5⟩ := inLD_some e1
    refine ⟨x, ys, view_dp h1 a1, view_dp h2 ?_, a3, a4, q _ ?_⟩
    · rcases hk with rfl | rfl <;> (unfold D.py; rw [a2]; rfl)
    · rw [a5]; exact rfl
  split at e
  · exact main (.inl rfl) h2 e
  · exact main (.inr rfl) h2 e
  · cases e
/-- one among a tuple's, all plain -/
def flatD : D → Bool
  | .non => true
  | .bl _ => true
  | .int _ => true
  | .str _ => true
  | _ => false
def eqF : D → D → Bool
  | .non, .non => true
  | .bl a, .bl b => a == b
  | .bl a, .int b => (if a then 1 else 0) == b
  | .int a, .bl b => a == (if b then 1 else 0)
  | .int a, .int b => a == b
  | .str a, .str b => a == b
  | _, _ => false
@[simp] def oInT (neg : Bool) : Op := oS2 fun a b => match b with
  | .con .tup ds => bif flatD a && ds.all flatD then some (.bl (if neg then !(ds.any fun y => eqF y a) else ds.any fun y => eqF y a)) else none
  | _ => none
section
variable {Fz : Addr → Prop} {am : List Addr} {H : Hp}
theorem Rep.flat' {v : V} {d : D} {n : Fp} (r : Rep G Fz am H .z v d n) (h : flatD d = true) : flatV v = true ∧ Scal G v d := by
  cases r with
  | sc s _ => cases v <;> cases d <;> first | exact s.elim | exact ⟨rfl, s⟩ | cases h
  | rf => cases h
  | zz => cases h
theorem View.flat' {v : V} {d : D} (r : View G Fz am H v d) (h : flatD d = true) : flatV v = true ∧ Scal G v d := by
  cases d with
  | non => rw [r.non]; exact ⟨rfl, trivial⟩
  | bl b => rw [r.bl]; exact ⟨rfl, rfl⟩
  | int b => rw [r.int]; exact ⟨rfl, rfl⟩
  | str b => rw [r.str]; exact ⟨rfl, rfl⟩
  | _ => cases h
theorem eqV_eqF {v w : V} {a b : D} (h1 : Scal G v a) (h2 : Scal G w b) (fa : flatD a = true) (fb : flatD b = true) : eqV v w = eqF a b := by
  cases a <;> cases b <;> first | exact Bool.noConfusion fa | exact Bool.noConfusion fb | skip
  all_goals (cases v <;> first | exact h1.elim | skip)
  all_goals (cases w <;> first | exact h2.elim | skip)
  all_goals (try simp only [Scal] at h1)
  all_goals (try simp only [Scal] at h2)
  all_goals (try subst h1)
  all_goals (try subst h2)
  all_goals rfl
theorem any_eqF {w : V} {b : D} (h2 : Scal G w b) (fb : flatD b = true) : ∀ {ds : List D} {vs : List V}, Reps G Fz am H (zs ds.length) vs ds (fun _ => 0) → ds.all flatD = true → (vs.all flatV = true) ∧ (vs.any fun y => eqV y w) = ds.any fun y => eqF y b
  | [], vs, r, _ => by cases r; exact ⟨rfl, rfl⟩
  | d :: ds, vs, r, h => by
    rw [show zs (d :: ds).length = .z :: zs ds.length from List.replicate_succ] at r
    rw [List.all_cons, Bool.and_eq_true] at h
    cases r with
    | cons r1 r2 h3 =>
      obtain ⟨f1, s1⟩ := r1.flat' h.1
      obtain ⟨a1, a2⟩ := any_eqF h2 fb (r2.fp (Reps.z0 r2)) h.2
      exact ⟨by rw [List.all_cons, f1, a1]; rfl, by rw [List.any_cons, List.any_cons, a2, eqV_eqF s1 h2 h.1 fb]⟩
end
theorem v_inT (neg : Bool) : VOp G (l2 (rIn G.K neg)) (oInT neg) := v_S2 fun Fz am H v w a b d Q h1 h2 e q => by
  split at e
  · rename_i ds
    obtain ⟨hk, e2⟩ := bifS e
    subst e2
    rw [Bool.and_eq_true] at hk
    obtain ⟨p, vs, rfl, r, s⟩ := h2.tup
    obtain ⟨f1, s1⟩ := h1.flat' hk.1
    obtain ⟨a1, a2⟩ := any_eqF s1 hk.1 s hk.2
    refine ⟨p, vs, rfl, .inr r, f1, a1, q _ ?_⟩
    show (if neg = true then !(vs.any fun y => eqV y v) else vs.any fun y => eqV y v) = _
    rw [a2]
  · cases e
end
@[simp] def oIn : Op := fun ds => orOp (oInK false) (orOp (oInL false) (orOp (oInT false) (oInS false))) ds
@[simp] def oNotIn : Op := fun ds => orOp (oInK true) (orOp (oInL true) (orOp (oInT true) (oInS true))) ds
section
variable {S : Sx} {e a b c tg : Expr} {es elts : List Expr} {da db dc : Den} {das : DenL} {pos p tpos apos cpos : Pos} {kk : Nat}
theorem un65 {X : Cx} (hX : Stx S X) : X.A.units + 65 < cLine := by have := hX.room.un; omega
theorem unD {X : Cx} (hX : Stx S X) : X.A.units + 1 < cLine := by have := hX.room.un; omega
theorem ci_inL : CmpI S .In (oInL false) := ⟨_, fun X hX => hX.K ▸ op_inD (un65 hX), v_inL false⟩
theorem ci_ninL : CmpI S .NotIn (oInL true) := ⟨_, fun X hX => hX.K ▸ op_notInD (un65 hX), v_inL true⟩
theorem ci_inT : CmpI S .In (oInT false) := ⟨_, fun X hX => hX.K ▸ op_in_seq, v_inT false⟩
theorem ci_ninT : CmpI S .NotIn (oInT true) := ⟨_, fun X hX => hX.K ▸ op_notIn_seq, v_inT true⟩
theorem ci_inS : CmpI S .In (oInS false) := ⟨_, fun X hX => op_in_sign, v_inS false⟩
theorem ci_ninS : CmpI S .NotIn (oInS true) := ⟨_, fun X hX => op_notIn_sign, v_inS true⟩
theorem de_inK (ha : DE S a da) (hb : DE S b db) (hm : notSet b = true) : DE S (.Compare a [.In] [b] pos) (dOp (oInK false) (dCons da (dLast db))) := fun W => by
  obtain ⟨ta, pa, qa⟩ := ha W
  obtain ⟨tb, pb, qb⟩ := hb W
  exact ⟨tOp (rDIn false) ta tb, fun X hX tk => pe_cmp (pc_din (unD hX) (pa X hX tk) (pb X hX tk)) (marks hm), fun g env st T σ H Q hT R h => run2 (v_inK false) qa qb g env st T σ H Q hT R h⟩
theorem de_ninK (ha : DE S a da) (hb : DE S b db) (hm : notSet b = true) : DE S (.Compare a [.NotIn] [b] pos) (dOp (oInK true) (dCons da (dLast db))) := fun W => by
  obtain ⟨ta, pa, qa⟩ := ha W
  obtain ⟨tb, pb, qb⟩ := hb W
  exact ⟨tOp (rDIn true) ta tb, fun X hX tk => pe_cmp (pc_dnotin (unD hX) (pa X hX tk) (pb X hX tk)) (marks hm), fun g env st T σ H Q hT R h => run2 (v_inK true) qa qb g env st T σ H Q hT R h⟩
theorem dt_inK (ha : DE S a da) (hb : DE S b db) (hm : notSet b = true) : DT S (.Compare a [.In] [b] pos) (dB (dOp (oInK false) (dCons da (dLast db)))) := fun W => by
  obtain ⟨ta, pa, qa⟩ := ha W
  obtain ⟨tb, pb, qb⟩ := hb W
  exact ⟨tB (tOp (rDIn false) ta tb), fun X hX tk => pt_cmp (pc_din (unD hX) (pa X hX tk) (pb X hX tk)) (marks hm), fun g env st T σ H Q hT R h => run2 (v_inK false) qa qb g env st T σ H _ hT R (postB h)⟩
theorem dt_ninK (ha : DE S a da) (hb : DE S b db) (hm : notSet b = true) : DT S (.Compare a [.NotIn] [b] pos) (dB (dOp (oInK true) (dCons da (dLast db)))) := fun W => by
  obtain ⟨ta, pa, qa⟩ := ha W
  obtain ⟨tb, pb, qb⟩ := hb W
  exact ⟨tB (tOp (rDIn true) ta tb), fun X hX tk => pt_cmp (pc_dnotin (unD hX) (pa X hX tk) (pb X hX tk)) (marks hm), fun g env st T σ H Q hT R h => run2 (v_inK true) qa qb g env st T σ H _ hT R (postB h)⟩
theorem de_in (ha : DE S a da) (hb : DE S b db) (hm : notSet b = true) : DE S (.Compare a [.In] [b] pos) (dOp oIn (dCons da (dLast db))) := de_or' (de_inK ha hb hm) (de_or' (de_c ci_inL ha hb hm) (de_or' (de_c ci_inT ha hb hm) (de_c ci_inS ha hb hm)))
theorem de_nin (ha : DE S a da) (hb : DE S b db) (hm : notSet b = true) : DE S (.Compare a [.NotIn] [b] pos) (dOp oNotIn (dCons da (dLast db))) := de_or' (de_ninK ha hb hm) (de_or' (de_c ci_ninL ha hb hm) (de_or' (de_c ci_ninT ha hb hm) (de_c ci_ninS ha hb hm)))
theorem dt_in (ha : DE S a da) (hb : DE S b db) (hm : notSet b = true) : DT S (.Compare a [.In] [b] pos) (dB (dOp oIn (dCons da (dLast db)))) := dt_or' (dt_inK ha hb hm) (dt_or' (dt_c ci_inL ha hb hm) (dt_or' (dt_c ci_inT ha hb hm) (dt_c ci_inS ha hb hm)))
theorem dt_nin (ha : DE S a da) (hb : DE S b db) (hm : notSet b = true) : DT S (.Compare a [.NotIn] [b] pos) (dB (dOp oNotIn (dCons da (dLast db)))) := dt_or' (dt_ninK ha hb hm) (dt_or' (dt_c ci_ninL ha hb hm) (dt_or' (dt_c ci_ninT ha hb hm) (dt_c ci_ninS ha hb hm)))
end
end Hx

set_option Elab.async false
set_option linter.all false
set_option maxRecDepth 100000
set_option autoImplicit false
/-! Y4: sums, texts, copies of dicts, stores by an operator, more than one target. -/
namespace Hx
open PySem PySem.Spec L2
open PyProof.Rows hiding St
section
variable {G : Sg}
/-! ### sum, str, dict, join -/
@[simp] def intsOf : List D → Option (List Int)
  | [] => some []
  | .int b :: ds => (intsOf ds).map (b :: ·)
  | _ => none
@[simp] def strsOf : List D → Option (List Str)
  | [] => some []
  | .str b :: ds => (strsOf ds).map (b :: ·)
  | _ => none
theorem scal_int {v : V} {b : Int} (h : Scal G v (.int b)) : v = .int b := by cases v <;> first | exact congrArg V.int h | exact h.elim
theorem scal_str {v : V} {b : Str} (h : Scal G v (.str b)) : v = .str b := by cases v <;> first | exact congrArg V.str h | exact h.elim
theorem ints_reps {Fz : Addr → Prop} {am : List Addr} {H : Hp} : ∀ {ds : List D} {fs : List Fr} {vs : List V} {n : Fp} {bs : List Int}, Reps G Fz am H fs vs ds n → intsOf ds = some bs → vs = bs.map V.int
  | [], _, _, _, bs, r, h => by cases r; cases h; rfl
  | .int b :: ds, _, _, _, bs, r, h => by
    obtain ⟨bs', e1, e2⟩ := Option.map_eq_some_iff.mp h
    subst e2
    cases r with
    | cons r1 r2 _ =>
      rw [ints_reps r2 e1]
      cases r1 with
      | sc s _ => rw [scal_int s]; rfl
theorem strs_reps {Fz : Addr → Prop} {am : List Addr} {H : Hp} : ∀ {ds : List D} {fs : List Fr} {vs : List V} {n : Fp} {bs : List Str}, Reps G Fz am H fs vs ds n → strsOf ds = some bs → vs = bs.map V.str
  | [], _, _, _, bs, r, h => by cases r; cases h; rfl
  | .str b :: ds, _, _, _, bs, r, h => by
    obtain ⟨bs', e1, e2⟩ := Option.map_eq_some_iff.mp h
    subst e2
    cases r with
    | cons r1 r2 _ =>
      rw [strs_reps r2 e1]
      cases r1 with
      | sc s _ => rw [scal_str s]; rfl
theorem reps_ints {Fz : Addr → Prop} {am : List Addr} {H : Hp} : ∀ (ns : List Int), Reps G Fz am H (zs (ns.map D.int).length) (ns.map V.int) (ns.map D.int) (fun _ => 0)
  | [] => .nil fun _ => rfl
  | n :: ns => by
    show Reps G Fz am H (zs ((ns.map D.int).length + 1)) (V.int n :: ns.map V.int) (D.int n :: ns.map D.int) _
    rw [show zs ((ns.map D.int).length + 1) = .z :: zs (ns.map D.int).length from List.replicate_succ]
    exact .cons (n1 := fun _ => 0) (n2 := fun _ => 0) (.sc rfl fun _ => rfl) (reps_ints ns) fun _ => rfl
theorem reps_strs {Fz : Addr → Prop} {am : List Addr} {H : Hp} : ∀ (ns : List Str), Reps G Fz am H (zs (ns.map D.str).length) (ns.map V.str) (ns.map D.str) (fun _ => 0)
  | [] => .nil fun _ => rfl
  | n :: ns => by
    show Reps G Fz am H (zs ((ns.map D.str).length + 1)) (V.str n :: ns.map V.str) (D.str n :: ns.map D.str) _
    rw [show zs ((ns.map D.str).length + 1) = .z :: zs (ns.map D.str).length from List.replicate_succ]
    exact .cons (n1 := fun _ => 0) (n2 := fun _ => 0) (.sc rfl fun _ => rfl) (reps_strs ns) fun _ => rfl
@[simp] def oSum : Op := oS1 fun a => match a with
  | .con k xs => bif k.sq then (intsOf xs).map fun bs => .int bs.sum else none
  | _ => none
theorem v_sum : VOp G (rSum G.K) oSum := v_C1 fun Fz am H v a d Q h e q => by
  split at e
  · rename_i k xs
    cases hk : k.sq with
    | false => rw [hk] at e; cases e
    | true =>
      rw [hk] at e
      obtain ⟨bs, e1, e2⟩ := Option.map_eq_some_iff.mp e
      subst e2
      obtain ⟨p, vs, rfl, r, s⟩ := h.sq hk
      exact ⟨p, bs, rfl, ints_reps s e1 ▸ r, q _ rfl⟩
  · cases e
def strOkI (i : Int) : Bool := decide (i.natAbs.log2 < 1920)
@[simp] def oStr : Op := oS1 fun a => match a with
  | .int i => bif strOkI i then some (.str (toString i)) else none
  | .str x => some (.str x)
  | _ => none
theorem v_str : VOp G (fun xs H Q => (∃ i, xs = [.int i] ∧ i.natAbs.log2 < 1920 ∧ Q (.str (toString i)) H) ∨ ∃ a, xs = [.str a] ∧ Q (.str a) H) oStr := v_C1 fun Fz am H v a d Q h e q => by
  split at e
  · obtain ⟨hk, e2⟩ := bifS e
    subst e2
    rw [h.int]
    exact .inl ⟨_, rfl, of_decide_eq_true hk, q _ rfl⟩
  · cases e
    rw [h.str]
    exact .inr ⟨_, rfl, q _ rfl⟩
  · cases e
/-- what is joined -/
@[simp] def oJoin (x : Str) : Op := oS1 fun b => match b with
  | .con k xs => bif k.seq then (strsOf xs).bind fun ys => bif ((ys.map (·.length)).sum + ys.length * x.length).ble 16777216 then some (.str (Txt.join x ys)) else none else none
  | _ => none
theorem v_join (s : Str) : VOp G (fun xs H Q => (fun x xs H Q => ∃ a p, ∃ ys : List Str, x = V.str a ∧ xs = [.ref p] ∧ (SqL G.K H p (ys.map V.str) ∨ SqT G.K H p (ys.map V.str)) ∧ (ys.map (·.length)).sum + ys.length * a.length ≤ 16777216 ∧ Q (.str (Txt.join a ys)) H) (.str s) xs H Q) (oJoin s) := v_C1 fun Fz am H v a d Q h e q => by
  split at e
  · rename_i k xs
    cases hk : k.seq with
    | false => rw [hk] at e; cases e
    | true =>
      rw [hk] at e
      obtain ⟨ys, e1, e2⟩ := Option.bind_eq_some_iff.mp e
      obtain ⟨c, e3⟩ := bifS e2
      subst e3
      obtain ⟨p, vs, rfl, r, s⟩ := h.seq hk
      have ev := strs_reps s e1
      subst ev
      exact ⟨_, p, ys, rfl, rfl, r, Nat.le_of_ble_eq_true c, q _ rfl⟩
  · cases e
/-- cut at each of a text's places -/
@[simp] def oSplit (x : Str) : Op := fun ds => match ds with
  | [.str y] => bif !(y.length == 0) && x.length.ble 1000000 then some (.c .z, .con .lst ((Txt.split x y).map D.str)) else none
  | _ => none
theorem v_split (s : Str) : VOp G (fun xs H Q => (fun x xs H Q => ∃ a b, x = V.str a ∧ xs = [.str b] ∧ (b.length == 0) = false ∧ a.length + 2 ≤ sizeLine ∧ rNewStrs (Txt.split a b) H Q) (.str s) xs H Q) (oSplit s) := fun Fz am H vs ds fr d Q h1 h2 h3 => by
  unfold oSplit at h2
  split at h2
  · obtain ⟨v, rfl, a⟩ := h1.one
    obtain ⟨hk, e⟩ := bifS h2
    cases e
    rw [Bool.and_eq_true] at hk
    rw [a.str]
    refine ⟨_, _, rfl, rfl, by simpa using hk.1, ?_, fresh_lst (reps_strs _) h3⟩
    have := Nat.le_of_ble_eq_true hk.2
    have hs : 1000002 ≤ sizeLine := by decide
    omega
  · cases h2
@[simp] def oPre (x : Str) : Op := oS1 fun b => match b with
  | .str y => bif x.length.ble 16777216 then some (.str (Txt.removeprefix x y)) else none
  | _ => none
theorem v_pre (s : Str) : VOp G (fun xs H Q => (fun x xs H Q => ∃ a b, x = V.str a ∧ xs = [.str b] ∧ a.length ≤ sizeLine ∧ Q (.str (Txt.removeprefix a b)) H) (.str s) xs H Q) (oPre s) := v_C1 fun Fz am H v a d Q h e q => by
  split at e
  · obtain ⟨hk, e2⟩ := bifS e
    subst e2
    rw [h.str]
    exact ⟨_, _, rfl, rfl, line24 hk, q _ rfl⟩
  · cases e
@[simp] def oPart (x : Str) : Op := fun ds => match ds with
  | [.str y] => bif !(y.length == 0) && x.length.ble 1000000 then some (.z, .con .tup [.str (Txt.partition x y).1, .str (Txt.partition x y).2.1, .str (Txt.partition x y).2.2]) else none
  | _ => none
theorem v_part (s : Str) : VOp G (fun xs H Q => (fun x xs H Q => ∃ a b, x = V.str a ∧ xs = [.str b] ∧ (b.length == 0) = false ∧ a.length ≤ sizeLine ∧ ∀ p, H p = none → Q (.ref p) (upd H p (.tup [.str (Txt.partition a b).1, .str (Txt.partition a b).2.1, .str (Txt.partition a b).2.2]))) (.str s) xs H Q) (oPart s) := fun Fz am H vs ds fr d Q h1 h2 h3 => by
  unfold oPart at h2
  split at h2
  · obtain ⟨v, rfl, a⟩ := h1.one
    obtain ⟨hk, e⟩ := bifS h2
    cases e
    rw [Bool.and_eq_true] at hk
    rw [a.str]
    refine ⟨_, _, rfl, rfl, by simpa using hk.1, ?_, fresh_tup (vs := [.str _, .str _, .str _]) ?_ h3⟩
    · have := Nat.le_of_ble_eq_true hk.2
      have hs : 1000002 ≤ sizeLine := by decide
      omega
    · exact reps_strs [_, _, _]
  · cases h2
/-- a copy of a dict -/
@[simp] def oDict : Op := fun ds => match ds with
  | [.con (.dik ks) xs] => some (.c .z, .con (.dik ks) xs)
  | _ => none
theorem rep_dik {Fz : Addr → Prop} {am : List Addr} {H : Hp} {p : Addr} {ks : List Key} {vs : List V} {ds : List D} (E : Ext Fz am H Fz am (upd H p (.dK (ks.zip vs)))) (hl : ks.length = vs.length) (h : Reps G Fz am H (zs ds.length) vs ds (fun _ => 0)) :
    Rep G Fz am (upd H p (.dK (ks.zip vs))) (.c .z) (.ref p) (.con (.dik ks) ds) (one1 p) :=
  .cc ⟨⟨(fun z => nomatch z), (fun z => nomatch z)⟩, _, upd_same, rfl, hl⟩ (Reps.ext E h fun q o hq => absurd hq (Nat.lt_irrefl 0)) fun q => by unfold one1; simp
theorem v_dict : VOp G (fun xs H Q => ∃ (a : Addr) (kvs : List (Key × V)), xs = [.ref a] ∧ Rd H a (.dK kvs) ∧ ∀ p, H p = none → Q (.ref p) (upd H p (.dK kvs))) oDict := fun Fz am H vs ds fr d Q h1 h2 h3 => by
  unfold oDict at h2
  split at h2
  · rename_i ks xs
    cases h2
    obtain ⟨v, rfl, a⟩ := h1.one
    obtain ⟨p, vs, rfl, rd, hl, s⟩ := a.dik
    exact ⟨p, _, rfl, rd, fun l hp => h3 (.ref l) _ (one1 l) (same_upd hp) (newp1 hp trivial) (rep_dik (Ext.same (same_upd hp) fun _ h => h) hl s)⟩
  · cases h2
end
section
variable {S : Sx} {e a b c tg : Expr} {es elts : List Expr} {da db dc : Den} {das : DenL} {pos p tpos apos cpos : Pos} {kk : Nat} {x : Str}
theorem bi_sum (hg : S.sc.names.lookup ("sum" : Str) = some .globalImplicit) (hm : S.mg "sum" = none) (ha : DE S a da) (hp : plainArgs [a] = true) : DE S (.Call (.Name "sum" p) [a] [] pos) (dOp oSum (dLast da)) :=
  de_bi (id := "sum") (fun X hX => hX.K ▸ cr_sum hX.calm) v_sum hg hm (by rfl) (by decide) (by decide) (da_last ha (plainArgs_ok hp _ (by simp))) hp
theorem bi_str (hg : S.sc.names.lookup ("str" : Str) = some .globalImplicit) (hm : S.mg "str" = none) (ha : DE S a da) (hp : plainArgs [a] = true) : DE S (.Call (.Name "str" p) [a] [] pos) (dOp oStr (dLast da)) :=
  de_ty (id := "str") (fun X hX => call_str_int.or SkE.call_str_str) v_str hg hm (by rfl) (by decide) (by decide) (da_last ha (plainArgs_ok hp _ (by simp))) hp
theorem bi_dict (hg : S.sc.names.lookup ("dict" : Str) = some .globalImplicit) (hm : S.mg "dict" = none) (ha : DE S a da) (hp : plainArgs [a] = true) : DE S (.Call (.Name "dict" p) [a] [] pos) (dOp oDict (dLast da)) :=
  de_ty (id := "dict") (fun X hX => call_dictD) v_dict hg hm (by rfl) (by decide) (by decide) (da_last ha (plainArgs_ok hp _ (by simp))) hp
/-- a method of texts -/
@[simp] def dSM (op : Str → Op) (a : Den) (as : DenL) : Den := fun env st => match a env st with
  | .ok _ _ (.str s) st1 => dOp (op s) as env st1
  | .ok _ _ _ _ => .stuck
  | .exc c ds st1 => .exc c ds st1
  | .stuck => .stuck
theorem Rl.str {G : Sg} {g : Gd} {env : Env} {st : Store} {T : List Tm} {σ : St} {H : Hp} {v : V} {f : Fr} {b : Bool} {c : Str} (R : Rl G g env st (⟨v, f, .str c, b⟩ :: T) σ H) : v = .str c := by
  obtain ⟨Fz, am, ne, nt, ns, h1, h2, h3, h4, h5⟩ := R
  have key : ∀ {n : Fp}, Rep G Fz am H f v (.str c) n → v = .str c := fun {n} r => by
    cases r with
    | sc h _ => cases v <;> first | exact congrArg V.str h | exact h.elim
  cases h2 with
  | own h _ _ => exact key h
  | bor h _ _ => exact key h
theorem de_sm1 {m : Str} {id : String} {r : V → List V → Hp → VK → Prop} {op : Str → Op} (slot : PySem.Slot "str" m id) (hty : typeOf (.builtin id) = pure (.type "method_descriptor")) (hmt : ∀ X, Stx S X → MtR X id r) (hv : ∀ s, VOp S.G (fun xs H Q => r (.str s) xs H Q) (op s))
    (ha : DE S a da) (hb : DE S b db) (hl : (apos.endLine == cpos.line) = true) (hbase : ∀ env, attributeBase a m env (eval a env) = eval a env) (hp : plainArgs [b] = true) :
    DE S (.Call (.Attribute a m apos) [b] [] cpos) (dSM op da (dLast db)) := fun W => by
  obtain ⟨ta, pa, qa⟩ := ha W
  obtain ⟨tb, pb, qb⟩ := hb W
  have hs := plainArgs_ok hp b (by simp)
  refine ⟨tBM S.G.K "str" r ta (tCons tb tNil), fun X hX tk => by
    rw [← hX.K]
    exact pe_bm PySem.F.plainAttrs_str slot hty (hmt X hX) (pa X hX tk) (pa_cons (pb X hX tk) pa_nil (starNo hs)) (hbase _) (by rw [starNo hs]; rfl) hl (starNo hs) rfl, fun g env st T σ H Q hT R h => qa g env st T σ H _ hT R ?_⟩
  unfold dSM at h
  cases e1 : da env st with
  | stuck => rw [e1] at h; exact h.elim
  | exc c ds st1 => rw [e1] at h; exact h
  | ok f b0 d st1 =>
    rw [e1] at h
    cases d with
    | str s =>
      intro v H1 R1
      have ev := R1.str
      subst ev
      exact ⟨rfl, run1 (hv s) qb g env st1 T σ H1 Q hT R1.drop h⟩
    | _ => exact h.elim
theorem de_join (ha : DE S a da) (hb : DE S b db) (hl : (apos.endLine == cpos.line) = true) (hbase : ∀ env, attributeBase a "join" env (eval a env) = eval a env) (hp : plainArgs [b] = true) : DE S (.Call (.Attribute a "join" apos) [b] [] cpos) (dSM oJoin da (dLast db)) :=
  de_sm1 PySem.F.slot_str_join PySem.F.type_str_join (fun X hX => hX.K ▸ mt_join) v_join ha hb hl hbase hp
theorem de_split (ha : DE S a da) (hb : DE S b db) (hl : (apos.endLine == cpos.line) = true) (hbase : ∀ env, attributeBase a "split" env (eval a env) = eval a env) (hp : plainArgs [b] = true) : DE S (.Call (.Attribute a "split" apos) [b] [] cpos) (dSM oSplit da (dLast db)) :=
  de_sm1 PySem.F.slot_str_split PySem.F.type_str_split (fun X hX => mt_split) v_split ha hb hl hbase hp
theorem de_part (ha : DE S a da) (hb : DE S b db) (hl : (apos.endLine == cpos.line) = true) (hbase : ∀ env, attributeBase a "partition" env (eval a env) = eval a env) (hp : plainArgs [b] = true) : DE S (.Call (.Attribute a "partition" apos) [b] [] cpos) (dSM oPart da (dLast db)) :=
  de_sm1 PySem.F.slot_str_partition PySem.F.type_str_partition (fun X hX => mt_partition) v_part ha hb hl hbase hp
theorem de_pre (ha : DE S a da) (hb : DE S b db) (hl : (apos.endLine == cpos.line) = true) (hbase : ∀ env, attributeBase a "removeprefix" env (eval a env) = eval a env) (hp : plainArgs [b] = true) : DE S (.Call (.Attribute a "removeprefix" apos) [b] [] cpos) (dSM oPre da (dLast db)) :=
  de_sm1 PySem.F.slot_str_removeprefix PySem.F.type_str_removeprefix (fun X hX => mt_removeprefix) v_pre ha hb hl hbase hp
/-! ### f-texts -/
@[simp] def oFmt : Op := oS1 fun a => match a with
  | .int i => bif strOkI i then some (.str (toString i)) else none
  | .str x => bif x.length.ble 16777216 then some (.str x) else none
  | _ => none
theorem v_fmt {G : Sg} : VOp G (fun xs H Q => (∃ y : Str, xs = [.str y] ∧ y.length ≤ sizeLine ∧ Q (.str y) H) ∨ ∃ i : Int, xs = [.int i] ∧ i.natAbs.log2 < 1920 ∧ Q (.str (toString i)) H) oFmt := v_C1 fun Fz am H v a d Q h e q => by
  split at e
  · obtain ⟨hk, e2⟩ := bifS e
    subst e2
    rw [h.int]
    exact .inr ⟨_, rfl, of_decide_eq_true hk, q _ rfl⟩
  · obtain ⟨hk, e2⟩ := bifS e
    subst e2
    rw [h.str]
    exact .inl ⟨_, rfl, line24 hk, q _ rfl⟩
  · cases e
theorem de_fmt (ha : DE S a da) : DE S (.FormattedValue a (-1) none pos) (dOp oFmt (dLast da)) := fun W => by
  obtain ⟨ta, pa, qa⟩ := ha W
  refine ⟨_, fun X hX tk => pe_fmt (pa X hX tk), fun g env st T σ H Q hT R h => ?_⟩
  have k := run1 (r := fun xs H Q => (∃ y : Str, xs = [.str y] ∧ y.length ≤ sizeLine ∧ Q (.str y) H) ∨ ∃ i : Int, xs = [.int i] ∧ i.natAbs.log2 < 1920 ∧ Q (.str (toString i)) H) v_fmt qa g env st T σ H Q hT R h
  have e : (fun x H1 => (∃ y : Str, [x] = [V.str y] ∧ y.length ≤ sizeLine ∧ Q (.str y) H1) ∨ ∃ i : Int, [x] = [V.int i] ∧ i.natAbs.log2 < 1920 ∧ Q (.str (toString i)) H1) = fun x H1 => (∃ y : Str, x = V.str y ∧ y.length ≤ sizeLine ∧ Q (.str y) H1) ∨ ∃ i : Int, x = V.int i ∧ i.natAbs.log2 < 1920 ∧ Q (.str (toString i)) H1 := by
    funext x H1
    simp
  have k : ta σ H _ := k
  rw [e] at k
  exact k
@[simp] def dJs : List Den → Str → Den
  | [], acc, _, st => .ok .z false (.str acc) st
  | a :: as, acc, env, st => match a env st with
    | .ok _ _ (.str y) st1 => bif (acc ++ y).length.ble 16777216 then dJs as (acc ++ y) env st1 else .stuck
    | .ok _ _ _ _ => .stuck
    | .exc c ds st1 => .exc c ds st1
    | .stuck => .stuck
inductive DJ (S : Sx) : List Expr → List Den → Prop
  | nil : DJ S [] []
  | cons {e : Expr} {d : Den} {es : List Expr} {ds : List Den} (h : DE S e d) (r : DJ S es ds) : DJ S (e :: es) (d :: ds)
theorem dj_run {es : List Expr} {ds : List Den} (h : DJ S es ds) (W : WX) : ∃ ts : List TE, (∀ X, Stx S X → Takes X W → PJ X es ts) ∧
    ∀ acc g env st T σ H Q, noBor T → Rl S.G g env st T σ H → PostE S.G g env T σ W Q (dJs ds acc env st) → tJs ts acc σ H fun out H1 => Q (.str out) H1 := by
  induction h with
  | nil => exact ⟨[], fun X hX tk => .nil, fun acc g env st T σ H Q hT R h => h _ H (R.scal rfl)⟩
  | cons h r ih =>
    obtain ⟨t, p, q⟩ := h W
    obtain ⟨ts, ps, qs⟩ := ih
    refine ⟨t :: ts, fun X hX tk => .cons (p X hX tk) (ps X hX tk), fun acc g env st T σ H Q hT R h => q g env st T σ H _ hT R ?_⟩
    unfold dJs at h
    rename_i d _ _ _
    cases e1 : d env st with
    | stuck => rw [e1] at h; exact h.elim
    | exc c ds st1 => rw [e1] at h; exact h
    | ok f b0 d st1 =>
      rw [e1] at h
      cases d with
      | str y =>
        obtain ⟨hc, h⟩ := bifT h id
        intro v H1 R1
        exact ⟨y, R1.str, line24 hc, qs _ g env st1 T σ H1 Q hT R1.drop h⟩
      | _ => exact h.elim
theorem de_fs {v1 v2 : Expr} {rest : List Expr} {ds : List Den} (h : DJ S (v1 :: v2 :: rest) ds) : DE S (.JoinedStr (v1 :: v2 :: rest) pos) (dJs ds Str.empty) := fun W => by
  obtain ⟨ts, p, q⟩ := dj_run h W
  exact ⟨_, fun X hX tk => pe_joined (p X hX tk), fun g env st T σ H Q hT R h => q _ g env st T σ H Q hT R h⟩
theorem de_fs1 (ha : DE S a da) : DE S (.JoinedStr [a] pos) da := fun W => by
  obtain ⟨ta, pa, qa⟩ := ha W
  exact ⟨ta, fun X hX tk => pe_joined1 (pa X hX tk), qa⟩
/-! ### x op= e -/
theorem ip_mul {X : Cx} : PIp X .Mult fun x y H Q => ∃ i j, x = .int i ∧ y = .int j ∧ CMulW i j ∧ Q (.int (i * j)) H := by
  intro pins s σ H x y v u Q I r1 r2 h
  obtain ⟨i, j, e1, e2, c, q⟩ := h
  subst e1; subst e2
  obtain ⟨t, rfl⟩ := r1
  obtain ⟨t', rfl⟩ := r2
  exact PyProof.Rows.imul_int ⟨.int _, H, I.tok _, ⟨_, rfl⟩, q⟩ c.ok
theorem ip_fdiv {X : Cx} : PIp X .FloorDiv fun x y H Q => ∃ i j, x = .int i ∧ y = .int j ∧ CDivF i j ∧ Q (.int (i.fdiv j)) H := by
  intro pins s σ H x y v u Q I r1 r2 h
  obtain ⟨i, j, e1, e2, c, q⟩ := h
  subst e1; subst e2
  obtain ⟨t, rfl⟩ := r1
  obtain ⟨t', rfl⟩ := r2
  exact PyProof.Rows.ifloordiv_int c.1 ⟨.int _, H, I.tok _, ⟨_, rfl⟩, q⟩ (.inl (PyProof.noPylong_of_log2 c.2))
/-- an int in a slot -/
@[simp] def dAug (i : Nat) (f : Int → Int → Option Int) (a : Den) : DenS := fun env st => match env[i]? with
  | some (some (.z, .int x)) => (match a env st with
    | .ok _ _ (.int y) st1 => (match f x y with
      | some z => .nx (env.set i (some (.z, .int z))) st1
      | none => .stuck)
    | .ok _ _ _ _ => .stuck
    | .exc c ds st1 => .exc c ds env st1
    | .stuck => .stuck)
  | _ => .stuck
@[simp] def augAdd : Int → Int → Option Int := fun x y => some (x + y)
@[simp] def augSub : Int → Int → Option Int := fun x y => some (x - y)
@[simp] def augMul : Int → Int → Option Int := fun x y => bif mulOk x y then some (x * y) else none
@[simp] def augDiv : Int → Int → Option Int := fun x y => bif divOk y then some (x.fdiv y) else none
theorem ds_aug {i : Nat} {x : Str} {q : Pos} {o : Operator} {f : Int → Int → Option Int} {ti : TIp} (ho : ∀ X, Stx S X → PIp X o ti) (hf : ∀ x y z H Q, f x y = some z → Q (.int z) H → ti (.int x) (.int y) H Q)
    (hN : S.N[i]? = some x) (hx : Loc S.sc x) (hfn : S.fnA = true ∨ S.sc.names.lookup x = some .local) (ha : DE S a da) : DS S (.AugAssign (.Name x q) o a pos) (dAug i f da) := fun W => by
  obtain ⟨ta, pa, qa⟩ := ha W
  refine ⟨_, fun X hX tk => ps_aug hX.nd (by rw [hX.N]; exact hN) (by rw [hX.sc]; exact hx) (pa X hX tk) (ho X hX) (stx_fn hX hfn), fun g env st T σ H D hT R h => ?_⟩
  unfold dAug at h
  split at h
  · rename_i x0 ei
    obtain ⟨v, ev, R0⟩ := R.pushz ei
    have e0 := R0.int
    subst e0
    refine ⟨_, ev, qa g env st T σ H _ hT R ?_⟩
    cases e1 : da env st with
    | stuck => rw [e1] at h; exact h.elim
    | exc c ds st1 => rw [e1] at h; exact h σ
    | ok fr b0 d st1 =>
      rw [e1] at h
      cases d with
      | int y =>
        dsimp only at h
        cases ef : f x0 y with
        | none => rw [ef] at h; exact h.elim
        | some z =>
          rw [ef] at h
          intro v H1 R1
          have e2 := R1.int
          subst e2
          exact hf _ _ _ _ _ ef (h _ H1 (Rl.store (b := false) (Rl.scal (v := .int z) (d := .int z) (RlB.drop R1) rfl) rfl hT i))
      | _ => exact h.elim
  · exact h.elim
theorem au_add {X : Cx} : PIp X .Add (ipI fun i j => i + j) := ip_add
theorem ds_augAdd {i : Nat} {x : Str} {q : Pos} (hN : S.N[i]? = some x) (hx : Loc S.sc x) (hfn : S.fnA = true ∨ S.sc.names.lookup x = some .local) (ha : DE S a da) : DS S (.AugAssign (.Name x q) .Add a pos) (dAug i augAdd da) :=
  ds_aug (fun X hX => ip_add) (fun x y z H Q e q => by cases e; exact ⟨_, _, rfl, rfl, q⟩) hN hx hfn ha
theorem ds_augSub {i : Nat} {x : Str} {q : Pos} (hN : S.N[i]? = some x) (hx : Loc S.sc x) (hfn : S.fnA = true ∨ S.sc.names.lookup x = some .local) (ha : DE S a da) : DS S (.AugAssign (.Name x q) .Sub a pos) (dAug i augSub da) :=
  ds_aug (fun X hX => ip_sub) (fun x y z H Q e q => by cases e; exact ⟨_, _, rfl, rfl, q⟩) hN hx hfn ha
theorem ds_augMul {i : Nat} {x : Str} {q : Pos} (hN : S.N[i]? = some x) (hx : Loc S.sc x) (hfn : S.fnA = true ∨ S.sc.names.lookup x = some .local) (ha : DE S a da) : DS S (.AugAssign (.Name x q) .Mult a pos) (dAug i augMul da) :=
  ds_aug (fun X hX => ip_mul) (fun x y z H Q e q => by
    obtain ⟨c, e⟩ := bifS e
    subst e
    exact ⟨_, _, rfl, rfl, by simpa [mulOk, CMulW] using c, q⟩) hN hx hfn ha
theorem ds_augDiv {i : Nat} {x : Str} {q : Pos} (hN : S.N[i]? = some x) (hx : Loc S.sc x) (hfn : S.fnA = true ∨ S.sc.names.lookup x = some .local) (ha : DE S a da) : DS S (.AugAssign (.Name x q) .FloorDiv a pos) (dAug i augDiv da) :=
  ds_aug (fun X hX => ip_fdiv) (fun x y z H Q e q => by
    obtain ⟨c, e⟩ := bifS e
    subst e
    simp only [divOk, Bool.and_eq_true, decide_eq_true_eq] at c
    exact ⟨_, _, rfl, rfl, c, q⟩) hN hx hfn ha
/-! ### x = y = e; xs.extend(e) -/
@[simp] def dSet2 (i j : Nat) (a : Den) : DenS := fun env st => match a env st with
  | .ok f b d st1 => bif !b || f.isz then .nx ((env.set i (some (.z, d))).set j (some (.z, d))) st1 else .stuck
  | .exc c ds st1 => .exc c ds env st1
  | .stuck => .stuck
theorem ds_set2 {i j : Nat} {x y : Str} {q r : Pos} (hN : S.N[i]? = some x) (hx : Loc S.sc x) (hM : S.N[j]? = some y) (hy : Loc S.sc y) (hf : S.fnA = true) (ha : DE S a da) : DS S (.Assign [.Name x q, .Name y r] a pos) (dSet2 i j da) := fun W => by
  obtain ⟨ta, pa, qa⟩ := ha W
  refine ⟨_, fun X hX tk => ps_asg2 (pa X hX tk) (pg_name (i := i) hX.nd (by rw [hX.N]; exact hN) (by rw [hX.sc]; exact hx) (stx_fn hX (.inl hf))) (pg_name (i := j) hX.nd (by rw [hX.N]; exact hM) (by rw [hX.sc]; exact hy) (stx_fn hX (.inl hf))) rfl (by cases a <;> rfl), fun g env st T σ H D hT R h => qa g env st T σ H _ hT R ?_⟩
  unfold dSet2 at h
  cases e : da env st with
  | stuck => rw [e] at h; exact h.elim
  | exc c ds st1 => rw [e] at h; exact h σ
  | ok f b d st1 =>
    rw [e] at h
    obtain ⟨hc, h⟩ := bifT h id
    intro v H1 R1
    have R2 := ((R1.unb hc).frz).dup
    exact h _ H1 (Rl.store (b := false) (Rl.store (b := false) R2 rfl (nb_cons hT) i) rfl hT j)
def dExt (i : Nat) (a : Den) : DenS := fun env st => match env[i]? with
  | some (some (.c .z, .con .lst xs)) => (match a env st with
    | .ok f b (.con .lst ys) st1 => bif (!b || f.isz) && xs.length.ble 1000000 && ys.length.ble 1000000 then .nx (env.set i (some (.c .z, .con .lst (xs ++ ys)))) st1 else .stuck
    | .ok _ _ _ _ => .stuck
    | .exc c ds st1 => .exc c ds env st1
    | .stuck => .stuck)
  | _ => .stuck
theorem shr_lst {G : Sg} {Fz : Addr → Prop} {am : List Addr} {H : Hp} {v : V} {ds : List D} {n : Fp} (r : Rep G Fz am H .z v (.con .lst ds) n) : ∃ b zs', v = .ref b ∧ H b = some (.lst zs') ∧ Reps G Fz am H (zs ds.length) zs' ds (fun _ => 0) := by
  cases r with
  | sc s _ => cases v <;> exact s.elim
  | zz a b c =>
    obtain ⟨_, o, e1, e2⟩ := a
    have e2 : o = .lst _ := e2
    subst e2
    exact ⟨_, _, rfl, e1, b.toz⟩
/-- an owned list in a slot grows by a shared one's items -/
theorem Rl.wrx {G : Sg} {g : Gd} {env : Env} {st : Store} {T : List Tm} {σ : St} {H : Hp} {x : V} {i : Nat} {xs ys : List D} (R : Rl G g env st (⟨x, .z, .con .lst ys, false⟩ :: T) σ H) (hT : noBor T) (e : env[i]? = some (some (.c .z, .con .lst xs))) :
    ∃ A acc b bs, σ[i]? = some (some (.ref A)) ∧ H A = some (.lst acc) ∧ acc.length = xs.length ∧ x = .ref b ∧ H b = some (.lst bs) ∧ bs.length = ys.length ∧ Rl G g (env.set i (some (.c .z, .con .lst (xs ++ ys)))) st T σ (upd H A (.lst (acc ++ bs))) := by
  obtain ⟨Fz, am, ne, nt, ns, h1, h2, h3, h4, h5⟩ := R
  obtain ⟨A, acc, a1, a2, a3, a4, a5⟩ := EnvR.updAt h1 (fun q => by have := h4.n1 q; omega) e
  cases h2 with
  | @own _ _ _ _ n1 n2 _ j1 j2 j3 =>
    obtain ⟨b, bs, rfl, eb, rb⟩ := shr_lst j1
    have hA : 0 < ne A + nt A + ns A := by omega
    have le := h4.n1 A
    have z1 : ns A = 0 := by omega
    have z2 : n2 A = 0 := by have := h4.n1 A; rw [j3] at this; omega
    have E := h4.wext (o := .lst (acc ++ bs)) hA
    refine ⟨A, acc, b, bs, a1, a2, a3.len.2, rfl, eb, rb.len.2, Fz, am, ne, n2, ns, a5 _ _ (a3.cat rb) E, ?_, Reps.ext E h3 (upd_keep z1), (h4.wrel (o := .lst (acc ++ bs)) hA trivial).less fun q => ?_, trivial⟩
    · exact (j2.nb hT).ext (ne := fun _ => 0) E (upd_keep z2) (fun _ _ hp => absurd hp (Nat.lt_irrefl 0)) |>.nb hT
    · show ne q + n2 q + ns q ≤ _
      rw [j3]; omega
theorem ds_ext {i : Nat} {x : Str} {q apos : Pos} (hN : S.N[i]? = some x) (hv : Vis S.sc x) (hd : (x == ("__debug__" : Str)) = false) (hcd : (x == ("__classdict__" : Str)) = false) (hl : (apos.endLine == p.line) = true) (ha : DE S a da) (hp : plainArgs [a] = true) :
    DS S (.Expr (.Call (.Attribute (.Name x q) "extend" apos) [a] [] p) pos) (dExt i da) := fun W => by
  obtain ⟨ta, pa, qa⟩ := ha W
  have hs := plainArgs_ok hp a (by simp)
  have pk : ∀ X, Stx S X → Takes X W → PE X (.Call (.Attribute (.Name x q) "extend" apos) [a] [] p) (tBM S.G.K "list" rExtend (tVar i) (tCons ta tNil)) := fun X hX tk => by
    have := pe_bm PySem.F.plainAttrs_list PySem.F.slot_list_extend PySem.F.type_list_extend mt_extend (de_pv (p := q) hN hv hd hcd hX) (pa_cons (pa X hX tk) pa_nil (starNo hs)) (by rfl) (by rw [starNo hs]; rfl) hl (starNo hs)
    rw [hX.K] at this
    exact this
  refine ⟨_, fun X hX tk => ps_expr (pk X hX tk), fun g env st T σ H D hT R h => ?_⟩
  unfold dExt at h
  split at h
  · rename_i xs ei
    obtain ⟨v, ev, R0⟩ := R.pushb ei
    have hsq : ∃ A acc, v = .ref A ∧ SqL S.G.K H A acc := by
      obtain ⟨Fz, am, vw⟩ := R0.view1 rfl
      obtain ⟨A, acc, e1, e2, _⟩ := View.sq (k := .lst) rfl vw
      exact ⟨A, acc, e1, e2⟩
    obtain ⟨A, acc, rfl, sq⟩ := hsq
    refine ⟨_, ev, .inl ⟨rfl, _, sq⟩, ?_⟩
    refine qa g env st T σ H _ hT R ?_
    cases e1 : da env st with
    | stuck => rw [e1] at h; exact h.elim
    | exc c ds st1 => rw [e1] at h; exact h σ
    | ok f b d st1 =>
      rw [e1] at h
      split at h
      · rename_i f' b' ys st1' e2
        cases e2
        obtain ⟨hc, h⟩ := bifT h id
        rw [Bool.and_eq_true, Bool.and_eq_true] at hc
        intro x H1 R1
        obtain ⟨A', acc', bb, bs, a1, a2, a3, a4, a5, a6, R2⟩ := Rl.wrx (R1.unb hc.1.1).frz hT ei
        rw [ev] at a1
        cases a1
        refine ⟨A, bb, acc', bs, rfl, by rw [a4], a2, a5, ?_, h _ _ R2⟩
        have k1 := Nat.le_of_ble_eq_true hc.1.2
        have k2 := Nat.le_of_ble_eq_true hc.2
        have hs : 2000000 ≤ sizeLine := by decide
        omega
      · exact h.elim
      · rename_i e2; cases e2
      · rename_i e2; cases e2
  · exact h.elim
end
end Hx

set_option Elab.async false
set_option linter.all false
set_option maxRecDepth 100000
set_option autoImplicit false
/-! Y5: what is walked, whatever it is; comprehensions of two clauses. -/
namespace Hx
open PySem PySem.Spec L2
open PyProof.Rows hiding St
@[simp] def dIv (a : Den) : DenI := fun env st => match a env st with
  | .ok f b (.con .lst ds) st1 => bif !b || f.isz then .ok ds st1 else .stuck
  | .ok f b (.con .tup ds) st1 => bif !b || f.isz then .ok ds st1 else .stuck
  | .ok f b (.con .frl ds) st1 => bif !b || f.isz then .ok ds st1 else .stuck
  | .ok f b (.con (.dik ks) ds) st1 => bif !b || f.isz then .ok (ks.map keyD) st1 else .stuck
  | .ok _ _ (.str x) st1 => .ok (chars x) st1
  | .ok _ _ _ _ => .stuck
  | .exc c ds st1 => .exc c ds st1
  | .stuck => .stuck
section
variable {G : Sg} {g : Gd} {env : Env} {st st' : Store} {T T' : List Tm} {σ : St} {H H' : Hp}
theorem it_frl {a : Addr} {ds : List D} : ItOk G g (Itl G.K a) [⟨.ref a, .z, .con .frl ds, false⟩] ds where
  nb := fun x hx => by rw [List.mem_singleton.mp hx]
  go := fun i env st T σ H R hi => R.oneD (P := _) fun Fz am r => by
    obtain ⟨vs, e1, e2⟩ := sqRep rfl (by decide) r
    exact ⟨vs, _, e1, List.getElem?_eq_getElem (by rw [e2.len.2]; exact hi)⟩
  yld := fun i env st T σ H x H' d R y e => by
    obtain ⟨rfl, q⟩ := y
    exact R.pz fun Fz am ne nt' _ h2 => by
      cases h2 with
      | own k1 k2 k3 =>
        obtain ⟨vs, a1, a2⟩ := sqRep rfl (by decide) k1
        exact reps_get a2 (q vs a1) e
  stop := fun i env st T σ H R hi => R.oneD (P := _) fun Fz am r => by
    obtain ⟨vs, e1, e2⟩ := sqRep rfl (by decide) r
    exact ⟨vs, e1, by rw [e2.len.2]; omega⟩
theorem it_str {x : Str} : ItOk G g (Its x) [] (chars x) where
  nb := fun x hx => by cases hx
  go := fun i env st T σ H R hi => by
    show i < x.cps.size
    simpa [chars] using hi
  yld := fun i env st T σ H y H' d R hy e => by
    obtain ⟨rfl, c, e1, rfl⟩ := hy
    unfold chars at e
    rw [List.getElem?_map, Array.getElem?_toList, e1] at e
    cases e
    exact Rl.scal R rfl
  stop := fun i env st T σ H R hi => by
    show x.cps.size ≤ i
    rw [hi]
    simp [chars]
end
section
variable {S : Sx} {e a b tg it elt it1 tg1 : Expr} {ifs ifs1 : List Expr} {es elts : List Expr} {da db : Den} {das : DenL} {pos p' tpos apos cpos : Pos} {kk : Nat}
theorem di_val' (ha : DE S a da) : DI S tg a (dIv da) := fun W => by
  obtain ⟨w1, p1, q1⟩ := di_val (tg := tg) ha W
  obtain ⟨w2, p2, q2⟩ := di_keys (tg := tg) ha W
  obtain ⟨t, p, q⟩ := ha W
  refine ⟨fun σ H R => w1 σ H R ∨ (w2 σ H R ∨ (iList S.G.K t σ H R ∨ iStr t σ H R)), fun X hX tk => PI.or (p1 X hX tk) (PI.or (p2 X hX tk) (PI.or (by rw [← hX.K]; exact pi_list (p X hX tk)) (pi_str (p X hX tk)))), fun g env st T σ H R0 hT R h => ?_⟩
  unfold dIv at h
  cases e : da env st with
  | stuck => rw [e] at h; exact h.elim
  | exc c ds st1 => rw [e] at h; exact .inl (q1 g env st T σ H R0 hT R (by unfold dIvS; rw [e]; exact h))
  | ok f b d st1 =>
    rw [e] at h
    cases d with
    | con k ds =>
      cases k with
      | lst => exact .inl (q1 g env st T σ H R0 hT R (by unfold dIvS; rw [e]; exact h))
      | tup => exact .inl (q1 g env st T σ H R0 hT R (by unfold dIvS; rw [e]; exact h))
      | dik ks => exact .inr (.inl (q2 g env st T σ H R0 hT R (by unfold dKeysI; rw [e]; exact h)))
      | frl =>
        obtain ⟨hc, h⟩ := bifT h id
        refine .inr (.inr (.inl (q g env st T σ H _ hT R ?_)))
        rw [e]
        intro v H1 R1
        have R2 := (R1.unb hc).frz
        obtain ⟨a, vs, rfl, e1, e2⟩ := frlOpen rfl (by decide) R2
        exact ⟨a, rfl, ⟨vs, e1⟩, h _ H1 _ g .refl it_frl R2⟩
      | _ => exact h.elim
    | str x =>
      refine .inr (.inr (.inr (q g env st T σ H _ hT R ?_)))
      rw [e]
      intro v H1 R1
      exact ⟨x, R1.str, h _ H1 [] g .refl it_str R1.drop⟩
    | _ => exact h.elim
/-! ### two clauses -/
def lc2In (p1 : Pat) (c1 : DenB) (el : Den) : List D → Env → Store → List D → Option (List D × Store)
  | [], _, st, acc => some (acc, st)
  | d :: ds, env, st, acc => match bindP p1 .z d env with
    | none => none
    | some env1 => match c1 env1 st with
      | .ok false st1 => lc2In p1 c1 el ds env st1 acc
      | .ok true st1 => (match el env1 st1 with
        | .ok f b d' st2 => bif (!b || f.isz) && acc.length.ble 1000000 then lc2In p1 c1 el ds env st2 (acc ++ [d']) else none
        | _ => none)
      | _ => none
def lc2Go (p : Pat) (c : DenB) (di1 : DenI) (own1 : List Nat) (p1 : Pat) (c1 : DenB) (el : Den) : List D → Env → Store → List D → Res
  | [], _, st, acc => .ok (.c .z) false (.con .lst acc) st
  | d :: ds, env, st, acc => match bindP p .z d env with
    | none => .stuck
    | some env1 => match c env1 st with
      | .ok false st1 => lc2Go p c di1 own1 p1 c1 el ds env st1 acc
      | .ok true st1 => (match di1 env1 st1 with
        | .ok items st2 => bif nonesAt own1 env1 then (match lc2In p1 c1 el items env1 st2 acc with
          | some (acc', st3) => lc2Go p c di1 own1 p1 c1 el ds env st3 acc'
          | none => .stuck) else .stuck
        | _ => .stuck)
      | _ => .stuck
def dLc2 (it : DenI) (own : List Nat) (p : Pat) (c : DenB) (di1 : DenI) (own1 : List Nat) (p1 : Pat) (c1 : DenB) (el : Den) : Den := fun env st => match it env st with
  | .ok items st1 => bif nonesAt own env then lc2Go p c di1 own1 p1 c1 el items env st1 [] else .stuck
  | .exc c ds st1 => .exc c ds st1
  | .stuck => .stuck
theorem RlB.assoc {G : Sg} {g : Gd} {env : Env} {st : Store} {l1 l2 T : List Tm} {σ : St} {H : Hp} {B : (Addr → Prop) → List Addr → Prop} (R : RlB G g env st (l1 ++ (l2 ++ T)) σ H B) : RlB G g env st ((l1 ++ l2) ++ T) σ H B := by rw [List.append_assoc]; exact R
theorem Rl.dim {G : Sg} {g : Gd} {env : Env} {st : Store} {l T : List Tm} {a : Tm} {σ : St} {H : Hp} (R : Rl G g env st (a :: (l ++ T)) σ H) : Rl G g env st (l ++ a :: T) σ H := by
  obtain ⟨Fz, am, ne, nt, ns, h1, h2, h3, h4, h5⟩ := R
  exact ⟨Fz, am, ne, nt, ns, h1, h2.dim, h3, h4, h5⟩
theorem lc2_run {di di1 : DenI} {p p1 : Pat} {own own1 : List Nat} {c c1 : DenB} {el : Den} {W : WX} {wi wi1 : TI} {tg' tg1' : TG} {tt tt1 : TT} {te : TE}
    (qi : ∀ g env st T σ H R, noBor T → Rl S.G g env st T σ H → PostI S.G g env T σ W R (di env st) → wi σ H R)
    (qg : ∀ g env st T σ H v f d env' Q, noBor T → Rl S.G g env st (⟨v, f, d, false⟩ :: T) σ H → bindP p f d env = some env' → (∀ σ' H', Dif p.slots σ σ' → Rl S.G g env' st T σ' H' → Q σ' H') → tg' v σ H Q)
    (qt : ∀ g env st T σ H Q, noBor T → Rl S.G g env st T σ H → PostB S.G g env T σ (fun _ _ _ _ => False) Q (c env st) → tt σ H Q)
    (qi1 : ∀ g env st T σ H R, noBor T → Rl S.G g env st T σ H → PostI S.G g env T σ (fun _ _ _ _ => False) R (di1 env st) → wi1 σ H R)
    (qg1 : ∀ g env st T σ H v f d env' Q, noBor T → Rl S.G g env st (⟨v, f, d, false⟩ :: T) σ H → bindP p1 f d env = some env' → (∀ σ' H', Dif p1.slots σ σ' → Rl S.G g env' st T σ' H' → Q σ' H') → tg1' v σ H Q)
    (qt1 : ∀ g env st T σ H Q, noBor T → Rl S.G g env st T σ H → PostB S.G g env T σ (fun _ _ _ _ => False) Q (c1 env st) → tt1 σ H Q)
    (qe : ∀ g env st T σ H Q, noBor T → Rl S.G g env st T σ H → PostE S.G g env T σ (fun _ _ _ _ => False) Q (el env st) → te σ H Q)
    (ho : ∀ i ∈ p.slots, i ∈ own) (ho1 : ∀ i ∈ p1.slots, i ∈ own1)
    (g : Gd) (env : Env) (st : Store) (T : List Tm) (σ : St) (H : Hp) (Q : VK) (hT : noBor T) (R : Rl S.G g env st T σ H) (h : PostE S.G g env T σ W Q (dLc2 di own p c di1 own1 p1 c1 el env st)) : tLc2 wi tg' tt wi1 tg1' tt1 te own own1 σ H Q := by
  refine qi g env st T σ H _ hT R ?_
  unfold dLc2 at h
  cases e : di env st with
  | stuck => rw [e] at h; exact h.elim
  | exc c ds st1 => rw [e] at h; exact h
  | ok items st1 =>
    rw [e] at h
    obtain ⟨hc, h⟩ := bifT h id
    intro J H1 keep g' bk IO R1 A hA
    have nbA : ∀ ds, noBor (keep ++ (⟨.ref A, .c .z, .con .lst ds, false⟩ :: T)) := fun ds => nb_app IO.nb (nb_cons hT)
    have outside : ∀ (i : Nat) x, env[i]? = some (some x) → i ∉ own := fun i x e hi => by
      have := List.all_eq_true.mp hc i hi
      rw [e] at this
      cases this
    have R2 : Rl S.G g' env st1 (keep ++ (⟨.ref A, .c .z, .con .lst [], false⟩ :: T)) (wipe σ own) (upd H1 A (.lst [])) := by
      have r := RlB.new (B := fun _ _ => True) (v := .ref A) (f := .c .z) (d := .con .lst []) (n := one1 A) R1 (same_upd hA) (newp1 (o := .lst []) hA trivial) fun Fz am E _ => rep_lst E (.nil fun _ => rfl)
      exact (Rl.dim r).resig (wipe_length _ _) (nones_wipe hc σ)
    have back : ∀ {g1 : Gd} {env1 : Env} {d : D} {T1 : List Tm} {st : Store} {σ' : St} {H4 : Hp}, noBor T1 → bindP p .z d env = some env1 → Dif p.slots (wipe σ own) σ' → Rl S.G g1 env1 st T1 σ' H4 → Rl S.G g1 env st T1 (wipe σ own) H4 := fun {g1 env1 d T1 st σ' H4} nb eb D' r => by
      obtain ⟨Fz, am, ne, nt, ns, h1, h2, h3, h4, h5⟩ := r
      have bd := bindP_dif p eb
      obtain ⟨n', k1, k2⟩ := h1.weak (env' := env) (σ'' := wipe σ own) bd.1.symm D'.1.symm fun i x e => ⟨by rw [bd.2 i fun z => outside i x e (ho i z)]; exact e, (D'.2 i fun z => outside i x e (ho i z)).symm⟩
      exact ⟨Fz, am, n', nt, ns, k1, h2.nb nb, h3, h4.less fun q => by have := k2 q; omega, trivial⟩
    refine ⟨fun i m H => ∃ st acc, m = items.length - i ∧ i ≤ items.length ∧ Rl S.G g' env st (keep ++ (⟨.ref A, .c .z, .con .lst acc, false⟩ :: T)) (wipe σ own) H ∧ PostE S.G g env T σ W Q (lc2Go p c di1 own1 p1 c1 el (items.drop i) env st acc),
      ⟨items.length, st1, [], by omega, Nat.zero_le _, R2, by simpa using h⟩, ?_⟩
    rintro i m H ⟨st, acc, rfl, hi, R, h⟩
    by_cases hlt : i < items.length
    · refine .inr ⟨IO.go i env st _ _ H R hlt, fun H' => ∃ st acc, i + 1 ≤ items.length ∧ Rl S.G g' env st (keep ++ (⟨.ref A, .c .z, .con .lst acc, false⟩ :: T)) (wipe σ own) H' ∧ PostE S.G g env T σ W Q (lc2Go p c di1 own1 p1 c1 el (items.drop (i + 1)) env st acc),
        fun H' ⟨st, acc, h1, h3, h4⟩ => ⟨items.length - (i + 1), by omega, st, acc, rfl, h1, h3, h4⟩, fun x H' y => ?_⟩
      have ei : items[i]? = some items[i] := List.getElem?_eq_getElem hlt
      have R3 := IO.yld i env st _ _ H x H' _ R y ei
      rw [List.drop_eq_getElem_cons hlt] at h
      unfold lc2Go at h
      cases eb : bindP p .z items[i] env with
      | none => rw [eb] at h; exact h.elim
      | some env1 =>
        rw [eb] at h
        refine qg g' env st _ _ H' x .z items[i] env1 _ (nbA acc) R3 eb fun σ' H'' D' R4 => ⟨wipe_wipe D' ho, ?_⟩
        refine qt g' env1 st _ σ' H'' _ (nbA acc) R4 ?_
        dsimp only at h
        cases ec : c env1 st with
        | stuck => rw [ec] at h; exact h.elim
        | exc c ds st2 => rw [ec] at h; exact h.elim
        | ok b st2 =>
          rw [ec] at h
          intro H3 R5
          cases b with
          | false => exact iteF ⟨st2, acc, hlt, back (nbA acc) eb D' R5, h⟩
          | true =>
            refine iteT (qi1 g' env1 st2 _ σ' H3 _ (nbA acc) R5 ?_)
            dsimp only at h
            cases ed : di1 env1 st2 with
            | stuck => rw [ed] at h; exact h.elim
            | exc c ds st3 => rw [ed] at h; exact h.elim
            | ok items1 st3 =>
              rw [ed] at h
              dsimp only at h
              obtain ⟨hc1, h'⟩ := bifT h id
              clear h
              have h := h'
              clear h'
              intro J1 H4 keep1 g1 bk1 IO1 R6
              have outside1 : ∀ (i : Nat) x, env1[i]? = some (some x) → i ∉ own1 := fun i x e hi => by
                have := List.all_eq_true.mp hc1 i hi
                rw [e] at this
                cases this
              have nb1 : ∀ ds, noBor (keep1 ++ (keep ++ (⟨.ref A, .c .z, .con .lst ds, false⟩ :: T))) := fun ds => nb_app IO1.nb (nbA ds)
              have R7 : Rl S.G g1 env1 st3 (keep1 ++ (keep ++ (⟨.ref A, .c .z, .con .lst acc, false⟩ :: T))) (wipe σ' own1) H4 := Rl.resig R6 (by rw [wipe_length]) fun i x e => nones_wipe hc1 σ' i x e
              refine ⟨fun j m H => ∃ st acc, m = items1.length - j ∧ j ≤ items1.length ∧ Rl S.G g1 env1 st (keep1 ++ (keep ++ (⟨.ref A, .c .z, .con .lst acc, false⟩ :: T))) (wipe σ' own1) H ∧
                  PostE S.G g env T σ W Q (match lc2In p1 c1 el (items1.drop j) env1 st acc with | some (acc', st3) => lc2Go p c di1 own1 p1 c1 el (items.drop (i + 1)) env st3 acc' | none => .stuck),
                ⟨items1.length, st3, acc, by omega, Nat.zero_le _, R7, by simpa using h⟩, ?_⟩
              rintro j m1 H5 ⟨st4, acc4, rfl, hj, R8, h8⟩
              by_cases hjt : j < items1.length
              · refine .inr ⟨IO1.go j env1 st4 _ _ H5 R8 hjt, fun H' => ∃ st acc, j + 1 ≤ items1.length ∧ Rl S.G g1 env1 st (keep1 ++ (keep ++ (⟨.ref A, .c .z, .con .lst acc, false⟩ :: T))) (wipe σ' own1) H' ∧
                  PostE S.G g env T σ W Q (match lc2In p1 c1 el (items1.drop (j + 1)) env1 st acc with | some (acc', st3) => lc2Go p c di1 own1 p1 c1 el (items.drop (i + 1)) env st3 acc' | none => .stuck),
                  fun H' ⟨st, acc, h1, h3, h4⟩ => ⟨items1.length - (j + 1), by omega, st, acc, rfl, h1, h3, h4⟩, fun x1 H6 y1 => ?_⟩
                have ej : items1[j]? = some items1[j] := List.getElem?_eq_getElem hjt
                have R9 := IO1.yld j env1 st4 _ _ H5 x1 H6 _ R8 y1 ej
                rw [List.drop_eq_getElem_cons hjt] at h8
                unfold lc2In at h8
                cases eb1 : bindP p1 .z items1[j] env1 with
                | none => rw [eb1] at h8; exact h8.elim
                | some env2 =>
                  rw [eb1] at h8
                  refine qg1 g1 env1 st4 _ _ H6 x1 .z items1[j] env2 _ (nb1 acc4) R9 eb1 fun σ3 H7 D3 R10 => ⟨wipe_wipe D3 ho1, ?_⟩
                  refine qt1 g1 env2 st4 _ σ3 H7 _ (nb1 acc4) R10 ?_
                  have back1 : ∀ {st : Store} {ds : List D} {H4 : Hp}, Rl S.G g1 env2 st (keep1 ++ (keep ++ (⟨.ref A, .c .z, .con .lst ds, false⟩ :: T))) σ3 H4 → Rl S.G g1 env1 st (keep1 ++ (keep ++ (⟨.ref A, .c .z, .con .lst ds, false⟩ :: T))) (wipe σ' own1) H4 := fun {st ds H4} r => by
                    obtain ⟨Fz, am, ne, nt, ns, h1, h2, h3, h4, h5⟩ := r
                    have bd := bindP_dif p1 eb1
                    obtain ⟨n', k1, k2⟩ := h1.weak (env' := env1) (σ'' := wipe σ' own1) bd.1.symm D3.1.symm fun i x e => ⟨by rw [bd.2 i fun z => outside1 i x e (ho1 i z)]; exact e, (D3.2 i fun z => outside1 i x e (ho1 i z)).symm⟩
                    exact ⟨Fz, am, n', nt, ns, k1, h2.nb (nb1 ds), h3, h4.less fun q => by have := k2 q; omega, trivial⟩
                  dsimp only at h8
                  cases ec1 : c1 env2 st4 with
                  | stuck => rw [ec1] at h8; exact h8.elim
                  | exc c ds st5 => rw [ec1] at h8; exact h8.elim
                  | ok b1 st5 =>
                    rw [ec1] at h8
                    intro H8 R11
                    cases b1 with
                    | false => exact iteF ⟨st5, acc4, hjt, back1 R11, h8⟩
                    | true =>
                      refine iteT (qe g1 env2 st5 _ σ3 H8 _ (nb1 acc4) R11 ?_)
                      dsimp only at h8
                      cases ee : el env2 st5 with
                      | stuck => rw [ee] at h8; exact h8.elim
                      | exc c ds st6 => rw [ee] at h8; exact h8.elim
                      | ok f b2 d' st6 =>
                        rw [ee] at h8
                        dsimp only at h8
                        cases hb : (!b2 || f.isz) && acc4.length.ble 1000000 with
                        | false => rw [hb] at h8; exact h8.elim
                        | true =>
                        rw [hb] at h8
                        rw [Bool.and_eq_true] at hb
                        intro y' H9 R12
                        have R13 := RlB.assoc (l1 := ⟨y', .z, d', false⟩ :: keep1) (l2 := keep) ((R12.unb hb.1).frz)
                        obtain ⟨vs, e1, e2, R14⟩ := Rl.appT (RlB.mid (l := ⟨y', .z, d', false⟩ :: (keep1 ++ keep)) R13)
                        refine ⟨vs, e1, by rw [e2]; exact len7 hb.2, st6, acc4 ++ [d'], hjt, back1 ?_, h8⟩
                        have R15 := Rl.dim (l := keep1 ++ keep) R14
                        rw [List.append_assoc] at R15
                        exact R15
              · have e : j = items1.length := by omega
                subst e
                rw [List.drop_length] at h8
                refine .inl ⟨IO1.stop _ env1 st4 _ _ H5 R8 rfl, st4, acc4, hlt, back (nbA acc4) eb D' ?_, h8⟩
                exact Rl.resig (RlB.tail (R8.back bk1)) (by rw [wipe_length]) fun i x e => (nones_wipe hc1 σ' i x e).symm
    · have e : i = items.length := by omega
      subst e
      rw [List.drop_length] at h
      refine .inl ⟨IO.stop _ env st _ _ H R rfl, h _ H ?_⟩
      exact Rl.resig (RlB.tail (R.back bk)) (by rw [wipe_length]) fun i x e => (nones_wipe hc σ i x e).symm
section
variable {di di1 : DenI} {p p1 : Pat} {c c1 : DenB} {el : Den} {scope : Scope} {own : List (Str × Nat)} {own1 : List Nat} {pos : Pos}
theorem notSet_fold1 {e : Expr} (h : notSet e = true) (env : PySem.Env) (x : Value) : foldedSetIterable e env x = pure x := notSet_fold h x
theorem de_lc2 (hi : DI S tg it di) (hg : DG (S.blk scope) tg p) (hc : DIf (S.blk scope) ifs c) (hi1 : DI (S.blk scope) tg1 it1 di1) (hg1 : DG (S.blk scope) tg1 p1) (hc1 : DIf (S.blk scope) ifs1 c1) (he : DE (S.blk scope) elt el) (ok : BlkOk S.N S.sc scope own) (ho : ∀ i ∈ p.slots, i ∈ own.map (·.2)) (ho1 : ∀ i ∈ p1.slots, i ∈ own1) (hv : ∀ i ∈ own1, i ∈ own.map (·.2)) (hs : notSet it = true) (hs1 : notSet it1 = true) :
    DE S (.ListComp elt [⟨tg, it, ifs, 0⟩, ⟨tg1, it1, ifs1, 0⟩] scope pos) (dLc2 di (own.map (·.2)) p c di1 own1 p1 c1 el) := fun W => by
  obtain ⟨wi, pi, qi⟩ := hi W
  obtain ⟨tg', pg, qg⟩ := hg
  obtain ⟨tt, pt, qt⟩ := hc
  obtain ⟨wi1, pi1, qi1⟩ := hi1 fun _ _ _ _ => False
  obtain ⟨tg1', pg1, qg1⟩ := hg1
  obtain ⟨tt1, pt1, qt1⟩ := hc1
  obtain ⟨te, pe, qe⟩ := he fun _ _ _ _ => False
  exact ⟨tLc2 wi tg' tt wi1 tg1' tt1 te (own.map (·.2)) own1, fun X hX tk => pe_lc2 hX.calm hX.nd (pi X hX tk) (by rw [hX.N, hX.sc]; exact ok) hv (fun s H C cl fp => pg _ (stx_blk hX s H scope C cl fp)) (fun s H C cl fp => pt _ (stx_blk hX s H scope C cl fp) L2.takes0) (fun s H C cl fp => pi1 _ (stx_blk hX s H scope C cl fp) L2.takes0) (fun s H C cl fp => pg1 _ (stx_blk hX s H scope C cl fp)) (fun s H C cl fp => pt1 _ (stx_blk hX s H scope C cl fp) L2.takes0) (fun s H C cl fp => pe _ (stx_blk hX s H scope C cl fp) L2.takes0) (notSet_fold hs) (notSet_fold1 hs1),
    fun g env st T σ H Q hT R h => lc2_run qi qg qt qi1 qg1 qt1 qe ho ho1 g env st T σ H Q hT R h⟩
theorem ds_setLc2Z (hi : DI S tg it di) (hg : DG (S.blk scope) tg p) (hc : DIf (S.blk scope) ifs c) (hi1 : DI (S.blk scope) tg1 it1 di1) (hg1 : DG (S.blk scope) tg1 p1) (hc1 : DIf (S.blk scope) ifs1 c1) (he : DE (S.blk scope) elt el) (ok : BlkOk S.N S.sc scope own) (ho : ∀ i ∈ p.slots, i ∈ own.map (·.2)) (ho1 : ∀ i ∈ p1.slots, i ∈ own1) (hv : ∀ i ∈ own1, i ∈ own.map (·.2)) (hs : notSet it = true) (hs1 : notSet it1 = true)
    {i : Nat} {y : Str} {py spos : Pos} (hN : S.N[i]? = some y) (hyl : S.sc.names.lookup y = some .local) (hl : (py.line == pos.line) = true) (hk : S.sc.kind = .function) (ha : (scope.names.any fun (n, k) => n == y && (k == .local || k == .cell)) = false) :
    DS S (.Assign [.Name y py] (.ListComp elt [⟨tg, it, ifs, 0⟩, ⟨tg1, it1, ifs1, 0⟩] scope pos) spos) (dSetZ i (dLc2 di (own.map (·.2)) p c di1 own1 p1 c1 el)) := fun W => by
  obtain ⟨wi, pi, qi⟩ := hi W
  obtain ⟨tg', pg, qg⟩ := hg
  obtain ⟨tt, pt, qt⟩ := hc
  obtain ⟨wi1, pi1, qi1⟩ := hi1 fun _ _ _ _ => False
  obtain ⟨tg1', pg1, qg1⟩ := hg1
  obtain ⟨tt1, pt1, qt1⟩ := hc1
  obtain ⟨te, pe, qe⟩ := he fun _ _ _ _ => False
  exact ⟨_, fun X hX tk => ps_setLc2 hX.calm hX.nd (by rw [hX.N]; exact hN) (by rw [hX.sc]; exact hyl) (sw_true (by rw [hX.sc]; exact hk) (by rw [hX.sc]; exact hyl) hl ha) (pi X hX tk) (by rw [hX.N, hX.sc]; exact ok) hv (fun s H C cl fp => pg _ (stx_blk hX s H scope C cl fp)) (fun s H C cl fp => pt _ (stx_blk hX s H scope C cl fp) L2.takes0) (fun s H C cl fp => pi1 _ (stx_blk hX s H scope C cl fp) L2.takes0) (fun s H C cl fp => pg1 _ (stx_blk hX s H scope C cl fp)) (fun s H C cl fp => pt1 _ (stx_blk hX s H scope C cl fp) L2.takes0) (fun s H C cl fp => pe _ (stx_blk hX s H scope C cl fp) L2.takes0) (notSet_fold hs) (notSet_fold1 hs1),
    fun g env st T σ H D hT R h => dsetZ_run (lc2_run qi qg qt qi1 qg1 qt1 qe ho ho1) g env st T σ H D hT R h⟩
end
end
end Hx

set_option Elab.async false
set_option linter.all false
set_option maxRecDepth 100000
set_option maxHeartbeats 0
set_option autoImplicit false
/-! R3: readings of defs that several laws share. -/
namespace Hx
open PySem PySem.Spec L2
noncomputable section
@[simp] def B_common_divisor_0b_0 : DenS :=
    dPar 0 1 (dCons (dVar 1) (dLast (dOp oMod (dCons (dVar 0) (dLast (dVar 1))))))
def B_common_divisor_0b : DenS :=
    B_common_divisor_0b_0
@[simp] def B_common_divisor_0 : DenS :=
    dWhile (fun (env : Hx.Env) (_ : Store) => match env[1]? with | some (some (_, D.int b)) => b.natAbs + 1 | _ => 0) (dB (dOp oNe (dCons (dVar 1) (dLast (dC (.int 0)))))) (B_common_divisor_0b) []
@[simp] def B_common_divisor : DenS :=
    dSeq (B_common_divisor_0) (dRetZ (dOp oAbs (dLast (dVar 0))))
def F_common_divisor : Fn := dBody 2 B_common_divisor
@[simp] def B_fraction_0 : DenS :=
    dIfS (dB (dOp oEq (dCons (dVar 1) (dLast (dC (.int 0)))))) (dRaise 16 "nought" dNil) (dSkip)
@[simp] def B_fraction_1 : DenS :=
    dSetZ 2 (dCall F_common_divisor [] (dCons (dVar 0) (dLast (dVar 1))))
@[simp] def B_fraction_2 : DenS :=
    dIfS (dB (dOp oLt (dCons (dVar 1) (dLast (dC (.int 0)))))) (dSetZ 2 (dOp oNeg (dLast (dVar 2)))) (dSkip)
@[simp] def B_fraction_3 : DenS :=
    dRetZ (dTup (dCons (dOp oFdiv (dCons (dVar 0) (dLast (dVar 2)))) (dLast (dOp oFdiv (dCons (dVar 1) (dLast (dVar 2)))))))
@[simp] def B_fraction_t2 : DenS :=
    dSeq (B_fraction_2) (B_fraction_3)
@[simp] def B_fraction_t1 : DenS :=
    dSeq (B_fraction_1) (B_fraction_t2)
@[simp] def B_fraction : DenS :=
    dSeq (B_fraction_0) (B_fraction_t1)
def F_fraction : Fn := dBody 3 B_fraction
@[simp] def B_order_0 : DenS :=
    dSetZ 2 (dOp oSub (dCons (dOp oMul (dCons (dOp oIx (dCons (dVar 0) (dLast (dC (.int 0))))) (dLast (dOp oIx (dCons (dVar 1) (dLast (dC (.int 1)))))))) (dLast (dOp oMul (dCons (dOp oIx (dCons (dVar 1) (dLast (dC (.int 0))))) (dLast (dOp oIx (dCons (dVar 0) (dLast (dC (.int 1)))))))))))
@[simp] def B_order_1 : DenS :=
    dRetZ (dOp oSub (dCons (dOp oGt (dCons (dVar 2) (dLast (dC (.int 0))))) (dLast (dOp oLt (dCons (dVar 2) (dLast (dC (.int 0))))))))
@[simp] def B_order : DenS :=
    dSeq (B_order_0) (B_order_1)
def F_order : Fn := dBody 3 B_order
@[simp] def B_corner_room_0 : DenS :=
    dRetZ (dOp oSub (dCons (dOp oMul (dCons (dOp oSub (dCons (dOp oIx (dCons (dVar 1) (dLast (dC (.int 0))))) (dLast (dOp oIx (dCons (dVar 0) (dLast (dC (.int 0)))))))) (dLast (dOp oSub (dCons (dOp oIx (dCons (dVar 2) (dLast (dC (.int 1))))) (dLast (dOp oIx (dCons (dVar 0) (dLast (dC (.int 1))))))))))) (dLast (dOp oMul (dCons (dOp oSub (dCons (dOp oIx (dCons (dVar 1) (dLast (dC (.int 1))))) (dLast (dOp oIx (dCons (dVar 0) (dLast (dC (.int 1)))))))) (dLast (dOp oSub (dCons (dOp oIx (dCons (dVar 2) (dLast (dC (.int 0))))) (dLast (dOp oIx (dCons (dVar 0) (dLast (dC (.int 0))))))))))))))
@[simp] def B_corner_room : DenS :=
    B_corner_room_0
def F_corner_room : Fn := dBody 3 B_corner_room
@[simp] def B_side_0 : DenS :=
    dSetZ 3 (dCall F_corner_room [] (dCons (dVar 0) (dCons (dVar 1) (dLast (dVar 2)))))
@[simp] def B_side_1 : DenS :=
    dRetZ (dOp oSub (dCons (dOp oGt (dCons (dVar 3) (dLast (dC (.int 0))))) (dLast (dOp oLt (dCons (dVar 3) (dLast (dC (.int 0))))))))
@[simp] def B_side : DenS :=
    dSeq (B_side_0) (B_side_1)
def F_side : Fn := dBody 4 B_side
@[simp] def B_is_within_0 : DenS :=
    dRetZ (dChain oLe oLe (dOp oMin2 (dCons (dVar 0) (dLast (dVar 2)))) (dVar 1) (dOp oMax2 (dCons (dVar 0) (dLast (dVar 2)))))
@[simp] def B_is_within : DenS :=
    B_is_within_0
def F_is_within : Fn := dBody 3 B_is_within
@[simp] def B_on_piece_1 : DenS :=
    dIfS (dB (dOp oNe (dCons (dCall F_side [] (dCons (dVar 2) (dCons (dVar 3) (dLast (dVar 0))))) (dLast (dC (.int 0)))))) (dRetZ (dC (.bl false))) (dSkip)
@[simp] def B_on_piece_2 : DenS :=
    dRetZ (dAnd (dCall F_is_within [] (dCons (dOp oIx (dCons (dVar 2) (dLast (dC (.int 0))))) (dCons (dOp oIx (dCons (dVar 0) (dLast (dC (.int 0))))) (dLast (dOp oIx (dCons (dVar 3) (dLast (dC (.int 0))))))))) (dCall F_is_within [] (dCons (dOp oIx (dCons (dVar 2) (dLast (dC (.int 1))))) (dCons (dOp oIx (dCons (dVar 0) (dLast (dC (.int 1))))) (dLast (dOp oIx (dCons (dVar 3) (dLast (dC (.int 1))))))))))
@[simp] def B_on_piece : DenS :=
    dSeq (dUnp (.tp [.nm 2, .nm 3]) (dVar 1)) (dSeq (B_on_piece_1) (B_on_piece_2))
def F_on_piece : Fn := dBody 4 B_on_piece
@[simp] def B_cut_down_0 : DenS :=
    dIfS (dB (dOp oIsN (dCons (dVar 0) (dLast (dC .non))))) (dRetZ (dC .non)) (dSkip)
@[simp] def B_cut_down_1 : DenS :=
    dSetZ 3 (dIf (dB (dOp oGt (dCons (dCall F_order [] (dCons (dVar 1) (dLast (dOp oIx (dCons (dVar 0) (dLast (dC (.int 0)))))))) (dLast (dC (.int 0)))))) (dVar 1) (dOp oIx (dCons (dVar 0) (dLast (dC (.int 0))))))
@[simp] def B_cut_down_2 : DenS :=
    dSetZ 4 (dIf (dB (dOp oLt (dCons (dCall F_order [] (dCons (dVar 2) (dLast (dOp oIx (dCons (dVar 0) (dLast (dC (.int 1)))))))) (dLast (dC (.int 0)))))) (dVar 2) (dOp oIx (dCons (dVar 0) (dLast (dC (.int 1))))))
@[simp] def B_cut_down_3 : DenS :=
    dRetZ (dIf (dB (dOp oGt (dCons (dCall F_order [] (dCons (dVar 3) (dLast (dVar 4)))) (dLast (dC (.int 0)))))) (dC .non) (dTup (dCons (dVar 3) (dLast (dVar 4)))))
@[simp] def B_cut_down_t2 : DenS :=
    dSeq (B_cut_down_2) (B_cut_down_3)
@[simp] def B_cut_down_t1 : DenS :=
    dSeq (B_cut_down_1) (B_cut_down_t2)
@[simp] def B_cut_down : DenS :=
    dSeq (B_cut_down_0) (B_cut_down_t1)
def F_cut_down : Fn := dBody 5 B_cut_down
@[simp] def B_share_on_1 : DenS :=
    dSetZ 4 (dIf (dB (dOp oNe (dCons (dOp oIx (dCons (dVar 2) (dLast (dC (.int 0))))) (dLast (dOp oIx (dCons (dVar 3) (dLast (dC (.int 0))))))))) (dC (.int 0)) (dC (.int 1)))
@[simp] def B_share_on_2 : DenS :=
    dRetZ (dCall F_fraction [] (dCons (dOp oSub (dCons (dOp oIx (dCons (dVar 1) (dLast (dVar 4)))) (dLast (dOp oIx (dCons (dVar 2) (dLast (dVar 4))))))) (dLast (dOp oSub (dCons (dOp oIx (dCons (dVar 3) (dLast (dVar 4)))) (dLast (dOp oIx (dCons (dVar 2) (dLast (dVar 4))))))))))
@[simp] def B_share_on : DenS :=
    dSeq (dUnp (.tp [.nm 2, .nm 3]) (dVar 0)) (dSeq (B_share_on_1) (B_share_on_2))
def F_share_on : Fn := dBody 5 B_share_on
@[simp] def B_along_shares_0 : DenS :=
    dSetZ 2 (dTup (dCons (dCall F_share_on [] (dCons (dVar 1) (dLast (dOp oIx (dCons (dVar 0) (dLast (dC (.int 0)))))))) (dLast (dCall F_share_on [] (dCons (dVar 1) (dLast (dOp oIx (dCons (dVar 0) (dLast (dC (.int 1)))))))))))
@[simp] def B_along_shares_1t_0 : DenS :=
    dSetZ 2 (dTup (dCons (dOp oIx (dCons (dVar 2) (dLast (dC (.int 1))))) (dLast (dOp oIx (dCons (dVar 2) (dLast (dC (.int 0))))))))
@[simp] def B_along_shares_1 : DenS :=
    dIfS (dB (dOp oGt (dCons (dCall F_order [] (dCons (dOp oIx (dCons (dVar 2) (dLast (dC (.int 0))))) (dLast (dOp oIx (dCons (dVar 2) (dLast (dC (.int 1)))))))) (dLast (dC (.int 0)))))) (B_along_shares_1t_0) (dSkip)
@[simp] def B_along_shares_2 : DenS :=
    dRetZ (dCall F_cut_down [] (dCons (dTup (dCons (dC (.con .tup [.int 0, .int 1])) (dLast (dC (.con .tup [.int 1, .int 1]))))) (dCons (dOp oIx (dCons (dVar 2) (dLast (dC (.int 0))))) (dLast (dOp oIx (dCons (dVar 2) (dLast (dC (.int 1)))))))))
@[simp] def B_along_shares : DenS :=
    dSeq (B_along_shares_0) (dSeq (B_along_shares_1) (B_along_shares_2))
def F_along_shares : Fn := dBody 3 B_along_shares
@[simp] def B_piece_shares_1t_0 : DenS :=
    dRetZ (dIf (dB (dCall F_on_piece [] (dCons (dVar 2) (dLast (dVar 0))))) (dTup (dCons (dC (.con .tup [.int 0, .int 1])) (dLast (dC (.con .tup [.int 0, .int 1]))))) (dC .non))
@[simp] def B_piece_shares_1 : DenS :=
    dIfS (dB (dOp oEq (dCons (dVar 2) (dLast (dVar 3))))) (B_piece_shares_1t_0) (dSkip)
@[simp] def B_piece_shares_2 : DenS :=
    dSetZ 4 (dTup (dCons (dCall F_corner_room [] (dCons (dVar 2) (dCons (dVar 3) (dLast (dOp oIx (dCons (dVar 0) (dLast (dC (.int 0))))))))) (dLast (dCall F_corner_room [] (dCons (dVar 2) (dCons (dVar 3) (dLast (dOp oIx (dCons (dVar 0) (dLast (dC (.int 1))))))))))))
@[simp] def B_piece_shares_3t_0 : DenS :=
    dRetZ (dCall F_along_shares [] (dCons (dVar 0) (dLast (dVar 1))))
@[simp] def B_piece_shares_3 : DenS :=
    dIfS (dB (dOp oEq (dCons (dVar 4) (dLast (dTup (dCons (dC (.int 0)) (dLast (dC (.int 0))))))))) (B_piece_shares_3t_0) (dSkip)
@[simp] def B_piece_shares_4 : DenS :=
    dIfS (dB (dOp oGt (dCons (dOp oMul (dCons (dOp oIx (dCons (dVar 4) (dLast (dC (.int 0))))) (dLast (dOp oIx (dCons (dVar 4) (dLast (dC (.int 1)))))))) (dLast (dC (.int 0)))))) (dRetZ (dC .non)) (dSkip)
@[simp] def B_piece_shares_5 : DenS :=
    dSetZ 5 (dOp oSub (dCons (dOp oIx (dCons (dVar 4) (dLast (dC (.int 0))))) (dLast (dOp oIx (dCons (dVar 4) (dLast (dC (.int 1))))))))
@[simp] def B_piece_shares_6 : DenS :=
    dSetZ 6 (dLc (dIv (dTup (dCons (dC (.int 0)) (dLast (dC (.int 1)))))) [7] (.nm 7) (dYes) (dOp oAdd (dCons (dOp oMul (dCons (dOp oIx (dCons (dOp oIx (dCons (dVar 0) (dLast (dC (.int 0))))) (dLast (dVar 7)))) (dLast (dVar 5)))) (dLast (dOp oMul (dCons (dOp oSub (dCons (dOp oIx (dCons (dOp oIx (dCons (dVar 0) (dLast (dC (.int 1))))) (dLast (dVar 7)))) (dLast (dOp oIx (dCons (dOp oIx (dCons (dVar 0) (dLast (dC (.int 0))))) (dLast (dVar 7))))))) (dLast (dOp oIx (dCons (dVar 4) (dLast (dC (.int 0))))))))))))
@[simp] def B_piece_shares_7 : DenS :=
    dSetZ 7 (dIf (dB (dOp oNe (dCons (dOp oIx (dCons (dVar 2) (dLast (dC (.int 0))))) (dLast (dOp oIx (dCons (dVar 3) (dLast (dC (.int 0))))))))) (dC (.int 0)) (dC (.int 1)))
@[simp] def B_piece_shares_8 : DenS :=
    dSetZ 8 (dCall F_fraction [] (dCons (dOp oSub (dCons (dOp oIx (dCons (dVar 6) (dLast (dVar 7)))) (dLast (dOp oMul (dCons (dOp oIx (dCons (dVar 2) (dLast (dVar 7)))) (dLast (dVar 5))))))) (dLast (dOp oMul (dCons (dOp oSub (dCons (dOp oIx (dCons (dVar 3) (dLast (dVar 7)))) (dLast (dOp oIx (dCons (dVar 2) (dLast (dVar 7))))))) (dLast (dVar 5)))))))
@[simp] def B_piece_shares_9 : DenS :=
    dRetZ (dCall F_cut_down [] (dCons (dTup (dCons (dC (.con .tup [.int 0, .int 1])) (dLast (dC (.con .tup [.int 1, .int 1]))))) (dCons (dVar 8) (dLast (dVar 8)))))
@[simp] def B_piece_shares_t8 : DenS :=
    dSeq (B_piece_shares_8) (B_piece_shares_9)
@[simp] def B_piece_shares_t7 : DenS :=
    dSeq (B_piece_shares_7) (B_piece_shares_t8)
@[simp] def B_piece_shares_t6 : DenS :=
    dSeq (B_piece_shares_6) (B_piece_shares_t7)
@[simp] def B_piece_shares_t5 : DenS :=
    dSeq (B_piece_shares_5) (B_piece_shares_t6)
@[simp] def B_piece_shares_t4 : DenS :=
    dSeq (B_piece_shares_4) (B_piece_shares_t5)
@[simp] def B_piece_shares_t3 : DenS :=
    dSeq (B_piece_shares_3) (B_piece_shares_t4)
@[simp] def B_piece_shares_t2 : DenS :=
    dSeq (B_piece_shares_2) (B_piece_shares_t3)
@[simp] def B_piece_shares_t1 : DenS :=
    dSeq (B_piece_shares_1) (B_piece_shares_t2)
@[simp] def B_piece_shares : DenS :=
    dSeq (dUnp (.tp [.nm 2, .nm 3]) (dVar 1)) (B_piece_shares_t1)
def F_piece_shares : Fn := dBody 9 B_piece_shares
@[simp] def B_l_bag_0 : DenS :=
    dSetZ 1 (dOp oAdd (dCons (dC (.int 31)) (dLast (dOp oLen (dLast (dOp oSlH (dCons (dVar 0) (dLast (dC (.int 63))))))))))
@[simp] def B_l_bag_1b_0 : DenS :=
    dSetZ 1 (dOp oMod (dCons (dOp oAdd (dCons (dOp oAdd (dCons (dOp oMul (dCons (dVar 1) (dLast (dC (.int 48271))))) (dLast (dOp oMod (dCons (dVar 2) (dLast (dC (.int 2147483629)))))))) (dLast (dC (.int 7))))) (dLast (dC (.int 2147483647)))))
def B_l_bag_1b : DenS :=
    B_l_bag_1b_0
@[simp] def B_l_bag_1 : DenS :=
    dFor (dIv (dOp oSlH (dCons (dVar 0) (dLast (dC (.int 63)))))) (.nm 2) (B_l_bag_1b) []
@[simp] def B_l_bag_2 : DenS :=
    dRet (dLst (dCons (dOp oList (dLast (dOp oSlH (dCons (dVar 0) (dLast (dC (.int 63))))))) (dCons (dC (.int 0)) (dCons (dC (.int 0)) (dCons (dVar 1) (dLast (dC (.int 0))))))))
@[simp] def B_l_bag : DenS :=
    dSeq (B_l_bag_0) (dSeq (B_l_bag_1) (B_l_bag_2))
def F_l_bag : Fn := dBody 3 B_l_bag
@[simp] def B_l_pull_0t_0 : DenS :=
    dSetZ 2 (dOp oIx (dCons (dOp oIx (dCons (dVar 0) (dLast (dC (.int 0))))) (dLast (dOp oIx (dCons (dVar 0) (dLast (dC (.int 1))))))))
@[simp] def B_l_pull_0t_1 : DenS :=
    dPutC (dVar 0) (dC (.int 1)) (dOp oAdd (dCons (dOp oIx (dCons (dVar 0) (dLast (dC (.int 1))))) (dLast (dC (.int 1)))))
@[simp] def B_l_pull_0t_2e_0 : DenS :=
    dPutC (dVar 0) (dC (.int 3)) (dOp oMod (dCons (dOp oAdd (dCons (dOp oAdd (dCons (dOp oMul (dCons (dOp oIx (dCons (dVar 0) (dLast (dC (.int 3))))) (dLast (dC (.int 40503))))) (dLast (dOp oMod (dCons (dVar 2) (dLast (dC (.int 2147483563)))))))) (dLast (dC (.int 1))))) (dLast (dC (.int 2147483629)))))
@[simp] def B_l_pull_0t_2 : DenS :=
    dIfS (dB (dOp oGe (dCons (dVar 2) (dLast (dOp oPow (dCons (dC (.int 10)) (dLast (dC (.int 18))))))))) (dPutC (dVar 0) (dC (.int 2)) (dVar 2)) (B_l_pull_0t_2e_0)
@[simp] def B_l_pull_0 : DenS :=
    dIfS (dAndB (dB (dOp oEq (dCons (dOp oIx (dCons (dVar 0) (dLast (dC (.int 2))))) (dLast (dC (.int 0)))))) (dB (dOp oLt (dCons (dOp oIx (dCons (dVar 0) (dLast (dC (.int 1))))) (dLast (dOp oLen (dLast (dOp oIx (dCons (dVar 0) (dLast (dC (.int 0)))))))))))) (dSeq (B_l_pull_0t_0) (dSeq (B_l_pull_0t_1) (B_l_pull_0t_2))) (dSkip)
@[simp] def B_l_pull_1t_0 : DenS :=
    dSetZ 3 (dOp oMod (dCons (dOp oIx (dCons (dVar 0) (dLast (dC (.int 2))))) (dLast (dVar 1))))
@[simp] def B_l_pull_1t_1 : DenS :=
    dPutC (dVar 0) (dC (.int 2)) (dOp oFdiv (dCons (dOp oIx (dCons (dVar 0) (dLast (dC (.int 2))))) (dLast (dVar 1))))
@[simp] def B_l_pull_1 : DenS :=
    dIfS (dB (dOp oGt (dCons (dOp oIx (dCons (dVar 0) (dLast (dC (.int 2))))) (dLast (dC (.int 0)))))) (dSeq (B_l_pull_1t_0) (dSeq (B_l_pull_1t_1) (dRetZ (dVar 3)))) (dSkip)
@[simp] def B_l_pull_2 : DenS :=
    dPutC (dVar 0) (dC (.int 4)) (dOp oAdd (dCons (dOp oIx (dCons (dVar 0) (dLast (dC (.int 4))))) (dLast (dC (.int 1)))))
@[simp] def B_l_pull_3 : DenS :=
    dSetZ 4 (dOp oAdd (dCons (dOp oMul (dCons (dOp oIx (dCons (dVar 0) (dLast (dC (.int 3))))) (dLast (dOp oIx (dCons (dVar 0) (dLast (dC (.int 3)))))))) (dLast (dOp oMul (dCons (dOp oMul (dCons (dC (.int 48271)) (dLast (dOp oIx (dCons (dVar 0) (dLast (dC (.int 4)))))))) (dLast (dOp oAdd (dCons (dOp oMod (dCons (dOp oIx (dCons (dVar 0) (dLast (dC (.int 3))))) (dLast (dC (.int 8191))))) (dLast (dC (.int 5)))))))))))
@[simp] def B_l_pull_4 : DenS :=
    dPutC (dVar 0) (dC (.int 3)) (dOp oMod (dCons (dOp oAdd (dCons (dOp oAdd (dCons (dVar 4) (dLast (dOp oMul (dCons (dOp oMul (dCons (dOp oIx (dCons (dVar 0) (dLast (dC (.int 4))))) (dLast (dOp oIx (dCons (dVar 0) (dLast (dC (.int 4)))))))) (dLast (dOp oIx (dCons (dVar 0) (dLast (dC (.int 4))))))))))) (dLast (dC (.int 12345))))) (dLast (dC (.int 2147483629)))))
@[simp] def B_l_pull_5 : DenS :=
    dRetZ (dOp oMod (dCons (dOp oAdd (dCons (dOp oFdiv (dCons (dOp oIx (dCons (dVar 0) (dLast (dC (.int 3))))) (dLast (dC (.int 71))))) (dLast (dOp oMul (dCons (dOp oMod (dCons (dOp oIx (dCons (dVar 0) (dLast (dC (.int 3))))) (dLast (dC (.int 7919))))) (dLast (dC (.int 37)))))))) (dLast (dVar 1))))
@[simp] def B_l_pull_t4 : DenS :=
    dSeq (B_l_pull_4) (B_l_pull_5)
@[simp] def B_l_pull_t3 : DenS :=
    dSeq (B_l_pull_3) (B_l_pull_t4)
@[simp] def B_l_pull_t2 : DenS :=
    dSeq (B_l_pull_2) (B_l_pull_t3)
@[simp] def B_l_pull_t1 : DenS :=
    dSeq (B_l_pull_1) (B_l_pull_t2)
@[simp] def B_l_pull : DenS :=
    dSeq (B_l_pull_0) (B_l_pull_t1)
def F_l_pull : Fn := dBody 5 B_l_pull
@[simp] def B_l_int_0 : DenS :=
    dRetZ (dAnd (dIsi [.int] (dVar 0)) (dOfB (dNotB (dB (dIsi [.bl] (dVar 0))))))
@[simp] def B_l_int : DenS :=
    B_l_int_0
def F_l_int : Fn := dBody 1 B_l_int
@[simp] def B_l_same_0t_0 (rec : Fn) : DenS :=
    dRetZ (dAnd (dOp oIsN (dCons (dVar 1) (dLast (dC .non)))) (dOp oIsN (dCons (dVar 0) (dLast (dC .non)))))
@[simp] def B_l_same_0 (rec : Fn) : DenS :=
    dIfS (dOrB (dB (dOp oIsN (dCons (dVar 1) (dLast (dC .non))))) (dB (dOp oIsN (dCons (dVar 0) (dLast (dC .non)))))) (B_l_same_0t_0 rec) (dSkip)
@[simp] def B_l_same_1t_0 (rec : Fn) : DenS :=
    dRetZ (dAnd (dIsi [.bl] (dVar 1)) (dAnd (dIsi [.bl] (dVar 0)) (dOp oEq (dCons (dVar 0) (dLast (dVar 1))))))
@[simp] def B_l_same_1 (rec : Fn) : DenS :=
    dIfS (dOrB (dB (dIsi [.bl] (dVar 1))) (dB (dIsi [.bl] (dVar 0)))) (B_l_same_1t_0 rec) (dSkip)
@[simp] def B_l_same_2t_0 (rec : Fn) : DenS :=
    dRetZ (dAnd (dOp oEq (dCons (dIsi [.int] (dVar 0)) (dLast (dIsi [.int] (dVar 1))))) (dOp oEq (dCons (dVar 0) (dLast (dVar 1)))))
@[simp] def B_l_same_2 (rec : Fn) : DenS :=
    dIfS (dB (dIsi [.int, .str] (dVar 1))) (B_l_same_2t_0 rec) (dSkip)
@[simp] def B_l_same_3 (rec : Fn) : DenS :=
    dIfS (dOrB (dB (dOp oNe (dCons (dIsi [.lst] (dVar 1)) (dLast (dIsi [.lst] (dVar 0)))))) (dB (dOp oNe (dCons (dIsi [.tup] (dVar 1)) (dLast (dIsi [.tup] (dVar 0))))))) (dRetZ (dC (.bl false))) (dSkip)
@[simp] def B_l_same_4 (rec : Fn) : DenS :=
    dRetZ (dAnd (dOp oEq (dCons (dOp oLen (dLast (dVar 0))) (dLast (dOp oLen (dLast (dVar 1)))))) (dOp oAll (dLast (dLc (dRng1 (dLast (dOp oLen (dLast (dVar 1))))) [2] (.nm 2) (dYes) (dCall rec [] (dCons (dOp oIx (dCons (dVar 0) (dLast (dVar 2)))) (dLast (dOp oIx (dCons (dVar 1) (dLast (dVar 2)))))))))))
@[simp] def B_l_same_t3 (rec : Fn) : DenS :=
    dSeq (B_l_same_3 rec) (B_l_same_4 rec)
@[simp] def B_l_same_t2 (rec : Fn) : DenS :=
    dSeq (B_l_same_2 rec) (B_l_same_t3 rec)
@[simp] def B_l_same_t1 (rec : Fn) : DenS :=
    dSeq (B_l_same_1 rec) (B_l_same_t2 rec)
@[simp] def B_l_same (rec : Fn) : DenS :=
    dSeq (B_l_same_0 rec) (B_l_same_t1 rec)
def F_l_same : Nat → Fn
  | 0 => fun _ _ => .stuck
  | m + 1 => dBody 3 (B_l_same (F_l_same m))
@[simp] def B_l_gcd_0 : DenS :=
    dPar 0 1 (dCons (dOp oAbs (dLast (dVar 0))) (dLast (dOp oAbs (dLast (dVar 1)))))
@[simp] def B_l_gcd_1b_0 : DenS :=
    dPar 0 1 (dCons (dVar 1) (dLast (dOp oMod (dCons (dVar 0) (dLast (dVar 1))))))
def B_l_gcd_1b : DenS :=
    B_l_gcd_1b_0
@[simp] def B_l_gcd_1 : DenS :=
    dWhile (fun (env : Hx.Env) (_ : Store) => match env[1]? with | some (some (_, D.int b)) => b.natAbs + 1 | _ => 0) (dB (dOp oGt (dCons (dVar 1) (dLast (dC (.int 0)))))) (B_l_gcd_1b) []
@[simp] def B_l_gcd : DenS :=
    dSeq (B_l_gcd_0) (dSeq (B_l_gcd_1) (dRetZ (dVar 0)))
def F_l_gcd : Fn := dBody 2 B_l_gcd
@[simp] def B_l_low_1 : DenS :=
    dIfS (dB (dOp oLt (dCons (dVar 1) (dLast (dC (.int 0)))))) (dSetZ 2 (dOp oSub (dCons (dC (.int 0)) (dLast (dVar 2))))) (dSkip)
@[simp] def B_l_low_2 : DenS :=
    dRetZ (dTup (dCons (dOp oFdiv (dCons (dVar 0) (dLast (dVar 2)))) (dLast (dOp oFdiv (dCons (dVar 1) (dLast (dVar 2)))))))
@[simp] def B_l_low : DenS :=
    dSeq (dSetZ 2 (dCall F_l_gcd [] (dCons (dVar 0) (dLast (dVar 1))))) (dSeq (B_l_low_1) (B_l_low_2))
def F_l_low : Fn := dBody 3 B_l_low
@[simp] def B_l_before_0 : DenS :=
    dSetZ 2 (dOp oSub (dCons (dOp oMul (dCons (dOp oIx (dCons (dVar 0) (dLast (dC (.int 0))))) (dLast (dOp oIx (dCons (dVar 1) (dLast (dC (.int 1)))))))) (dLast (dOp oMul (dCons (dOp oIx (dCons (dVar 1) (dLast (dC (.int 0))))) (dLast (dOp oIx (dCons (dVar 0) (dLast (dC (.int 1)))))))))))
@[simp] def B_l_before_1 : DenS :=
    dRetZ (dIf (dB (dOp oLt (dCons (dVar 2) (dLast (dC (.int 0)))))) (dOp oNeg (dLast (dC (.int 1)))) (dOp oInt1 (dLast (dOp oGt (dCons (dVar 2) (dLast (dC (.int 0))))))))
@[simp] def B_l_before : DenS :=
    dSeq (B_l_before_0) (B_l_before_1)
def F_l_before : Fn := dBody 3 B_l_before
@[simp] def B_l_cross_0 : DenS :=
    dRetZ (dOp oSub (dCons (dOp oMul (dCons (dOp oSub (dCons (dOp oIx (dCons (dVar 1) (dLast (dC (.int 0))))) (dLast (dOp oIx (dCons (dVar 0) (dLast (dC (.int 0)))))))) (dLast (dOp oSub (dCons (dOp oIx (dCons (dVar 2) (dLast (dC (.int 1))))) (dLast (dOp oIx (dCons (dVar 0) (dLast (dC (.int 1))))))))))) (dLast (dOp oMul (dCons (dOp oSub (dCons (dOp oIx (dCons (dVar 1) (dLast (dC (.int 1))))) (dLast (dOp oIx (dCons (dVar 0) (dLast (dC (.int 1)))))))) (dLast (dOp oSub (dCons (dOp oIx (dCons (dVar 2) (dLast (dC (.int 0))))) (dLast (dOp oIx (dCons (dVar 0) (dLast (dC (.int 0))))))))))))))
@[simp] def B_l_cross : DenS :=
    B_l_cross_0
def F_l_cross : Fn := dBody 3 B_l_cross
@[simp] def B_l_touch_0 : DenS :=
    dIfS (dB (dOp oNe (dCons (dCall F_l_cross [] (dCons (dVar 0) (dCons (dVar 1) (dLast (dVar 2))))) (dLast (dC (.int 0)))))) (dRetZ (dC (.bl false))) (dSkip)
@[simp] def B_l_touch_1 : DenS :=
    dRetZ (dAnd (dChain oLe oLe (dOp oMin2 (dCons (dOp oIx (dCons (dVar 0) (dLast (dC (.int 0))))) (dLast (dOp oIx (dCons (dVar 1) (dLast (dC (.int 0)))))))) (dOp oIx (dCons (dVar 2) (dLast (dC (.int 0))))) (dOp oMax2 (dCons (dOp oIx (dCons (dVar 0) (dLast (dC (.int 0))))) (dLast (dOp oIx (dCons (dVar 1) (dLast (dC (.int 0))))))))) (dChain oLe oLe (dOp oMin2 (dCons (dOp oIx (dCons (dVar 0) (dLast (dC (.int 1))))) (dLast (dOp oIx (dCons (dVar 1) (dLast (dC (.int 1)))))))) (dOp oIx (dCons (dVar 2) (dLast (dC (.int 1))))) (dOp oMax2 (dCons (dOp oIx (dCons (dVar 0) (dLast (dC (.int 1))))) (dLast (dOp oIx (dCons (dVar 1) (dLast (dC (.int 1))))))))))
@[simp] def B_l_touch : DenS :=
    dSeq (B_l_touch_0) (B_l_touch_1)
def F_l_touch : Fn := dBody 3 B_l_touch
@[simp] def B_l_cut_0 : DenS :=
    dPar 4 5 (dCons (dCall F_l_cross [] (dCons (dVar 0) (dCons (dVar 1) (dLast (dVar 2))))) (dLast (dCall F_l_cross [] (dCons (dVar 0) (dCons (dVar 1) (dLast (dVar 3)))))))
@[simp] def B_l_cut_1 : DenS :=
    dPar 6 7 (dCons (dCall F_l_cross [] (dCons (dVar 2) (dCons (dVar 3) (dLast (dVar 0))))) (dLast (dCall F_l_cross [] (dCons (dVar 2) (dCons (dVar 3) (dLast (dVar 1)))))))
@[simp] def B_l_cut_2 : DenS :=
    dIfS (dAndB (dB (dOp oLt (dCons (dOp oMul (dCons (dVar 4) (dLast (dVar 5)))) (dLast (dC (.int 0)))))) (dB (dOp oLt (dCons (dOp oMul (dCons (dVar 6) (dLast (dVar 7)))) (dLast (dC (.int 0))))))) (dRetZ (dC (.bl true))) (dSkip)
@[simp] def B_l_cut_3 : DenS :=
    dIfS (dOrB (dB (dCall F_l_touch [] (dCons (dVar 0) (dCons (dVar 1) (dLast (dVar 2)))))) (dB (dCall F_l_touch [] (dCons (dVar 0) (dCons (dVar 1) (dLast (dVar 3))))))) (dRetZ (dC (.bl true))) (dSkip)
@[simp] def B_l_cut_4 : DenS :=
    dRetZ (dOr (dCall F_l_touch [] (dCons (dVar 2) (dCons (dVar 3) (dLast (dVar 0))))) (dCall F_l_touch [] (dCons (dVar 2) (dCons (dVar 3) (dLast (dVar 1))))))
@[simp] def B_l_cut_t3 : DenS :=
    dSeq (B_l_cut_3) (B_l_cut_4)
@[simp] def B_l_cut_t2 : DenS :=
    dSeq (B_l_cut_2) (B_l_cut_t3)
@[simp] def B_l_cut_t1 : DenS :=
    dSeq (B_l_cut_1) (B_l_cut_t2)
@[simp] def B_l_cut : DenS :=
    dSeq (B_l_cut_0) (B_l_cut_t1)
def F_l_cut : Fn := dBody 8 B_l_cut
@[simp] def B_l_wider_0 : DenS :=
    dRetZ (dTup (dCons (dOp oMul (dCons (dOp oIx (dCons (dVar 0) (dLast (dC (.int 0))))) (dLast (dVar 1)))) (dLast (dOp oMul (dCons (dOp oIx (dCons (dVar 0) (dLast (dC (.int 1))))) (dLast (dVar 1)))))))
@[simp] def B_l_wider : DenS :=
    B_l_wider_0
def F_l_wider : Fn := dBody 2 B_l_wider
@[simp] def B_l_at_1 : DenS :=
    dRetZ (dTup (dCons (dOp oAdd (dCons (dOp oMul (dCons (dVar 2) (dLast (dOp oIx (dCons (dVar 1) (dLast (dC (.int 1)))))))) (dLast (dOp oMul (dCons (dOp oSub (dCons (dVar 4) (dLast (dVar 2)))) (dLast (dOp oIx (dCons (dVar 1) (dLast (dC (.int 0))))))))))) (dLast (dOp oAdd (dCons (dOp oMul (dCons (dVar 3) (dLast (dOp oIx (dCons (dVar 1) (dLast (dC (.int 1)))))))) (dLast (dOp oMul (dCons (dOp oSub (dCons (dVar 5) (dLast (dVar 3)))) (dLast (dOp oIx (dCons (dVar 1) (dLast (dC (.int 0))))))))))))))
@[simp] def B_l_at : DenS :=
    dSeq (dUnp (.tp [.tp [.nm 2, .nm 3], .tp [.nm 4, .nm 5]]) (dVar 0)) (B_l_at_1)
def F_l_at : Fn := dBody 6 B_l_at
@[simp] def B_l_grid_0 : DenS :=
    dSetZ 1 (dCall F_l_pull [] (dCons (dVar 0) (dLast (dC (.int 6)))))
@[simp] def B_l_grid_1t_0 : DenS :=
    dRetZ (dTup (dCons (dC (.int 4)) (dCons (dC (.int 0)) (dLast (dC (.int 0))))))
@[simp] def B_l_grid_1 : DenS :=
    dIfS (dB (dOp oLt (dCons (dVar 1) (dLast (dC (.int 4)))))) (B_l_grid_1t_0) (dSkip)
@[simp] def B_l_grid_2t_0 : DenS :=
    dRetZ (dTup (dCons (dOp oAdd (dCons (dC (.int 1)) (dLast (dCall F_l_pull [] (dCons (dVar 0) (dLast (dC (.int 60)))))))) (dCons (dC (.int 0)) (dLast (dC (.int 0))))))
@[simp] def B_l_grid_2 : DenS :=
    dIfS (dB (dOp oEq (dCons (dVar 1) (dLast (dC (.int 4)))))) (B_l_grid_2t_0) (dSkip)
@[simp] def B_l_grid_3 : DenS :=
    dRetZ (dTup (dCons (dC (.int 5)) (dCons (dOp oMul (dCons (dOp oSub (dCons (dOp oPow (dCons (dC (.int 10)) (dLast (dC (.int 6))))) (dLast (dC (.int 5))))) (dLast (dOp oSub (dCons (dOp oMul (dCons (dC (.int 2)) (dLast (dCall F_l_pull [] (dCons (dVar 0) (dLast (dC (.int 2)))))))) (dLast (dC (.int 1)))))))) (dLast (dOp oMul (dCons (dOp oSub (dCons (dOp oPow (dCons (dC (.int 10)) (dLast (dC (.int 6))))) (dLast (dC (.int 5))))) (dLast (dOp oSub (dCons (dCall F_l_pull [] (dCons (dVar 0) (dLast (dC (.int 3))))) (dLast (dC (.int 1))))))))))))
@[simp] def B_l_grid_t2 : DenS :=
    dSeq (B_l_grid_2) (B_l_grid_3)
@[simp] def B_l_grid_t1 : DenS :=
    dSeq (B_l_grid_1) (B_l_grid_t2)
@[simp] def B_l_grid : DenS :=
    dSeq (B_l_grid_0) (B_l_grid_t1)
def F_l_grid : Fn := dBody 2 B_l_grid
@[simp] def B_l_spot_1 : DenS :=
    dSetZ 5 (dOp oSub (dCons (dOp oAdd (dCons (dVar 3) (dLast (dCall F_l_pull [] (dCons (dVar 0) (dLast (dOp oAdd (dCons (dOp oMul (dCons (dC (.int 2)) (dLast (dVar 2)))) (dLast (dC (.int 1))))))))))) (dLast (dVar 2))))
@[simp] def B_l_spot_2 : DenS :=
    dRetZ (dTup (dCons (dVar 5) (dLast (dOp oSub (dCons (dOp oAdd (dCons (dVar 4) (dLast (dCall F_l_pull [] (dCons (dVar 0) (dLast (dOp oAdd (dCons (dOp oMul (dCons (dC (.int 2)) (dLast (dVar 2)))) (dLast (dC (.int 1))))))))))) (dLast (dVar 2)))))))
@[simp] def B_l_spot : DenS :=
    dSeq (dUnp (.tp [.nm 2, .nm 3, .nm 4]) (dVar 1)) (dSeq (B_l_spot_1) (B_l_spot_2))
def F_l_spot : Fn := dBody 6 B_l_spot
@[simp] def B_l_is_share_0 : DenS :=
    dIfS (dOrB (dNotB (dB (dIsi [.tup] (dVar 0)))) (dOrB (dB (dOp oNe (dCons (dOp oLen (dLast (dVar 0))) (dLast (dC (.int 2)))))) (dOrB (dNotB (dB (dCall F_l_int [] (dLast (dOp oIx (dCons (dVar 0) (dLast (dC (.int 0))))))))) (dNotB (dB (dCall F_l_int [] (dLast (dOp oIx (dCons (dVar 0) (dLast (dC (.int 1)))))))))))) (dRetZ (dC (.bl false))) (dSkip)
@[simp] def B_l_is_share_1 : DenS :=
    dRetZ (dAnd (dChain oLe oLe (dC (.int 0)) (dOp oIx (dCons (dVar 0) (dLast (dC (.int 0))))) (dOp oIx (dCons (dVar 0) (dLast (dC (.int 1)))))) (dAnd (dOp oGt (dCons (dOp oIx (dCons (dVar 0) (dLast (dC (.int 1))))) (dLast (dC (.int 0))))) (dOp oEq (dCons (dCall F_l_gcd [] (dCons (dOp oIx (dCons (dVar 0) (dLast (dC (.int 0))))) (dLast (dOp oIx (dCons (dVar 0) (dLast (dC (.int 1)))))))) (dLast (dC (.int 1)))))))
@[simp] def B_l_is_share : DenS :=
    dSeq (B_l_is_share_0) (B_l_is_share_1)
def F_l_is_share : Fn := dBody 1 B_l_is_share
@[simp] def B_l_half_0 : DenS :=
    dRetZ (dCall F_l_low [] (dCons (dOp oAdd (dCons (dOp oMul (dCons (dOp oIx (dCons (dVar 0) (dLast (dC (.int 0))))) (dLast (dOp oIx (dCons (dVar 1) (dLast (dC (.int 1)))))))) (dLast (dOp oMul (dCons (dOp oIx (dCons (dVar 1) (dLast (dC (.int 0))))) (dLast (dOp oIx (dCons (dVar 0) (dLast (dC (.int 1))))))))))) (dLast (dOp oMul (dCons (dOp oMul (dCons (dC (.int 2)) (dLast (dOp oIx (dCons (dVar 0) (dLast (dC (.int 1)))))))) (dLast (dOp oIx (dCons (dVar 1) (dLast (dC (.int 1)))))))))))
@[simp] def B_l_half : DenS :=
    B_l_half_0
def F_l_half : Fn := dBody 2 B_l_half
@[simp] def B_l_span_so_0 (lr : LamR) : DenS :=
    dIfS (dOrB (dNotB (dB (dIsi [.tup] (dVar 0)))) (dOrB (dB (dOp oNe (dCons (dOp oLen (dLast (dVar 0))) (dLast (dC (.int 2)))))) (dOrB (dNotB (dB (dCall F_l_is_share [] (dLast (dOp oIx (dCons (dVar 0) (dLast (dC (.int 0))))))))) (dNotB (dB (dCall F_l_is_share [] (dLast (dOp oIx (dCons (dVar 0) (dLast (dC (.int 1)))))))))))) (dRetZ (dC (.bl false))) (dSkip)
@[simp] def B_l_span_so_2 (lr : LamR) : DenS :=
    dIfS (dOrB (dB (dOp oLt (dCons (dCall F_l_before [] (dCons (dVar 3) (dLast (dVar 2)))) (dLast (dC (.int 0)))))) (dOrB (dNotB (dB (dClo lr 1 (dLast (dVar 2))))) (dOrB (dNotB (dB (dClo lr 1 (dLast (dVar 3))))) (dNotB (dB (dClo lr 1 (dLast (dCall F_l_half [] (dCons (dVar 2) (dLast (dVar 3))))))))))) (dRetZ (dC (.bl false))) (dSkip)
@[simp] def B_l_span_so_4t_0 (lr : LamR) : DenS :=
    dSetZ 4 (dLst (dCons (dTup (dCons (dC (.int 0)) (dLast (dC (.int 1))))) (dCons (dCall F_l_half [] (dCons (dTup (dCons (dC (.int 0)) (dLast (dC (.int 1))))) (dLast (dVar 2)))) (dLast (dCall F_l_low [] (dCons (dOp oSub (dCons (dOp oMul (dCons (dOp oIx (dCons (dVar 2) (dLast (dC (.int 0))))) (dLast (dOp oPow (dCons (dC (.int 10)) (dLast (dC (.int 9)))))))) (dLast (dC (.int 1))))) (dLast (dOp oMul (dCons (dOp oIx (dCons (dVar 2) (dLast (dC (.int 1))))) (dLast (dOp oPow (dCons (dC (.int 10)) (dLast (dC (.int 9)))))))))))))))
@[simp] def B_l_span_so_4 (lr : LamR) : DenS :=
    dIfS (dB (dOp oGt (dCons (dOp oIx (dCons (dVar 2) (dLast (dC (.int 0))))) (dLast (dC (.int 0)))))) (B_l_span_so_4t_0 lr) (dSkip)
@[simp] def B_l_span_so_5t_0 (lr : LamR) : DenS :=
    dSetZ 5 (dCall F_l_low [] (dCons (dOp oAdd (dCons (dOp oMul (dCons (dOp oIx (dCons (dVar 3) (dLast (dC (.int 0))))) (dLast (dOp oPow (dCons (dC (.int 10)) (dLast (dC (.int 9)))))))) (dLast (dC (.int 1))))) (dLast (dOp oMul (dCons (dOp oIx (dCons (dVar 3) (dLast (dC (.int 1))))) (dLast (dOp oPow (dCons (dC (.int 10)) (dLast (dC (.int 9)))))))))))
@[simp] def B_l_span_so_5t_1 (lr : LamR) : DenS :=
    dSetZ 4 (dOp oAdd (dCons (dVar 4) (dLast (dLst (dCons (dTup (dCons (dC (.int 1)) (dLast (dC (.int 1))))) (dCons (dCall F_l_half [] (dCons (dTup (dCons (dC (.int 1)) (dLast (dC (.int 1))))) (dLast (dVar 3)))) (dLast (dVar 5))))))))
@[simp] def B_l_span_so_5 (lr : LamR) : DenS :=
    dIfS (dB (dOp oLt (dCons (dOp oIx (dCons (dVar 3) (dLast (dC (.int 0))))) (dLast (dOp oIx (dCons (dVar 3) (dLast (dC (.int 1))))))))) (dSeq (B_l_span_so_5t_0 lr) (B_l_span_so_5t_1 lr)) (dSkip)
@[simp] def B_l_span_so_6 (lr : LamR) : DenS :=
    dRetZ (dOfB (dNotB (dB (dOp oAny (dLast (dLc (dIv (dVar 4)) [6] (.nm 6) (dB (dOp oLe (dCons (dOp oIx (dCons (dVar 6) (dLast (dC (.int 0))))) (dLast (dOp oIx (dCons (dVar 6) (dLast (dC (.int 1))))))))) (dClo lr 1 (dLast (dVar 6)))))))))
@[simp] def B_l_span_so_t5 (lr : LamR) : DenS :=
    dSeq (B_l_span_so_5 lr) (B_l_span_so_6 lr)
@[simp] def B_l_span_so_t4 (lr : LamR) : DenS :=
    dSeq (B_l_span_so_4 lr) (B_l_span_so_t5 lr)
@[simp] def B_l_span_so_t3 (lr : LamR) : DenS :=
    dSeq (dSetZ 4 (dLst (dNil))) (B_l_span_so_t4 lr)
@[simp] def B_l_span_so_t2 (lr : LamR) : DenS :=
    dSeq (B_l_span_so_2 lr) (B_l_span_so_t3 lr)
@[simp] def B_l_span_so_t1 (lr : LamR) : DenS :=
    dSeq (dUnp (.tp [.nm 2, .nm 3]) (dVar 0)) (B_l_span_so_t2 lr)
@[simp] def B_l_span_so (lr : LamR) : DenS :=
    dSeq (B_l_span_so_0 lr) (B_l_span_so_t1 lr)
def F_l_span_so (lr : LamR) : Fn := dBody 7 (B_l_span_so lr)
@[simp] def B_l_pair_1 : DenS :=
    dUnp (.tp [.nm 2, .nm 3, .nm 4, .nm 5]) (dLc (dRng1 (dLast (dC (.int 4)))) [10] (.nm 10) (dYes) (dCall F_l_spot [] (dCons (dVar 0) (dLast (dVar 1)))))
@[simp] def B_l_pair_2 : DenS :=
    dSetZ 6 (dCall F_l_pull [] (dCons (dVar 0) (dLast (dC (.int 9)))))
@[simp] def B_l_pair_3 : DenS :=
    dIfS (dB (dOp oEq (dCons (dVar 6) (dLast (dC (.int 0)))))) (dSetZ 4 (dVar 2)) (dSkip)
@[simp] def B_l_pair_4t_0 : DenS :=
    dPar 7 8 (dCons (dOp oSub (dCons (dCall F_l_pull [] (dCons (dVar 0) (dLast (dC (.int 5))))) (dLast (dC (.int 2))))) (dLast (dOp oSub (dCons (dCall F_l_pull [] (dCons (dVar 0) (dLast (dC (.int 5))))) (dLast (dC (.int 2)))))))
@[simp] def B_l_pair_4t_1 : DenS :=
    dSetZ 4 (dTup (dCons (dOp oAdd (dCons (dOp oIx (dCons (dVar 2) (dLast (dC (.int 0))))) (dLast (dOp oMul (dCons (dVar 7) (dLast (dOp oSub (dCons (dOp oIx (dCons (dVar 3) (dLast (dC (.int 0))))) (dLast (dOp oIx (dCons (dVar 2) (dLast (dC (.int 0)))))))))))))) (dLast (dOp oAdd (dCons (dOp oIx (dCons (dVar 2) (dLast (dC (.int 1))))) (dLast (dOp oMul (dCons (dVar 7) (dLast (dOp oSub (dCons (dOp oIx (dCons (dVar 3) (dLast (dC (.int 1))))) (dLast (dOp oIx (dCons (dVar 2) (dLast (dC (.int 1)))))))))))))))))
@[simp] def B_l_pair_4t_2 : DenS :=
    dSetZ 5 (dTup (dCons (dOp oAdd (dCons (dOp oIx (dCons (dVar 2) (dLast (dC (.int 0))))) (dLast (dOp oMul (dCons (dVar 8) (dLast (dOp oSub (dCons (dOp oIx (dCons (dVar 3) (dLast (dC (.int 0))))) (dLast (dOp oIx (dCons (dVar 2) (dLast (dC (.int 0)))))))))))))) (dLast (dOp oAdd (dCons (dOp oIx (dCons (dVar 2) (dLast (dC (.int 1))))) (dLast (dOp oMul (dCons (dVar 8) (dLast (dOp oSub (dCons (dOp oIx (dCons (dVar 3) (dLast (dC (.int 1))))) (dLast (dOp oIx (dCons (dVar 2) (dLast (dC (.int 1)))))))))))))))))
@[simp] def B_l_pair_4 : DenS :=
    dIfS (dAndB (dB (dOp oLt (dCons (dVar 6) (dLast (dC (.int 3)))))) (dB (dOp oGt (dCons (dVar 6) (dLast (dC (.int 0))))))) (dSeq (B_l_pair_4t_0) (dSeq (B_l_pair_4t_1) (B_l_pair_4t_2))) (dSkip)
@[simp] def B_l_pair_5t_0 : DenS :=
    dPar 4 5 (dCons (dTup (dCons (dOp oAdd (dCons (dOp oIx (dCons (dVar 2) (dLast (dC (.int 0))))) (dLast (dC (.int 1))))) (dLast (dOp oSub (dCons (dOp oIx (dCons (dVar 2) (dLast (dC (.int 1))))) (dLast (dC (.int 1)))))))) (dLast (dTup (dCons (dOp oAdd (dCons (dOp oIx (dCons (dVar 2) (dLast (dC (.int 0))))) (dLast (dC (.int 1))))) (dLast (dOp oAdd (dCons (dOp oIx (dCons (dVar 3) (dLast (dC (.int 1))))) (dLast (dC (.int 1))))))))))
@[simp] def B_l_pair_5 : DenS :=
    dIfS (dB (dOp oEq (dCons (dVar 6) (dLast (dC (.int 3)))))) (B_l_pair_5t_0) (dSkip)
@[simp] def B_l_pair_6 : DenS :=
    dIfS (dB (dOp oEq (dCons (dCall F_l_pull [] (dCons (dVar 0) (dLast (dC (.int 8))))) (dLast (dC (.int 0)))))) (dSetZ 3 (dVar 2)) (dSkip)
@[simp] def B_l_pair_7 : DenS :=
    dSetZ 9 (dOp oIx (dCons (dLst (dCons (dC (.int 1)) (dLast (dOp oPow (dCons (dC (.int 10)) (dLast (dC (.int 9)))))))) (dLast (dOp oInt1 (dLast (dOp oEq (dCons (dCall F_l_pull [] (dCons (dVar 0) (dLast (dC (.int 4))))) (dLast (dC (.int 0))))))))))
@[simp] def B_l_pair_8 : DenS :=
    dRetZ (dOp oTuple (dLast (dLc (dIv (dTup (dCons (dVar 2) (dCons (dVar 3) (dCons (dVar 4) (dLast (dVar 5))))))) [7] (.nm 7) (dYes) (dCall F_l_wider [] (dCons (dVar 7) (dLast (dVar 9)))))))
@[simp] def B_l_pair_t8 : DenS :=
    dKill [7] (B_l_pair_8)
@[simp] def B_l_pair_t7 : DenS :=
    dSeq (B_l_pair_7) (B_l_pair_t8)
@[simp] def B_l_pair_t6 : DenS :=
    dSeq (B_l_pair_6) (B_l_pair_t7)
@[simp] def B_l_pair_t5 : DenS :=
    dSeq (B_l_pair_5) (B_l_pair_t6)
@[simp] def B_l_pair_t4 : DenS :=
    dSeq (B_l_pair_4) (B_l_pair_t5)
@[simp] def B_l_pair_t3 : DenS :=
    dSeq (B_l_pair_3) (B_l_pair_t4)
@[simp] def B_l_pair_t2 : DenS :=
    dSeq (B_l_pair_2) (B_l_pair_t3)
@[simp] def B_l_pair_t1 : DenS :=
    dSeq (B_l_pair_1) (B_l_pair_t2)
@[simp] def B_l_pair : DenS :=
    dSeq (dSetZ 1 (dCall F_l_grid [] (dLast (dVar 0)))) (B_l_pair_t1)
def F_l_pair : Fn := dBody 11 B_l_pair
@[simp] def B_l_on_1 : DenS :=
    dRetZ (dCall F_l_touch [] (dCons (dCall F_l_wider [] (dCons (dVar 2) (dLast (dVar 5)))) (dCons (dCall F_l_wider [] (dCons (dVar 3) (dLast (dVar 5)))) (dLast (dCall F_l_at [] (dCons (dTup (dCons (dVar 0) (dLast (dVar 1)))) (dLast (dVar 4))))))))
@[simp] def B_l_on : DenS :=
    dSeq (dSetZ 5 (dOp oIx (dCons (dVar 4) (dLast (dC (.int 1)))))) (B_l_on_1)
def F_l_on : Fn := dBody 6 B_l_on
@[simp] def B_pieces_meet_0 : DenS :=
    dRetZ (dOp oNotN (dCons (dCall F_piece_shares [] (dCons (dVar 1) (dLast (dVar 0)))) (dLast (dC .non))))
@[simp] def B_pieces_meet : DenS :=
    B_pieces_meet_0
def F_pieces_meet : Fn := dBody 2 B_pieces_meet
@[simp] def B_slab_1t_0 : DenS :=
    dRetZ (dIf (dB (dChain oLe oLe (dVar 4) (dVar 1) (dVar 5))) (dVar 0) (dC .non))
@[simp] def B_slab_1 : DenS :=
    dIfS (dB (dOp oEq (dCons (dVar 2) (dLast (dC (.int 0)))))) (B_slab_1t_0) (dSkip)
@[simp] def B_slab_2 : DenS :=
    dSetZ 6 (dTup (dCons (dCall F_fraction [] (dCons (dOp oSub (dCons (dVar 4) (dLast (dVar 1)))) (dLast (dVar 2)))) (dLast (dCall F_fraction [] (dCons (dOp oSub (dCons (dVar 5) (dLast (dVar 1)))) (dLast (dVar 2)))))))
@[simp] def B_slab_3 : DenS :=
    dRetZ (dIf (dB (dOp oGt (dCons (dVar 2) (dLast (dC (.int 0)))))) (dCall F_cut_down [] (dCons (dVar 0) (dCons (dOp oIx (dCons (dVar 6) (dLast (dC (.int 0))))) (dLast (dOp oIx (dCons (dVar 6) (dLast (dC (.int 1))))))))) (dCall F_cut_down [] (dCons (dVar 0) (dCons (dOp oIx (dCons (dVar 6) (dLast (dC (.int 1))))) (dLast (dOp oIx (dCons (dVar 6) (dLast (dC (.int 0))))))))))
@[simp] def B_slab_t2 : DenS :=
    dSeq (B_slab_2) (B_slab_3)
@[simp] def B_slab_t1 : DenS :=
    dSeq (B_slab_1) (B_slab_t2)
@[simp] def B_slab : DenS :=
    dSeq (dUnp (.tp [.nm 4, .nm 5]) (dVar 3)) (B_slab_t1)
def F_slab : Fn := dBody 7 B_slab
@[simp] def B_block_shares_2 : DenS :=
    dSetZ 10 (dCall F_slab [] (dCons (dTup (dCons (dC (.con .tup [.int 0, .int 1])) (dLast (dC (.con .tup [.int 1, .int 1]))))) (dCons (dVar 2) (dCons (dOp oSub (dCons (dVar 4) (dLast (dVar 2)))) (dLast (dTup (dCons (dVar 6) (dLast (dVar 8)))))))))
@[simp] def B_block_shares_3 : DenS :=
    dSetZ 10 (dIf (dB (dOp oNotN (dCons (dVar 10) (dLast (dC .non))))) (dCall F_slab [] (dCons (dVar 10) (dCons (dVar 3) (dCons (dOp oSub (dCons (dVar 5) (dLast (dVar 3)))) (dLast (dTup (dCons (dVar 7) (dLast (dVar 9))))))))) (dC .non))
@[simp] def B_block_shares_4t_0 : DenS :=
    dRetZ (dTup (dCons (dC (.con .tup [.int 0, .int 1])) (dLast (dC (.con .tup [.int 0, .int 1])))))
@[simp] def B_block_shares_4 : DenS :=
    dIfS (dAndB (dB (dOp oNotN (dCons (dVar 10) (dLast (dC .non))))) (dB (dOp oEq (dCons (dOp oIx (dCons (dVar 1) (dLast (dC (.int 0))))) (dLast (dOp oIx (dCons (dVar 1) (dLast (dC (.int 1)))))))))) (B_block_shares_4t_0) (dSkip)
@[simp] def B_block_shares_t5 : DenS :=
    dRetZ (dVar 10)
@[simp] def B_block_shares_t4 : DenS :=
    dSeq (B_block_shares_4) (B_block_shares_t5)
@[simp] def B_block_shares_t3 : DenS :=
    dSeq (B_block_shares_3) (B_block_shares_t4)
@[simp] def B_block_shares_t2 : DenS :=
    dSeq (B_block_shares_2) (B_block_shares_t3)
@[simp] def B_block_shares_t1 : DenS :=
    dSeq (dUnp (.tp [.nm 6, .nm 7, .nm 8, .nm 9]) (dVar 0)) (B_block_shares_t2)
@[simp] def B_block_shares : DenS :=
    dSeq (dUnp (.tp [.tp [.nm 2, .nm 3], .tp [.nm 4, .nm 5]]) (dVar 1)) (B_block_shares_t1)
def F_block_shares : Fn := dBody 11 B_block_shares
@[simp] def B_block_meets_0 : DenS :=
    dRetZ (dOp oNotN (dCons (dCall F_block_shares [] (dCons (dVar 0) (dLast (dVar 1)))) (dLast (dC .non))))
@[simp] def B_block_meets : DenS :=
    B_block_meets_0
def F_block_meets : Fn := dBody 2 B_block_meets
@[simp] def B_l_one_0 : DenS :=
    dRetZ (dOp oIx (dCons (dVar 1) (dLast (dCall F_l_pull [] (dCons (dVar 0) (dLast (dOp oLen (dLast (dVar 1)))))))))
@[simp] def B_l_one : DenS :=
    B_l_one_0
def F_l_one : Fn := dBody 2 B_l_one
@[simp] def B_l_corners_1 : DenS :=
    dRetZ (dLst (dCons (dTup (dCons (dVar 1) (dLast (dVar 2)))) (dCons (dTup (dCons (dVar 3) (dLast (dVar 2)))) (dCons (dTup (dCons (dVar 3) (dLast (dVar 4)))) (dLast (dTup (dCons (dVar 1) (dLast (dVar 4)))))))))
@[simp] def B_l_corners : DenS :=
    dSeq (dUnp (.tp [.nm 1, .nm 2, .nm 3, .nm 4]) (dVar 0)) (B_l_corners_1)
def F_l_corners : Fn := dBody 5 B_l_corners
@[simp] def B_l_within_0 : DenS :=
    dRetZ (dAnd (dChain oLe oLe (dOp oIx (dCons (dVar 0) (dLast (dC (.int 0))))) (dOp oIx (dCons (dVar 1) (dLast (dC (.int 0))))) (dOp oIx (dCons (dVar 0) (dLast (dC (.int 2)))))) (dChain oLe oLe (dOp oIx (dCons (dVar 0) (dLast (dC (.int 1))))) (dOp oIx (dCons (dVar 1) (dLast (dC (.int 1))))) (dOp oIx (dCons (dVar 0) (dLast (dC (.int 3)))))))
@[simp] def B_l_within : DenS :=
    B_l_within_0
def F_l_within : Fn := dBody 2 B_l_within
@[simp] def B_l_hits_0 : DenS :=
    dIfS (dOrB (dB (dCall F_l_within [] (dCons (dVar 0) (dLast (dVar 1))))) (dB (dCall F_l_within [] (dCons (dVar 0) (dLast (dVar 2)))))) (dRetZ (dC (.bl true))) (dSkip)
@[simp] def B_l_hits_2 : DenS :=
    dRetZ (dOp oAny (dLast (dLc (dRng1 (dLast (dC (.int 4)))) [4] (.nm 4) (dYes) (dCall F_l_cut [] (dCons (dVar 1) (dCons (dVar 2) (dCons (dOp oIx (dCons (dVar 3) (dLast (dOp oSub (dCons (dVar 4) (dLast (dC (.int 1)))))))) (dLast (dOp oIx (dCons (dVar 3) (dLast (dVar 4))))))))))))
@[simp] def B_l_hits : DenS :=
    dSeq (B_l_hits_0) (dSeq (dSetZ 3 (dCall F_l_corners [] (dLast (dVar 0)))) (B_l_hits_2))
def F_l_hits : Fn := dBody 5 B_l_hits
@[simp] def B_l_block_0 : DenS :=
    dUnp (.tp [.nm 2, .nm 3]) (dCall F_l_spot [] (dCons (dVar 0) (dLast (dVar 1))))
@[simp] def B_l_block_2b_0 : DenS :=
    dApp 4 (dOp oMin2 (dCons (dOp oPow (dCons (dC (.int 10)) (dLast (dC (.int 6))))) (dLast (dOp oAdd (dCons (dVar 5) (dLast (dOp oIx (dCons (dLst (dCons (dC (.int 0)) (dCons (dCall F_l_pull [] (dCons (dVar 0) (dLast (dC (.int 3))))) (dLast (dCall F_l_pull [] (dCons (dVar 0) (dLast (dOp oAdd (dCons (dOp oIx (dCons (dVar 1) (dLast (dC (.int 0))))) (dLast (dC (.int 1)))))))))))) (dLast (dCall F_l_pull [] (dCons (dVar 0) (dLast (dC (.int 3))))))))))))))
def B_l_block_2b : DenS :=
    B_l_block_2b_0
@[simp] def B_l_block_2 : DenS :=
    dFor (dIv (dTup (dCons (dVar 2) (dLast (dVar 3))))) (.nm 5) (B_l_block_2b) []
@[simp] def B_l_block_3 : DenS :=
    dRetZ (dTup (dCons (dVar 2) (dCons (dVar 3) (dCons (dOp oIx (dCons (dVar 4) (dLast (dC (.int 0))))) (dLast (dOp oIx (dCons (dVar 4) (dLast (dC (.int 1))))))))))
@[simp] def B_l_block_t3 : DenS :=
    dFrz 4 (B_l_block_3)
@[simp] def B_l_block_t2 : DenS :=
    dSeq (B_l_block_2) (B_l_block_t3)
@[simp] def B_l_block_t1 : DenS :=
    dSeq (dSet 4 (dLst (dNil))) (B_l_block_t2)
@[simp] def B_l_block : DenS :=
    dSeq (B_l_block_0) (B_l_block_t1)
def F_l_block : Fn := dBody 6 B_l_block
@[simp] def B_l_led_0t_0 : DenS :=
    dRetZ (dTup (dCons (dOp oAdd (dCons (dOp oIx (dCons (dVar 1) (dLast (dC (.int 0))))) (dLast (dOp oIx (dCons (dVar 0) (dLast (dC (.int 1)))))))) (dLast (dOp oAdd (dCons (dOp oIx (dCons (dVar 1) (dLast (dC (.int 1))))) (dLast (dOp oIx (dCons (dVar 0) (dLast (dC (.int 2)))))))))))
@[simp] def B_l_led_0 : DenS :=
    dIfS (dB (dOp oEq (dCons (dOp oIx (dCons (dVar 0) (dLast (dC (.int 0))))) (dLast (dC (.str "move")))))) (B_l_led_0t_0) (dSkip)
@[simp] def B_l_led_1t_0 : DenS :=
    dRetZ (dTup (dCons (dOp oSub (dCons (dC (.int 0)) (dLast (dOp oIx (dCons (dVar 1) (dLast (dC (.int 1)))))))) (dLast (dOp oIx (dCons (dVar 1) (dLast (dC (.int 0))))))))
@[simp] def B_l_led_1 : DenS :=
    dIfS (dB (dOp oEq (dCons (dOp oIx (dCons (dVar 0) (dLast (dC (.int 0))))) (dLast (dC (.str "turn")))))) (B_l_led_1t_0) (dSkip)
@[simp] def B_l_led_2 : DenS :=
    dRetZ (dIf (dB (dOp oEq (dCons (dOp oIx (dCons (dVar 0) (dLast (dC (.int 0))))) (dLast (dC (.str "mirror")))))) (dTup (dCons (dOp oSub (dCons (dC (.int 0)) (dLast (dOp oIx (dCons (dVar 1) (dLast (dC (.int 0)))))))) (dLast (dOp oIx (dCons (dVar 1) (dLast (dC (.int 1)))))))) (dTup (dCons (dOp oMul (dCons (dOp oIx (dCons (dVar 1) (dLast (dC (.int 0))))) (dLast (dOp oIx (dCons (dVar 0) (dLast (dC (.int 1)))))))) (dLast (dOp oMul (dCons (dOp oIx (dCons (dVar 1) (dLast (dC (.int 1))))) (dLast (dOp oIx (dCons (dVar 0) (dLast (dC (.int 1))))))))))))
@[simp] def B_l_led : DenS :=
    dSeq (B_l_led_0) (dSeq (B_l_led_1) (B_l_led_2))
def F_l_led : Fn := dBody 2 B_l_led
@[simp] def B_l_led_block_0 : DenS :=
    dPar 2 3 (dCons (dCall F_l_led [] (dCons (dVar 0) (dLast (dOp oSlH (dCons (dVar 1) (dLast (dC (.int 2)))))))) (dLast (dCall F_l_led [] (dCons (dVar 0) (dLast (dOp oSlL (dCons (dVar 1) (dLast (dC (.int 2))))))))))
@[simp] def B_l_led_block_1 : DenS :=
    dRetZ (dTup (dCons (dOp oMin2 (dCons (dOp oIx (dCons (dVar 2) (dLast (dC (.int 0))))) (dLast (dOp oIx (dCons (dVar 3) (dLast (dC (.int 0)))))))) (dCons (dOp oMin2 (dCons (dOp oIx (dCons (dVar 2) (dLast (dC (.int 1))))) (dLast (dOp oIx (dCons (dVar 3) (dLast (dC (.int 1)))))))) (dCons (dOp oMax2 (dCons (dOp oIx (dCons (dVar 2) (dLast (dC (.int 0))))) (dLast (dOp oIx (dCons (dVar 3) (dLast (dC (.int 0)))))))) (dLast (dOp oMax2 (dCons (dOp oIx (dCons (dVar 2) (dLast (dC (.int 1))))) (dLast (dOp oIx (dCons (dVar 3) (dLast (dC (.int 1)))))))))))))
@[simp] def B_l_led_block : DenS :=
    dSeq (B_l_led_block_0) (B_l_led_block_1)
def F_l_led_block : Fn := dBody 4 B_l_led_block
end
end Hx

set_option Elab.async false
set_option linter.all false
set_option maxRecDepth 100000
set_option maxHeartbeats 0
set_option autoImplicit false
/-! R4: readings of defs that several laws share. -/
namespace Hx
open PySem PySem.Spec L2
noncomputable section
@[simp] def B_l_in_at_1 : DenS :=
    dRetZ (dCall F_l_within [] (dCons (dOp oTuple (dLast (dLc (dIv (dVar 0)) [5] (.nm 5) (dYes) (dOp oMul (dCons (dVar 5) (dLast (dVar 4))))))) (dLast (dCall F_l_at [] (dCons (dTup (dCons (dVar 1) (dLast (dVar 2)))) (dLast (dVar 3)))))))
@[simp] def B_l_in_at : DenS :=
    dSeq (dSetZ 4 (dOp oIx (dCons (dVar 3) (dLast (dC (.int 1)))))) (B_l_in_at_1)
def F_l_in_at : Fn := dBody 6 B_l_in_at
end
end Hx

set_option Elab.async false
set_option linter.all false
set_option maxRecDepth 100000
set_option autoImplicit false
/-! N0: bounds by type classes; the plain part's base. -/
namespace Hx
open PySem PySem.Spec L2
class EqN (a b : Nat) : Prop where h : a = b
instance eqN {n : Nat} : EqN n n := ⟨rfl⟩
class LeN (a b : Nat) : Prop where h : a ≤ b
set_option synthInstance.checkSynthOrder false in
instance leN {n m k : Nat} [h : EqN m (k + n)] : LeN n m := ⟨by have := h.h; omega⟩
instance (priority := high) leNr {n : Nat} : LeN n n := ⟨Nat.le_refl n⟩
class Bd (n : outParam Nat) (i : Int) : Prop where lt : i.natAbs < 2 ^ n
class Le (n : Nat) (i : Int) : Prop where lt : i.natAbs < 2 ^ n
set_option synthInstance.checkSynthOrder false in
instance (priority := low) bdLe {n : Nat} {i : Int} [h : Le n i] : Bd n i := ⟨h.lt⟩
instance (priority := low) leBd {n m : Nat} {i : Int} [h : Bd m i] [k : LeN m n] : Le n i := ⟨Nat.lt_of_lt_of_le h.lt (Nat.pow_le_pow_right (by decide) k.h)⟩
theorem Bd.sm {n : Nat} {i : Int} (h : Bd n i) : Sm n i := h.lt
instance bdMul {n m : Nat} {i j : Int} [h : Bd n i] [k : Bd m j] : Bd (n + m) (i * j) := ⟨Sm.mul h.lt k.lt⟩
instance (priority := 900) bdAdd {n m : Nat} {i j : Int} [h : Bd n i] [k : Bd m j] : Bd (n + m + 1) (i + j) := ⟨Sm.mono (Sm.add h.lt k.lt) (by omega)⟩
instance (priority := 900) bdSub {n m : Nat} {i j : Int} [h : Bd n i] [k : Bd m j] : Bd (n + m + 1) (i - j) := ⟨Sm.mono (Sm.sub h.lt k.lt) (by omega)⟩
instance (priority := 1020) bdAddL {n m : Nat} {i j : Int} [h : Bd n i] [k : Bd m j] [l : LeN n m] : Bd (m + 1) (i + j) := ⟨Sm.mono (Sm.add h.lt k.lt) (by have := l.h; omega)⟩
instance (priority := 1020) bdSubL {n m : Nat} {i j : Int} [h : Bd n i] [k : Bd m j] [l : LeN n m] : Bd (m + 1) (i - j) := ⟨Sm.mono (Sm.sub h.lt k.lt) (by have := l.h; omega)⟩
instance (priority := 1010) bdAddR {n m : Nat} {i j : Int} [h : Bd n i] [k : Bd m j] [l : LeN m n] : Bd (n + 1) (i + j) := ⟨Sm.mono (Sm.add h.lt k.lt) (by have := l.h; omega)⟩
instance (priority := 1010) bdSubR {n m : Nat} {i j : Int} [h : Bd n i] [k : Bd m j] [l : LeN m n] : Bd (n + 1) (i - j) := ⟨Sm.mono (Sm.sub h.lt k.lt) (by have := l.h; omega)⟩
instance bdNeg {n : Nat} {i : Int} [h : Bd n i] : Bd n (-i) := ⟨by rw [Int.natAbs_neg]; exact h.lt⟩
instance (priority := high) bdL8 {k : Nat} [h : LeN k 255] : Bd 8 (no_index (OfNat.ofNat k : Int)) := ⟨Nat.lt_of_le_of_lt (show (OfNat.ofNat k : Int).natAbs ≤ 255 from h.h) (by decide)⟩
instance bdL32 {k : Nat} [h : LeN k 4294967295] : Bd 32 (no_index (OfNat.ofNat k : Int)) := ⟨Nat.lt_of_le_of_lt (show (OfNat.ofNat k : Int).natAbs ≤ 4294967295 from h.h) (by decide)⟩
instance (priority := low) bdL128 {k : Nat} [h : LeN k 340282366920938463463374607431768211455] : Bd 128 (no_index (OfNat.ofNat k : Int)) := ⟨Nat.lt_of_le_of_lt (show (OfNat.ofNat k : Int).natAbs ≤ 340282366920938463463374607431768211455 from h.h) (by decide)⟩
theorem fmod_abs {a b : Int} (h : b ≠ 0) : (a.fmod b).natAbs < b.natAbs := by
  rcases Int.lt_trichotomy b 0 with hb | hb | hb
  · have e := Int.neg_fmod_neg a b
    have h1 := Int.fmod_nonneg_of_pos (-a) (show 0 < -b by omega)
    have h2 := Int.fmod_lt_of_pos (-a) (show 0 < -b by omega)
    omega
  · exact absurd hb h
  · have := Int.fmod_nonneg_of_pos a hb
    have := Int.fmod_lt_of_pos a hb
    omega
class Nz (i : Int) : Prop where h : i ≠ 0
instance nzL {k : Nat} [h : LeN 1 k] : Nz (no_index (OfNat.ofNat k : Int)) := ⟨by have := h.h; show ((k : Nat) : Int) ≠ 0; omega⟩
instance bdFmod {n : Nat} {i j : Int} [k : Bd n j] [z : Nz j] : Bd n (i.fmod j) := ⟨Nat.lt_trans (fmod_abs z.h) k.lt⟩
theorem fdiv_abs {a b : Int} : (a.fdiv b).natAbs ≤ a.natAbs := by
  by_cases hb : b = 0
  · subst hb; simp
  have e := Int.mul_fdiv_add_fmod a b
  have hm := fmod_abs (a := a) hb
  rcases Int.lt_trichotomy b 0 with h | h | h
  · have h1 : a.fmod b ≤ 0 := by
      have e := Int.neg_fmod_neg a b
      have h1 := Int.fmod_nonneg_of_pos (-a) (show 0 < -b by omega)
      omega
    by_cases q : a.fdiv b = 0
    · omega
    · rcases Int.lt_or_gt_of_ne q with q | q
      · have : b * a.fdiv b ≥ -(a.fdiv b) := by
          have := Int.mul_le_mul_of_nonneg_left (show -b ≥ 1 by omega) (show 0 ≤ -(a.fdiv b) by omega)
          have e2 : -(a.fdiv b) * -b = b * a.fdiv b := by grind
          omega
        have h2 : b * a.fdiv b ≥ -b := by
          have := Int.mul_le_mul_of_nonneg_right (show -(a.fdiv b) ≥ 1 by omega) (show 0 ≤ -b by omega)
          have e2 : -(a.fdiv b) * -b = b * a.fdiv b := by grind
          omega
        -- b * q + r = a, r in (b, 0]
        rcases Int.lt_trichotomy (b * a.fdiv b + b) (-(a.fdiv b)) with z | z | z
        · have : (a.fdiv b + 1) * (b + 1) < 1 + 0 := by
            have e3 : (a.fdiv b + 1) * (b + 1) = b * a.fdiv b + b + a.fdiv b + 1 := by grind
            omega
          have : 0 ≤ (a.fdiv b + 1) * (b + 1) := Int.mul_nonneg_of_nonpos_of_nonpos (by omega) (by omega)
          have : (a.fdiv b + 1) * (b + 1) = b * a.fdiv b + b + a.fdiv b + 1 := by grind
          omega
        · omega
        · omega
      · have : b * a.fdiv b ≤ -(a.fdiv b) := by
          have := Int.mul_le_mul_of_nonneg_left (show -b ≥ 1 by omega) (show 0 ≤ a.fdiv b by omega)
          have e2 : a.fdiv b * -b = -(b * a.fdiv b) := by grind
          omega
        omega
  · exact absurd h hb
  · have h1 : 0 ≤ a.fmod b := Int.fmod_nonneg_of_pos a h
    by_cases q : a.fdiv b = 0
    · omega
    · rcases Int.lt_or_gt_of_ne q with q | q
      · have h2 : b * a.fdiv b ≤ a.fdiv b := by
          have := Int.mul_le_mul_of_nonneg_left (show b ≥ 1 by omega) (show 0 ≤ -(a.fdiv b) by omega)
          have e2 : -(a.fdiv b) * b = -(b * a.fdiv b) := by grind
          omega
        have h3 : (a.fdiv b + 1) * (b - 1) ≤ 0 := Int.mul_nonpos_of_nonpos_of_nonneg (by omega) (by omega)
        have e3 : (a.fdiv b + 1) * (b - 1) = b * a.fdiv b + b - a.fdiv b - 1 := by grind
        omega
      · have : b * a.fdiv b ≥ a.fdiv b := by
          have := Int.mul_le_mul_of_nonneg_left (show b ≥ 1 by omega) (show 0 ≤ a.fdiv b by omega)
          have e2 : a.fdiv b * b = b * a.fdiv b := by grind
          omega
        omega
instance bdFdiv {n : Nat} {i j : Int} [k : Bd n i] : Bd n (i.fdiv j) := ⟨Nat.lt_of_le_of_lt fdiv_abs k.lt⟩
instance (priority := 1020) bdIteL {n m : Nat} {i j : Int} {c : Prop} [Decidable c] [h : Bd n i] [k : Bd m j] [l : LeN n m] : Bd m (if c then i else j) := ⟨by
  split
  · exact Nat.lt_of_lt_of_le h.lt (Nat.pow_le_pow_right (by decide) l.h)
  · exact k.lt⟩
instance (priority := 1010) bdIteR {n m : Nat} {i j : Int} {c : Prop} [Decidable c] [h : Bd n i] [k : Bd m j] [l : LeN m n] : Bd n (if c then i else j) := ⟨by
  split
  · exact h.lt
  · exact Nat.lt_of_lt_of_le k.lt (Nat.pow_le_pow_right (by decide) l.h)⟩
instance bdIte {n m : Nat} {i j : Int} {c : Prop} [Decidable c] [h : Bd n i] [k : Bd m j] : Bd (n + m) (if c then i else j) := ⟨by
  split
  · exact Nat.lt_of_lt_of_le h.lt (Nat.pow_le_pow_right (by decide) (by omega))
  · exact Nat.lt_of_lt_of_le k.lt (Nat.pow_le_pow_right (by decide) (by omega))⟩
@[simp] theorem mulOk_bd {n m : Nat} {i j : Int} [h : Bd n i] [k : Bd m j] [z : LeN n 400000] [y : LeN m 400000] : mulOk i j = true := Sm.ok h.sm k.sm z.h y.h
@[simp] theorem divOk_bd {n : Nat} {j : Int} [h : Bd n j] [z : LeN n 9000] [y : Nz j] : divOk j = true := by
  cases n with
  | zero => have := h.lt; have := y.h; omega
  | succ n => exact divOk_of h.sm y.h z.h (Nat.succ_pos n)
theorem Le.of {n : Nat} {i : Int} (a : Int) (h1 : -a ≤ i) (h2 : i ≤ a) (h : a.natAbs < 2 ^ n) : Le n i := ⟨by omega⟩
theorem Nz.of_pos {i : Int} (h : 0 < i) : Nz i := ⟨by omega⟩
end Hx

set_option Elab.async false
set_option linter.all false
set_option maxRecDepth 100000
set_option maxHeartbeats 0
set_option autoImplicit false
/-! S1: the written texts are texts. -/
namespace Hx
open PySem PySem.Spec L2
@[simp] theorem so_0 : PyData.strOk ("" : Str) = true := by decide +kernel
@[simp] theorem so_1 : PyData.strOk (" " : Str) = true := by decide +kernel
@[simp] theorem so_2 : PyData.strOk (" / " : Str) = true := by decide +kernel
@[simp] theorem so_3 : PyData.strOk (" lamps, " : Str) = true := by decide +kernel
@[simp] theorem so_4 : PyData.strOk (" panes)" : Str) = true := by decide +kernel
@[simp] theorem so_5 : PyData.strOk (" posts, " : Str) = true := by decide +kernel
@[simp] theorem so_6 : PyData.strOk (" undo" : Str) = true := by decide +kernel
@[simp] theorem so_7 : PyData.strOk ("-" : Str) = true := by decide +kernel
@[simp] theorem so_8 : PyData.strOk ("-0" : Str) = true := by decide +kernel
@[simp] theorem so_9 : PyData.strOk ("/" : Str) = true := by decide +kernel
@[simp] theorem so_10 : PyData.strOk ("0" : Str) = true := by decide +kernel
@[simp] theorem so_11 : PyData.strOk ("0 2 0" : Str) = true := by decide +kernel
@[simp] theorem so_12 : PyData.strOk ("0 3 0" : Str) = true := by decide +kernel
@[simp] theorem so_13 : PyData.strOk ("00" : Str) = true := by decide +kernel
@[simp] theorem so_14 : PyData.strOk ("0123456789" : Str) = true := by decide +kernel
@[simp] theorem so_15 : PyData.strOk ("07" : Str) = true := by decide +kernel
@[simp] theorem so_16 : PyData.strOk ("1" : Str) = true := by decide +kernel
@[simp] theorem so_17 : PyData.strOk ("1234567890" : Str) = true := by decide +kernel
@[simp] theorem so_18 : PyData.strOk ("2 2 1" : Str) = true := by decide +kernel
@[simp] theorem so_19 : PyData.strOk ("3" : Str) = true := by decide +kernel
@[simp] theorem so_20 : PyData.strOk ("9" : Str) = true := by decide +kernel
@[simp] theorem so_21 : PyData.strOk (":" : Str) = true := by decide +kernel
@[simp] theorem so_22 : PyData.strOk ("; " : Str) = true := by decide +kernel
@[simp] theorem so_23 : PyData.strOk ("House" : Str) = true := by decide +kernel
@[simp] theorem so_24 : PyData.strOk ("House(" : Str) = true := by decide +kernel
@[simp] theorem so_25 : PyData.strOk ("Lamp" : Str) = true := by decide +kernel
@[simp] theorem so_26 : PyData.strOk ("Undo" : Str) = true := by decide +kernel
@[simp] theorem so_27 : PyData.strOk ("b" : Str) = true := by decide +kernel
@[simp] theorem so_28 : PyData.strOk ("badblock" : Str) = true := by decide +kernel
@[simp] theorem so_29 : PyData.strOk ("badchoice" : Str) = true := by decide +kernel
@[simp] theorem so_30 : PyData.strOk ("baddeed" : Str) = true := by decide +kernel
@[simp] theorem so_31 : PyData.strOk ("badlight" : Str) = true := by decide +kernel
@[simp] theorem so_32 : PyData.strOk ("badmenu" : Str) = true := by decide +kernel
@[simp] theorem so_33 : PyData.strOk ("badpiece" : Str) = true := by decide +kernel
@[simp] theorem so_34 : PyData.strOk ("badplace" : Str) = true := by decide +kernel
@[simp] theorem so_35 : PyData.strOk ("badsetting" : Str) = true := by decide +kernel
@[simp] theorem so_36 : PyData.strOk ("badsift" : Str) = true := by decide +kernel
@[simp] theorem so_37 : PyData.strOk ("badsort" : Str) = true := by decide +kernel
@[simp] theorem so_38 : PyData.strOk ("badtext" : Str) = true := by decide +kernel
@[simp] theorem so_39 : PyData.strOk ("badview" : Str) = true := by decide +kernel
@[simp] theorem so_40 : PyData.strOk ("badwish" : Str) = true := by decide +kernel
@[simp] theorem so_41 : PyData.strOk ("br" : Str) = true := by decide +kernel
@[simp] theorem so_42 : PyData.strOk ("came" : Str) = true := by decide +kernel
@[simp] theorem so_43 : PyData.strOk ("cases" : Str) = true := by decide +kernel
@[simp] theorem so_44 : PyData.strOk ("clash" : Str) = true := by decide +kernel
@[simp] theorem so_45 : PyData.strOk ("clash x" : Str) = true := by decide +kernel
@[simp] theorem so_46 : PyData.strOk ("done" : Str) = true := by decide +kernel
@[simp] theorem so_47 : PyData.strOk ("drop" : Str) = true := by decide +kernel
@[simp] theorem so_48 : PyData.strOk ("drop  1" : Str) = true := by decide +kernel
@[simp] theorem so_49 : PyData.strOk ("each" : Str) = true := by decide +kernel
@[simp] theorem so_50 : PyData.strOk ("fits" : Str) = true := by decide +kernel
@[simp] theorem so_51 : PyData.strOk ("fits 0" : Str) = true := by decide +kernel
@[simp] theorem so_52 : PyData.strOk ("full" : Str) = true := by decide +kernel
@[simp] theorem so_53 : PyData.strOk ("g" : Str) = true := by decide +kernel
@[simp] theorem so_54 : PyData.strOk ("gb" : Str) = true := by decide +kernel
@[simp] theorem so_55 : PyData.strOk ("gr" : Str) = true := by decide +kernel
@[simp] theorem so_56 : PyData.strOk ("house" : Str) = true := by decide +kernel
@[simp] theorem so_57 : PyData.strOk ("lamp" : Str) = true := by decide +kernel
@[simp] theorem so_58 : PyData.strOk ("lamp 1 2 3" : Str) = true := by decide +kernel
@[simp] theorem so_59 : PyData.strOk ("lamp 1 2 3 4 5 6" : Str) = true := by decide +kernel
@[simp] theorem so_60 : PyData.strOk ("light" : Str) = true := by decide +kernel
@[simp] theorem so_61 : PyData.strOk ("light -0 1" : Str) = true := by decide +kernel
@[simp] theorem so_62 : PyData.strOk ("light 0 0" : Str) = true := by decide +kernel
@[simp] theorem so_63 : PyData.strOk ("light 01 2" : Str) = true := by decide +kernel
@[simp] theorem so_64 : PyData.strOk ("light 1" : Str) = true := by decide +kernel
@[simp] theorem so_65 : PyData.strOk ("light 1 2 3" : Str) = true := by decide +kernel
@[simp] theorem so_66 : PyData.strOk ("look" : Str) = true := by decide +kernel
@[simp] theorem so_67 : PyData.strOk ("looked" : Str) = true := by decide +kernel
@[simp] theorem so_68 : PyData.strOk ("many" : Str) = true := by decide +kernel
@[simp] theorem so_69 : PyData.strOk ("many " : Str) = true := by decide +kernel
@[simp] theorem so_70 : PyData.strOk ("many 0" : Str) = true := by decide +kernel
@[simp] theorem so_71 : PyData.strOk ("many 1" : Str) = true := by decide +kernel
@[simp] theorem so_72 : PyData.strOk ("many 2" : Str) = true := by decide +kernel
@[simp] theorem so_73 : PyData.strOk ("mirror" : Str) = true := by decide +kernel
@[simp] theorem so_74 : PyData.strOk ("move" : Str) = true := by decide +kernel
@[simp] theorem so_75 : PyData.strOk ("no " : Str) = true := by decide +kernel
@[simp] theorem so_76 : PyData.strOk ("nolook" : Str) = true := by decide +kernel
@[simp] theorem so_77 : PyData.strOk ("none" : Str) = true := by decide +kernel
@[simp] theorem so_78 : PyData.strOk ("nothing" : Str) = true := by decide +kernel
@[simp] theorem so_79 : PyData.strOk ("nothingleft" : Str) = true := by decide +kernel
@[simp] theorem so_80 : PyData.strOk ("nought" : Str) = true := by decide +kernel
@[simp] theorem so_81 : PyData.strOk ("pane" : Str) = true := by decide +kernel
@[simp] theorem so_82 : PyData.strOk ("pane 0 0 1 1" : Str) = true := by decide +kernel
@[simp] theorem so_83 : PyData.strOk ("pane 0 0 1 1 " : Str) = true := by decide +kernel
@[simp] theorem so_84 : PyData.strOk ("pane 0 0 1 1 -" : Str) = true := by decide +kernel
@[simp] theorem so_85 : PyData.strOk ("post" : Str) = true := by decide +kernel
@[simp] theorem so_86 : PyData.strOk ("post 1 1 1" : Str) = true := by decide +kernel
@[simp] theorem so_87 : PyData.strOk ("post 9 9 9 9" : Str) = true := by decide +kernel
@[simp] theorem so_88 : PyData.strOk ("q" : Str) = true := by decide +kernel
@[simp] theorem so_89 : PyData.strOk ("r" : Str) = true := by decide +kernel
@[simp] theorem so_90 : PyData.strOk ("rb" : Str) = true := by decide +kernel
@[simp] theorem so_91 : PyData.strOk ("redo" : Str) = true := by decide +kernel
@[simp] theorem so_92 : PyData.strOk ("rg" : Str) = true := by decide +kernel
@[simp] theorem so_93 : PyData.strOk ("rgb" : Str) = true := by decide +kernel
@[simp] theorem so_94 : PyData.strOk ("rgbr" : Str) = true := by decide +kernel
@[simp] theorem so_95 : PyData.strOk ("rr" : Str) = true := by decide +kernel
@[simp] theorem so_96 : PyData.strOk ("settle" : Str) = true := by decide +kernel
@[simp] theorem so_97 : PyData.strOk ("settle 1" : Str) = true := by decide +kernel
@[simp] theorem so_98 : PyData.strOk ("short" : Str) = true := by decide +kernel
@[simp] theorem so_99 : PyData.strOk ("stretch" : Str) = true := by decide +kernel
@[simp] theorem so_100 : PyData.strOk ("strike" : Str) = true := by decide +kernel
@[simp] theorem so_101 : PyData.strOk ("switch" : Str) = true := by decide +kernel
@[simp] theorem so_102 : PyData.strOk ("things" : Str) = true := by decide +kernel
@[simp] theorem so_103 : PyData.strOk ("told" : Str) = true := by decide +kernel
@[simp] theorem so_104 : PyData.strOk ("toomany" : Str) = true := by decide +kernel
@[simp] theorem so_105 : PyData.strOk ("turn" : Str) = true := by decide +kernel
@[simp] theorem so_106 : PyData.strOk ("two" : Str) = true := by decide +kernel
@[simp] theorem so_107 : PyData.strOk ("undo" : Str) = true := by decide +kernel
@[simp] theorem so_108 : PyData.strOk ("undo " : Str) = true := by decide +kernel
@[simp] theorem so_109 : PyData.strOk ("undo 1" : Str) = true := by decide +kernel
@[simp] theorem so_110 : PyData.strOk ("unknown" : Str) = true := by decide +kernel
@[simp] theorem so_111 : PyData.strOk ("unsure" : Str) = true := by decide +kernel
@[simp] theorem so_112 : PyData.strOk ("unsure " : Str) = true := by decide +kernel
@[simp] theorem so_113 : PyData.strOk ("unsure 1 2 3 4" : Str) = true := by decide +kernel
@[simp] theorem so_114 : PyData.strOk ("what" : Str) = true := by decide +kernel
@[simp] theorem so_115 : PyData.strOk ("why" : Str) = true := by decide +kernel
@[simp] theorem so_116 : PyData.strOk ("why 0 0" : Str) = true := by decide +kernel
@[simp] theorem so_117 : PyData.strOk ("x" : Str) = true := by decide +kernel
@[simp] theorem so_118 : PyData.strOk ("zz" : Str) = true := by decide +kernel
@[simp] theorem so_119 : PyData.strOk ("~!" : Str) = true := by decide +kernel
theorem eqD_str {x y : Str} (h : PyData.strOk x = true) (k : PyData.strOk y = true) : eqD (.str x) (.str y) = some (decide (x = y)) := by
  simp [eqD, D.py, SeqAt.shaped, PyData.canLay0, PyData.depth, PyData.eqv, h, k]
  rfl
end Hx

set_option Elab.async false
set_option linter.all false
set_option maxRecDepth 100000
set_option autoImplicit false
/-! Geo: pieces, blocks and shares over rationals. -/
namespace Geo
/-- the cross product -/
def cr (ax ay bx bY cx cy : Rat) : Rat := (bx - ax) * (cy - ay) - (bY - ay) * (cx - ax)
/-- on a piece -/
def On (cx cy dx dy x y : Rat) : Prop := ∃ t : Rat, 0 ≤ t ∧ t ≤ 1 ∧ x = cx + t * (dx - cx) ∧ y = cy + t * (dy - cy)
def Bt (l n h : Rat) : Prop := (l ≤ n ∧ n ≤ h) ∨ (h ≤ n ∧ n ≤ l)
section
variable {ax ay bx bY cx cy dx dy x y : Rat}
theorem div_range {n d : Rat} (hd : d ≠ 0) (h : (0 ≤ n ∧ n ≤ d) ∨ (d ≤ n ∧ n ≤ 0)) : 0 ≤ n / d ∧ n / d ≤ 1 := by
  have e : n = (n / d) * d := by grind
  generalize n / d = q at *
  subst e
  rcases h with ⟨h1, h2⟩ | ⟨h1, h2⟩
  · have hd' : 0 < d := by grind
    constructor
    · refine Rat.not_lt.mp fun z => ?_
      have := Rat.mul_pos (show 0 < -q by grind) hd'
      grind
    · refine Rat.not_lt.mp fun z => ?_
      have := Rat.mul_pos (show 0 < q - 1 by grind) hd'
      grind
  · have hd' : 0 < -d := by grind
    constructor
    · refine Rat.not_lt.mp fun z => ?_
      have := Rat.mul_pos (show 0 < -q by grind) hd'
      grind
    · refine Rat.not_lt.mp fun z => ?_
      have := Rat.mul_pos (show 0 < q - 1 by grind) hd'
      grind
theorem mul_nn {a b : Rat} (ha : 0 ≤ a) (hb : 0 ≤ b) : 0 ≤ a * b := Rat.mul_nonneg ha hb
theorem bt_mid {l h t : Rat} (h0 : 0 ≤ t) (h1 : t ≤ 1) : Bt l (l + t * (h - l)) h := by
  unfold Bt
  by_cases hh : l ≤ h
  · have := mul_nn h0 (show 0 ≤ h - l by grind)
    have := mul_nn (show 0 ≤ 1 - t by grind) (show 0 ≤ h - l by grind)
    left; grind
  · have := mul_nn h0 (show 0 ≤ l - h by grind)
    have := mul_nn (show 0 ≤ 1 - t by grind) (show 0 ≤ l - h by grind)
    right; grind
theorem on_iff : On cx cy dx dy x y ↔ cr cx cy dx dy x y = 0 ∧ Bt cx x dx ∧ Bt cy y dy := by
  constructor
  · rintro ⟨t, h0, h1, e1, e2⟩
    subst e1 e2
    exact ⟨by unfold cr; grind, bt_mid h0 h1, bt_mid h0 h1⟩
  · rintro ⟨h, h1, h2⟩
    unfold cr at h
    by_cases hx : dx - cx = 0
    · by_cases hy : dy - cy = 0
      · refine ⟨0, by grind, by grind, ?_, ?_⟩ <;> unfold Bt at * <;> grind
      · obtain ⟨r0, r1⟩ := div_range (n := y - cy) hy (by unfold Bt at *; grind)
        refine ⟨(y - cy) / (dy - cy), r0, r1, ?_, by grind⟩
        unfold Bt at *; grind
    · obtain ⟨r0, r1⟩ := div_range (n := x - cx) hx (by unfold Bt at *; grind)
      exact ⟨(x - cx) / (dx - cx), r0, r1, by grind, by grind⟩
theorem on_turn : On dx dy cx cy x y ↔ On cx cy dx dy x y := by
  have k : ∀ {cx cy dx dy : Rat}, On cx cy dx dy x y → On dx dy cx cy x y := fun {cx cy dx dy} ⟨t, h0, h1, e1, e2⟩ => ⟨1 - t, by grind, by grind, by grind, by grind⟩
  exact ⟨k, k⟩
/-- the point at a share -/
def pt (a b s : Rat) : Rat := a + s * (b - a)
def Sh (s : Rat) : Prop := 0 ≤ s ∧ s ≤ 1
def Meets (ax ay bx bY cx cy dx dy : Rat) : Prop := ∃ s, Sh s ∧ On cx cy dx dy (pt ax bx s) (pt ay bY s)
theorem meets_iff : Meets ax ay bx bY cx cy dx dy ↔ ∃ s t, Sh s ∧ Sh t ∧ pt ax bx s = pt cx dx t ∧ pt ay bY s = pt cy dy t := by
  constructor
  · rintro ⟨s, h, t, h0, h1, e1, e2⟩
    exact ⟨s, t, h, ⟨h0, h1⟩, e1, e2⟩
  · rintro ⟨s, t, h, ⟨h0, h1⟩, e1, e2⟩
    exact ⟨s, h, t, h0, h1, e1, e2⟩
theorem meets_comm : Meets cx cy dx dy ax ay bx bY ↔ Meets ax ay bx bY cx cy dx dy := by
  rw [meets_iff, meets_iff]
  constructor
  · rintro ⟨s, t, h, h', e1, e2⟩; exact ⟨t, s, h', h, e1.symm, e2.symm⟩
  · rintro ⟨s, t, h, h', e1, e2⟩; exact ⟨t, s, h', h, e1.symm, e2.symm⟩
theorem meets_turn : Meets bx bY ax ay cx cy dx dy ↔ Meets ax ay bx bY cx cy dx dy := by
  have k : ∀ {ax ay bx bY : Rat}, Meets ax ay bx bY cx cy dx dy → Meets bx bY ax ay cx cy dx dy := fun {ax ay bx bY} ⟨s, h, o⟩ => ⟨1 - s, ⟨by have := h.2; grind, by have := h.1; grind⟩, by
    have e1 : pt bx ax (1 - s) = pt ax bx s := by unfold pt; grind
    have e2 : pt bY ay (1 - s) = pt ay bY s := by unfold pt; grind
    rw [e1, e2]; exact o⟩
  exact ⟨k, k⟩
theorem meets_turn2 : Meets ax ay bx bY dx dy cx cy ↔ Meets ax ay bx bY cx cy dx dy := by
  rw [meets_comm, meets_turn, meets_comm]
/-- by crossing or touching -/
def Cut (ax ay bx bY cx cy dx dy : Rat) : Prop :=
  (cr ax ay bx bY cx cy * cr ax ay bx bY dx dy < 0 ∧ cr cx cy dx dy ax ay * cr cx cy dx dy bx bY < 0) ∨ On ax ay bx bY cx cy ∨ On ax ay bx bY dx dy ∨ On cx cy dx dy ax ay ∨ On cx cy dx dy bx bY
theorem pt0 {a b : Rat} : pt a b 0 = a := by unfold pt; grind
theorem pt1 {a b : Rat} : pt a b 1 = b := by unfold pt; grind
theorem sh0 : Sh 0 := ⟨by grind, by grind⟩
theorem sh1 : Sh 1 := ⟨by grind, by grind⟩
/-- of unlike signs -/
theorem opp {u v : Rat} (h : u * v < 0) : (0 ≤ u ∧ u ≤ u - v) ∨ (u - v ≤ u ∧ u ≤ 0) := by
  by_cases hu : 0 ≤ u
  · left
    refine ⟨hu, ?_⟩
    by_cases hv : 0 ≤ v
    · have := mul_nn hu hv; grind
    · grind
  · right
    refine ⟨?_, by grind⟩
    by_cases hv : 0 ≤ v
    · grind
    · have := mul_nn (show 0 ≤ -u by grind) (show 0 ≤ -v by grind); grind
theorem opp_ne {u v : Rat} (h : u * v < 0) : u - v ≠ 0 := fun z => by
  have e : u = v := by grind
  subst e
  by_cases hu : 0 ≤ u
  · have := mul_nn hu hu; grind
  · have := mul_nn (show 0 ≤ -u by grind) (show 0 ≤ -u by grind); grind
theorem cut_meets (h : Cut ax ay bx bY cx cy dx dy) : Meets ax ay bx bY cx cy dx dy := by
  rcases h with ⟨h1, h2⟩ | h | h | h | h
  · have n1 := opp_ne h1
    have n2 := opp_ne h2
    obtain ⟨a0, a1⟩ := div_range n1 (opp h1)
    obtain ⟨b0, b1⟩ := div_range n2 (opp h2)
    refine ⟨_, ⟨b0, b1⟩, _, a0, a1, ?_, ?_⟩
    · have e : cr cx cy dx dy ax ay - cr cx cy dx dy bx bY = -(cr ax ay bx bY cx cy - cr ax ay bx bY dx dy) := by unfold cr; grind
      rw [e]
      generalize hw : cr ax ay bx bY cx cy - cr ax ay bx bY dx dy = w at *
      have : (cr cx cy dx dy ax ay) * (bx - ax) = -(w * (cx - ax) + cr ax ay bx bY cx cy * (dx - cx)) := by rw [← hw]; unfold cr; grind
      unfold pt
      grind
    · have e : cr cx cy dx dy ax ay - cr cx cy dx dy bx bY = -(cr ax ay bx bY cx cy - cr ax ay bx bY dx dy) := by unfold cr; grind
      rw [e]
      generalize hw : cr ax ay bx bY cx cy - cr ax ay bx bY dx dy = w at *
      have : (cr cx cy dx dy ax ay) * (bY - ay) = -(w * (cy - ay) + cr ax ay bx bY cx cy * (dy - cy)) := by rw [← hw]; unfold cr; grind
      unfold pt
      grind
  · obtain ⟨s, h0, h1, e1, e2⟩ := h
    exact ⟨s, ⟨h0, h1⟩, 0, by grind, by grind, by unfold pt; grind, by unfold pt; grind⟩
  · obtain ⟨s, h0, h1, e1, e2⟩ := h
    exact ⟨s, ⟨h0, h1⟩, 1, by grind, by grind, by unfold pt; grind, by unfold pt; grind⟩
  · exact ⟨0, sh0, by rw [pt0, pt0]; exact h⟩
  · exact ⟨1, sh1, by rw [pt1, pt1]; exact h⟩
end
end Geo

set_option Elab.async false
set_option linter.all false
set_option maxRecDepth 100000
set_option autoImplicit false
namespace Geo
section
variable {ax ay bx bY cx cy dx dy x y : Rat}
theorem conv_opp {u v t : Rat} (h0 : 0 < t) (h1 : t < 1) (h : (1 - t) * u + t * v = 0) : (u = 0 ∧ v = 0) ∨ u * v < 0 := by
  by_cases hu : u = 0
  · left
    refine ⟨hu, ?_⟩
    subst hu
    have : t * v = 0 := by grind
    rcases Rat.mul_eq_zero.mp this with z | z <;> grind
  · right
    have e : v * t = -((1 - t) * u) := by grind
    have k : (u * v) * t = -((1 - t) * (u * u)) := by grind
    have p1 : 0 < u * u := by
      by_cases hp : 0 < u
      · exact Rat.mul_pos hp hp
      · have := Rat.mul_pos (show 0 < -u by grind) (show 0 < -u by grind); grind
    have p2 := Rat.mul_pos (show 0 < 1 - t by grind) p1
    refine Rat.not_le.mp fun z => ?_
    have := mul_nn z (show 0 ≤ t by grind)
    grind
theorem meets_cut (h : Meets ax ay bx bY cx cy dx dy) : Cut ax ay bx bY cx cy dx dy := by
  obtain ⟨s, t, ⟨s0, s1⟩, ⟨t0, t1⟩, e1, e2⟩ := meets_iff.mp h
  unfold Cut
  by_cases q : s = 0
  · subst q; right; right; right; left; refine ⟨t, t0, t1, ?_, ?_⟩ <;> unfold pt at * <;> grind
  by_cases q : s = 1
  · subst q; right; right; right; right; refine ⟨t, t0, t1, ?_, ?_⟩ <;> unfold pt at * <;> grind
  by_cases q : t = 0
  · subst q; right; left; refine ⟨s, s0, s1, ?_, ?_⟩ <;> unfold pt at * <;> grind
  by_cases q : t = 1
  · subst q; right; right; left; refine ⟨s, s0, s1, ?_, ?_⟩ <;> unfold pt at * <;> grind
  have z1 : (1 - t) * cr ax ay bx bY cx cy + t * cr ax ay bx bY dx dy = 0 := by
    unfold pt at *
    unfold cr; grind
  have z2 : (1 - s) * cr cx cy dx dy ax ay + s * cr cx cy dx dy bx bY = 0 := by
    unfold pt at *
    unfold cr; grind
  have w : cr ax ay bx bY cx cy - cr ax ay bx bY dx dy = cr cx cy dx dy bx bY - cr cx cy dx dy ax ay := by unfold cr; grind
  have key : (cr ax ay bx bY cx cy = 0 ∧ cr ax ay bx bY dx dy = 0) → (cr cx cy dx dy ax ay = 0 ∧ cr cx cy dx dy bx bY = 0) → On ax ay bx bY cx cy ∨ On ax ay bx bY dx dy ∨ On cx cy dx dy ax ay ∨ On cx cy dx dy bx bY := by
    rintro ⟨u0, v0⟩ ⟨p0, q0⟩
    unfold pt at e1 e2
    by_cases hx : bx - ax = 0 ∧ bY - ay = 0
    · obtain ⟨hx, hy⟩ := hx
      right; right; left
      exact ⟨t, t0, t1, by grind, by grind⟩
    -- f = k e
    have hk : ∃ k : Rat, dx - cx = k * (bx - ax) ∧ dy - cy = k * (bY - ay) := by
      by_cases hx' : bx - ax = 0
      · have hy' : bY - ay ≠ 0 := fun z => hx ⟨hx', z⟩
        refine ⟨(dy - cy) / (bY - ay), ?_, by grind⟩
        unfold cr at u0 v0
        grind
      · refine ⟨(dx - cx) / (bx - ax), by grind, ?_⟩
        unfold cr at u0 v0
        grind
    obtain ⟨k, k1, k2⟩ := hk
    have tt := mul_nn t0 (show 0 ≤ 1 - t by grind)
    by_cases kp : 0 ≤ k
    · have tk := mul_nn t0 kp
      by_cases c : t * k ≤ s
      · left
        exact ⟨s - t * k, by grind, by grind, by grind, by grind⟩
      · right; right; left
        have k0 : k ≠ 0 := by grind
        have kpos : 0 < k := by grind
        have sk : s / k * k = s := by grind
        have n1 : 0 ≤ s / k := Rat.not_lt.mp fun z => by
          have := Rat.mul_pos (show 0 < -(s / k) by grind) kpos; grind
        have n2 : 0 ≤ t - s / k := Rat.not_lt.mp fun z => by
          have := Rat.mul_pos (show 0 < -(t - s / k) by grind) kpos; grind
        exact ⟨t - s / k, n2, by grind, by grind, by grind⟩
    · have kn : 0 < -k := by grind
      have tk := mul_nn (show 0 ≤ 1 - t by grind) (show 0 ≤ -k by grind)
      by_cases c : (1 - t) * (-k) ≤ s
      · right; left
        exact ⟨s + (1 - t) * k, by grind, by grind, by grind, by grind⟩
      · right; right; left
        have k0 : k ≠ 0 := by grind
        have sk : s / k * k = s := by grind
        have n1 : 0 ≤ -(s / k) := Rat.not_lt.mp fun z => by
          have := Rat.mul_pos (show 0 < (s / k) by grind) kn; grind
        have n2 : 0 ≤ 1 - t + s / k := Rat.not_lt.mp fun z => by
          have := Rat.mul_pos (show 0 < -(1 - t + s / k) by grind) kn; grind
        exact ⟨t - s / k, by grind, by grind, by grind, by grind⟩
  rcases conv_opp (t := t) (by grind) (by grind) z1 with h1 | h1
  · rcases conv_opp (t := s) (by grind) (by grind) z2 with h2 | h2
    · exact .inr (key h1 h2)
    · have := opp_ne h2; grind
  · rcases conv_opp (t := s) (by grind) (by grind) z2 with h2 | h2
    · have := opp_ne h1; grind
    · exact .inl ⟨h1, h2⟩
theorem cut_iff : Cut ax ay bx bY cx cy dx dy ↔ Meets ax ay bx bY cx cy dx dy := ⟨cut_meets, meets_cut⟩
/-! ### shares of a piece -/
/-- l, h: just the shares at which P holds -/
structure Span (P : Rat → Prop) (l h : Rat) : Prop where
  l0 : 0 ≤ l
  lh : l ≤ h
  h1 : h ≤ 1
  at_ : ∀ s, Sh s → (P s ↔ l ≤ s ∧ s ≤ h)
def NoSpan (P : Rat → Prop) : Prop := ∀ s, Sh s → ¬ P s
def IsSpan (P : Rat → Prop) : Option (Rat × Rat) → Prop
  | some (l, h) => Span P l h
  | none => NoSpan P
theorem Span.uniq {P : Rat → Prop} {l h l' h' : Rat} (a : Span P l h) (b : Span P l' h') : l = l' ∧ h = h' := by
  have a1 := (b.at_ l ⟨a.l0, by have := a.lh; have := a.h1; grind⟩).mp ((a.at_ l ⟨a.l0, by have := a.lh; have := a.h1; grind⟩).mpr ⟨by grind, a.lh⟩)
  have a2 := (b.at_ h ⟨by have := a.lh; have := a.l0; grind, a.h1⟩).mp ((a.at_ h ⟨by have := a.lh; have := a.l0; grind, a.h1⟩).mpr ⟨a.lh, by grind⟩)
  have b1 := (a.at_ l' ⟨b.l0, by have := b.lh; have := b.h1; grind⟩).mp ((b.at_ l' ⟨b.l0, by have := b.lh; have := b.h1; grind⟩).mpr ⟨by grind, b.lh⟩)
  have b2 := (a.at_ h' ⟨by have := b.lh; have := b.l0; grind, b.h1⟩).mp ((b.at_ h' ⟨by have := b.lh; have := b.l0; grind, b.h1⟩).mpr ⟨b.lh, by grind⟩)
  grind
theorem IsSpan.uniq {P Q : Rat → Prop} (h : ∀ s, Sh s → (P s ↔ Q s)) : ∀ {a b : Option (Rat × Rat)}, IsSpan P a → IsSpan Q b → a = b
  | none, none, _, _ => rfl
  | some (l, h1), some (l', h1'), x, y => by
    have := Span.uniq x ⟨y.l0, y.lh, y.h1, fun s hs => (h s hs).trans (y.at_ s hs)⟩
    rw [this.1, this.2]
  | none, some (l, h1), x, y => by
    have hl : Sh l := ⟨y.l0, by have := y.lh; have := y.h1; grind⟩
    exact absurd ((h l hl).mpr ((y.at_ l hl).mpr ⟨by grind, y.lh⟩)) (x l hl)
  | some (l, h1), none, x, y => by
    have hl : Sh l := ⟨x.l0, by have := x.lh; have := x.h1; grind⟩
    exact absurd ((h l hl).mp ((x.at_ l hl).mpr ⟨by grind, x.lh⟩)) (y l hl)
theorem IsSpan.some_iff {P : Rat → Prop} {a : Option (Rat × Rat)} (h : IsSpan P a) : a.isSome = true ↔ ∃ s, Sh s ∧ P s := by
  cases a with
  | none =>
    constructor
    · intro z; cases z
    · rintro ⟨s, hs, p⟩; exact absurd p (h s hs)
  | some lh =>
    obtain ⟨l, h1⟩ := lh
    refine ⟨fun _ => ?_, fun _ => rfl⟩
    have hl : Sh l := ⟨h.l0, by have := h.lh; have := h.h1; grind⟩
    exact ⟨l, hl, (h.at_ l hl).mpr ⟨by grind, h.lh⟩⟩
/-- cut down to what is given -/
def cutDown : Option (Rat × Rat) → Rat → Rat → Option (Rat × Rat)
  | none, _, _ => none
  | some (l, h), lo, hi =>
    let f := if l < lo then lo else l
    let g := if hi < h then hi else h
    if g < f then none else some (f, g)
theorem cutDown_span {P : Rat → Prop} {o : Option (Rat × Rat)} {lo hi : Rat} (h : IsSpan P o) : IsSpan (fun s => P s ∧ lo ≤ s ∧ s ≤ hi) (cutDown o lo hi) := by
  cases o with
  | none => exact fun s hs z => h s hs z.1
  | some lh =>
    obtain ⟨l, u⟩ := lh
    have h0 := h.l0
    have h1 := h.lh
    have h2 := h.h1
    have h3 := h.at_
    show IsSpan _ (if (if hi < u then hi else u) < (if l < lo then lo else l) then none else some ((if l < lo then lo else l), (if hi < u then hi else u)))
    have f1 : ∀ s, (if l < lo then lo else l) ≤ s ↔ l ≤ s ∧ lo ≤ s := fun s => by grind
    have f2 : ∀ s, s ≤ (if hi < u then hi else u) ↔ s ≤ u ∧ s ≤ hi := fun s => by grind
    have f3 : 0 ≤ (if l < lo then lo else l) := by grind
    have f4 : (if hi < u then hi else u) ≤ 1 := by grind
    generalize (if hi < u then hi else u) = g at *
    generalize (if l < lo then lo else l) = f at *
    by_cases c : g < f
    · rw [if_pos c]
      intro s hs z
      have := (h3 s hs).mp z.1
      have := (f1 s).mpr ⟨this.1, z.2.1⟩
      have := (f2 s).mpr ⟨((h3 s hs).mp z.1).2, z.2.2⟩
      grind
    · rw [if_neg c]
      exact ⟨f3, by grind, f4, fun s hs => by rw [h3 s hs, f1, f2]; grind⟩
def full : Option (Rat × Rat) := some (0, 1)
theorem full_span : IsSpan (fun _ => True) full := ⟨by grind, by grind, by grind, fun s hs => ⟨fun _ => hs, fun _ => trivial⟩⟩
theorem IsSpan.iff {P Q : Rat → Prop} {o : Option (Rat × Rat)} (h : IsSpan P o) (k : ∀ s, Sh s → (P s ↔ Q s)) : IsSpan Q o := by
  cases o with
  | none => exact fun s hs z => h s hs ((k s hs).mpr z)
  | some lh => exact ⟨h.l0, h.lh, h.h1, fun s hs => (k s hs).symm.trans (h.at_ s hs)⟩
/-- the share of a place on the line of a piece -/
def shOn (ax ay bx bY x y : Rat) : Rat := if ax ≠ bx then (x - ax) / (bx - ax) else (y - ay) / (bY - ay)
theorem shOn_at (hne : ax ≠ bx ∨ ay ≠ bY) (h : cr ax ay bx bY x y = 0) {s : Rat} : (pt ax bx s = x ∧ pt ay bY s = y) ↔ s = shOn ax ay bx bY x y := by
  unfold shOn pt cr at *
  by_cases hx : ax = bx
  · have hy : bY - ay ≠ 0 := by grind
    simp only [hx, ne_eq, not_true_eq_false, if_false]
    constructor
    · rintro ⟨e1, e2⟩; grind
    · intro e
      have : s * (bY - ay) = y - ay := by rw [e]; grind
      refine ⟨?_, by grind⟩
      have : (bY - ay) * (x - ax) = 0 := by grind
      rcases Rat.mul_eq_zero.mp this with z | z <;> grind
  · have hx' : bx - ax ≠ 0 := by grind
    simp only [hx, ne_eq, not_false_eq_true, if_true]
    constructor
    · rintro ⟨e1, e2⟩; grind
    · intro e
      have : s * (bx - ax) = x - ax := by rw [e]; grind
      exact ⟨by grind, by grind⟩
theorem cr_pt {s : Rat} : cr ax ay bx bY (pt ax bx s) (pt ay bY s) = 0 := by unfold cr pt; grind
/-- the shares of ab on cd -/
def psh (cx cy dx dy ax ay bx bY : Rat) : Option (Rat × Rat) :=
  let u := cr ax ay bx bY cx cy
  let v := cr ax ay bx bY dx dy
  if u = 0 ∧ v = 0 then
    let c := shOn ax ay bx bY cx cy
    let d := shOn ax ay bx bY dx dy
    if d < c then cutDown full d c else cutDown full c d
  else if 0 < u * v then none
  else
    let s := shOn ax ay bx bY (pt cx dx (u / (u - v))) (pt cy dy (u / (u - v)))
    cutDown full s s
theorem psh_span (hne : ax ≠ bx ∨ ay ≠ bY) : IsSpan (fun s => On cx cy dx dy (pt ax bx s) (pt ay bY s)) (psh cx cy dx dy ax ay bx bY) := by
  unfold psh
  dsimp only
  split
  · rename_i h
    obtain ⟨u0, v0⟩ := h
    obtain ⟨c1, c2⟩ := (shOn_at hne u0).mpr rfl
    obtain ⟨d1, d2⟩ := (shOn_at hne v0).mpr rfl
    generalize shOn ax ay bx bY cx cy = c at *
    generalize shOn ax ay bx bY dx dy = d at *
    have key : ∀ s, On cx cy dx dy (pt ax bx s) (pt ay bY s) ↔ ∃ t : Rat, 0 ≤ t ∧ t ≤ 1 ∧ s = c + t * (d - c) := fun s => by
      constructor
      · rintro ⟨t, t0, t1, e1, e2⟩
        refine ⟨t, t0, t1, ?_⟩
        rw [← c1, ← d1] at e1
        rw [← c2, ← d2] at e2
        unfold pt at e1 e2
        rcases hne with h | h
        · have : (s - (c + t * (d - c))) * (bx - ax) = 0 := by grind
          rcases Rat.mul_eq_zero.mp this with z | z <;> grind
        · have : (s - (c + t * (d - c))) * (bY - ay) = 0 := by grind
          rcases Rat.mul_eq_zero.mp this with z | z <;> grind
      · rintro ⟨t, t0, t1, e⟩
        refine ⟨t, t0, t1, ?_, ?_⟩
        · rw [← c1, ← d1]; unfold pt; grind
        · rw [← c2, ← d2]; unfold pt; grind
    have fin : ∀ s, (∃ t : Rat, 0 ≤ t ∧ t ≤ 1 ∧ s = c + t * (d - c)) ↔ Bt c s d := fun s => by
      constructor
      · rintro ⟨t, t0, t1, e⟩
        rw [e]; exact bt_mid t0 t1
      · intro b
        by_cases hcd : d - c = 0
        · exact ⟨0, by grind, by grind, by unfold Bt at b; grind⟩
        · obtain ⟨r0, r1⟩ := div_range (n := s - c) hcd (by unfold Bt at b; grind)
          exact ⟨(s - c) / (d - c), r0, r1, by grind⟩
    split
    · exact (cutDown_span full_span).iff fun s hs => by rw [key, fin]; unfold Bt; grind
    · exact (cutDown_span full_span).iff fun s hs => by rw [key, fin]; unfold Bt; grind
  · rename_i nz
    split
    · rename_i h
      rintro s hs ⟨t, t0, t1, e1, e2⟩
      have z : (1 - t) * cr ax ay bx bY cx cy + t * cr ax ay bx bY dx dy = 0 := by
        unfold pt at *
        unfold cr; grind
      generalize cr ax ay bx bY cx cy = u at *
      generalize cr ax ay bx bY dx dy = v at *
      by_cases q : t = 0
      · subst q; have : u = 0 := by grind
        subst this; grind
      by_cases q : t = 1
      · subst q; have : v = 0 := by grind
        subst this; grind
      rcases conv_opp (t := t) (by grind) (by grind) z with w | w
      · exact nz w
      · grind
    · rename_i h
      have rng : cr ax ay bx bY cx cy - cr ax ay bx bY dx dy ≠ 0 ∧ ((0 ≤ cr ax ay bx bY cx cy ∧ cr ax ay bx bY cx cy ≤ cr ax ay bx bY cx cy - cr ax ay bx bY dx dy) ∨ (cr ax ay bx bY cx cy - cr ax ay bx bY dx dy ≤ cr ax ay bx bY cx cy ∧ cr ax ay bx bY cx cy ≤ 0)) := by
        generalize cr ax ay bx bY cx cy = u at *
        generalize cr ax ay bx bY dx dy = v at *
        by_cases q : u * v < 0
        · exact ⟨opp_ne q, opp q⟩
        · have : u * v = 0 := by grind
          rcases Rat.mul_eq_zero.mp this with z | z <;> subst z <;> constructor <;> grind
      obtain ⟨w0, w1⟩ := rng
      obtain ⟨r0, r1⟩ := div_range w0 w1
      have hX : cr ax ay bx bY (pt cx dx (cr ax ay bx bY cx cy / (cr ax ay bx bY cx cy - cr ax ay bx bY dx dy))) (pt cy dy (cr ax ay bx bY cx cy / (cr ax ay bx bY cx cy - cr ax ay bx bY dx dy))) = 0 := by
        have : ∀ t, cr ax ay bx bY (pt cx dx t) (pt cy dy t) = cr ax ay bx bY cx cy - t * (cr ax ay bx bY cx cy - cr ax ay bx bY dx dy) := fun t => by unfold cr pt; grind
        rw [this]; grind
      have key : ∀ s t, pt ax bx s = pt cx dx t → pt ay bY s = pt cy dy t → t = cr ax ay bx bY cx cy / (cr ax ay bx bY cx cy - cr ax ay bx bY dx dy) := fun s t e1 e2 => by
        have z : t * (cr ax ay bx bY cx cy - cr ax ay bx bY dx dy) = cr ax ay bx bY cx cy := by
          unfold pt at *
          unfold cr; grind
        grind
      refine (cutDown_span full_span).iff fun s hs => ?_
      have e0 := shOn_at hne hX (s := s)
      generalize cr ax ay bx bY cx cy / (cr ax ay bx bY cx cy - cr ax ay bx bY dx dy) = t0 at *
      constructor
      · rintro ⟨_, h1, h2⟩
        have := e0.mpr (by grind)
        exact ⟨t0, r0, r1, this.1, this.2⟩
      · rintro ⟨t, _, _, e1, e2⟩
        have := key s t e1 e2
        subst this
        have := e0.mp ⟨e1, e2⟩
        exact ⟨trivial, by grind, by grind⟩
end
end Geo

set_option Elab.async false
set_option linter.all false
set_option maxRecDepth 100000
set_option autoImplicit false
namespace Geo
section
variable {ax ay bx bY l w r h x y : Rat}
def slab (o : Option (Rat × Rat)) (start step lo hi : Rat) : Option (Rat × Rat) :=
  if step = 0 then (if lo ≤ start ∧ start ≤ hi then o else none)
  else if 0 < step then cutDown o ((lo - start) / step) ((hi - start) / step) else cutDown o ((hi - start) / step) ((lo - start) / step)
theorem le_div {a b s : Rat} (hb : 0 < b) : a / b ≤ s ↔ a ≤ s * b := by
  have e : a = a / b * b := by grind
  generalize a / b = q at *
  subst e
  constructor
  · intro z
    have := mul_nn (show 0 ≤ s - q by grind) (show 0 ≤ b by grind); grind
  · intro z
    refine Rat.not_lt.mp fun k => ?_
    have := Rat.mul_pos (show 0 < q - s by grind) hb; grind
theorem div_le {a b s : Rat} (hb : 0 < b) : s ≤ a / b ↔ s * b ≤ a := by
  have e : a = a / b * b := by grind
  generalize a / b = q at *
  subst e
  constructor
  · intro z
    have := mul_nn (show 0 ≤ q - s by grind) (show 0 ≤ b by grind); grind
  · intro z
    refine Rat.not_lt.mp fun k => ?_
    have := Rat.mul_pos (show 0 < s - q by grind) hb; grind
theorem div_neg {a b : Rat} : a / b = (-a) / (-b) := by
  by_cases hb : b = 0
  · subst hb; grind
  · grind
theorem slab_span {P : Rat → Prop} {o : Option (Rat × Rat)} {start step lo hi : Rat} (k : IsSpan P o) : IsSpan (fun s => P s ∧ lo ≤ start + s * step ∧ start + s * step ≤ hi) (slab o start step lo hi) := by
  unfold slab
  by_cases hs : step = 0
  · rw [if_pos hs]
    subst hs
    by_cases c : lo ≤ start ∧ start ≤ hi
    · rw [if_pos c]
      exact k.iff fun s hs => ⟨fun p => ⟨p, by grind, by grind⟩, fun p => p.1⟩
    · rw [if_neg c]
      exact fun s hs z => c (by grind)
  · rw [if_neg hs]
    by_cases c : 0 < step
    · rw [if_pos c]
      exact (cutDown_span k).iff fun s hs => by rw [le_div c, div_le c]; grind
    · rw [if_neg c, div_neg (a := hi - start), div_neg (a := lo - start)]
      have c' : 0 < -step := by grind
      exact (cutDown_span k).iff fun s hs => by rw [le_div c', div_le c']; grind
theorem cutDown_lo {o : Option (Rat × Rat)} {lo hi l' h' : Rat} (e : cutDown o lo hi = some (l', h')) : (∃ h0, o = some (l', h0)) ∨ l' = lo := by
  cases o with
  | none => cases e
  | some lh =>
    obtain ⟨l, u⟩ := lh
    replace e : (if (if hi < u then hi else u) < (if l < lo then lo else l) then none else some ((if l < lo then lo else l), (if hi < u then hi else u))) = some (l', h') := e
    by_cases c : (if hi < u then hi else u) < (if l < lo then lo else l)
    · rw [if_pos c] at e; cases e
    · rw [if_neg c] at e
      injection e with e
      injection e with e1 e2
      by_cases c : l < lo
      · rw [if_pos c] at e1; exact .inr e1.symm
      · rw [if_neg c] at e1; subst e1; exact .inl ⟨_, rfl⟩
theorem slab_lo {o : Option (Rat × Rat)} {start step lo hi l' h' : Rat} (e : slab o start step lo hi = some (l', h')) : (∃ h0, o = some (l', h0)) ∨ start + l' * step = lo ∨ start + l' * step = hi := by
  unfold slab at e
  by_cases hs : step = 0
  · rw [if_pos hs] at e
    split at e
    · exact .inl ⟨_, e⟩
    · cases e
  · rw [if_neg hs] at e
    split at e
    · rcases cutDown_lo e with z | z
      · exact .inl z
      · right; left; grind
    · rcases cutDown_lo e with z | z
      · exact .inl z
      · right; right; grind
def InB (l w r h x y : Rat) : Prop := (l ≤ x ∧ x ≤ r) ∧ (w ≤ y ∧ y ≤ h)
/-- the shares of ab in a block -/
def bsh (l w r h ax ay bx bY : Rat) : Option (Rat × Rat) := slab (slab full ax (bx - ax) l r) ay (bY - ay) w h
theorem bsh_span : IsSpan (fun s => InB l w r h (pt ax bx s) (pt ay bY s)) (bsh l w r h ax ay bx bY) :=
  (slab_span (slab_span full_span)).iff fun s hs => by unfold InB pt; grind
theorem bsh_lo {l' h' : Rat} (e : bsh l w r h ax ay bx bY = some (l', h')) : l' = 0 ∨ (pt ax bx l' = l ∨ pt ax bx l' = r) ∨ pt ay bY l' = w ∨ pt ay bY l' = h := by
  rcases slab_lo e with ⟨h0, z⟩ | z
  · rcases slab_lo z with ⟨h0, z⟩ | z
    · injection z with z; injection z with z; exact .inl z.symm
    · exact .inr (.inl z)
  · exact .inr (.inr z)
/-- the law's own hitting -/
def Hits (l w r h ax ay bx bY : Rat) : Prop :=
  (InB l w r h ax ay ∨ InB l w r h bx bY) ∨ Cut ax ay bx bY l h l w ∨ Cut ax ay bx bY l w r w ∨ Cut ax ay bx bY r w r h ∨ Cut ax ay bx bY r h l h
def BMeets (l w r h ax ay bx bY : Rat) : Prop := ∃ s, Sh s ∧ InB l w r h (pt ax bx s) (pt ay bY s)
theorem bt_in {l n h : Rat} (k : Bt l n h) (lo hi : Rat) (a : lo ≤ l) (b : l ≤ hi) (c : lo ≤ h) (d : h ≤ hi) : lo ≤ n ∧ n ≤ hi := by
  unfold Bt at k
  grind
theorem hits_iff (lr : l ≤ r) (wh : w ≤ h) : Hits l w r h ax ay bx bY ↔ BMeets l w r h ax ay bx bY := by
  have edge : ∀ {cx cy dx dy : Rat}, InB l w r h cx cy → InB l w r h dx dy → Cut ax ay bx bY cx cy dx dy → BMeets l w r h ax ay bx bY := fun {cx cy dx dy} i j c => by
    obtain ⟨s, hs, o⟩ := cut_meets c
    obtain ⟨_, b1, b2⟩ := on_iff.mp o
    exact ⟨s, hs, bt_in b1 _ _ i.1.1 i.1.2 j.1.1 j.1.2, bt_in b2 _ _ i.2.1 i.2.2 j.2.1 j.2.2⟩
  constructor
  · rintro ((k | k) | k | k | k | k)
    · exact ⟨0, sh0, by rw [pt0, pt0]; exact k⟩
    · exact ⟨1, sh1, by rw [pt1, pt1]; exact k⟩
    · exact edge (by unfold InB; grind) (by unfold InB; grind) k
    · exact edge (by unfold InB; grind) (by unfold InB; grind) k
    · exact edge (by unfold InB; grind) (by unfold InB; grind) k
    · exact edge (by unfold InB; grind) (by unfold InB; grind) k
  · intro k
    have sp := bsh_span (ax := ax) (ay := ay) (bx := bx) (bY := bY) (l := l) (w := w) (r := r) (h := h)
    have so := sp.some_iff.mpr k
    cases e : bsh l w r h ax ay bx bY with
    | none => rw [e] at so; cases so
    | some lh =>
      obtain ⟨l', h'⟩ := lh
      rw [e] at sp
      have hl : Sh l' := ⟨sp.l0, by have := sp.lh; have := sp.h1; grind⟩
      have inb := (sp.at_ l' hl).mpr ⟨by grind, sp.lh⟩
      have mk : ∀ {cx cy dx dy : Rat}, On cx cy dx dy (pt ax bx l') (pt ay bY l') → Cut ax ay bx bY cx cy dx dy := fun {cx cy dx dy} o => meets_cut ⟨l', hl, o⟩
      obtain ⟨⟨i1, i2⟩, i3, i4⟩ := inb
      rcases bsh_lo e with z | (z | z) | z | z
      · subst z
        rw [pt0, pt0] at *
        exact .inl (.inl ⟨⟨i1, i2⟩, i3, i4⟩)
      · refine .inr (.inl (mk (on_iff.mpr ?_)))
        rw [z] at *
        exact ⟨by unfold cr; grind, by unfold Bt; grind, by unfold Bt; grind⟩
      · refine .inr (.inr (.inr (.inl (mk (on_iff.mpr ?_)))))
        rw [z] at *
        exact ⟨by unfold cr; grind, by unfold Bt; grind, by unfold Bt; grind⟩
      · refine .inr (.inr (.inl (mk (on_iff.mpr ?_))))
        rw [z] at *
        exact ⟨by unfold cr; grind, by unfold Bt; grind, by unfold Bt; grind⟩
      · refine .inr (.inr (.inr (.inr (mk (on_iff.mpr ?_)))))
        rw [z] at *
        exact ⟨by unfold cr; grind, by unfold Bt; grind, by unfold Bt; grind⟩
end
end Geo

set_option Elab.async false
set_option linter.all false
set_option maxRecDepth 100000
set_option autoImplicit false
/-! P1: the bag, the draws, sameness. -/
namespace Hx
open PySem PySem.Spec L2
/-- the bag's cell -/
abbrev BgD (xs : List Int) (i h s n : Int) : D := .con .lst [.con .lst (xs.map D.int), .int i, .int h, .int s, .int n]
def Bg (st : Store) (c : Nat) (xs : List Int) (i h s n : Int) : Prop := st[c]? = some (.c .z, BgD xs i h s n)
section
variable {st : Store} {c : Nat} {xs : List Int} {i h s n x : Int}
theorem Bg.lk (e : Bg st c xs i h s n) : lk st (.ref c) = BgD xs i h s n := lk_bag e
theorem Bg.lt (e : Bg st c xs i h s n) : c < st.length := (List.getElem?_eq_some_iff.mp e).1
theorem Bg.put {xs' : List Int} {i' h' s' n' : Int} (e : Bg st c xs i h s n) : Bg (st.set c (.c .z, BgD xs' i' h' s' n')) c xs' i' h' s' n' := get_set e
theorem pull0 (e : Bg st c xs i h s n) (a1 : 0 ≤ i) (a2 : 0 ≤ h) (a3 : 0 ≤ s) (a4 : s < 2147483647) {many : Int} : ∃ i' h' s' st1 v, B_l_pull_0 [some (.z, .ref c), some (.z, .int many), none, none, none] st = .nx [some (.z, .ref c), some (.z, .int many), v, none, none] st1 ∧
    Bg st1 c xs i' h' s' n ∧ 0 ≤ i' ∧ 0 ≤ h' ∧ 0 ≤ s' ∧ s' < 2147483647 ∧ Fro1 c st st1 := by
  have e0 := e.lk
  have hl := e.lt
  by_cases hc : h = 0 ∧ i < xs.length
  · obtain ⟨hc1, hc2⟩ := hc
    subst hc1
    obtain ⟨x, ex⟩ := atI_map a1 hc2
    by_cases hx : x ≥ 1000000000000000000
    · refine ⟨i + 1, x, s, _, some (.z, .int x), ?_, e.put, by omega, by omega, a3, a4, Fro1.set⟩
      obtain ⟨hl', e⟩ := List.getElem?_eq_some_iff.mp e
      simp [B_l_pull_0, B_l_pull_0t_0, B_l_pull_0t_1, B_l_pull_0t_2, e0, e, hc2, ex, ixN, powOk, hx, hl]
    · have hm : 0 ≤ (s * 40503 + x.fmod 2147483563 + 1).fmod 2147483629 ∧ (s * 40503 + x.fmod 2147483563 + 1).fmod 2147483629 < 2147483629 := ⟨Int.fmod_nonneg_of_pos _ (by decide), Int.fmod_lt_of_pos _ (by decide)⟩
      refine ⟨i + 1, 0, (s * 40503 + x.fmod 2147483563 + 1).fmod 2147483629, _, some (.z, .int x), ?_, e.put, by omega, a2, hm.1, by omega, Fro1.set⟩
      have m1 : mulOk s 40503 = true := Sm.ok (n := 40) (m := 20) (by unfold Sm; omega) (by unfold Sm; decide) (by decide) (by decide)
      obtain ⟨hl', e⟩ := List.getElem?_eq_some_iff.mp e
      simp [B_l_pull_0, B_l_pull_0t_0, B_l_pull_0t_1, B_l_pull_0t_2, B_l_pull_0t_2e_0, e0, e, hc2, ex, ixN, powOk, hx, m1, hl]
  · refine ⟨i, h, s, st, none, ?_, e, a1, a2, a3, a4, Fro1.refl⟩
    by_cases h0 : h = 0
    · have : ¬ i < xs.length := fun z => hc ⟨h0, z⟩
      simp [B_l_pull_0, e0, h0, this]
    · simp [B_l_pull_0, e0, h0]
theorem f_l_pull {k : Nat} {many : Int} (B : Bag k st c) (hk : k < 2 ^ 100) (hm : 0 < many) (hs : Sm 1000 many) :
    ∃ g st', F_l_pull [(.z, .ref c), (.z, .int many)] st = .ok .z false (.int g) st' ∧ 0 ≤ g ∧ g < many ∧ Bag (k + 1) st' c ∧ Fro1 c st st' := by
  obtain ⟨xs, i, h, s, n, e, a1, a2, a3, a4, a5, a6⟩ := B.ex
  obtain ⟨i, h, s, st1, v, q, e, a1, a2, a3, a4, fr⟩ := pull0 (many := many) e a1 a2 a3 a4
  have e0 := e.lk
  have hl := e.lt
  have hne : many ≠ 0 := by omega
  by_cases h0 : h > 0
  · have dk : divOk many = true := divOk_of hs hne (by decide) (by decide)
    refine ⟨h.fmod many, st1.set c (.c .z, BgD xs i (h.fdiv many) s n), ?_, Int.fmod_nonneg_of_pos _ hm, Int.fmod_lt_of_pos _ hm, ⟨xs, i, h.fdiv many, s, n, e.put, a1, ?_, a3, a4, a5, by omega⟩, fr.trans Fro1.set⟩
    · obtain ⟨hl', e⟩ := List.getElem?_eq_some_iff.mp e
      simp [-B_l_pull_0, F_l_pull, B_l_pull, q, B_l_pull_1, B_l_pull_1t_0, B_l_pull_1t_1, e0, e, h0, dk, hne, ixN, hl]
    · rw [Int.fdiv_eq_ediv_of_nonneg _ (by omega)]
      exact Int.ediv_nonneg a2 (by omega)
  · have hb : ∀ y : Int, 0 ≤ y.fmod 2147483629 ∧ y.fmod 2147483629 < 2147483629 := fun y => ⟨Int.fmod_nonneg_of_pos _ (by decide), Int.fmod_lt_of_pos _ (by decide)⟩
    have s1 : Sm 32 s := by unfold Sm; omega
    have s2 : Sm 101 n := by unfold Sm; omega
    have s3 : Sm 101 (n + 1) := by unfold Sm; omega
    have r1 : 0 ≤ s.fmod 8191 ∧ s.fmod 8191 < 8191 := ⟨Int.fmod_nonneg_of_pos _ (by decide), Int.fmod_lt_of_pos _ (by decide)⟩
    have s4 : Sm 20 (s.fmod 8191 + 5) := by unfold Sm; omega
    have m1 := s1.ok s1 (by decide) (by decide)
    have m2 : mulOk 48271 (n + 1) = true := Sm.ok (n := 20) (by unfold Sm; decide) s3 (by decide) (by decide)
    have m3 : mulOk (48271 * (n + 1)) (s.fmod 8191 + 5) = true := Sm.ok (n := 121) (Sm.mul (n := 20) (by unfold Sm; decide) s3) s4 (by decide) (by decide)
    have m4 : mulOk (n + 1) (n + 1) = true := s3.ok s3 (by decide) (by decide)
    have m5 : mulOk ((n + 1) * (n + 1)) (n + 1) = true := (s3.mul s3).ok s3 (by decide) (by decide)
    let z := s * s + 48271 * (n + 1) * (s.fmod 8191 + 5) + (n + 1) * (n + 1) * (n + 1) + 12345
    have hz := hb z
    have r2 : 0 ≤ (z.fmod 2147483629).fmod 7919 ∧ (z.fmod 2147483629).fmod 7919 < 7919 := ⟨Int.fmod_nonneg_of_pos _ (by decide), Int.fmod_lt_of_pos _ (by decide)⟩
    have m6 : mulOk ((z.fmod 2147483629).fmod 7919) 37 = true := Sm.ok (n := 20) (m := 10) (by unfold Sm; omega) (by unfold Sm; decide) (by decide) (by decide)
    refine ⟨((z.fmod 2147483629).fdiv 71 + (z.fmod 2147483629).fmod 7919 * 37).fmod many, st1.set c (.c .z, BgD xs i h (z.fmod 2147483629) (n + 1)), ?_, Int.fmod_nonneg_of_pos _ hm, Int.fmod_lt_of_pos _ hm, ⟨xs, i, h, z.fmod 2147483629, n + 1, e.put, a1, a2, hz.1, by omega, by omega, by omega⟩, fr.trans Fro1.set⟩
    obtain ⟨hl', e⟩ := List.getElem?_eq_some_iff.mp e
    have d71 : divOk 71 = true := by decide
    simp [-B_l_pull_0, F_l_pull, B_l_pull, q, B_l_pull_1, B_l_pull_2, B_l_pull_3, B_l_pull_4, B_l_pull_5, e0, e, h0, hne, ixN, hl, m1, m2, m3, m4, m5, m6, d71, z]
end

theorem cut63 (ds : List D) : cutD ds none (some 63) = ds.take 63 := by
  unfold cutD HT.sIx
  simp
theorem bag_loop {d0 : D} {st : Store} : ∀ (ys : List Int) (s : Int) (v : Option (Fr × D)), 0 ≤ s → s < 2147483647 → ∃ s' v', forGo (.nm 2) B_l_bag_1b [] (ys.map D.int) [some (.z, d0), some (.z, .int s), v] st = .nx [some (.z, d0), some (.z, .int s'), v'] st ∧ 0 ≤ s' ∧ s' < 2147483647
  | [], s, v, h0, h1 => ⟨s, v, rfl, h0, h1⟩
  | y :: ys, s, v, h0, h1 => by
    have hm : ∀ z : Int, 0 ≤ z.fmod 2147483647 ∧ z.fmod 2147483647 < 2147483647 := fun z => ⟨Int.fmod_nonneg_of_pos _ (by decide), Int.fmod_lt_of_pos _ (by decide)⟩
    have m1 : mulOk s 48271 = true := Sm.ok (n := 40) (m := 20) (by unfold Sm; omega) (by unfold Sm; decide) (by decide) (by decide)
    obtain ⟨s', v', e, a, b⟩ := bag_loop (d0 := d0) (st := st) ys ((s * 48271 + y.fmod 2147483629 + 7).fmod 2147483647) (some (.z, .int y)) (hm _).1 (hm _).2
    refine ⟨s', v', ?_, a, b⟩
    have hb : B_l_bag_1b [some (.z, d0), some (.z, .int s), some (.z, .int y)] st = .nx [some (.z, d0), some (.z, .int ((s * 48271 + y.fmod 2147483629 + 7).fmod 2147483647)), some (.z, .int y)] st := by
      simp [B_l_bag_1b, B_l_bag_1b_0, m1]
    simp [forGo, hb, e, killE]
theorem f_l_bag (ns : List Int) (hl : ns.length ≤ 63) {st : Store} : ∃ s, F_l_bag [(.z, .con .frl (ns.map D.int))] st = .ok (.c .z) false (BgD ns 0 0 s 0) st ∧ 0 ≤ s ∧ s < 2147483647 := by
  have ht : (ns.map D.int).take 63 = ns.map D.int := List.take_of_length_le (by simpa using hl)
  obtain ⟨s', v', e, a, b⟩ := bag_loop (d0 := .con .frl (ns.map D.int)) (st := st) ns (31 + ns.length) none (by omega) (by omega)
  refine ⟨s', ?_, a, b⟩
  simp [F_l_bag, B_l_bag, B_l_bag_0, B_l_bag_1, B_l_bag_2, cut63, ht, dFor, e]
/-! ### the same -/
def Plain : Nat → D → Prop
  | 0, _ => False
  | _ + 1, .non => True
  | _ + 1, .bl _ => True
  | _ + 1, .int _ => True
  | _ + 1, .str s => PyData.strOk s = true
  | m + 1, .con .tup ds => ds.length ≤ 1000 ∧ ∀ d ∈ ds, Plain m d
  | m + 1, .con .lst ds => ds.length ≤ 1000 ∧ ∀ d ∈ ds, Plain m d
  | _, _ => False
theorem same_loop {rec : Fn} {k1 k2 : Kd} {ds : List D} {st : Store} (h1 : k1.seq = true) (h2 : k2.seq = true) (hr : ∀ d ∈ ds, rec [(.z, d), (.z, d)] st = .ok .z false (.bl true) st) : ∀ (is : List Nat) (acc : List D), (∀ i ∈ is, i < ds.length) →
    lcGo (.nm 2) dYes (dCall rec [] (dCons (dOp oIx (dCons (dVar 0) (dLast (dVar 2)))) (dLast (dOp oIx (dCons (dVar 1) (dLast (dVar 2))))))) (is.map fun (i : Nat) => D.int (0 + (i : Int))) [some (.z, .con k1 ds), some (.z, .con k2 ds), none] st acc = .ok (.c .z) false (.con .lst (acc ++ is.map fun _ => .bl true)) st
  | [], acc, _ => by simp [lcGo]
  | i :: is, acc, hi => by
    have hlt : i < ds.length := hi i (by simp)
    have ha : atI ds (i : Int) = some ds[i] := atI_nat (List.getElem?_eq_getElem hlt)
    have := same_loop h1 h2 hr is (acc ++ [.bl true]) fun j hj => hi j (by simp [hj])
    rw [List.map_cons, lcGo]
    have hrr := hr ds[i] (List.getElem_mem hlt)
    simp [dYes, ha, hrr, h1, h2] at this ⊢
    exact this
theorem bools_true (l : List Nat) : bools (l.map fun _ => D.bl true) = some (l.map fun _ => true) := by
  induction l with
  | nil => rfl
  | cons a l ih => show (bools (l.map fun _ => D.bl true)).map (true :: ·) = _; rw [ih]; rfl
theorem lsame_refl : ∀ (m : Nat) (d : D) (st : Store), Plain m d → F_l_same m [(.z, d), (.z, d)] st = .ok .z false (.bl true) st
  | 0, d, st, h => by cases d <;> exact h.elim
  | m + 1, d, st, h => by
    cases d with
    | non => simp [F_l_same, B_l_same, B_l_same_0, B_l_same_0t_0]
    | bl b => simp [F_l_same, B_l_same, B_l_same_0, B_l_same_1, B_l_same_1t_0]
    | int i => simp [F_l_same, B_l_same, B_l_same_0, B_l_same_1, B_l_same_2, B_l_same_2t_0]
    | str s =>
      have e := eqD_str (show PyData.strOk s = true from h) (show PyData.strOk s = true from h)
      simp [F_l_same, B_l_same, B_l_same_0, B_l_same_1, B_l_same_2, B_l_same_2t_0, e]
    | fnv s j => exact h.elim
    | ref s => exact h.elim
    | con k ds =>
      have hl : ds.length ≤ 1000 ∧ ∀ d ∈ ds, Plain m d := by cases k <;> first | exact h | exact h.elim
      have hk : k = .tup ∨ k = .lst := by cases k <;> first | exact .inl rfl | exact .inr rfl | exact h.elim
      have L := same_loop (rec := F_l_same m) (k1 := k) (k2 := k) (ds := ds) (st := st) (by rcases hk with rfl | rfl <;> rfl) (by rcases hk with rfl | rfl <;> rfl) (fun d hd => lsame_refl m d st (hl.2 d hd)) (List.range ds.length) [] fun i hi => List.mem_range.mp hi
      have s62 : small62 (ds.length : Int) = true := by simp [small62]; omega
      have rg : rngItems 0 (ds.length : Int) = (List.range ds.length).map fun (i : Nat) => D.int (0 + (i : Int)) := by simp [rngItems]
      have hb := bools_true (List.range ds.length)
      have hlen : (ds.length ≤ 16777215) := by omega
      rcases hk with rfl | rfl
      · simp at L hlen
        simp [F_l_same, B_l_same, B_l_same_0, B_l_same_1, B_l_same_2, B_l_same_3, B_l_same_4, dLc, s62, rg, nonesAt, hlen, L, hb]
      · simp at L hlen
        simp [F_l_same, B_l_same, B_l_same_0, B_l_same_1, B_l_same_2, B_l_same_3, B_l_same_4, dLc, s62, rg, nonesAt, hlen, L, hb]
/-- the same by a look -/
def plainB : Nat → D → Bool
  | 0, _ => false
  | _ + 1, .non => true
  | _ + 1, .bl _ => true
  | _ + 1, .int _ => true
  | _ + 1, .str s => PyData.strOk s
  | m + 1, .con .tup ds => decide (ds.length ≤ 1000) && ds.all (plainB m)
  | m + 1, .con .lst ds => decide (ds.length ≤ 1000) && ds.all (plainB m)
  | _, _ => false
theorem plain_of : ∀ (m : Nat) (d : D), plainB m d = true → Plain m d
  | 0, d, h => by cases d <;> cases h
  | m + 1, .non, h => trivial
  | m + 1, .bl _, h => trivial
  | m + 1, .int _, h => trivial
  | m + 1, .str _, h => h
  | m + 1, .fnv _ _, h => by cases h
  | m + 1, .ref _, h => by cases h
  | m + 1, .con k ds, h => by
    have key : (decide (ds.length ≤ 1000) && ds.all (plainB m)) = true → ds.length ≤ 1000 ∧ ∀ d ∈ ds, Plain m d := fun h => by
      rw [Bool.and_eq_true, decide_eq_true_eq, List.all_eq_true] at h
      exact ⟨h.1, fun d hd => plain_of m d (h.2 d hd)⟩
    cases k with
    | tup => exact key h
    | lst => exact key h
    | _ => cases h
theorem same8 {d : D} {st : Store} (h : plainB 8 d = true) : F_l_same 8 [(.z, d), (.z, d)] st = .ok .z false (.bl true) st := lsame_refl 8 d st (plain_of 8 d h)
end Hx

set_option Elab.async false
set_option linter.all false
set_option maxRecDepth 100000
set_option autoImplicit false
/-! P2: fractions and pieces. -/
namespace Hx
open PySem PySem.Spec L2
section
variable {st : Store}
theorem gcd_fmod (a b : Int) : Int.gcd b (a.fmod b) = Int.gcd a b := by
  rw [Int.fmod_def, Int.gcd_comm a b]
  simp
theorem gcd_loop : ∀ (n : Nat) (a b : Int), b.natAbs < n → ∃ g : Int, whileGo (dB (dOp oNe (dCons (dVar 1) (dLast (dC (.int 0)))))) B_common_divisor_0b [] n [some (.z, .int a), some (.z, .int b)] st = .nx [some (.z, .int g), some (.z, .int 0)] st ∧ g.natAbs = Int.gcd a b
  | 0, a, b, h => absurd h (Nat.not_lt_zero _)
  | n + 1, a, b, h => by
    by_cases hb : b = 0
    · subst hb
      exact ⟨a, by simp [whileGo], by simp⟩
    · have h2 := fmod_abs (a := a) hb
      obtain ⟨g, e, eg⟩ := gcd_loop n b (a.fmod b) (by omega)
      refine ⟨g, ?_, by rw [eg, gcd_fmod]⟩
      have eb : B_common_divisor_0b [some (.z, .int a), some (.z, .int b)] st = .nx [some (.z, .int b), some (.z, .int (a.fmod b))] st := by
        simp [B_common_divisor_0b, B_common_divisor_0b_0, hb]
      simp [whileGo, hb, eb, killE]
      simpa using e
theorem f_common_divisor (a b : Int) : F_common_divisor [(.z, .int a), (.z, .int b)] st = .ok .z false (.int (Int.gcd a b)) st := by
  obtain ⟨g, e, eg⟩ := gcd_loop (st := st) (b.natAbs + 1) a b (Nat.lt_succ_self _)
  have ea : (if g < 0 then -g else g) = (Int.gcd a b : Int) := by
    rw [← eg]
    split <;> omega
  simp only [oNe] at e
  simp [F_common_divisor, B_common_divisor, B_common_divisor_0, dWhile, e, ea]
/-- a rational as a pair -/
def DR (q : Rat) : D := .con .tup [.int q.num, .int (q.den : Int)]
class BdR (n : outParam Nat) (q : Rat) : Prop where
  num : q.num.natAbs < 2 ^ n
  den : q.den < 2 ^ n
class LeR (n : Nat) (q : Rat) : Prop where
  num : q.num.natAbs < 2 ^ n
  den : q.den < 2 ^ n
set_option synthInstance.checkSynthOrder false in
instance (priority := low) bdrLe {n : Nat} {i : Rat} [h : LeR n i] : BdR n i := ⟨h.num, h.den⟩
instance (priority := low) lerBd {n m : Nat} {i : Rat} [h : BdR m i] [k : LeN m n] : LeR n i := ⟨Nat.lt_of_lt_of_le h.num (Nat.pow_le_pow_right (by decide) k.h), Nat.lt_of_lt_of_le h.den (Nat.pow_le_pow_right (by decide) k.h)⟩
instance bdNum {n : Nat} {q : Rat} [h : BdR n q] : Bd n q.num := ⟨h.num⟩
instance bdDen {n : Nat} {q : Rat} [h : BdR n q] : Bd n (q.den : Int) := ⟨by have := h.den; omega⟩
instance nzDen {q : Rat} : Nz (q.den : Int) := ⟨by have := q.den_nz; omega⟩
instance bdr0 : BdR 1 0 := ⟨by decide, by decide⟩
instance bdr1 : BdR 1 1 := ⟨by decide, by decide⟩
instance (priority := 1020) bdrIteL {n m : Nat} {i j : Rat} {c : Prop} [Decidable c] [h : BdR n i] [k : BdR m j] [l : LeN n m] : BdR m (if c then i else j) := by
  split
  · exact ⟨Nat.lt_of_lt_of_le h.num (Nat.pow_le_pow_right (by decide) l.h), Nat.lt_of_lt_of_le h.den (Nat.pow_le_pow_right (by decide) l.h)⟩
  · exact k
instance (priority := 1010) bdrIteR {n m : Nat} {i j : Rat} {c : Prop} [Decidable c] [h : BdR n i] [k : BdR m j] [l : LeN m n] : BdR n (if c then i else j) := by
  split
  · exact h
  · exact ⟨Nat.lt_of_lt_of_le k.num (Nat.pow_le_pow_right (by decide) l.h), Nat.lt_of_lt_of_le k.den (Nat.pow_le_pow_right (by decide) l.h)⟩
instance bdrIte {n m : Nat} {i j : Rat} {c : Prop} [Decidable c] [h : BdR n i] [k : BdR m j] : BdR (n + m) (if c then i else j) := by
  split
  · exact ⟨Nat.lt_of_lt_of_le h.num (Nat.pow_le_pow_right (by decide) (by omega)), Nat.lt_of_lt_of_le h.den (Nat.pow_le_pow_right (by decide) (by omega))⟩
  · exact ⟨Nat.lt_of_lt_of_le k.num (Nat.pow_le_pow_right (by decide) (by omega)), Nat.lt_of_lt_of_le k.den (Nat.pow_le_pow_right (by decide) (by omega))⟩
/-- the parts of a quotient -/
theorem rat_div {a b n d : Int} (hd : 0 < d) (hc : Int.gcd n d = 1) (hb : b ≠ 0) (e : n * b = a * d) : ((a : Rat) / (b : Rat)).num = n ∧ (((a : Rat) / (b : Rat)).den : Int) = d := by
  have hdn : d.toNat ≠ 0 := by omega
  have cop : n.natAbs.Coprime d.toNat := by
    have : Nat.gcd n.natAbs d.natAbs = 1 := hc
    rw [show d.toNat = d.natAbs by omega]
    exact this
  have key : (a : Rat) / (b : Rat) = ⟨n, d.toNat, hdn, cop⟩ := by
    have h1 : (⟨n, d.toNat, hdn, cop⟩ : Rat) = Rat.divInt n d := by
      have := Rat.num_divInt_den ⟨n, d.toNat, hdn, cop⟩
      rw [← this]
      show Rat.divInt n ((d.toNat : Nat) : Int) = _
      rw [show ((d.toNat : Nat) : Int) = d by omega]
    rw [h1, ← Rat.divInt_eq_div, Rat.divInt_eq_divInt_iff hb (by omega)]
    exact e.symm
  rw [key]
  exact ⟨rfl, by show ((d.toNat : Nat) : Int) = d; omega⟩
theorem fr_parts {a b : Int} (hb : b ≠ 0) : ∃ n d : Int, 0 < d ∧ Int.gcd n d = 1 ∧ n * b = a * d ∧ n.natAbs ≤ a.natAbs ∧ d.natAbs ≤ b.natAbs ∧
    (b < 0 → a.fdiv (-(Int.gcd a b : Int)) = n ∧ b.fdiv (-(Int.gcd a b : Int)) = d) ∧ (0 < b → a.fdiv (Int.gcd a b : Int) = n ∧ b.fdiv (Int.gcd a b : Int) = d) := by
  have hg : 0 < Int.gcd a b := Int.gcd_pos_of_ne_zero_right a hb
  have d1 : (Int.gcd a b : Int) ∣ a := Int.gcd_dvd_left ..
  have d2 : (Int.gcd a b : Int) ∣ b := Int.gcd_dvd_right ..
  obtain ⟨p, hp⟩ := d1
  obtain ⟨q, hq⟩ := d2
  have hcop : Int.gcd p q = 1 := by
    have h := Int.gcd_mul_left (Int.gcd a b : Int) p q
    rw [← hp, ← hq] at h
    have e : (Int.gcd a b : Int).natAbs = Int.gcd a b := by omega
    rw [e] at h
    have : Int.gcd a b * 1 = Int.gcd a b * Int.gcd p q := by omega
    exact (Nat.eq_of_mul_eq_mul_left hg this).symm
  generalize hG : (Int.gcd a b : Int) = G at *
  have hG0 : 0 < G := by omega
  have pn : p.natAbs ≤ a.natAbs := by
    rw [hp, Int.natAbs_mul]
    exact Nat.le_mul_of_pos_left _ (by omega)
  have qn : q.natAbs ≤ b.natAbs := by
    rw [hq, Int.natAbs_mul]
    exact Nat.le_mul_of_pos_left _ (by omega)
  have f1 : a.fdiv G = p := by rw [hp]; exact Int.mul_fdiv_cancel_left _ (by omega)
  have f2 : b.fdiv G = q := by rw [hq]; exact Int.mul_fdiv_cancel_left _ (by omega)
  have f3 : a.fdiv (-G) = -p := by rw [hp, show G * p = -G * -p by grind]; exact Int.mul_fdiv_cancel_left _ (by omega)
  have f4 : b.fdiv (-G) = -q := by rw [hq, show G * q = -G * -q by grind]; exact Int.mul_fdiv_cancel_left _ (by omega)
  have q0 : q ≠ 0 := fun z => hb (by rw [hq, z]; simp)
  by_cases h0 : b < 0
  · have : q < 0 := by
      rw [hq] at h0
      exact Int.lt_of_not_ge fun z => by have := Int.mul_nonneg (show 0 ≤ G by omega) z; omega
    refine ⟨-p, -q, by omega, ?_, ?_, by omega, by omega, fun _ => ⟨f3, f4⟩, fun z => by omega⟩
    · rw [Int.neg_gcd, Int.gcd_neg]; exact hcop
    · rw [hp, hq]; grind
  · have : 0 ≤ q := by
      rw [hq] at h0
      exact Int.le_of_not_gt fun z => h0 (Int.mul_neg_of_pos_of_neg hG0 z)
    refine ⟨p, q, by omega, hcop, ?_, pn, qn, fun z => by omega, fun _ => ⟨f1, f2⟩⟩
    rw [hp, hq]; grind
theorem f_fraction {a b : Int} [Nz b] [Le 8000 b] : F_fraction [(.z, .int a), (.z, .int b)] st = .ok .z false (DR ((a : Rat) / (b : Rat))) st := by
  have hb : b ≠ 0 := Nz.h
  obtain ⟨n, d, hd, hc, e, _, _, k1, k2⟩ := fr_parts (a := a) hb
  obtain ⟨r1, r2⟩ := rat_div hd hc hb e
  have eg := f_common_divisor (st := st) a b
  have hg : 0 < Int.gcd a b := Int.gcd_pos_of_ne_zero_right a hb
  have le : Int.gcd a b ≤ b.natAbs := Nat.le_of_dvd (by omega) (Int.natAbs_dvd_natAbs.mpr (Int.gcd_dvd_right ..) |> fun x => by simpa using x)
  have b8 : Le 8000 b := inferInstance
  have g8 : Le 8000 (Int.gcd a b : Int) := ⟨by have := b8.lt; omega⟩
  have gz : Nz (Int.gcd a b : Int) := ⟨by omega⟩
  have gz' : Nz (-(Int.gcd a b : Int)) := ⟨by omega⟩
  have hDR : DR ((a : Rat) / (b : Rat)) = .con .tup [.int n, .int d] := by unfold DR; rw [r1, r2]
  rw [hDR]
  by_cases h0 : b < 0
  · obtain ⟨f3, f4⟩ := k1 h0
    simp [F_fraction, B_fraction, B_fraction_0, B_fraction_1, B_fraction_2, B_fraction_3, hb, eg, h0, f3, f4]
  · obtain ⟨f3, f4⟩ := k2 (by omega)
    simp [F_fraction, B_fraction, B_fraction_0, B_fraction_1, B_fraction_2, B_fraction_3, hb, eg, h0, f3, f4]
instance (priority := 1020) bdrDivL {n m : Nat} {a b : Int} [h : Bd n a] [k : Bd m b] [l : LeN n m] [l1 : LeN 1 m] : BdR m ((a : Rat) / (b : Rat)) := by
  have w1 : (2 : Nat) ^ n ≤ 2 ^ m := Nat.pow_le_pow_right (by decide) l.h
  by_cases hb : b = 0
  · subst hb
    have e : (a : Rat) / ((0 : Int) : Rat) = 0 := by grind
    rw [e]
    have := l1.h
    refine ⟨?_, ?_⟩
    · show (0 : Int).natAbs < _
      exact Nat.pos_of_ne_zero (by simp)
    · show 1 < _
      exact Nat.lt_of_lt_of_le (show 1 < 2 ^ 1 by decide) (Nat.pow_le_pow_right (by decide) (by omega))
  · obtain ⟨n', d, hd, hc, e, l1, l2, _, _⟩ := fr_parts (a := a) hb
    obtain ⟨r1, r2⟩ := rat_div hd hc hb e
    have h1 := h.lt
    have h2 := k.lt
    exact ⟨by rw [r1]; omega, by omega⟩
instance (priority := 1010) bdrDivR {n m : Nat} {a b : Int} [h : Bd n a] [k : Bd m b] [l : LeN m n] [l1 : LeN 1 n] : BdR n ((a : Rat) / (b : Rat)) :=
  let h' : Bd n b := ⟨Nat.lt_of_lt_of_le k.lt (Nat.pow_le_pow_right (by decide) l.h)⟩
  @bdrDivL n n a b h h' leNr l1
instance bdrDiv {n m : Nat} {a b : Int} [h : Bd n a] [k : Bd m b] : BdR (n + m + 1) ((a : Rat) / (b : Rat)) :=
  let h1 : Bd (n + m + 1) a := ⟨Nat.lt_of_lt_of_le h.lt (Nat.pow_le_pow_right (by decide) (by omega))⟩
  let h2 : Bd (n + m + 1) b := ⟨Nat.lt_of_lt_of_le k.lt (Nat.pow_le_pow_right (by decide) (by omega))⟩
  @bdrDivL _ _ a b h1 h2 leNr ⟨by omega⟩
def ordR (p q : Rat) : Int := if q < p then 1 else if p < q then -1 else 0
theorem ordR_pos {p q : Rat} : 0 < ordR p q ↔ q < p := by
  unfold ordR
  split
  · simp; assumption
  · split <;> simp <;> grind
theorem ordR_neg {p q : Rat} : ordR p q < 0 ↔ p < q := by
  unfold ordR
  split
  · simp; grind
  · split <;> simp <;> grind
def sg (r : Int) : Int := (if 0 < r then 1 else 0) - (if r < 0 then 1 else 0)
theorem sg_ord {p q : Rat} : sg (p.num * q.den - q.num * p.den) = ordR p q := by
  have h1 := Rat.lt_iff q p
  have h2 := Rat.lt_iff p q
  unfold sg ordR
  by_cases c1 : q < p
  · have := h1.mp c1
    rw [if_pos c1, if_pos (by omega), if_neg (by omega)]; rfl
  · rw [if_neg c1]
    have t1 : ¬ q.num * p.den < p.num * q.den := fun z => c1 (h1.mpr z)
    by_cases c2 : p < q
    · have := h2.mp c2
      rw [if_pos c2, if_neg (by omega), if_pos (by omega)]; rfl
    · have t2 : ¬ p.num * q.den < q.num * p.den := fun z => c2 (h2.mpr z)
      rw [if_neg c2, if_neg (by omega), if_neg (by omega)]; rfl
theorem f_order {p q : Rat} [LeR 100000 p] [LeR 100000 q] : F_order [(.z, DR p), (.z, DR q)] st = .ok .z false (.int (ordR p q)) st := by
  have e := sg_ord (p := p) (q := q)
  rw [← e]
  simp [F_order, B_order, B_order_0, B_order_1, sg, DR]
def DO : Option (Rat × Rat) → D
  | none => .non
  | some (l, h) => .con .tup [DR l, DR h]
theorem dr0 : (P2 0 1) = DR 0 := rfl
theorem dr1 : (P2 1 1) = DR 1 := rfl
theorem f_cut_down {l h lo hi : Rat} [LeR 40000 l] [LeR 40000 h] [LeR 40000 lo] [LeR 40000 hi] : F_cut_down [(.z, .con .tup [DR l, DR h]), (.z, DR lo), (.z, DR hi)] st = .ok .z false (DO (Geo.cutDown (some (l, h)) lo hi)) st := by
  have e1 := f_order (st := st) (p := lo) (q := l)
  have e2 := f_order (st := st) (p := hi) (q := h)
  have e3 := f_order (st := st) (p := if l < lo then lo else l) (q := if hi < h then hi else h)
  have q1 := ordR_pos (p := lo) (q := l)
  have q2 := ordR_neg (p := hi) (q := h)
  have q3 := ordR_pos (p := if l < lo then lo else l) (q := if hi < h then hi else h)
  have E : DO (Geo.cutDown (some (l, h)) lo hi) = if (if hi < h then hi else h) < (if l < lo then lo else l) then .non else .con .tup [DR (if l < lo then lo else l), DR (if hi < h then hi else h)] := by
    show DO (if (if hi < h then hi else h) < (if l < lo then lo else l) then none else some ((if l < lo then lo else l), (if hi < h then hi else h))) = _
    by_cases c : (if hi < h then hi else h) < (if l < lo then lo else l)
    · rw [if_pos c, if_pos c]; rfl
    · rw [if_neg c, if_neg c]; rfl
  rw [E]
  by_cases c1 : l < lo <;> by_cases c2 : hi < h
  · rw [if_pos c1, if_pos c2] at *
    by_cases c3 : hi < lo <;> simp [F_cut_down, B_cut_down, B_cut_down_0, B_cut_down_1, B_cut_down_2, B_cut_down_3, e1, e2, e3, q1, q2, q3, c1, c2, c3]
  · rw [if_pos c1, if_neg c2] at *
    by_cases c3 : h < lo <;> simp [F_cut_down, B_cut_down, B_cut_down_0, B_cut_down_1, B_cut_down_2, B_cut_down_3, e1, e2, e3, q1, q2, q3, c1, c2, c3]
  · rw [if_neg c1, if_pos c2] at *
    by_cases c3 : hi < l <;> simp [F_cut_down, B_cut_down, B_cut_down_0, B_cut_down_1, B_cut_down_2, B_cut_down_3, e1, e2, e3, q1, q2, q3, c1, c2, c3]
  · rw [if_neg c1, if_neg c2] at *
    by_cases c3 : h < l <;> simp [F_cut_down, B_cut_down, B_cut_down_0, B_cut_down_1, B_cut_down_2, B_cut_down_3, e1, e2, e3, q1, q2, q3, c1, c2, c3]
theorem f_cut_downO {o : Option (Rat × Rat)} {lo hi : Rat} (k : ∀ l h, o = some (l, h) → LeR 40000 l ∧ LeR 40000 h) [LeR 40000 lo] [LeR 40000 hi] : F_cut_down [(.z, DO o), (.z, DR lo), (.z, DR hi)] st = .ok .z false (DO (Geo.cutDown o lo hi)) st := by
  cases o with
  | none => simp [F_cut_down, B_cut_down, B_cut_down_0, DO, Geo.cutDown]
  | some lh =>
    obtain ⟨l, h⟩ := lh
    obtain ⟨k1, k2⟩ := k l h rfl
    exact f_cut_down
end
end Hx

set_option Elab.async false
set_option linter.all false
set_option maxRecDepth 100000
set_option autoImplicit false
/-! P3: pieces. -/
namespace Hx
open PySem PySem.Spec L2
/-- the cross product of ints -/
def crs (ax ay bx bY cx cy : Int) : Int := (bx - ax) * (cy - ay) - (bY - ay) * (cx - ax)
def wthn (l n h : Int) : Bool := decide ((if h < l then h else l) ≤ n) && decide (n ≤ (if h > l then h else l))
def onP (ax ay bx bY cx cy : Int) : Bool := decide (crs ax ay bx bY cx cy = 0) && (wthn ax cx bx && wthn ay cy bY)
def cutB (ax ay bx bY cx cy dx dy : Int) : Bool :=
  (decide (crs ax ay bx bY cx cy * crs ax ay bx bY dx dy < 0) && decide (crs cx cy dx dy ax ay * crs cx cy dx dy bx bY < 0)) ||
    ((onP ax ay bx bY cx cy || onP ax ay bx bY dx dy) || (onP cx cy dx dy ax ay || onP cx cy dx dy bx bY))
section
variable {ax ay bx bY cx cy dx dy x y : Int}
theorem crs_cast : ((crs ax ay bx bY cx cy : Int) : Rat) = Geo.cr ax ay bx bY cx cy := by
  unfold crs Geo.cr
  grind
theorem crs_zero : crs ax ay bx bY cx cy = 0 ↔ Geo.cr (ax : Rat) ay bx bY cx cy = 0 := by
  rw [← crs_cast, ← Rat.intCast_zero, Rat.intCast_inj]
theorem icast_lt {a b : Int} : (a : Rat) < (b : Rat) ↔ a < b := Rat.intCast_lt_intCast
theorem icast_le {a b : Int} : (a : Rat) ≤ (b : Rat) ↔ a ≤ b := by
  rw [← Rat.not_lt, icast_lt]; omega
theorem icast_eq {a b : Int} : (a : Rat) = (b : Rat) ↔ a = b := Rat.intCast_inj
theorem wthn_iff {l n h : Int} : wthn l n h = true ↔ Geo.Bt (l : Rat) n h := by
  unfold wthn Geo.Bt
  rw [Bool.and_eq_true, decide_eq_true_eq, decide_eq_true_eq, icast_le, icast_le, icast_le, icast_le]
  constructor
  · rintro ⟨h1, h2⟩
    split at h1 <;> split at h2 <;> omega
  · intro z
    constructor <;> split <;> omega
theorem onP_iff : onP cx cy dx dy x y = true ↔ Geo.On (cx : Rat) cy dx dy x y := by
  unfold onP
  rw [Geo.on_iff, Bool.and_eq_true, Bool.and_eq_true, decide_eq_true_eq, crs_zero, wthn_iff, wthn_iff]
theorem cutB_iff : cutB ax ay bx bY cx cy dx dy = true ↔ Geo.Meets (ax : Rat) ay bx bY cx cy dx dy := by
  rw [← Geo.cut_iff]
  unfold cutB Geo.Cut
  simp only [Bool.or_eq_true, Bool.and_eq_true, decide_eq_true_eq, onP_iff, ← crs_cast, ← Rat.intCast_mul]
  rw [← Rat.intCast_zero, icast_lt, icast_lt]
  constructor
  · rintro (h | (h | h) | h | h)
    · exact .inl h
    · exact .inr (.inl h)
    · exact .inr (.inr (.inl h))
    · exact .inr (.inr (.inr (.inl h)))
    · exact .inr (.inr (.inr (.inr h)))
  · rintro (h | h | h | h | h)
    · exact .inl h
    · exact .inr (.inl (.inl h))
    · exact .inr (.inl (.inr h))
    · exact .inr (.inr (.inl h))
    · exact .inr (.inr (.inr h))
/-- shares of ab on cd -/
def pshO (cx cy dx dy ax ay bx bY : Int) : Option (Rat × Rat) :=
  if ax = bx ∧ ay = bY then (if onP cx cy dx dy ax ay = true then some (0, 0) else none) else Geo.psh cx cy dx dy ax ay bx bY
theorem pshO_some : (pshO cx cy dx dy ax ay bx bY).isSome = cutB ax ay bx bY cx cy dx dy := by
  rw [Bool.eq_iff_iff, cutB_iff]
  unfold pshO
  by_cases h : ax = bx ∧ ay = bY
  · rw [if_pos h]
    obtain ⟨rfl, rfl⟩ := h
    have e : Geo.Meets (ax : Rat) ay ax ay cx cy dx dy ↔ onP cx cy dx dy ax ay = true := by
      rw [onP_iff]
      constructor
      · rintro ⟨s, hs, o⟩
        have e1 : Geo.pt (ax : Rat) ax s = ax := by unfold Geo.pt; grind
        have e2 : Geo.pt (ay : Rat) ay s = ay := by unfold Geo.pt; grind
        rw [e1, e2] at o; exact o
      · intro o
        exact ⟨0, Geo.sh0, by rw [Geo.pt0, Geo.pt0]; exact o⟩
    rw [e]
    split <;> simp_all
  · rw [if_neg h]
    have hne : (ax : Rat) ≠ bx ∨ (ay : Rat) ≠ bY := by
      rw [ne_eq, ne_eq, icast_eq, icast_eq]
      by_cases q : ax = bx
      · exact .inr fun z => h ⟨q, z⟩
      · exact .inl q
    rw [(Geo.psh_span hne).some_iff]
    rfl
theorem cutB_comm : cutB cx cy dx dy ax ay bx bY = cutB ax ay bx bY cx cy dx dy := by rw [Bool.eq_iff_iff, cutB_iff, cutB_iff, Geo.meets_comm]
theorem cutB_turn : cutB bx bY ax ay cx cy dx dy = cutB ax ay bx bY cx cy dx dy := by rw [Bool.eq_iff_iff, cutB_iff, cutB_iff, Geo.meets_turn]
theorem cutB_turn2 : cutB ax ay bx bY dx dy cx cy = cutB ax ay bx bY cx cy dx dy := by rw [Bool.eq_iff_iff, cutB_iff, cutB_iff, Geo.meets_turn2]
/-! ### the readings -/
section
variable {st : Store}
instance bdCrs {n : Nat} [h : Bd n ((bx - ax) * (cy - ay) - (bY - ay) * (cx - ax))] : Bd n (crs ax ay bx bY cx cy) := h
theorem f_corner_room [Le 10000 ax] [Le 10000 ay] [Le 10000 bx] [Le 10000 bY] [Le 10000 cx] [Le 10000 cy] :
    F_corner_room [(.z, P2 ax ay), (.z, P2 bx bY), (.z, P2 cx cy)] st = .ok .z false (.int (crs ax ay bx bY cx cy)) st := by
  simp [F_corner_room, B_corner_room, B_corner_room_0, crs]
theorem f_l_cross [Le 10000 ax] [Le 10000 ay] [Le 10000 bx] [Le 10000 bY] [Le 10000 cx] [Le 10000 cy] :
    F_l_cross [(.z, P2 ax ay), (.z, P2 bx bY), (.z, P2 cx cy)] st = .ok .z false (.int (crs ax ay bx bY cx cy)) st := by
  simp [F_l_cross, B_l_cross, B_l_cross_0, crs]
theorem f_side [Le 10000 ax] [Le 10000 ay] [Le 10000 bx] [Le 10000 bY] [Le 10000 cx] [Le 10000 cy] :
    F_side [(.z, P2 ax ay), (.z, P2 bx bY), (.z, P2 cx cy)] st = .ok .z false (.int (sg (crs ax ay bx bY cx cy))) st := by
  simp [F_side, B_side, B_side_0, B_side_1, f_corner_room, sg]
theorem f_is_within {l n h : Int} : F_is_within [(.z, .int l), (.z, .int n), (.z, .int h)] st = .ok .z false (.bl (wthn l n h)) st := by
  by_cases hh : (if h < l then h else l) ≤ n
  · simp [F_is_within, B_is_within, B_is_within_0, hh, wthn]
  · simp [F_is_within, B_is_within, B_is_within_0, hh, wthn]
theorem sg0 {r : Int} : sg r = 0 ↔ r = 0 := by
  unfold sg
  constructor
  · intro h
    split at h <;> split at h <;> omega
  · intro h
    subst h
    rfl
theorem f_on_piece [Le 10000 ax] [Le 10000 ay] [Le 10000 bx] [Le 10000 bY] [Le 10000 cx] [Le 10000 cy] :
    F_on_piece [(.z, P2 cx cy), (.z, .con .tup [P2 ax ay, P2 bx bY])] st = .ok .z false (.bl (onP ax ay bx bY cx cy)) st := by
  have e := f_side (st := st) (ax := ax) (ay := ay) (bx := bx) (bY := bY) (cx := cx) (cy := cy)
  by_cases h0 : crs ax ay bx bY cx cy = 0
  · have hs := sg0.mpr h0
    cases hw : wthn ax cx bx <;> simp [F_on_piece, B_on_piece, B_on_piece_1, B_on_piece_2, zs, e, hs, f_is_within, h0, onP, hw, show sg 0 = 0 from rfl]
  · have hs : sg (crs ax ay bx bY cx cy) ≠ 0 := fun z => h0 (sg0.mp z)
    simp [F_on_piece, B_on_piece, B_on_piece_1, B_on_piece_2, zs, e, hs, h0, onP]
theorem f_l_touch [Le 10000 ax] [Le 10000 ay] [Le 10000 bx] [Le 10000 bY] [Le 10000 cx] [Le 10000 cy] :
    F_l_touch [(.z, P2 ax ay), (.z, P2 bx bY), (.z, P2 cx cy)] st = .ok .z false (.bl (onP ax ay bx bY cx cy)) st := by
  have e := f_l_cross (st := st) (ax := ax) (ay := ay) (bx := bx) (bY := bY) (cx := cx) (cy := cy)
  by_cases h0 : crs ax ay bx bY cx cy = 0
  · by_cases q1 : (if bx < ax then bx else ax) ≤ cx
    · by_cases q2 : cx ≤ (if bx > ax then bx else ax)
      · by_cases q3 : (if bY < ay then bY else ay) ≤ cy
        · simp [F_l_touch, B_l_touch, B_l_touch_0, B_l_touch_1, e, h0, onP, wthn, q1, q2, q3]
        · simp [F_l_touch, B_l_touch, B_l_touch_0, B_l_touch_1, e, h0, onP, wthn, q1, q2, q3]
      · simp [F_l_touch, B_l_touch, B_l_touch_0, B_l_touch_1, e, h0, onP, wthn, q1, q2]
    · simp [F_l_touch, B_l_touch, B_l_touch_0, B_l_touch_1, e, h0, onP, wthn, q1]
  · simp [F_l_touch, B_l_touch, B_l_touch_0, B_l_touch_1, e, h0, onP]
theorem f_l_cut [Le 10000 ax] [Le 10000 ay] [Le 10000 bx] [Le 10000 bY] [Le 10000 cx] [Le 10000 cy] [Le 10000 dx] [Le 10000 dy] :
    F_l_cut [(.z, P2 ax ay), (.z, P2 bx bY), (.z, P2 cx cy), (.z, P2 dx dy)] st = .ok .z false (.bl (cutB ax ay bx bY cx cy dx dy)) st := by
  have e1 := f_l_cross (st := st) (ax := ax) (ay := ay) (bx := bx) (bY := bY) (cx := cx) (cy := cy)
  have e2 := f_l_cross (st := st) (ax := ax) (ay := ay) (bx := bx) (bY := bY) (cx := dx) (cy := dy)
  have e3 := f_l_cross (st := st) (ax := cx) (ay := cy) (bx := dx) (bY := dy) (cx := ax) (cy := ay)
  have e4 := f_l_cross (st := st) (ax := cx) (ay := cy) (bx := dx) (bY := dy) (cx := bx) (cy := bY)
  have t1 := f_l_touch (st := st) (ax := ax) (ay := ay) (bx := bx) (bY := bY) (cx := cx) (cy := cy)
  have t2 := f_l_touch (st := st) (ax := ax) (ay := ay) (bx := bx) (bY := bY) (cx := dx) (cy := dy)
  have t3 := f_l_touch (st := st) (ax := cx) (ay := cy) (bx := dx) (bY := dy) (cx := ax) (cy := ay)
  have t4 := f_l_touch (st := st) (ax := cx) (ay := cy) (bx := dx) (bY := dy) (cx := bx) (cy := bY)
  have m1 : mulOk (crs ax ay bx bY cx cy) (crs ax ay bx bY dx dy) = true := by simp
  have m2 : mulOk (crs cx cy dx dy ax ay) (crs cx cy dx dy bx bY) = true := by simp
  unfold cutB
  generalize crs ax ay bx bY cx cy = p1 at *
  generalize crs ax ay bx bY dx dy = p2 at *
  generalize crs cx cy dx dy ax ay = p3 at *
  generalize crs cx cy dx dy bx bY = p4 at *
  cases o1 : onP ax ay bx bY cx cy <;> cases o2 : onP ax ay bx bY dx dy <;> cases o3 : onP cx cy dx dy ax ay <;> rw [o1] at t1 <;> rw [o2] at t2 <;> rw [o3] at t3 <;> by_cases q1 : p1 * p2 < 0 <;> by_cases q2 : p3 * p4 < 0 <;>
    simp [F_l_cut, B_l_cut, B_l_cut_0, B_l_cut_1, B_l_cut_2, B_l_cut_3, B_l_cut_4, e1, e2, e3, e4, t1, t2, t3, t4, m1, m2, q1, q2]
theorem eqD_p2 {a b c d : Int} : eqD (P2 a b) (P2 c d) = some (decide (a = c ∧ b = d)) := by
  simp [eqD, D.py, D.pys, SeqAt.shaped, PyData.canLay0, PyData.canLayAll0, PyData.depth, PyData.depthAll, PyData.eqv, PyData.eqvAll]
  rfl
/-- the share of a place -/
theorem f_share_on [Le 5000 ax] [Le 5000 ay] [Le 5000 bx] [Le 5000 bY] [Le 5000 cx] [Le 5000 cy] (hne : ax ≠ bx ∨ ay ≠ bY) :
    F_share_on [(.z, .con .tup [P2 ax ay, P2 bx bY]), (.z, P2 cx cy)] st = .ok .z false (DR (Geo.shOn (ax : Rat) ay bx bY cx cy)) st := by
  unfold Geo.shOn
  by_cases hx : ax = bx
  · have hy : ay ≠ bY := hne.resolve_left fun z => z hx
    have nz : Nz (bY - ay) := ⟨by omega⟩
    have e := f_fraction (st := st) (a := cy - ay) (b := bY - ay)
    rw [Rat.intCast_sub, Rat.intCast_sub] at e
    subst hx
    simp [F_share_on, B_share_on, B_share_on_1, B_share_on_2, zs, e]
  · have nz : Nz (bx - ax) := ⟨by omega⟩
    have e := f_fraction (st := st) (a := cx - ax) (b := bx - ax)
    rw [Rat.intCast_sub, Rat.intCast_sub] at e
    simp [F_share_on, B_share_on, B_share_on_1, B_share_on_2, zs, hx, e, icast_eq]
instance bdrShOn {n : Nat} [h : BdR n (if ax ≠ bx then ((cx - ax : Int) : Rat) / ((bx - ax : Int) : Rat) else ((cy - ay : Int) : Rat) / ((bY - ay : Int) : Rat))] : BdR n (Geo.shOn (ax : Rat) ay bx bY cx cy) := by
  have e : Geo.shOn (ax : Rat) ay bx bY cx cy = (if ax ≠ bx then ((cx - ax : Int) : Rat) / ((bx - ax : Int) : Rat) else ((cy - ay : Int) : Rat) / ((bY - ay : Int) : Rat)) := by
    unfold Geo.shOn
    by_cases h : ax = bx
    · subst h; simp only [ne_eq, not_true_eq_false, if_false, Rat.intCast_sub]
    · have : (ax : Rat) ≠ bx := fun z => h (icast_eq.mp z)
      simp only [ne_eq, h, this, not_false_eq_true, if_true, Rat.intCast_sub]
  rw [e]; exact h
end
end
end Hx

set_option Elab.async false
set_option linter.all false
set_option maxRecDepth 100000
set_option autoImplicit false
/-! P4: the shares of a piece on another. -/
namespace Hx
open PySem PySem.Spec L2
section
variable {ax ay bx bY cx cy dx dy x y : Int} {st : Store}
/-- bounds of both shares -/
def BdO (n : Nat) (o : Option (Rat × Rat)) : Prop := ∀ l h, o = some (l, h) → LeR n l ∧ LeR n h
theorem cutDown_parts {o : Option (Rat × Rat)} {lo hi l h : Rat} (e : Geo.cutDown o lo hi = some (l, h)) : ∃ l0 h0, o = some (l0, h0) ∧ (l = l0 ∨ l = lo) ∧ (h = h0 ∨ h = hi) := by
  cases o with
  | none => cases e
  | some lh =>
    obtain ⟨l0, h0⟩ := lh
    replace e : (if (if hi < h0 then hi else h0) < (if l0 < lo then lo else l0) then none else some ((if l0 < lo then lo else l0), (if hi < h0 then hi else h0))) = some (l, h) := e
    by_cases c : (if hi < h0 then hi else h0) < (if l0 < lo then lo else l0)
    · rw [if_pos c] at e; cases e
    · rw [if_neg c] at e
      injection e with e
      injection e with e1 e2
      refine ⟨l0, h0, rfl, ?_, ?_⟩
      · rw [← e1]; split <;> simp
      · rw [← e2]; split <;> simp
theorem BdO.cut {n : Nat} {o : Option (Rat × Rat)} {lo hi : Rat} (h : BdO n o) (h1 : LeR n lo) (h2 : LeR n hi) : BdO n (Geo.cutDown o lo hi) := fun l u e => by
  obtain ⟨l0, h0, e0, a, b⟩ := cutDown_parts e
  obtain ⟨k1, k2⟩ := h l0 h0 e0
  exact ⟨by rcases a with a | a <;> subst a <;> assumption, by rcases b with b | b <;> subst b <;> assumption⟩
theorem BdO.full {n : Nat} (h : 1 ≤ n) : BdO n Geo.full := fun l u e => by
  have w : (2 : Nat) ^ 1 ≤ 2 ^ n := Nat.pow_le_pow_right (by decide) h
  injection e with e
  injection e with e1 e2
  subst e1 e2
  exact ⟨⟨by show 0 < _; omega, by show 1 < _; omega⟩, ⟨by show 1 < _; omega, by show 1 < _; omega⟩⟩
theorem BdO.mono {n m : Nat} {o : Option (Rat × Rat)} (h : BdO n o) (k : n ≤ m) : BdO m o := fun l u e => by
  obtain ⟨a, b⟩ := h l u e
  have w : (2 : Nat) ^ n ≤ 2 ^ m := Nat.pow_le_pow_right (by decide) k
  exact ⟨⟨Nat.lt_of_lt_of_le a.num w, Nat.lt_of_lt_of_le a.den w⟩, ⟨Nat.lt_of_lt_of_le b.num w, Nat.lt_of_lt_of_le b.den w⟩⟩
/-- the share of a crossing, top and bottom -/
def crN (a c d u w : Int) : Int := c * w + (d - c) * u - a * w
theorem cross_eq {u v : Rat} {a b c d : Rat} (hw : u - v ≠ 0) : (Geo.pt c d (u / (u - v)) - a) / (b - a) = (c * (u - v) + (d - c) * u - a * (u - v)) / ((b - a) * (u - v)) := by
  unfold Geo.pt
  by_cases h : b - a = 0
  · rw [h]; grind
  · grind
/-- the crossing's share as a quotient of ints -/
def crS (ax ay bx bY cx cy dx dy : Int) : Rat :=
  let u := crs ax ay bx bY cx cy
  let v := crs ax ay bx bY dx dy
  if ax ≠ bx then ((crN ax cx dx u (u - v) : Int) : Rat) / (((bx - ax) * (u - v) : Int) : Rat) else ((crN ay cy dy u (u - v) : Int) : Rat) / (((bY - ay) * (u - v) : Int) : Rat)
theorem crS_eq (hw : crs ax ay bx bY cx cy - crs ax ay bx bY dx dy ≠ 0) : Geo.shOn (ax : Rat) ay bx bY (Geo.pt cx dx (Geo.cr (ax : Rat) ay bx bY cx cy / (Geo.cr (ax : Rat) ay bx bY cx cy - Geo.cr (ax : Rat) ay bx bY dx dy))) (Geo.pt cy dy (Geo.cr (ax : Rat) ay bx bY cx cy / (Geo.cr (ax : Rat) ay bx bY cx cy - Geo.cr (ax : Rat) ay bx bY dx dy))) = crS ax ay bx bY cx cy dx dy := by
  unfold Geo.shOn crS
  dsimp only
  have hw' : Geo.cr (ax : Rat) ay bx bY cx cy - Geo.cr (ax : Rat) ay bx bY dx dy ≠ 0 := by
    rw [← crs_cast, ← crs_cast, ← Rat.intCast_sub, ne_eq, ← Rat.intCast_zero, icast_eq]; exact hw
  rw [cross_eq hw', cross_eq hw', ← crs_cast, ← crs_cast]
  unfold crN
  generalize crs ax ay bx bY cx cy = u
  generalize crs ax ay bx bY dx dy = v
  by_cases h : ax = bx
  · subst h
    simp only [ne_eq, not_true_eq_false, if_false, Rat.intCast_sub, Rat.intCast_mul, Rat.intCast_add]
  · have : (ax : Rat) ≠ bx := fun z => h (icast_eq.mp z)
    simp only [ne_eq, h, this, not_false_eq_true, if_true, Rat.intCast_sub, Rat.intCast_mul, Rat.intCast_add]
/-- the shares over ints -/
theorem psh_int : Geo.psh (cx : Rat) cy dx dy ax ay bx bY = (if crs ax ay bx bY cx cy = 0 ∧ crs ax ay bx bY dx dy = 0 then
      (if Geo.shOn (ax : Rat) ay bx bY dx dy < Geo.shOn (ax : Rat) ay bx bY cx cy then Geo.cutDown Geo.full (Geo.shOn (ax : Rat) ay bx bY dx dy) (Geo.shOn (ax : Rat) ay bx bY cx cy)
        else Geo.cutDown Geo.full (Geo.shOn (ax : Rat) ay bx bY cx cy) (Geo.shOn (ax : Rat) ay bx bY dx dy))
    else if 0 < crs ax ay bx bY cx cy * crs ax ay bx bY dx dy then none else Geo.cutDown Geo.full (crS ax ay bx bY cx cy dx dy) (crS ax ay bx bY cx cy dx dy)) := by
  unfold Geo.psh
  dsimp only
  by_cases h : crs ax ay bx bY cx cy = 0 ∧ crs ax ay bx bY dx dy = 0
  · rw [if_pos h, if_pos ⟨crs_zero.mp h.1, crs_zero.mp h.2⟩]
  · rw [if_neg h, if_neg fun z => h ⟨crs_zero.mpr z.1, crs_zero.mpr z.2⟩]
    have e : (0 < Geo.cr (ax : Rat) ay bx bY cx cy * Geo.cr (ax : Rat) ay bx bY dx dy) ↔ 0 < crs ax ay bx bY cx cy * crs ax ay bx bY dx dy := by
      rw [← crs_cast, ← crs_cast, ← Rat.intCast_mul, ← Rat.intCast_zero, icast_lt]
    by_cases h2 : 0 < crs ax ay bx bY cx cy * crs ax ay bx bY dx dy
    · rw [if_pos h2, if_pos (e.mpr h2)]
    · rw [if_neg h2, if_neg fun z => h2 (e.mp z), crS_eq]
      intro z
      have z : crs ax ay bx bY cx cy = crs ax ay bx bY dx dy := by omega
      rw [z] at h h2
      have hu : crs ax ay bx bY dx dy ≠ 0 := fun y => h ⟨y, y⟩
      rcases Int.lt_or_gt_of_ne hu with q | q
      · exact h2 (Int.mul_pos_of_neg_of_neg q q)
      · exact h2 (Int.mul_pos q q)
theorem Le.sm {n : Nat} {i : Int} (h : Le n i) : Sm n i := h.lt
theorem ler_div {n : Nat} {a b : Int} (h : Sm n a) (k : Sm n b) (l : 1 ≤ n) : LeR n ((a : Rat) / (b : Rat)) :=
  have h1 : Bd n a := ⟨h⟩
  have h2 : Bd n b := ⟨k⟩
  have l1 : LeN 1 n := ⟨l⟩
  have r : BdR n ((a : Rat) / (b : Rat)) := bdrDivL
  ⟨r.num, r.den⟩
theorem crs_sm {n : Nat} [Le n ax] [Le n ay] [Le n bx] [Le n bY] [Le n cx] [Le n cy] : Sm (2 * n + 3) (crs ax ay bx bY cx cy) := by
  have h1 : Le n ax := inferInstance
  have h2 : Le n ay := inferInstance
  have h3 : Le n bx := inferInstance
  have h4 : Le n bY := inferInstance
  have h5 : Le n cx := inferInstance
  have h6 : Le n cy := inferInstance
  exact Sm.mono (Sm.sub (Sm.mul (Sm.sub h3.sm h1.sm) (Sm.sub h6.sm h2.sm)) (Sm.mul (Sm.sub h4.sm h2.sm) (Sm.sub h5.sm h1.sm))) (by omega)
theorem crS_le {n : Nat} [h1 : Le n ax] [h2 : Le n ay] [h3 : Le n bx] [h4 : Le n bY] [h5 : Le n cx] [h6 : Le n cy] [h7 : Le n dx] [h8 : Le n dy] : LeR (3 * n + 6) (crS ax ay bx bY cx cy dx dy) := by
  have u := crs_sm (n := n) (ax := ax) (ay := ay) (bx := bx) (bY := bY) (cx := cx) (cy := cy)
  have v := crs_sm (n := n) (ax := ax) (ay := ay) (bx := bx) (bY := bY) (cx := dx) (cy := dy)
  unfold crS crN
  dsimp only
  generalize crs ax ay bx bY cx cy = p at *
  generalize crs ax ay bx bY dx dy = q at *
  have w := Sm.sub u v
  split
  · exact ler_div (Sm.mono (Sm.sub (Sm.add (Sm.mul h5.sm w) (Sm.mul (Sm.sub h7.sm h5.sm) u)) (Sm.mul h1.sm w)) (by omega)) (Sm.mono (Sm.mul (Sm.sub h3.sm h1.sm) w) (by omega)) (by omega)
  · exact ler_div (Sm.mono (Sm.sub (Sm.add (Sm.mul h6.sm w) (Sm.mul (Sm.sub h8.sm h6.sm) u)) (Sm.mul h2.sm w)) (by omega)) (Sm.mono (Sm.mul (Sm.sub h4.sm h2.sm) w) (by omega)) (by omega)
theorem shOn_le {n : Nat} [h1 : Le n ax] [h2 : Le n ay] [h3 : Le n bx] [h4 : Le n bY] [h5 : Le n cx] [h6 : Le n cy] : LeR (n + 1) (Geo.shOn (ax : Rat) ay bx bY cx cy) := by
  unfold Geo.shOn
  rw [← Rat.intCast_sub, ← Rat.intCast_sub, ← Rat.intCast_sub, ← Rat.intCast_sub]
  split
  · exact ler_div (Sm.mono (Sm.sub h5.sm h1.sm) (by omega)) (Sm.mono (Sm.sub h3.sm h1.sm) (by omega)) (by omega)
  · exact ler_div (Sm.mono (Sm.sub h6.sm h2.sm) (by omega)) (Sm.mono (Sm.sub h4.sm h2.sm) (by omega)) (by omega)
theorem LeR.mono {n m : Nat} {q : Rat} (h : LeR n q) (k : n ≤ m) : LeR m q := ⟨Nat.lt_of_lt_of_le h.num (Nat.pow_le_pow_right (by decide) k), Nat.lt_of_lt_of_le h.den (Nat.pow_le_pow_right (by decide) k)⟩
theorem pshO_le (n : Nat) [Le n ax] [Le n ay] [Le n bx] [Le n bY] [Le n cx] [Le n cy] [Le n dx] [Le n dy] : BdO (3 * n + 6) (pshO cx cy dx dy ax ay bx bY) := by
  unfold pshO
  by_cases h : ax = bx ∧ ay = bY
  · rw [if_pos h]
    have w : (2 : Nat) ^ 1 ≤ 2 ^ (3 * n + 6) := Nat.pow_le_pow_right (by decide) (by omega)
    split
    · intro l u e
      injection e with e
      injection e with e1 e2
      subst e1 e2
      exact ⟨⟨by show 0 < _; omega, by show 1 < _; omega⟩, ⟨by show 0 < _; omega, by show 1 < _; omega⟩⟩
    · intro l u e; cases e
  · rw [if_neg h, psh_int]
    have f : BdO (3 * n + 6) Geo.full := BdO.full (by omega)
    have k1 := (shOn_le (n := n) (ax := ax) (ay := ay) (bx := bx) (bY := bY) (cx := cx) (cy := cy)).mono (m := 3 * n + 6) (by omega)
    have k2 := (shOn_le (n := n) (ax := ax) (ay := ay) (bx := bx) (bY := bY) (cx := dx) (cy := dy)).mono (m := 3 * n + 6) (by omega)
    split
    · split
      · exact f.cut k2 k1
      · exact f.cut k1 k2
    · split
      · intro l u e; cases e
      · exact f.cut crS_le crS_le
/-! ### the readings -/
theorem f_along_shares [Le 1000 ax] [Le 1000 ay] [Le 1000 bx] [Le 1000 bY] [Le 1000 cx] [Le 1000 cy] [Le 1000 dx] [Le 1000 dy] (hne : ax ≠ bx ∨ ay ≠ bY) :
    F_along_shares [(.z, .con .tup [P2 cx cy, P2 dx dy]), (.z, .con .tup [P2 ax ay, P2 bx bY])] st = .ok .z false (DO (if Geo.shOn (ax : Rat) ay bx bY dx dy < Geo.shOn (ax : Rat) ay bx bY cx cy then Geo.cutDown Geo.full (Geo.shOn (ax : Rat) ay bx bY dx dy) (Geo.shOn (ax : Rat) ay bx bY cx cy)
        else Geo.cutDown Geo.full (Geo.shOn (ax : Rat) ay bx bY cx cy) (Geo.shOn (ax : Rat) ay bx bY dx dy))) st := by
  have e1 := f_share_on (st := st) (ax := ax) (ay := ay) (bx := bx) (bY := bY) (cx := cx) (cy := cy) hne
  have e2 := f_share_on (st := st) (ax := ax) (ay := ay) (bx := bx) (bY := bY) (cx := dx) (cy := dy) hne
  have b1 : LeR 30000 (Geo.shOn (ax : Rat) ay bx bY cx cy) := inferInstance
  have b2 : LeR 30000 (Geo.shOn (ax : Rat) ay bx bY dx dy) := inferInstance
  generalize Geo.shOn (ax : Rat) ay bx bY cx cy = p at *
  generalize Geo.shOn (ax : Rat) ay bx bY dx dy = q at *
  have o := f_order (st := st) (p := p) (q := q)
  have op := ordR_pos (p := p) (q := q)
  have c1 := f_cut_down (st := st) (l := 0) (h := 1) (lo := p) (hi := q)
  have c2 := f_cut_down (st := st) (l := 0) (h := 1) (lo := q) (hi := p)
  rw [← dr0, ← dr1] at c1 c2
  by_cases h : q < p
  · rw [if_pos h]
    have g := op.mpr h
    simp [F_along_shares, B_along_shares, B_along_shares_0, B_along_shares_1, B_along_shares_1t_0, B_along_shares_2, e1, e2, o, g, c2, Geo.full]
  · rw [if_neg h]
    have g : ¬ 0 < ordR p q := fun z => h (op.mp z)
    simp [F_along_shares, B_along_shares, B_along_shares_0, B_along_shares_1, B_along_shares_2, e1, e2, o, g, c1, Geo.full]
theorem f_piece_shares [Le 1000 ax] [Le 1000 ay] [Le 1000 bx] [Le 1000 bY] [Le 1000 cx] [Le 1000 cy] [Le 1000 dx] [Le 1000 dy] :
    F_piece_shares [(.z, .con .tup [P2 cx cy, P2 dx dy]), (.z, .con .tup [P2 ax ay, P2 bx bY])] st = .ok .z false (DO (pshO cx cy dx dy ax ay bx bY)) st := by
  have q := eqD_p2 (a := ax) (b := ay) (c := bx) (d := bY)
  unfold pshO
  by_cases hab : ax = bx ∧ ay = bY
  · rw [if_pos hab]
    obtain ⟨rfl, rfl⟩ := hab
    have e := f_on_piece (st := st) (ax := cx) (ay := cy) (bx := dx) (bY := dy) (cx := ax) (cy := ay)
    cases ho : onP cx cy dx dy ax ay <;> simp [F_piece_shares, B_piece_shares, B_piece_shares_1, B_piece_shares_1t_0, zs, q, e, ho, DO, dr0]
  · rw [if_neg hab, psh_int]
    simp only [decide_eq_false hab] at q
    have hne : ax ≠ bx ∨ ay ≠ bY := by
      by_cases z : ax = bx
      · exact .inr fun y => hab ⟨z, y⟩
      · exact .inl z
    have e0 := f_corner_room (st := st) (ax := ax) (ay := ay) (bx := bx) (bY := bY) (cx := cx) (cy := cy)
    have e1 := f_corner_room (st := st) (ax := ax) (ay := ay) (bx := bx) (bY := bY) (cx := dx) (cy := dy)
    by_cases hz : crs ax ay bx bY cx cy = 0 ∧ crs ax ay bx bY dx dy = 0
    · rw [if_pos hz]
      have r := f_along_shares (st := st) (ax := ax) (ay := ay) (bx := bx) (bY := bY) (cx := cx) (cy := cy) (dx := dx) (dy := dy) hne
      rw [hz.1] at e0
      rw [hz.2] at e1
      have q' := eqD_p2 (a := 0) (b := 0) (c := 0) (d := 0)
      simp [F_piece_shares, B_piece_shares, B_piece_shares_1, B_piece_shares_2, B_piece_shares_3, B_piece_shares_3t_0, zs, q, q', e0, e1, r]
    · rw [if_neg hz]
      have b0 : Le 4010 (crs ax ay bx bY cx cy) := inferInstance
      have b1 : Le 4010 (crs ax ay bx bY dx dy) := inferInstance
      by_cases hp : 0 < crs ax ay bx bY cx cy * crs ax ay bx bY dx dy
      · rw [if_pos hp]
        have q' := eqD_p2 (a := crs ax ay bx bY cx cy) (b := crs ax ay bx bY dx dy) (c := 0) (d := 0)
        simp only [decide_eq_false hz] at q'
        generalize crs ax ay bx bY cx cy = u at *
        generalize crs ax ay bx bY dx dy = v at *
        simp [F_piece_shares, B_piece_shares, B_piece_shares_1, B_piece_shares_2, B_piece_shares_3, B_piece_shares_4, zs, q, q', e0, e1, hp, DO]
      · rw [if_neg hp]
        have q' := eqD_p2 (a := crs ax ay bx bY cx cy) (b := crs ax ay bx bY dx dy) (c := 0) (d := 0)
        simp only [decide_eq_false hz] at q'
        have hS : crS ax ay bx bY cx cy dx dy = if ax ≠ bx then ((crN ax cx dx (crs ax ay bx bY cx cy) (crs ax ay bx bY cx cy - crs ax ay bx bY dx dy) : Int) : Rat) / (((bx - ax) * (crs ax ay bx bY cx cy - crs ax ay bx bY dx dy) : Int) : Rat) else ((crN ay cy dy (crs ax ay bx bY cx cy) (crs ax ay bx bY cx cy - crs ax ay bx bY dx dy) : Int) : Rat) / (((bY - ay) * (crs ax ay bx bY cx cy - crs ax ay bx bY dx dy) : Int) : Rat) := rfl
        have w0 : crs ax ay bx bY cx cy - crs ax ay bx bY dx dy ≠ 0 := by
          intro z
          have z : crs ax ay bx bY cx cy = crs ax ay bx bY dx dy := by omega
          rw [z] at hz hp
          have hu : crs ax ay bx bY dx dy ≠ 0 := fun y => hz ⟨y, y⟩
          rcases Int.lt_or_gt_of_ne hu with q | q
          · exact hp (Int.mul_pos_of_neg_of_neg q q)
          · exact hp (Int.mul_pos q q)
        rw [hS]
        unfold crN
        generalize crs ax ay bx bY cx cy = u at *
        generalize crs ax ay bx bY dx dy = v at *
        by_cases hx : ax = bx
        · have hy : ay ≠ bY := hne.resolve_left fun z => z hx
          have nz : Nz ((bY - ay) * (u - v)) := ⟨Int.mul_ne_zero (by omega) w0⟩
          have e := f_fraction (st := st) (a := cy * (u - v) + (dy - cy) * u - ay * (u - v)) (b := (bY - ay) * (u - v))
          have b2 : LeR 40000 (((cy * (u - v) + (dy - cy) * u - ay * (u - v) : Int) : Rat) / (((bY - ay) * (u - v) : Int) : Rat)) := inferInstance
          generalize ((cy * (u - v) + (dy - cy) * u - ay * (u - v) : Int) : Rat) / (((bY - ay) * (u - v) : Int) : Rat) = s at *
          have c := f_cut_down (st := st) (l := 0) (h := 1) (lo := s) (hi := s)
          rw [← dr0, ← dr1] at c
          subst hx
          simp [F_piece_shares, B_piece_shares, B_piece_shares_1, B_piece_shares_2, B_piece_shares_3, B_piece_shares_4, B_piece_shares_5, B_piece_shares_6, B_piece_shares_7, B_piece_shares_8, B_piece_shares_9, dLc, nonesAt, lcGo, dYes, zs, q, q', e0, e1, hp, e, c, Geo.full]
        · have nz : Nz ((bx - ax) * (u - v)) := ⟨Int.mul_ne_zero (by omega) w0⟩
          have e := f_fraction (st := st) (a := cx * (u - v) + (dx - cx) * u - ax * (u - v)) (b := (bx - ax) * (u - v))
          rw [if_pos hx]
          have b2 : LeR 40000 (((cx * (u - v) + (dx - cx) * u - ax * (u - v) : Int) : Rat) / (((bx - ax) * (u - v) : Int) : Rat)) := inferInstance
          generalize ((cx * (u - v) + (dx - cx) * u - ax * (u - v) : Int) : Rat) / (((bx - ax) * (u - v) : Int) : Rat) = s at *
          have c := f_cut_down (st := st) (l := 0) (h := 1) (lo := s) (hi := s)
          rw [← dr0, ← dr1] at c
          simp [F_piece_shares, B_piece_shares, B_piece_shares_1, B_piece_shares_2, B_piece_shares_3, B_piece_shares_4, B_piece_shares_5, B_piece_shares_6, B_piece_shares_7, B_piece_shares_8, B_piece_shares_9, dLc, nonesAt, lcGo, dYes, zs, q, q', e0, e1, hp, hx, e, c, Geo.full]
theorem f_pieces_meet [Le 1000 ax] [Le 1000 ay] [Le 1000 bx] [Le 1000 bY] [Le 1000 cx] [Le 1000 cy] [Le 1000 dx] [Le 1000 dy] :
    F_pieces_meet [(.z, .con .tup [P2 ax ay, P2 bx bY]), (.z, .con .tup [P2 cx cy, P2 dx dy])] st = .ok .z false (.bl (cutB ax ay bx bY cx cy dx dy)) st := by
  have e := f_piece_shares (st := st) (ax := ax) (ay := ay) (bx := bx) (bY := bY) (cx := cx) (cy := cy) (dx := dx) (dy := dy)
  have k := pshO_some (ax := ax) (ay := ay) (bx := bx) (bY := bY) (cx := cx) (cy := cy) (dx := dx) (dy := dy)
  cases h : pshO cx cy dx dy ax ay bx bY with
  | none =>
    rw [h] at e k
    simp [F_pieces_meet, B_pieces_meet, B_pieces_meet_0, e, DO]
    simpa using k
  | some lh =>
    obtain ⟨l, u⟩ := lh
    rw [h] at e k
    simp [F_pieces_meet, B_pieces_meet, B_pieces_meet_0, e, DO]
    simpa using k
end
end Hx

set_option Elab.async false
set_option linter.all false
set_option maxRecDepth 100000
set_option autoImplicit false
/-! P5: drawn places; loops by an invariant. -/
namespace Hx
open PySem PySem.Spec L2
section
theorem forGo_inv {p : Pat} {body : DenS} {ks : List Nat} (I : Nat → Hx.Env → Store → Prop) : ∀ (items : List D) (n : Nat) (env : Hx.Env) (st : Store),
    (∀ i env st d, n ≤ i → i < n + items.length → d ∈ items → I i env st → ∃ env1 env2 st2, bindP p .z d env = some env1 ∧ body env1 st = .nx env2 st2 ∧ I (i + 1) (killE ks env2) st2) → I n env st →
    ∃ env' st', forGo p body ks items env st = .nx env' st' ∧ I (n + items.length) env' st'
  | [], n, env, st, _, h => ⟨env, st, rfl, h⟩
  | d :: ds, n, env, st, hs, h => by
    obtain ⟨e1, e2, s2, h1, h2, h3⟩ := hs n env st d (Nat.le_refl n) (by simp) (by simp) h
    obtain ⟨e', s', h4, h5⟩ := forGo_inv I ds (n + 1) (killE ks e2) s2 (fun i env st d a b c k => hs i env st d (by omega) (by simp; omega) (by simp [c]) k) h3
    refine ⟨e', s', ?_, by rw [List.length_cons, show n + (ds.length + 1) = n + 1 + ds.length by omega]; exact h5⟩
    rw [← h4]
    simp [forGo, h1, h2]
/-- goes on so that P -/
def Nx (P : Hx.Env → Store → Prop) : ResS → Prop
  | .nx e s => P e s
  | _ => False
@[simp] theorem nx_nx {P : Hx.Env → Store → Prop} {e : Hx.Env} {s : Store} : Nx P (.nx e s) = P e s := rfl
theorem Nx.out {P : Hx.Env → Store → Prop} {r : ResS} (h : Nx P r) : ∃ e s, r = .nx e s ∧ P e s := by
  cases r with
  | nx e s => exact ⟨e, s, rfl, h⟩
  | _ => exact h.elim
theorem Nx.imp {P Q : Hx.Env → Store → Prop} {r : ResS} (h : Nx P r) (k : ∀ e s, P e s → Q e s) : Nx Q r := by
  cases r with
  | nx e s => exact k _ _ h
  | _ => exact h.elim
/-- a loop whose body keeps an invariant -/
theorem forGo_nx {p : Pat} {body : DenS} {ks : List Nat} (I : Nat → Hx.Env → Store → Prop) (items : List D) (env : Hx.Env) (st : Store)
    (hs : ∀ i env st d, i < items.length → d ∈ items → I i env st → ∃ env1, bindP p .z d env = some env1 ∧ Nx (fun env2 st2 => I (i + 1) (killE ks env2) st2) (body env1 st)) (h : I 0 env st) :
    ∃ env' st', forGo p body ks items env st = .nx env' st' ∧ I items.length env' st' := by
  obtain ⟨e, s, h1, h2⟩ := forGo_inv I items 0 env st (fun i env st d _ b c k => by
    obtain ⟨e1, h1, h2⟩ := hs i env st d (by omega) c k
    obtain ⟨e2, s2, h3, h4⟩ := h2.out
    exact ⟨e1, e2, s2, h1, h3, h4⟩) h
  exact ⟨e, s, h1, by rw [← Nat.zero_add items.length]; exact h2⟩
theorem killE_nil {env : Hx.Env} : killE [] env = env := rfl
variable {st : Store} {c : Nat} {k : Nat}
theorem rg4 : rngItems 0 4 = [.int 0, .int 1, .int 2, .int 3] := rfl
theorem rg3 : rngItems 0 3 = [.int 0, .int 1, .int 2] := rfl
theorem rg2 : rngItems 0 2 = [.int 0, .int 1] := rfl
/-- the draw, with its bound -/
theorem pull {n : Nat} (many : Int) (B : Bag k st c) (hk : k < 2 ^ 100) (hm : 0 < many) (hn : many.natAbs < 2 ^ n) (hn2 : n ≤ 1000) :
    ∃ g st', F_l_pull [(.z, .ref c), (.z, .int many)] st = .ok .z false (.int g) st' ∧ 0 ≤ g ∧ g < many ∧ Le n g ∧ Bag (k + 1) st' c ∧ Fro1 c st st' := by
  obtain ⟨g, st', e, g0, g1, B', f⟩ := f_l_pull (many := many) B hk hm (Sm.mono (n := n) hn hn2)
  exact ⟨g, st', e, g0, g1, ⟨by omega⟩, B', f⟩
/-- a grid -/
structure Grid (w a b : Int) : Prop where
  w0 : 0 ≤ w
  w1 : w ≤ 61
  a0 : -1000000 ≤ a - w
  a1 : a + w ≤ 1000000
  b0 : -1000000 ≤ b - w
  b1 : b + w ≤ 1000000
theorem f_l_grid (B : Bag k st c) (hk : k + 3 < 2 ^ 100) : ∃ w a b st', F_l_grid [(.z, .ref c)] st = .ok .z false (.con .tup [.int w, .int a, .int b]) st' ∧ Grid w a b ∧ Bag (k + 3) st' c ∧ Fro1 c st st' := by
  obtain ⟨g, s1, e1, g1, g2, _, B1, f1⟩ := pull (n := 8) 6 B (by omega) (by decide) (by decide) (by decide)
  by_cases h4 : g < 4
  · refine ⟨4, 0, 0, s1, ?_, ⟨by omega, by omega, by omega, by omega, by omega, by omega⟩, B1.mono (by omega), f1⟩
    simp [F_l_grid, B_l_grid, B_l_grid_0, B_l_grid_1, B_l_grid_1t_0, e1, h4]
  by_cases h5 : g = 4
  · obtain ⟨g', s2, e2, g3, g4, _, B2, f2⟩ := pull (n := 8) 60 B1 (by omega) (by decide) (by decide) (by decide)
    refine ⟨1 + g', 0, 0, s2, ?_, ⟨by omega, by omega, by omega, by omega, by omega, by omega⟩, B2.mono (by omega), f1.trans f2⟩
    simp [F_l_grid, B_l_grid, B_l_grid_0, B_l_grid_1, B_l_grid_2, B_l_grid_2t_0, e1, h5, e2]
  · obtain ⟨g', s2, e2, g3, g4, _, B2, f2⟩ := pull (n := 8) 2 B1 (by omega) (by decide) (by decide) (by decide)
    obtain ⟨g'', s3, e3, g5, g6, _, B3, f3⟩ := pull (n := 8) 3 B2 (by omega) (by decide) (by decide) (by decide)
    have pow6 : powOk 10 6 = true := by decide
    refine ⟨5, 999995 * (2 * g' - 1), 999995 * (g'' - 1), s3, ?_, ⟨by omega, by omega, by omega, by omega, by omega, by omega⟩, B3.mono (by omega), (f1.trans f2).trans f3⟩
    simp [F_l_grid, B_l_grid, B_l_grid_0, B_l_grid_1, B_l_grid_2, B_l_grid_3, e1, h4, h5, e2, e3, pow6]
/-- a drawn place -/
structure Spot (x y : Int) : Prop where
  x0 : -1000000 ≤ x
  x1 : x ≤ 1000000
  y0 : -1000000 ≤ y
  y1 : y ≤ 1000000
theorem Spot.lx {x y : Int} (s : Spot x y) : Le 21 x := ⟨by have := s.x0; have := s.x1; omega⟩
theorem Spot.ly {x y : Int} (s : Spot x y) : Le 21 y := ⟨by have := s.y0; have := s.y1; omega⟩
theorem f_l_spot {w a b : Int} (B : Bag k st c) (hk : k + 3 < 2 ^ 100) (G : Grid w a b) :
    ∃ x y st', F_l_spot [(.z, .ref c), (.z, .con .tup [.int w, .int a, .int b])] st = .ok .z false (P2 x y) st' ∧ Spot x y ∧ Bag (k + 2) st' c ∧ Fro1 c st st' := by
  obtain ⟨h0, h1, h2, h3, h4, h5⟩ := G
  have hw : Le 8 w := ⟨by omega⟩
  obtain ⟨g, s1, e1, g1, g2, _, B1, f1⟩ := pull (n := 8) (2 * w + 1) B (by omega) (by omega) (by omega) (by decide)
  obtain ⟨g', s2, e2, g3, g4, _, B2, f2⟩ := pull (n := 8) (2 * w + 1) B1 (by omega) (by omega) (by omega) (by decide)
  refine ⟨a + g - w, b + g' - w, s2, ?_, ⟨by omega, by omega, by omega, by omega⟩, B2, f1.trans f2⟩
  simp [F_l_spot, B_l_spot, B_l_spot_1, B_l_spot_2, zs, e1, e2]
theorem seq_nx {a b : DenS} {env e1 : Hx.Env} {st s1 : Store} (h : a env st = .nx e1 s1) : dSeq a b env st = b e1 s1 := by
  unfold dSeq
  rw [h]
/-- the law's bag, made -/
theorem law_bag (ns : List Int) (hl : ns.length ≤ 63) : ∃ d, F_l_bag [(.z, .con .frl (ns.map D.int))] [] = .ok (.c .z) false (.con .lst d) [] ∧ Bag 0 [(.c .z, .con .lst d)] 0 := by
  obtain ⟨s, e, h0, h1⟩ := f_l_bag ns hl (st := [])
  exact ⟨_, e, ns, 0, 0, s, 0, rfl, by omega, by omega, h0, h1, by omega, by omega⟩
end
end Hx

set_option Elab.async false
set_option linter.all false
set_option maxRecDepth 100000
set_option autoImplicit false
/-! P6: blocks. -/
namespace Hx
open PySem PySem.Spec L2
abbrev B4 (l w r h : Int) : D := .con .tup [.int l, .int w, .int r, .int h]
section
variable {ax ay bx bY l w r h : Int} {st : Store}
theorem slab_cast {o : Option (Rat × Rat)} {start step lo hi : Int} : Geo.slab o start step lo hi = (if step = 0 then (if lo ≤ start ∧ start ≤ hi then o else none)
    else if 0 < step then Geo.cutDown o (((lo - start : Int) : Rat) / (step : Rat)) (((hi - start : Int) : Rat) / (step : Rat)) else Geo.cutDown o (((hi - start : Int) : Rat) / (step : Rat)) (((lo - start : Int) : Rat) / (step : Rat))) := by
  unfold Geo.slab
  have e0 : ((step : Rat) = 0) ↔ step = 0 := by rw [← Rat.intCast_zero, icast_eq]
  have e1 : ((0 : Rat) < step) ↔ 0 < step := by rw [← Rat.intCast_zero, icast_lt]
  simp only [e0, e1, icast_le, Rat.intCast_sub]
theorem f_slab {o : Option (Rat × Rat)} (k : BdO 20000 o) {start step lo hi : Int} [Le 7000 start] [Le 7000 step] [Le 7000 lo] [Le 7000 hi] :
    F_slab [(.z, DO o), (.z, .int start), (.z, .int step), (.z, .con .tup [.int lo, .int hi])] st = .ok .z false (DO (Geo.slab o start step lo hi)) st := by
  rw [slab_cast]
  have k' : ∀ l h, o = some (l, h) → LeR 40000 l ∧ LeR 40000 h := fun l h e => ⟨(k l h e).1.mono (by decide), (k l h e).2.mono (by decide)⟩
  by_cases h0 : step = 0
  · subst h0
    by_cases h1 : lo ≤ start
    · by_cases h2 : start ≤ hi
      · simp [F_slab, zs, h1, h2]
      · simp [F_slab, zs, h1, h2, DO]
    · simp [F_slab, zs, h1, DO]
  · have nz : Nz step := ⟨h0⟩
    rw [if_neg h0]
    have e1 := f_fraction (st := st) (a := lo - start) (b := step)
    have e2 := f_fraction (st := st) (a := hi - start) (b := step)
    have b1 : LeR 40000 (((lo - start : Int) : Rat) / (step : Rat)) := inferInstance
    have b2 : LeR 40000 (((hi - start : Int) : Rat) / (step : Rat)) := inferInstance
    generalize ((lo - start : Int) : Rat) / (step : Rat) = p at *
    generalize ((hi - start : Int) : Rat) / (step : Rat) = q at *
    have c1 := f_cut_downO (st := st) (lo := p) (hi := q) k'
    have c2 := f_cut_downO (st := st) (lo := q) (hi := p) k'
    by_cases h1 : 0 < step
    · rw [if_pos h1]
      simp [F_slab, zs, h0, h1, e1, e2, c1]
    · rw [if_neg h1]
      simp [F_slab, zs, h0, h1, e1, e2, c2]
theorem slab_le {n : Nat} {o : Option (Rat × Rat)} (k : BdO (n + 1) o) {start step lo hi : Int} [h1 : Le n start] [h2 : Le (n + 1) step] [h3 : Le n lo] [h4 : Le n hi] : BdO (n + 1) (Geo.slab o start step lo hi) := by
  rw [slab_cast]
  have b1 : LeR (n + 1) (((lo - start : Int) : Rat) / (step : Rat)) := ler_div (Sm.mono (Sm.sub h3.sm h1.sm) (by omega)) h2.sm (by omega)
  have b2 : LeR (n + 1) (((hi - start : Int) : Rat) / (step : Rat)) := ler_div (Sm.mono (Sm.sub h4.sm h1.sm) (by omega)) h2.sm (by omega)
  split
  · split
    · exact k
    · intro l h e; cases e
  · split
    · exact k.cut b1 b2
    · exact k.cut b2 b1
/-- the shares of a piece in a block -/
def bshO (l w r h ax ay bx bY : Int) : Option (Rat × Rat) := if (Geo.bsh (l : Rat) w r h ax ay bx bY).isSome = true ∧ ax = bx ∧ ay = bY then some (0, 0) else Geo.bsh l w r h ax ay bx bY
theorem bshO_some : (bshO l w r h ax ay bx bY).isSome = (Geo.bsh (l : Rat) w r h ax ay bx bY).isSome := by
  unfold bshO
  split
  · rename_i h; rw [h.1]; rfl
  · rfl
theorem bsh_int : Geo.bsh (l : Rat) w r h ax ay bx bY = Geo.slab (Geo.slab Geo.full (ax : Rat) ((bx - ax : Int) : Rat) l r) ay ((bY - ay : Int) : Rat) w h := by
  unfold Geo.bsh
  rw [Rat.intCast_sub, Rat.intCast_sub]
theorem bsh_le {n : Nat} [h1 : Le n ax] [h2 : Le n ay] [h3 : Le n bx] [h4 : Le n bY] [h5 : Le n l] [h6 : Le n w] [h7 : Le n r] [h8 : Le n h] : BdO (n + 1) (Geo.bsh (l : Rat) w r h ax ay bx bY) := by
  rw [bsh_int]
  have s1 : Le (n + 1) (bx - ax) := ⟨Sm.mono (Sm.sub h3.sm h1.sm) (by omega)⟩
  have s2 : Le (n + 1) (bY - ay) := ⟨Sm.mono (Sm.sub h4.sm h2.sm) (by omega)⟩
  exact slab_le (slab_le (BdO.full (by omega)))
theorem bshO_le (n : Nat) [h1 : Le n ax] [h2 : Le n ay] [h3 : Le n bx] [h4 : Le n bY] [h5 : Le n l] [h6 : Le n w] [h7 : Le n r] [h8 : Le n h] : BdO (n + 1) (bshO l w r h ax ay bx bY) := by
  unfold bshO
  split
  · have w : (2 : Nat) ^ 1 ≤ 2 ^ (n + 1) := Nat.pow_le_pow_right (by decide) (by omega)
    intro l u e
    injection e with e
    injection e with e1 e2
    subst e1 e2
    exact ⟨⟨by show 0 < _; omega, by show 1 < _; omega⟩, ⟨by show 0 < _; omega, by show 1 < _; omega⟩⟩
  · exact bsh_le
theorem do_full : DO Geo.full = .con .tup [P2 0 1, P2 1 1] := rfl
theorem f_block_shares [Le 6000 ax] [Le 6000 ay] [Le 6000 bx] [Le 6000 bY] [Le 6000 l] [Le 6000 w] [Le 6000 r] [Le 6000 h] :
    F_block_shares [(.z, B4 l w r h), (.z, .con .tup [P2 ax ay, P2 bx bY])] st = .ok .z false (DO (bshO l w r h ax ay bx bY)) st := by
  have b1 : BdO 6001 (Geo.slab Geo.full (ax : Rat) ((bx - ax : Int) : Rat) l r) := slab_le (n := 6000) (BdO.full (by decide))
  have e1 := f_slab (st := st) (BdO.full (n := 20000) (by decide)) (start := ax) (step := bx - ax) (lo := l) (hi := r)
  have e2 := f_slab (st := st) (b1.mono (m := 20000) (by decide)) (start := ay) (step := bY - ay) (lo := w) (hi := h)
  rw [← bsh_int] at e2
  have q := eqD_p2 (a := ax) (b := ay) (c := bx) (d := bY)
  rw [do_full] at e1
  unfold bshO
  cases h1 : Geo.slab Geo.full (ax : Rat) ((bx - ax : Int) : Rat) l r with
  | none =>
    have hb : Geo.bsh (l : Rat) w r h ax ay bx bY = none := by rw [bsh_int, h1, slab_cast]; split <;> (try split) <;> (try rfl)
    rw [h1] at e1
    simp [F_block_shares, zs, e1, DO, hb]
  | some lh =>
    obtain ⟨l0, h0⟩ := lh
    rw [h1] at e1 e2
    cases hb : Geo.bsh (l : Rat) w r h ax ay bx bY with
    | none =>
      rw [hb] at e2
      simp only [DO] at e1 e2
      simp [F_block_shares, zs, e1, e2, DO]
    | some lh' =>
      obtain ⟨l1, h1'⟩ := lh'
      rw [hb] at e2
      simp only [DO] at e1 e2
      by_cases hab : ax = bx ∧ ay = bY
      · rw [decide_eq_true hab] at q
        rw [if_pos ⟨rfl, hab⟩]
        simp [F_block_shares, zs, e1, e2, DO, q]
        rfl
      · rw [decide_eq_false hab] at q
        simp [F_block_shares, zs, e1, e2, DO, q, hab]
/-- whether they meet -/
def hitB (l w r h ax ay bx bY : Int) : Bool := (bshO l w r h ax ay bx bY).isSome
theorem hitB_iff : hitB l w r h ax ay bx bY = true ↔ Geo.BMeets (l : Rat) w r h ax ay bx bY := by
  unfold hitB
  rw [bshO_some, Geo.bsh_span.some_iff]
  rfl
theorem f_block_meets [Le 6000 ax] [Le 6000 ay] [Le 6000 bx] [Le 6000 bY] [Le 6000 l] [Le 6000 w] [Le 6000 r] [Le 6000 h] :
    F_block_meets [(.z, B4 l w r h), (.z, .con .tup [P2 ax ay, P2 bx bY])] st = .ok .z false (.bl (hitB l w r h ax ay bx bY)) st := by
  have e := f_block_shares (st := st) (ax := ax) (ay := ay) (bx := bx) (bY := bY) (l := l) (w := w) (r := r) (h := h)
  unfold hitB
  cases hb : bshO l w r h ax ay bx bY with
  | none => rw [hb] at e; simp [F_block_meets, e, DO]
  | some lh =>
    obtain ⟨l1, h1'⟩ := lh
    rw [hb] at e; simp [F_block_meets, e, DO]
theorem hitB_turn : hitB l w r h bx bY ax ay = hitB l w r h ax ay bx bY := by
  have k : ∀ {ax ay bx bY : Int}, hitB l w r h ax ay bx bY = true → hitB l w r h bx bY ax ay = true := fun {ax ay bx bY} z => by
    rw [hitB_iff] at *
    obtain ⟨s, hs, i⟩ := z
    refine ⟨1 - s, ⟨by have := hs.2; grind, by have := hs.1; grind⟩, ?_⟩
    have e1 : Geo.pt (bx : Rat) ax (1 - s) = Geo.pt (ax : Rat) bx s := by unfold Geo.pt; grind
    have e2 : Geo.pt (bY : Rat) ay (1 - s) = Geo.pt (ay : Rat) bY s := by unfold Geo.pt; grind
    rw [e1, e2]; exact i
  rw [Bool.eq_iff_iff]
  exact ⟨k, k⟩
/-! ### the law's own hitting -/
def inB (l w r h x y : Int) : Bool := decide (l ≤ x) && decide (x ≤ r) && (decide (w ≤ y) && decide (y ≤ h))
theorem inB_iff {x y : Int} : inB l w r h x y = true ↔ Geo.InB (l : Rat) w r h x y := by
  unfold inB Geo.InB
  simp only [Bool.and_eq_true, decide_eq_true_eq, icast_le]
theorem f_l_within {x y : Int} : F_l_within [(.z, B4 l w r h), (.z, P2 x y)] st = .ok .z false (.bl (inB l w r h x y)) st := by
  unfold inB
  by_cases h1 : l ≤ x
  · by_cases h2 : x ≤ r
    · by_cases h3 : w ≤ y
      · simp [F_l_within, h1, h2, h3]
      · simp [F_l_within, h1, h2, h3]
    · simp [F_l_within, h1, h2]
  · simp [F_l_within, h1]
theorem f_l_corners : F_l_corners [(.z, B4 l w r h)] st = .ok .z false (.con .lst [P2 l w, P2 r w, P2 r h, P2 l h]) st := by
  simp [F_l_corners, zs]
def hitsB (l w r h ax ay bx bY : Int) : Bool := (inB l w r h ax ay || inB l w r h bx bY) || (cutB ax ay bx bY l h l w || (cutB ax ay bx bY l w r w || (cutB ax ay bx bY r w r h || cutB ax ay bx bY r h l h)))
theorem hitsB_eq (lr : l ≤ r) (wh : w ≤ h) : hitsB l w r h ax ay bx bY = hitB l w r h ax ay bx bY := by
  rw [Bool.eq_iff_iff, hitB_iff, ← Geo.hits_iff (icast_le.mpr lr) (icast_le.mpr wh)]
  unfold hitsB Geo.Hits
  simp only [Bool.or_eq_true, inB_iff, cutB_iff, Geo.cut_iff]
theorem atm1 {x y z v : D} : atI [x, y, z, v] (-1) = some v := by simp [atI, ixN]
theorem f_l_hits [Le 10000 ax] [Le 10000 ay] [Le 10000 bx] [Le 10000 bY] [Le 10000 l] [Le 10000 w] [Le 10000 r] [Le 10000 h] :
    F_l_hits [(.z, B4 l w r h), (.z, P2 ax ay), (.z, P2 bx bY)] st = .ok .z false (.bl (hitsB l w r h ax ay bx bY)) st := by
  have s62 : small62 4 = true := by decide
  unfold hitsB
  cases o1 : inB l w r h ax ay with
  | true => simp [F_l_hits, f_l_within, o1]
  | false => cases o2 : inB l w r h bx bY with
    | true => simp [F_l_hits, f_l_within, o1, o2]
    | false => simp [F_l_hits, f_l_within, o1, o2, f_l_corners, dLc, s62, rg4, nonesAt, lcGo, dYes, f_l_cut, atm1]
theorem f_l_one {c k : Nat} {ds : List D} {n : Nat} (B : Bag k st c) (hk : k < 2 ^ 100) (h0 : ds ≠ []) (hn : ds.length < 2 ^ n) (hn2 : n ≤ 20) :
    ∃ (g : Int) (d : D) (st' : Store), F_l_one [(.z, .ref c), (.z, .con .lst ds)] st = .ok .z false d st' ∧ 0 ≤ g ∧ ds[g.toNat]? = some d ∧ g < ds.length ∧ Bag (k + 1) st' c ∧ Fro1 c st st' := by
  have hl : 0 < ds.length := List.length_pos_iff.mpr h0
  have hn3 : 2 ^ n ≤ 2 ^ 20 := Nat.pow_le_pow_right (by decide) hn2
  obtain ⟨g, s1, e1, g1, g2, _, B1, f1⟩ := pull (n := n) (ds.length : Int) B hk (by omega) (by omega) (by omega)
  have hlt : g.toNat < ds.length := by omega
  have ha : atI ds g = some ds[g.toNat] := by
    have := atI_nat (List.getElem?_eq_getElem hlt)
    rw [show ((g.toNat : Nat) : Int) = g by omega] at this
    exact this
  refine ⟨g, ds[g.toNat], s1, ?_, g1, List.getElem?_eq_getElem hlt, g2, B1, f1⟩
  simp [F_l_one, e1, ha]
theorem pow6 : powOk 10 6 = true := by decide
/-- one edge drawn -/
theorem block_edge {c k : Nat} {b w a1 a2 l low : Int} {v5 : Option (Fr × D)} {fs : List D} (B : Bag k st c) (hk : k + 4 < 2 ^ 100) (w0 : 0 ≤ w) (w1 : w ≤ 61) (b0 : -1000000 ≤ b) (b1 : b ≤ 1000000) (hf : fs.length < 10) :
    ∃ (e : Int) (st' : Store), B_l_block_2b [some (.z, .ref c), some (.z, .con .tup [.int w, .int a1, .int a2]), some (.z, .int l), some (.z, .int low), some (.c .z, .con .lst fs), some (.z, .int b)] st =
      .nx [some (.z, .ref c), some (.z, .con .tup [.int w, .int a1, .int a2]), some (.z, .int l), some (.z, .int low), some (.c .z, .con .lst (fs ++ [.int e])), some (.z, .int b)] st' ∧ b ≤ e ∧ e ≤ 1000000 ∧ Bag (k + 3) st' c ∧ Fro1 c st st' := by
  obtain ⟨g1, s1, e1, p1, p2, _, B, f1⟩ := pull (n := 8) 3 B (by omega) (by decide) (by decide) (by decide)
  obtain ⟨g2, s2, e2, q1, q2, _, B, f2⟩ := pull (n := 8) (w + 1) B (by omega) (by omega) (by omega) (by decide)
  obtain ⟨g3, s3, e3, r1, r2, _, B, f3⟩ := pull (n := 8) 3 B (by omega) (by decide) (by decide) (by decide)
  have hf' : fs.length ≤ 1000000 := by omega
  have key : ∀ x : Int, 0 ≤ x → b ≤ (if b + x < 1000000 then b + x else 1000000) ∧ (if b + x < 1000000 then b + x else 1000000) ≤ 1000000 := fun x hx => by split <;> omega
  have hg : g3 = 0 ∨ g3 = 1 ∨ g3 = 2 := by omega
  rcases hg with rfl | rfl | rfl
  · refine ⟨if b + 0 < 1000000 then b + 0 else 1000000, s3, ?_, (key 0 (by omega)).1, (key 0 (by omega)).2, B, (f1.trans f2).trans f3⟩
    simp [B_l_block_2b, dApp, pow6, e1, e2, e3, hf']
  · refine ⟨if b + g1 < 1000000 then b + g1 else 1000000, s3, ?_, (key g1 p1).1, (key g1 p1).2, B, (f1.trans f2).trans f3⟩
    simp [B_l_block_2b, dApp, pow6, e1, e2, e3, hf']
  · refine ⟨if b + g2 < 1000000 then b + g2 else 1000000, s3, ?_, (key g2 q1).1, (key g2 q1).2, B, (f1.trans f2).trans f3⟩
    simp [B_l_block_2b, dApp, pow6, e1, e2, e3, hf']
theorem f_l_block {c k : Nat} {w a b : Int} (B : Bag k st c) (hk : k + 10 < 2 ^ 100) (G : Grid w a b) :
    ∃ (l low r h : Int) (st' : Store), F_l_block [(.z, .ref c), (.z, .con .tup [.int w, .int a, .int b])] st = .ok .z false (B4 l low r h) st' ∧ Spot l low ∧ Spot r h ∧ l ≤ r ∧ low ≤ h ∧ Bag (k + 8) st' c ∧ Fro1 c st st' := by
  obtain ⟨l, low, s1, e1, ⟨x0, x1, y0, y1⟩, B, f1⟩ := f_l_spot B (by omega) G
  obtain ⟨r, s2, e2, r1, r2, B, f2⟩ := block_edge (w := w) (b := l) (a1 := a) (a2 := b) (l := l) (low := low) (v5 := none) (fs := []) B (by omega) G.w0 G.w1 x0 x1 (by decide)
  obtain ⟨h, s3, e3, h1, h2, B, f3⟩ := block_edge (w := w) (b := low) (a1 := a) (a2 := b) (l := l) (low := low) (v5 := none) (fs := [.int r]) B (by omega) G.w0 G.w1 y0 y1 (by simp)
  refine ⟨l, low, r, h, s3, ?_, ⟨x0, x1, y0, y1⟩, ⟨by omega, by omega, by omega, by omega⟩, r1, h1, B.mono (by omega), (f1.trans f2).trans f3⟩
  simp at e2 e3
  simp [F_l_block, e1, zs, dFor, forGo, e2, e3, killE, dFrz]
end
end Hx

set_option Elab.async false
set_option linter.all false
set_option maxRecDepth 100000
set_option autoImplicit false
/-! P7: the law's own fractions. -/
namespace Hx
open PySem PySem.Spec L2
section
variable {st : Store}
theorem lgcd_loop : ∀ (n : Nat) (a b : Int), 0 ≤ a → 0 ≤ b → b.natAbs < n → whileGo (dB (dOp oGt (dCons (dVar 1) (dLast (dC (.int 0)))))) B_l_gcd_1b [] n [some (.z, .int a), some (.z, .int b)] st = .nx [some (.z, .int (Int.gcd a b)), some (.z, .int 0)] st
  | 0, a, b, _, _, h => absurd h (Nat.not_lt_zero _)
  | n + 1, a, b, ha, hb0, h => by
    by_cases hb : b = 0
    · subst hb
      have : (a.natAbs : Int) = a := by omega
      simp [whileGo, this]
    · have h2 := fmod_abs (a := a) hb
      have h3 : 0 < b := by omega
      have h4 : 0 ≤ a.fmod b := Int.fmod_nonneg ha (by omega)
      have e := lgcd_loop n b (a.fmod b) (by omega) h4 (by omega)
      rw [gcd_fmod] at e
      have eb : B_l_gcd_1b [some (.z, .int a), some (.z, .int b)] st = .nx [some (.z, .int b), some (.z, .int (a.fmod b))] st := by
        simp [B_l_gcd_1b, hb]
      simp [whileGo, h3, eb, killE]
      simpa using e
theorem f_l_gcd (a b : Int) : F_l_gcd [(.z, .int a), (.z, .int b)] st = .ok .z false (.int (Int.gcd a b)) st := by
  have e := lgcd_loop (st := st) ((b.natAbs : Int).natAbs + 1) a.natAbs b.natAbs (by omega) (by omega) (Nat.lt_succ_self _)
  have e2 : Int.gcd (a.natAbs : Int) (b.natAbs : Int) = Int.gcd a b := by simp [Int.gcd]
  rw [e2] at e
  have ea : (if a < 0 then -a else a) = (a.natAbs : Int) := by split <;> omega
  have eb : (if b < 0 then -b else b) = (b.natAbs : Int) := by split <;> omega
  simp only [oGt] at e
  simp [F_l_gcd, dWhile, ea, eb]
  simp at e
  simp [e]
theorem f_l_low {a b : Int} [Nz b] [Le 8000 b] : F_l_low [(.z, .int a), (.z, .int b)] st = .ok .z false (DR ((a : Rat) / (b : Rat))) st := by
  have hb : b ≠ 0 := Nz.h
  obtain ⟨n, d, hd, hc, e, _, _, k1, k2⟩ := fr_parts (a := a) hb
  obtain ⟨r1, r2⟩ := rat_div hd hc hb e
  have eg := f_l_gcd (st := st) a b
  have hg : 0 < Int.gcd a b := Int.gcd_pos_of_ne_zero_right a hb
  have le : Int.gcd a b ≤ b.natAbs := Nat.le_of_dvd (by omega) (Int.natAbs_dvd_natAbs.mpr (Int.gcd_dvd_right ..) |> fun x => by simpa using x)
  have b8 : Le 8000 b := inferInstance
  have g8 : Le 8000 (Int.gcd a b : Int) := ⟨by have := b8.lt; omega⟩
  have gz : Nz (Int.gcd a b : Int) := ⟨by omega⟩
  have gz' : Nz (-(Int.gcd a b : Int)) := ⟨by omega⟩
  have hDR : DR ((a : Rat) / (b : Rat)) = .con .tup [.int n, .int d] := by unfold DR; rw [r1, r2]
  rw [hDR]
  by_cases h0 : b < 0
  · obtain ⟨f3, f4⟩ := k1 h0
    simp [F_l_low, eg, h0, f3, f4]
  · obtain ⟨f3, f4⟩ := k2 (by omega)
    simp [F_l_low, eg, h0, f3, f4]
/-- which of two shares comes ahead -/
def befR (p q : Rat) : Int := if p < q then -1 else if q < p then 1 else 0
theorem f_l_before {p q : Rat} [LeR 100000 p] [LeR 100000 q] : F_l_before [(.z, DR p), (.z, DR q)] st = .ok .z false (.int (befR p q)) st := by
  have h1 := Rat.lt_iff p q
  have h2 := Rat.lt_iff q p
  unfold befR
  by_cases c1 : p < q
  · have t1 := h1.mp c1
    have t1 : p.num * (q.den : Int) - q.num * (p.den : Int) < 0 := by omega
    simp [F_l_before, DR, t1, c1]
  · have t1 : ¬ p.num * (q.den : Int) < q.num * (p.den : Int) := fun z => c1 (h1.mpr z)
    have t1 : ¬ p.num * (q.den : Int) - q.num * (p.den : Int) < 0 := by omega
    by_cases c2 : q < p
    · have t2 := h2.mp c2
      have t2 : 0 < p.num * (q.den : Int) - q.num * (p.den : Int) := by omega
      simp [F_l_before, DR, t1, t2, c1, c2]
      omega
    · have t2 : ¬ q.num * (p.den : Int) < p.num * (q.den : Int) := fun z => c2 (h2.mpr z)
      have t2 : ¬ 0 < p.num * (q.den : Int) - q.num * (p.den : Int) := by omega
      simp [F_l_before, DR, t1, t2, c1, c2]
      omega
theorem q_parts (p : Rat) : p = (p.num : Rat) / ((p.den : Int) : Rat) := by
  rw [← Rat.divInt_eq_div, Rat.num_divInt_den]
theorem half_eq {p q : Rat} : (((p.num * (q.den : Int) + q.num * (p.den : Int) : Int) : Rat) / ((2 * (p.den : Int) * (q.den : Int) : Int) : Rat)) = (p + q) / 2 := by
  have hp : ((p.den : Int) : Rat) ≠ 0 := by
    have := p.den_nz
    intro z; exact this (by exact_mod_cast z)
  have hq : ((q.den : Int) : Rat) ≠ 0 := by
    have := q.den_nz
    intro z; exact this (by exact_mod_cast z)
  have e1 : p = (p.num : Rat) / ((p.den : Int) : Rat) := q_parts p
  have e2 : q = (q.num : Rat) / ((q.den : Int) : Rat) := q_parts q
  have e3 : (p.num : Rat) = p * ((p.den : Int) : Rat) := by grind
  have e4 : (q.num : Rat) = q * ((q.den : Int) : Rat) := by grind
  simp only [Rat.intCast_add, Rat.intCast_mul, e3, e4]
  grind
theorem dn0 {p : Rat} : (p.den : Int) ≠ 0 := by have := p.den_nz; omega
theorem f_l_half {p q : Rat} [h1 : LeR 2000 p] [h2 : LeR 2000 q] : F_l_half [(.z, DR p), (.z, DR q)] st = .ok .z false (DR ((p + q) / 2)) st := by
  have z : Nz (2 * (p.den : Int) * (q.den : Int)) := ⟨Int.mul_ne_zero (Int.mul_ne_zero (by decide) dn0) dn0⟩
  have e := f_l_low (st := st) (a := p.num * (q.den : Int) + q.num * (p.den : Int)) (b := 2 * (p.den : Int) * (q.den : Int))
  rw [half_eq] at e
  simp [F_l_half, DR] at e ⊢
  simp [e]
end
end Hx

set_option Elab.async false
set_option linter.all false
set_option maxRecDepth 100000
set_option autoImplicit false
/-! P8: shares looked at by the law. -/
namespace Hx
open PySem PySem.Spec L2
section
variable {st : Store} {ax ay bx bY cx cy dx dy : Int}
theorem f_l_int (i : Int) : F_l_int [(.z, .int i)] st = .ok .z false (.bl true) st := by
  simp [F_l_int]
theorem share_num {q : Rat} (h : Geo.Sh q) : 0 ≤ q.num ∧ q.num ≤ q.den := by
  obtain ⟨h0, h1⟩ := h
  refine ⟨Rat.num_nonneg.mpr h0, ?_⟩
  have := (Rat.le_iff q 1).mp h1
  simpa using this
theorem f_l_is_share {q : Rat} (h : Geo.Sh q) : F_l_is_share [(.z, DR q)] st = .ok .z false (.bl true) st := by
  obtain ⟨h0, h1⟩ := share_num h
  have e := f_l_int (st := st)
  have e2 := f_l_gcd (st := st) q.num q.den
  have c : Int.gcd q.num q.den = 1 := by
    have := q.reduced
    simpa [Int.gcd, Nat.Coprime] using this
  rw [show ((Int.gcd q.num q.den : Nat) : Int) = 1 by rw [c]; rfl] at e2
  have p : 0 < q.den := q.den_pos
  simp [F_l_is_share, DR, e, e2, h0, h1, p]
theorem f_l_wider {x y m : Int} [Le 2000 x] [Le 2000 y] [Le 4000 m] : F_l_wider [(.z, P2 x y), (.z, .int m)] st = .ok .z false (P2 (x * m) (y * m)) st := by
  simp [F_l_wider]
theorem f_l_at {q : Rat} [Le 2000 ax] [Le 2000 ay] [Le 2000 bx] [Le 2000 bY] [LeR 4000 q] :
    F_l_at [(.z, .con .tup [P2 ax ay, P2 bx bY]), (.z, DR q)] st = .ok .z false (P2 (ax * q.den + (bx - ax) * q.num) (ay * q.den + (bY - ay) * q.num)) st := by
  simp [F_l_at, DR, P2, zs, bindPs, bindP]
theorem f_l_on {q : Rat} [Le 2000 ax] [Le 2000 ay] [Le 2000 bx] [Le 2000 bY] [Le 2000 cx] [Le 2000 cy] [Le 2000 dx] [Le 2000 dy] [LeR 4000 q] :
    F_l_on [(.z, P2 ax ay), (.z, P2 bx bY), (.z, P2 cx cy), (.z, P2 dx dy), (.z, DR q)] st =
      .ok .z false (.bl (onP (cx * q.den) (cy * q.den) (dx * q.den) (dy * q.den) (ax * q.den + (bx - ax) * q.num) (ay * q.den + (bY - ay) * q.num))) st := by
  have e1 := f_l_wider (st := st) (x := cx) (y := cy) (m := q.den)
  have e2 := f_l_wider (st := st) (x := dx) (y := dy) (m := q.den)
  have e3 := f_l_at (st := st) (ax := ax) (ay := ay) (bx := bx) (bY := bY) (q := q)
  have e4 := f_l_touch (st := st) (ax := cx * q.den) (ay := cy * q.den) (bx := dx * q.den) (bY := dy * q.den) (cx := ax * q.den + (bx - ax) * q.num) (cy := ay * q.den + (bY - ay) * q.num)
  simp [F_l_on, DR] at e1 e2 e3 e4 ⊢
  simp [e1, e2, e3, e4]
theorem on_scaled {q : Rat} : onP (cx * q.den) (cy * q.den) (dx * q.den) (dy * q.den) (ax * q.den + (bx - ax) * q.num) (ay * q.den + (bY - ay) * q.num) = true ↔ Geo.On (cx : Rat) cy dx dy (Geo.pt ax bx q) (Geo.pt ay bY q) := by
  rw [onP_iff]
  have hq : ((q.den : Int) : Rat) ≠ 0 := by
    have := q.den_nz
    intro z; exact this (by exact_mod_cast z)
  have e3 : (q.num : Rat) = q * ((q.den : Int) : Rat) := by have := q_parts q; grind
  generalize hm : ((q.den : Int) : Rat) = m at *
  simp only [Rat.intCast_add, Rat.intCast_mul, Rat.intCast_sub, e3, hm]
  unfold Geo.On Geo.pt
  refine ⟨fun ⟨t, t0, t1, h1, h2⟩ => ⟨t, t0, t1, ?_, ?_⟩, fun ⟨t, t0, t1, h1, h2⟩ => ⟨t, t0, t1, ?_, ?_⟩⟩ <;> grind
end
end Hx

set_option Elab.async false
set_option linter.all false
set_option maxRecDepth 100000
set_option autoImplicit false
/-! P9: a span looked at by a closure. -/
namespace Hx
open PySem PySem.Spec L2
section
variable {st : Store} {f : Addr} {r : Fn} {P : Rat → Prop} {l h : Rat}
theorem pow99 : powOk 10 9 = true := by decide
theorem num_pos {q : Rat} : 0 < q.num ↔ 0 < q := by
  have := Rat.lt_iff 0 q
  simpa using this.symm
theorem num_lt_den {q : Rat} : q.num < (q.den : Int) ↔ q < 1 := by
  have := Rat.lt_iff q 1
  simpa using this.symm
theorem num_le_den {q : Rat} : q.num ≤ (q.den : Int) ↔ q ≤ 1 := by
  have := Rat.le_iff q 1
  simpa using this.symm
theorem den_rat_pos (q : Rat) : (0 : Rat) < ((q.den : Int) : Rat) := by
  have := q.den_pos
  exact_mod_cast this
theorem low_at (q : Rat) (e : Int) : (((q.num * 1000000000 + e : Int) : Rat) / (((q.den : Int) * 1000000000 : Int) : Rat)) * (((q.den : Int) : Rat) * 1000000000) = q * (((q.den : Int) : Rat) * 1000000000) + (e : Rat) := by
  have hm := den_rat_pos q
  have e3 : (q.num : Rat) = q * ((q.den : Int) : Rat) := by have := q_parts q; grind
  generalize hm' : ((q.den : Int) : Rat) = m at *
  have c : ((1000000000 : Int) : Rat) = 1000000000 := rfl
  simp only [Rat.intCast_add, Rat.intCast_mul, e3, hm', c]
  have : m * 1000000000 ≠ 0 := by grind
  grind
theorem low_m {q : Rat} : (((q.num * 1000000000 + (-1) : Int) : Rat) / (((q.den : Int) * 1000000000 : Int) : Rat)) < q := by
  have hm := den_rat_pos q
  have e := low_at q (-1)
  generalize (((q.num * 1000000000 + (-1) : Int) : Rat) / (((q.den : Int) * 1000000000 : Int) : Rat)) = x at *
  refine Rat.not_le.mp fun z => ?_
  have := Rat.mul_le_mul_of_nonneg_right z (c := ((q.den : Int) : Rat) * 1000000000) (by grind)
  have c : ((-1 : Int) : Rat) = -1 := rfl
  rw [c] at e
  grind
theorem low_p {q : Rat} : q < (((q.num * 1000000000 + 1 : Int) : Rat) / (((q.den : Int) * 1000000000 : Int) : Rat)) := by
  have hm := den_rat_pos q
  have e := low_at q 1
  generalize (((q.num * 1000000000 + 1 : Int) : Rat) / (((q.den : Int) * 1000000000 : Int) : Rat)) = x at *
  refine Rat.not_le.mp fun z => ?_
  have := Rat.mul_le_mul_of_nonneg_right z (c := ((q.den : Int) : Rat) * 1000000000) (by grind)
  have c : ((1 : Int) : Rat) = 1 := rfl
  rw [c] at e
  grind
theorem low_m0 {q : Rat} (hq : 0 < q) : 0 ≤ (((q.num * 1000000000 + (-1) : Int) : Rat) / (((q.den : Int) * 1000000000 : Int) : Rat)) := by
  have hm := den_rat_pos q
  have h1 := num_pos.mpr hq
  have e := low_at q (-1)
  have e3 : (q.num : Rat) = q * ((q.den : Int) : Rat) := by have := q_parts q; grind
  have h2 : (1 : Rat) ≤ (q.num : Rat) := by exact_mod_cast h1
  generalize (((q.num * 1000000000 + (-1) : Int) : Rat) / (((q.den : Int) * 1000000000 : Int) : Rat)) = x at *
  refine Rat.not_lt.mp fun z => ?_
  have := Rat.mul_le_mul_of_nonneg_right (Rat.le_of_lt z) (c := ((q.den : Int) : Rat) * 1000000000) (by grind)
  have c : ((-1 : Int) : Rat) = -1 := rfl
  rw [c] at e
  grind
theorem qn0 : (0 : Rat).num = 0 := rfl
theorem qd0 : ((0 : Rat).den : Int) = 1 := rfl
theorem qn1 : (1 : Rat).num = 1 := rfl
theorem qd1 : ((1 : Rat).den : Int) = 1 := rfl
theorem dr0' : DR 0 = P2 0 1 := rfl
theorem dr1' : DR 1 = P2 1 1 := rfl
/-- a closure that tells P of shares -/
def Tells (st : Store) (r : Fn) (P : Rat → Prop) : Prop := ∀ q, LeR 4000 q → ∃ b, r [(.z, DR q)] st = .ok .z false (.bl b) st ∧ (b = true ↔ P q)
theorem Tells.yes (t : Tells st r P) {q : Rat} [k : LeR 4000 q] (h : P q) : r [(.z, DR q)] st = .ok .z false (.bl true) st := by
  obtain ⟨b, e, i⟩ := t q k
  rw [i.mpr h] at e; exact e
theorem Tells.no (t : Tells st r P) {q : Rat} [k : LeR 4000 q] (h : ¬ P q) : r [(.z, DR q)] st = .ok .z false (.bl false) st := by
  obtain ⟨b, e, i⟩ := t q k
  cases b with
  | true => exact absurd (i.mp rfl) h
  | false => exact e
abbrev cLe1 : DenB := dB (dOp oLe (dCons (dOp oIx (dCons (dVar 6) (dLast (dC (.int 0))))) (dLast (dOp oIx (dCons (dVar 6) (dLast (dC (.int 1))))))))
/-- the shares that are looked at tell false -/
theorem lc_no (t : Tells st r P) {e0 e2 e3 e4 e5 : Option (Fr × D)} : ∀ (qs : List Rat) (e6 : Option (Fr × D)) (acc : List D), (∀ q ∈ qs, LeR 4000 q ∧ (q ≤ 1 → ¬ P q)) →
    lcGo (.nm 6) cLe1 (dClo (oneL f 1 r) 1 (dLast (dVar 6))) (qs.map DR) [e0, some (.z, .fnv f 0), e2, e3, e4, e5, e6] st acc = .ok (.c .z) false (.con .lst (acc ++ (qs.filter (· ≤ 1)).map fun _ => .bl false)) st
  | [], e6, acc, _ => by simp [lcGo]
  | q :: qs, e6, acc, h => by
    obtain ⟨k, no⟩ := h q List.mem_cons_self
    have ih := fun e6 acc => lc_no t (e0 := e0) (e2 := e2) (e3 := e3) (e4 := e4) (e5 := e5) qs e6 acc fun x hx => h x (List.mem_cons_of_mem _ hx)
    by_cases c : q ≤ 1
    · have n := num_le_den.mpr c
      have g := t.no (q := q) (no c)
      have ih := ih e6 (acc ++ [.bl false])
      simp only [List.map_cons, lcGo]
      simp only [DR] at g ih ⊢
      simp [n, g, c]
      simpa using ih
    · have n := mt num_le_den.mp c
      have ih := ih e6 acc
      simp only [List.map_cons, lcGo]
      simp only [DR] at ih ⊢
      simp [n, c]
      simpa using ih
theorem bools_no {α : Type} : ∀ l : List α, bools (l.map fun _ => D.bl false) = some (l.map fun _ => false)
  | [] => rfl
  | a :: l => by simp [bools, bools_no l]
theorem span_six (t : Tells st r P) {e0 e2 e3 e5 : Option (Fr × D)} {qs : List Rat} (hn : qs.length ≤ 100) (h : ∀ q ∈ qs, LeR 4000 q ∧ (q ≤ 1 → ¬ P q)) :
    B_l_span_so_6 (oneL f 1 r) [e0, some (.z, .fnv f 0), e2, e3, some (.z, .con .lst (qs.map DR)), e5, none] st = .rt .z (.bl true) st := by
  have e := lc_no (f := f) t (e0 := e0) (e2 := e2) (e3 := e3) (e4 := some (.z, .con .lst (qs.map DR))) (e5 := e5) qs none [] h
  have hb : qs.length ≤ 16777215 := by omega
  simp only [cLe1, oLe] at e
  simp [dLc, nonesAt, hb, e, bools_no]
end
end Hx

set_option Elab.async false
set_option linter.all false
set_option maxRecDepth 100000
set_option autoImplicit false
/-! P10: a span looked at by a closure, told. -/
namespace Hx
open PySem PySem.Spec L2
section
variable {st : Store} {f : Addr} {r : Fn} {P : Rat → Prop} {l h : Rat}
theorem half_le {p q : Rat} [LeR 1000 p] [LeR 1000 q] : LeR 4000 ((p + q) / 2) := by
  rw [← half_eq]
  infer_instance
/-- the shares just ahead of l, just behind h -/
def lmR (l : Rat) : Rat := (((l.num * 1000000000 + (-1) : Int) : Rat) / (((l.den : Int) * 1000000000 : Int) : Rat))
def hpR (h : Rat) : Rat := (((h.num * 1000000000 + 1 : Int) : Rat) / (((h.den : Int) * 1000000000 : Int) : Rat))
theorem so_t2 (S : Geo.Span P l h) [k1 : LeR 1000 l] [k2 : LeR 1000 h] (t : Tells st r P) {e0 e4 e5 e6 : Option (Fr × D)} :
    B_l_span_so_t2 (oneL f 1 r) [e0, some (.z, .fnv f 0), some (.z, DR l), some (.z, DR h), e4, e5, e6] st =
    B_l_span_so_t3 (oneL f 1 r) [e0, some (.z, .fnv f 0), some (.z, DR l), some (.z, DR h), e4, e5, e6] st := by
  have hl : Geo.Sh l := ⟨S.l0, Rat.le_trans S.lh S.h1⟩
  have hh : Geo.Sh h := ⟨Rat.le_trans S.l0 S.lh, S.h1⟩
  have m0 : Geo.Sh ((l + h) / 2) := by have := S.l0; have := S.lh; have := S.h1; constructor <;> grind
  have b1 : ¬ befR h l < 0 := by
    unfold befR
    have := S.lh
    split
    · exfalso; grind
    · split <;> decide
  have e1 := f_l_before (st := st) (p := h) (q := l)
  have e2 := f_l_half (st := st) (p := l) (q := h)
  have g1 := t.yes (q := l) ((S.at_ l hl).mpr ⟨Rat.le_refl, S.lh⟩)
  have g2 := t.yes (q := h) ((S.at_ h hh).mpr ⟨S.lh, Rat.le_refl⟩)
  have k3 : LeR 4000 ((l + h) / 2) := half_le
  have g3 := t.yes (q := (l + h) / 2) ((S.at_ _ m0).mpr (by have := S.lh; constructor <;> grind))
  simp [-B_l_span_so_t3, e1, e2, g1, g2, g3, b1]
theorem so_k4 [k1 : LeR 1000 l] {X Y : D} {FL FH : Fn} {e0 e3 e5 e6 : Option (Fr × D)} (n : 0 < l.num) (q1 : FL [(.z, .int (l.num * 1000000000 - 1)), (.z, .int ((l.den : Int) * 1000000000))] st = .ok .z false X st) (r1 : FH [(.z, .con .tup [.int 0, .int 1]), (.z, .con .tup [.int l.num, .int l.den])] st = .ok .z false Y st) :
   dIfS (dB (dOp oGt (dCons (dOp oIx (dCons (dVar 2) (dLast (dC (.int 0))))) (dLast (dC (.int 0)))))) (dSetZ 4 (dLst (dCons (dTup (dCons (dC (.int 0)) (dLast (dC (.int 1))))) (dCons (dCall FH [] (dCons (dTup (dCons (dC (.int 0)) (dLast (dC (.int 1))))) (dLast (dVar 2)))) (dLast (dCall FL [] (dCons (dOp oSub (dCons (dOp oMul (dCons (dOp oIx (dCons (dVar 2) (dLast (dC (.int 0))))) (dLast (dOp oPow (dCons (dC (.int 10)) (dLast (dC (.int 9)))))))) (dLast (dC (.int 1))))) (dLast (dOp oMul (dCons (dOp oIx (dCons (dVar 2) (dLast (dC (.int 1))))) (dLast (dOp oPow (dCons (dC (.int 10)) (dLast (dC (.int 9)))))))))))))))) dSkip [e0, some (.z, .fnv f 0), some (.z, .con .tup [.int l.num, .int l.den]), e3, some (.z, .con .lst []), e5, e6] st = .nx [e0, some (.z, .fnv f 0), some (.z, .con .tup [.int l.num, .int l.den]), e3, some (.z, .con .lst [.con .tup [.int 0, .int 1], Y, X]), e5, e6] st := by
    have p2 := pow99
    simp [q1, r1, p2, n]
theorem so_k5 [k1 : LeR 1000 h] {X Y : D} {FL FH : Fn} {e0 e1 e2 e5 e6 : Option (Fr × D)} {ds : List D} (hq : ds.length ≤ 16777213) (n : h.num < (h.den : Int)) (q1 : FL [(.z, .int (h.num * 1000000000 + 1)), (.z, .int ((h.den : Int) * 1000000000))] st = .ok .z false X st) (r1 : FH [(.z, .con .tup [.int 1, .int 1]), (.z, .con .tup [.int h.num, .int h.den])] st = .ok .z false Y st) :
   dIfS (dB (dOp oLt (dCons (dOp oIx (dCons (dVar 3) (dLast (dC (.int 0))))) (dLast (dOp oIx (dCons (dVar 3) (dLast (dC (.int 1))))))))) (dSeq (dSetZ 5 (dCall FL [] (dCons (dOp oAdd (dCons (dOp oMul (dCons (dOp oIx (dCons (dVar 3) (dLast (dC (.int 0))))) (dLast (dOp oPow (dCons (dC (.int 10)) (dLast (dC (.int 9)))))))) (dLast (dC (.int 1))))) (dLast (dOp oMul (dCons (dOp oIx (dCons (dVar 3) (dLast (dC (.int 1))))) (dLast (dOp oPow (dCons (dC (.int 10)) (dLast (dC (.int 9)))))))))))) (dSetZ 4 (dOp oAdd (dCons (dVar 4) (dLast (dLst (dCons (dTup (dCons (dC (.int 1)) (dLast (dC (.int 1))))) (dCons (dCall FH [] (dCons (dTup (dCons (dC (.int 1)) (dLast (dC (.int 1))))) (dLast (dVar 3)))) (dLast (dVar 5)))))))))) (dSkip)
     [e0, e1, e2, some (.z, .con .tup [.int h.num, .int h.den]), some (.z, .con .lst ds), e5, e6] st = .nx [e0, e1, e2, some (.z, .con .tup [.int h.num, .int h.den]), some (.z, .con .lst (ds ++ [.con .tup [.int 1, .int 1], Y, X])), some (.z, X), e6] st := by
    have p2 := pow99
    simp [q1, r1, p2, n, hq]
theorem dSeq_eq {a b : DenS} {e e' : Hx.Env} {s s' : Store} (h : a e s = .nx e' s') : dSeq a b e s = b e' s' := by simp [dSeq, h]
theorem so_t4 [k1 : LeR 1000 l] (c : 0 < l) {e0 e3 e5 e6 : Option (Fr × D)} :
    B_l_span_so_t4 (oneL f 1 r) [e0, some (.z, .fnv f 0), some (.z, DR l), e3, some (.z, .con .lst []), e5, e6] st =
    B_l_span_so_t5 (oneL f 1 r) [e0, some (.z, .fnv f 0), some (.z, DR l), e3, some (.z, .con .lst ([0, (0 + l) / 2, lmR l].map DR)), e5, e6] st := by
  have n := num_pos.mpr c
  have z1 : Nz ((l.den : Int) * 1000000000) := ⟨Int.mul_ne_zero dn0 (by decide)⟩
  have q1 : F_l_low [(.z, .int (l.num * 1000000000 - 1)), (.z, .int ((l.den : Int) * 1000000000))] st = .ok .z false (DR (lmR l)) st := by
    unfold lmR
    rw [show (l.num * 1000000000 - 1 : Int) = l.num * 1000000000 + (-1) from by omega]
    exact f_l_low
  have r1 := f_l_half (st := st) (p := 0) (q := l)
  have p2 := pow99
  simp only [List.map]
  generalize DR (lmR l) = X at *
  generalize DR ((0 + l) / 2) = Y at *
  have d0 : DR 0 = .con .tup [.int 0, .int 1] := rfl
  have dl : DR l = .con .tup [.int l.num, .int l.den] := rfl
  rw [d0, dl] at r1
  rw [d0, dl]
  have k := so_k4 (f := f) (e0 := e0) (e3 := e3) (e5 := e5) (e6 := e6) n q1 r1
  simp only [B_l_span_so_t4, B_l_span_so_4, B_l_span_so_4t_0, dSeq_eq k]
theorem so_t4n [k1 : LeR 1000 l] (c : ¬ 0 < l) {e0 e3 e4 e5 e6 : Option (Fr × D)} :
    B_l_span_so_t4 (oneL f 1 r) [e0, some (.z, .fnv f 0), some (.z, DR l), e3, e4, e5, e6] st =
    B_l_span_so_t5 (oneL f 1 r) [e0, some (.z, .fnv f 0), some (.z, DR l), e3, e4, e5, e6] st := by
  have n := mt num_pos.mp c
  simp only [DR]
  simp [-B_l_span_so_t5, n]
theorem so_t5 [k1 : LeR 1000 h] (c : h < 1) {qs : List Rat} (hq : qs.length ≤ 10) {e0 e2 e5 e6 : Option (Fr × D)} :
    B_l_span_so_t5 (oneL f 1 r) [e0, some (.z, .fnv f 0), e2, some (.z, DR h), some (.z, .con .lst (qs.map DR)), e5, e6] st =
    B_l_span_so_6 (oneL f 1 r) [e0, some (.z, .fnv f 0), e2, some (.z, DR h), some (.z, .con .lst ((qs ++ [1, (1 + h) / 2, hpR h]).map DR)), some (.z, DR (hpR h)), e6] st := by
  have n := num_lt_den.mpr c
  have z2 : Nz ((h.den : Int) * 1000000000) := ⟨Int.mul_ne_zero dn0 (by decide)⟩
  have q2 : F_l_low [(.z, .int (h.num * 1000000000 + 1)), (.z, .int ((h.den : Int) * 1000000000))] st = .ok .z false (DR (hpR h)) st := by
    unfold hpR
    exact f_l_low
  have r2 := f_l_half (st := st) (p := 1) (q := h)
  have p2 := pow99
  have hq' : qs.length ≤ 16777213 := by omega
  simp only [List.map_append, List.map]
  generalize DR (hpR h) = X at *
  generalize DR ((1 + h) / 2) = Y at *
  have d0 : DR 1 = .con .tup [.int 1, .int 1] := rfl
  have dl : DR h = .con .tup [.int h.num, .int h.den] := rfl
  rw [d0, dl] at r2
  rw [d0, dl]
  have k := so_k5 (e0 := e0) (e1 := some (.z, .fnv f 0)) (e2 := e2) (e5 := e5) (e6 := e6) (ds := qs.map DR) (by simpa using hq') n q2 r2
  simp only [B_l_span_so_t5, B_l_span_so_5, B_l_span_so_5t_0, B_l_span_so_5t_1, dSeq_eq k]
theorem so_t5n [k1 : LeR 1000 h] (c : ¬ h < 1) {e0 e2 e4 e5 e6 : Option (Fr × D)} :
    B_l_span_so_t5 (oneL f 1 r) [e0, some (.z, .fnv f 0), e2, some (.z, DR h), e4, e5, e6] st =
    B_l_span_so_6 (oneL f 1 r) [e0, some (.z, .fnv f 0), e2, some (.z, DR h), e4, e5, e6] st := by
  have n := mt num_lt_den.mp c
  simp only [DR]
  simp [-B_l_span_so_6, n]
theorem f_l_span_so (S : Geo.Span P l h) [k1 : LeR 1000 l] [k2 : LeR 1000 h] (t : Tells st r P) :
    F_l_span_so (oneL f 1 r) [(.z, .con .tup [DR l, DR h]), (.z, .fnv f 0)] st = .ok .z false (.bl true) st := by
  have hl : Geo.Sh l := ⟨S.l0, Rat.le_trans S.lh S.h1⟩
  have hh : Geo.Sh h := ⟨Rat.le_trans S.l0 S.lh, S.h1⟩
  have i1 := f_l_is_share (st := st) hl
  have i2 := f_l_is_share (st := st) hh
  have k4 : LeR 4000 (lmR l) := by unfold lmR; infer_instance
  have k5 : LeR 4000 (hpR h) := by unfold hpR; infer_instance
  have k6 : LeR 4000 ((0 + l) / 2) := half_le
  have k7 : LeR 4000 ((1 + h) / 2) := half_le
  have w1 := @low_m l
  have w2 := @low_m0 l
  have w3 := @low_p h
  rw [← lmR] at w1 w2
  rw [← hpR] at w3
  have no0 : 0 < l → ¬ P 0 := fun z p => by have := ((S.at_ 0 Geo.sh0).mp p).1; grind
  have no1 : 0 < l → ¬ P ((0 + l) / 2) := fun z p => by
    have s : Geo.Sh ((0 + l) / 2) := by have := S.l0; have := S.lh; have := S.h1; constructor <;> grind
    have := ((S.at_ _ s).mp p).1; grind
  have no2 : 0 < l → ¬ P (lmR l) := fun z p => by
    have s : Geo.Sh (lmR l) := by have := S.lh; have := S.h1; have := w2 z; constructor <;> grind
    have := ((S.at_ _ s).mp p).1; grind
  have no3 : h < 1 → ¬ P 1 := fun z p => by have := ((S.at_ 1 Geo.sh1).mp p).2; grind
  have no4 : h < 1 → ¬ P ((1 + h) / 2) := fun z p => by
    have s : Geo.Sh ((1 + h) / 2) := by have := S.l0; have := S.lh; have := S.h1; constructor <;> grind
    have := ((S.at_ _ s).mp p).2; grind
  have no5 : hpR h ≤ 1 → ¬ P (hpR h) := fun z p => by
    have s : Geo.Sh (hpR h) := by have := S.l0; have := S.lh; constructor <;> grind
    have := ((S.at_ _ s).mp p).2; grind
  have fin : ∀ (qs : List Rat) (e5 : Option (Fr × D)), qs.length ≤ 100 → (∀ q ∈ qs, LeR 4000 q ∧ (q ≤ 1 → ¬ P q)) → B_l_span_so_6 (oneL f 1 r) [some (.z, .con .tup [DR l, DR h]), some (.z, .fnv f 0), some (.z, DR l), some (.z, DR h), some (.z, .con .lst (qs.map DR)), e5, none] st = .rt .z (.bl true) st := fun qs e5 a b => span_six t a b
  have hr : B_l_span_so_t4 (oneL f 1 r) [some (.z, .con .tup [DR l, DR h]), some (.z, .fnv f 0), some (.z, DR l), some (.z, DR h), some (.z, .con .lst []), none, none] st = .rt .z (.bl true) st := by
    by_cases cl : 0 < l
    · rw [so_t4 cl]
      by_cases ch : h < 1
      · rw [so_t5 ch (by simp)]
        refine fin _ _ (by simp) ?_
        intro q z
        simp only [List.cons_append, List.nil_append, List.mem_cons, List.not_mem_nil, or_false] at z
        rcases z with rfl | rfl | rfl | rfl | rfl | rfl
        · exact ⟨inferInstance, fun _ => no0 cl⟩
        · exact ⟨inferInstance, fun _ => no1 cl⟩
        · exact ⟨inferInstance, fun _ => no2 cl⟩
        · exact ⟨inferInstance, fun _ => no3 ch⟩
        · exact ⟨inferInstance, fun _ => no4 ch⟩
        · exact ⟨inferInstance, no5⟩
      · rw [so_t5n ch]
        refine fin _ _ (by simp) ?_
        intro q z
        simp only [List.mem_cons, List.not_mem_nil, or_false] at z
        rcases z with rfl | rfl | rfl
        · exact ⟨inferInstance, fun _ => no0 cl⟩
        · exact ⟨inferInstance, fun _ => no1 cl⟩
        · exact ⟨inferInstance, fun _ => no2 cl⟩
    · rw [so_t4n cl]
      by_cases ch : h < 1
      · refine (so_t5 ch (qs := []) (by simp)).trans (fin _ _ (by simp) ?_)
        intro q z
        simp only [List.nil_append, List.mem_cons, List.not_mem_nil, or_false] at z
        rcases z with rfl | rfl | rfl
        · exact ⟨inferInstance, fun _ => no3 ch⟩
        · exact ⟨inferInstance, fun _ => no4 ch⟩
        · exact ⟨inferInstance, no5⟩
      · rw [so_t5n ch]
        exact fin [] _ (by simp) (by intro q z; cases z)
  simp [-B_l_span_so_t2, -B_l_span_so_t4, F_l_span_so, so_t2 S t, hr, i1, i2, zs, bindPs, bindP]
end
end Hx

set_option Elab.async false
set_option linter.all false
set_option maxRecDepth 100000
set_option autoImplicit false
/-! P11: spans turned about; shares looked at in a block. -/
namespace Hx
open PySem PySem.Spec L2
theorem one_minus (q : Rat) : (1 - q).num = (q.den : Int) - q.num ∧ ((1 - q).den : Int) = q.den := by
  have hp := q.den_pos
  have hc : Int.gcd ((q.den : Int) - q.num) q.den = 1 := by
    have := q.reduced
    have e : Int.gcd q.num q.den = 1 := by simpa [Int.gcd, Nat.Coprime] using this
    rw [Int.gcd_comm, Int.gcd_self_sub_right, Int.gcd_comm]
    exact e
  have h := rat_div (a := (q.den : Int) - q.num) (b := q.den) (by omega) hc dn0 rfl
  have e : (((q.den : Int) - q.num : Int) : Rat) / (((q.den : Int)) : Rat) = 1 - q := by
    have hm : ((q.den : Int) : Rat) ≠ 0 := by
      have := q.den_nz
      intro z; exact this (by exact_mod_cast z)
    have e3 : (q.num : Rat) = q * ((q.den : Int) : Rat) := by have := q_parts q; grind
    rw [Rat.intCast_sub, e3]
    grind
  rw [e] at h
  exact h
end Hx
namespace Geo
theorem Span.turn {P Q : Rat → Prop} {l h : Rat} (s : Span P l h) (k : ∀ x, Sh x → (Q x ↔ P (1 - x))) : Span Q (1 - h) (1 - l) where
  l0 := by have := s.h1; grind
  lh := by have := s.lh; grind
  h1 := by have := s.l0; grind
  at_ := fun x hx => by
    obtain ⟨x0, x1⟩ := hx
    rw [k x ⟨x0, x1⟩, s.at_ (1 - x) ⟨by grind, by grind⟩]
    grind
theorem IsSpan.turn {P Q : Rat → Prop} {o : Option (Rat × Rat)} (s : IsSpan P o) (k : ∀ x, Sh x → (Q x ↔ P (1 - x))) : IsSpan Q (o.map fun q => (1 - q.2, 1 - q.1)) := by
  cases o with
  | none => exact fun x hx q => s (1 - x) ⟨by have := hx.2; grind, by have := hx.1; grind⟩ ((k x hx).mp q)
  | some lh => exact Span.turn s k
theorem pt_turn {a b s : Rat} : pt b a s = pt a b (1 - s) := by unfold pt; grind
end Geo
namespace Hx
open PySem PySem.Spec L2
section
variable {st : Store} {l w r h ax ay bx bY : Int}
theorem f_l_in_at {q : Rat} [Le 2000 ax] [Le 2000 ay] [Le 2000 bx] [Le 2000 bY] [Le 2000 l] [Le 2000 w] [Le 2000 r] [Le 2000 h] [LeR 4000 q] :
    F_l_in_at [(.z, B4 l w r h), (.z, P2 ax ay), (.z, P2 bx bY), (.z, DR q)] st =
      .ok .z false (.bl (inB (l * q.den) (w * q.den) (r * q.den) (h * q.den) (ax * q.den + (bx - ax) * q.num) (ay * q.den + (bY - ay) * q.num))) st := by
  have e1 := f_l_at (st := st) (ax := ax) (ay := ay) (bx := bx) (bY := bY) (q := q)
  have e2 := f_l_within (st := st) (l := l * q.den) (w := w * q.den) (r := r * q.den) (h := h * q.den) (x := ax * q.den + (bx - ax) * q.num) (y := ay * q.den + (bY - ay) * q.num)
  simp [F_l_in_at, DR, dLc, nonesAt, lcGo, dYes, B4] at e1 e2 ⊢
  simp [e1, e2]
theorem in_scaled {q : Rat} : inB (l * q.den) (w * q.den) (r * q.den) (h * q.den) (ax * q.den + (bx - ax) * q.num) (ay * q.den + (bY - ay) * q.num) = true ↔ Geo.InB (l : Rat) w r h (Geo.pt ax bx q) (Geo.pt ay bY q) := by
  rw [inB_iff]
  have hq : (0 : Rat) < ((q.den : Int) : Rat) := den_rat_pos q
  have e3 : (q.num : Rat) = q * ((q.den : Int) : Rat) := by have := q_parts q; grind
  generalize hm : ((q.den : Int) : Rat) = m at *
  simp only [Rat.intCast_add, Rat.intCast_mul, Rat.intCast_sub, e3, hm]
  have key : ∀ {a b : Rat}, a * m ≤ b * m ↔ a ≤ b := fun {a b} => ⟨fun z => by
    refine Rat.not_lt.mp fun k => ?_
    have := Rat.mul_lt_mul_of_pos_right k hq
    grind, fun z => Rat.mul_le_mul_of_nonneg_right z (Rat.le_of_lt hq)⟩
  have f1 : ((ax : Rat) * m + ((bx : Rat) - ax) * (q * m)) = (Geo.pt ax bx q) * m := by unfold Geo.pt; grind
  have f2 : ((ay : Rat) * m + ((bY : Rat) - ay) * (q * m)) = (Geo.pt ay bY q) * m := by unfold Geo.pt; grind
  unfold Geo.InB
  rw [f1, f2, key, key, key, key]
theorem bshO_turn (hab : ¬ (ax = bx ∧ ay = bY)) : bshO l w r h bx bY ax ay = (bshO l w r h ax ay bx bY).map fun q => (1 - q.2, 1 - q.1) := by
  have n1 : ¬ (bx = ax ∧ bY = ay) := fun z => hab ⟨z.1.symm, z.2.symm⟩
  unfold bshO
  rw [if_neg (fun z => n1 z.2), if_neg (fun z => hab z.2)]
  refine Geo.IsSpan.uniq (fun s hs => Iff.rfl) Geo.bsh_span (Geo.IsSpan.turn Geo.bsh_span fun s hs => ?_)
  rw [Geo.pt_turn (a := (ax : Rat)), Geo.pt_turn (a := (ay : Rat))]
theorem corner_of {g : Nat} {d : D} (e : [P2 l w, P2 r w, P2 r h, P2 l h][g]? = some d) (hg : g < 4) : ∃ cx cy, d = P2 cx cy ∧ (cx = l ∨ cx = r) ∧ (cy = w ∨ cy = h) := by
  have q : g = 0 ∨ g = 1 ∨ g = 2 ∨ g = 3 := by omega
  rcases q with q | q | q | q <;> subst q <;> simp at e <;> subst e
  · exact ⟨_, _, rfl, .inl rfl, .inl rfl⟩
  · exact ⟨_, _, rfl, .inr rfl, .inl rfl⟩
  · exact ⟨_, _, rfl, .inr rfl, .inr rfl⟩
  · exact ⟨_, _, rfl, .inl rfl, .inr rfl⟩
end
end Hx

set_option Elab.async false
set_option linter.all false
set_option maxRecDepth 100000
set_option maxHeartbeats 0
set_option autoImplicit false
namespace L07
open PySem PySem.Spec L2 Hx
open PyProof.Rows hiding St
noncomputable section
def top (i : Nat) : Stmt := PySem.Challenge.pw_hueshade_k07_fractions.main.body.getD i (.Pass ⟨0, 0, 0, 0⟩)
@[simp] def B_plus_0 : DenS :=
    dRetZ (dCall F_fraction [] (dCons (dOp oAdd (dCons (dOp oMul (dCons (dOp oIx (dCons (dVar 0) (dLast (dC (.int 0))))) (dLast (dOp oIx (dCons (dVar 1) (dLast (dC (.int 1)))))))) (dLast (dOp oMul (dCons (dOp oIx (dCons (dVar 1) (dLast (dC (.int 0))))) (dLast (dOp oIx (dCons (dVar 0) (dLast (dC (.int 1))))))))))) (dLast (dOp oMul (dCons (dOp oIx (dCons (dVar 0) (dLast (dC (.int 1))))) (dLast (dOp oIx (dCons (dVar 1) (dLast (dC (.int 1)))))))))))
@[simp] def B_plus : DenS :=
    B_plus_0
def F_plus : Fn := dBody 2 B_plus
@[simp] def B_less_0 : DenS :=
    dRetZ (dCall F_fraction [] (dCons (dOp oSub (dCons (dOp oMul (dCons (dOp oIx (dCons (dVar 0) (dLast (dC (.int 0))))) (dLast (dOp oIx (dCons (dVar 1) (dLast (dC (.int 1)))))))) (dLast (dOp oMul (dCons (dOp oIx (dCons (dVar 1) (dLast (dC (.int 0))))) (dLast (dOp oIx (dCons (dVar 0) (dLast (dC (.int 1))))))))))) (dLast (dOp oMul (dCons (dOp oIx (dCons (dVar 0) (dLast (dC (.int 1))))) (dLast (dOp oIx (dCons (dVar 1) (dLast (dC (.int 1)))))))))))
@[simp] def B_less : DenS :=
    B_less_0
def F_less : Fn := dBody 2 B_less
@[simp] def B_times_0 : DenS :=
    dRetZ (dCall F_fraction [] (dCons (dOp oMul (dCons (dOp oIx (dCons (dVar 0) (dLast (dC (.int 0))))) (dLast (dOp oIx (dCons (dVar 1) (dLast (dC (.int 0)))))))) (dLast (dOp oMul (dCons (dOp oIx (dCons (dVar 0) (dLast (dC (.int 1))))) (dLast (dOp oIx (dCons (dVar 1) (dLast (dC (.int 1)))))))))))
@[simp] def B_times : DenS :=
    B_times_0
def F_times : Fn := dBody 2 B_times
@[simp] def B_middle_0 : DenS :=
    dRetZ (dCall F_fraction [] (dCons (dOp oAdd (dCons (dOp oMul (dCons (dOp oIx (dCons (dVar 0) (dLast (dC (.int 0))))) (dLast (dOp oIx (dCons (dVar 1) (dLast (dC (.int 1)))))))) (dLast (dOp oMul (dCons (dOp oIx (dCons (dVar 1) (dLast (dC (.int 0))))) (dLast (dOp oIx (dCons (dVar 0) (dLast (dC (.int 1))))))))))) (dLast (dOp oMul (dCons (dOp oMul (dCons (dC (.int 2)) (dLast (dOp oIx (dCons (dVar 0) (dLast (dC (.int 1)))))))) (dLast (dOp oIx (dCons (dVar 1) (dLast (dC (.int 1)))))))))))
@[simp] def B_middle : DenS :=
    B_middle_0
def F_middle : Fn := dBody 2 B_middle
@[simp] def B_fraction_text_1 : DenS :=
    dRetZ (dIf (dB (dOp oEq (dCons (dVar 2) (dLast (dC (.int 1)))))) (dOp oFmt (dLast (dVar 1))) (dJs [dOp oFmt (dLast (dVar 1)), dC (.str "/"), dOp oFmt (dLast (dVar 2))] Str.empty))
@[simp] def B_fraction_text : DenS :=
    dSeq (dUnp (.tp [.nm 1, .nm 2]) (dVar 0)) (B_fraction_text_1)
def F_fraction_text : Fn := dBody 3 B_fraction_text
@[simp] def B_l_tried_0y_0 (lr : LamR) : DenS :=
    dRetZ (dTup (dCons (dC (.str "told")) (dLast (dClo lr 0 dNil))))
@[simp] def B_l_tried_0 (lr : LamR) : DenS :=
    dTry XUP XFL (B_l_tried_0y_0 lr) [([18], 1, ["word", "kind", "number"]), ([19, 22], 1, ["word", "number"]), ([15], 1, ["word", "row"]), ([0, 1, 2], 1, ["word"])]
@[simp] def B_l_tried (lr : LamR) : DenS :=
    B_l_tried_0 lr
def F_l_tried (lr : LamR) : Fn := dBody 2 (B_l_tried lr)
@[simp] def B_l_any_0 : DenS :=
    dSetZ 1 (dCall F_l_pull [] (dCons (dVar 0) (dLast (dC (.int 5)))))
@[simp] def B_l_any_1 : DenS :=
    dIfS (dB (dOp oEq (dCons (dVar 1) (dLast (dC (.int 0)))))) (dRetZ (dC (.int 0))) (dSkip)
@[simp] def B_l_any_2 : DenS :=
    dSetZ 2 (dOp oIx (dCons (dLst (dCons (dC (.int 9)) (dCons (dC (.int 60)) (dCons (dOp oPow (dCons (dC (.int 10)) (dLast (dC (.int 9))))) (dLast (dOp oPow (dCons (dC (.int 10)) (dLast (dC (.int 29)))))))))) (dLast (dOp oSub (dCons (dVar 1) (dLast (dC (.int 1))))))))
@[simp] def B_l_any_3 : DenS :=
    dRetZ (dOp oSub (dCons (dCall F_l_pull [] (dCons (dVar 0) (dLast (dOp oAdd (dCons (dOp oMul (dCons (dC (.int 2)) (dLast (dVar 2)))) (dLast (dC (.int 1)))))))) (dLast (dVar 2))))
@[simp] def B_l_any_t2 : DenS :=
    dSeq (B_l_any_2) (B_l_any_3)
@[simp] def B_l_any_t1 : DenS :=
    dSeq (B_l_any_1) (B_l_any_t2)
@[simp] def B_l_any : DenS :=
    dSeq (B_l_any_0) (B_l_any_t1)
def F_l_any : Fn := dBody 3 B_l_any
@[simp] def B_law_1b_1b_0 : DenS :=
    dUnp (.tp [.nm 5, .nm 6]) (dTup (dCons (dCall F_l_any [] (dLast (dVar 1))) (dLast (dCall F_l_any [] (dLast (dVar 1))))))
@[simp] def B_law_1b_1b_1 : DenS :=
    dSetZ 7 (dLam [5, 6] 0 (dCall F_fraction [] (dCons (dVar 0) (dLast (dVar 1)))) F_l_tried dNil)
@[simp] def B_law_1b_1b_2 : DenS :=
    dSet 8 (dIf (dB (dOp oEq (dCons (dVar 6) (dLast (dC (.int 0)))))) (dTup (dLast (dC (.str "nought")))) (dTup (dCons (dC (.str "told")) (dLast (dCall F_l_low [] (dCons (dVar 5) (dLast (dVar 6))))))))
@[simp] def B_law_1b_1b_3 : DenS :=
    dIfS (dOrB (dNotB (dB (dCall (F_l_same 8) [] (dCons (dVar 7) (dLast (dVar 8)))))) (dNotB (dB (dCall (F_l_same 8) [] (dCons (dCall F_fraction [.int 1] (dLast (dVar 5))) (dLast (dTup (dCons (dVar 5) (dLast (dC (.int 1))))))))))) (dRetZ (dC (.bl false))) (dSkip)
@[simp] def B_law_1b_1b_4 : DenS :=
    dApp 3 (dIf (dB (dOp oNe (dCons (dVar 6) (dLast (dC (.int 0)))))) (dOp oIx (dCons (dVar 8) (dLast (dC (.int 1))))) (dTup (dCons (dVar 5) (dLast (dC (.int 1))))))
@[simp] def B_law_1b_1b_t3 : DenS :=
    dFrz 8 (dSeq (B_law_1b_1b_3) (B_law_1b_1b_4))
@[simp] def B_law_1b_1b_t2 : DenS :=
    dSeq (B_law_1b_1b_2) (B_law_1b_1b_t3)
@[simp] def B_law_1b_1b_t1 : DenS :=
    dSeq (B_law_1b_1b_1) (B_law_1b_1b_t2)
def B_law_1b_1b : DenS :=
    dSeq (B_law_1b_1b_0) (B_law_1b_1b_t1)
@[simp] def B_law_1b_3 : DenS :=
    dSetZ 6 (dOp oMul (dCons (dOp oIx (dCons (dVar 9) (dLast (dC (.int 1))))) (dLast (dOp oIx (dCons (dVar 10) (dLast (dC (.int 1))))))))
@[simp] def B_law_1b_4 : DenS :=
    dPar 11 12 (dCons (dOp oMul (dCons (dOp oIx (dCons (dVar 9) (dLast (dC (.int 0))))) (dLast (dOp oIx (dCons (dVar 10) (dLast (dC (.int 1)))))))) (dLast (dOp oMul (dCons (dOp oIx (dCons (dVar 10) (dLast (dC (.int 0))))) (dLast (dOp oIx (dCons (dVar 9) (dLast (dC (.int 1))))))))))
@[simp] def B_law_1b_5 : DenS :=
    dSet 8 (dLst (dCons (dCall F_l_low [] (dCons (dOp oAdd (dCons (dVar 11) (dLast (dVar 12)))) (dLast (dVar 6)))) (dCons (dCall F_l_low [] (dCons (dOp oSub (dCons (dVar 11) (dLast (dVar 12)))) (dLast (dVar 6)))) (dLast (dCall F_l_low [] (dCons (dOp oMul (dCons (dOp oIx (dCons (dVar 9) (dLast (dC (.int 0))))) (dLast (dOp oIx (dCons (dVar 10) (dLast (dC (.int 0)))))))) (dLast (dVar 6))))))))
@[simp] def B_law_1b_6 : DenS :=
    dApp 8 (dCall F_l_low [] (dCons (dOp oAdd (dCons (dVar 11) (dLast (dVar 12)))) (dLast (dOp oMul (dCons (dC (.int 2)) (dLast (dVar 6)))))))
@[simp] def B_law_1b_7 : DenS :=
    dIfS (dNotB (dB (dCall (F_l_same 8) [] (dCons (dLst (dCons (dCall F_plus [] (dCons (dVar 9) (dLast (dVar 10)))) (dCons (dCall F_less [] (dCons (dVar 9) (dLast (dVar 10)))) (dCons (dCall F_times [] (dCons (dVar 9) (dLast (dVar 10)))) (dLast (dCall F_middle [] (dCons (dVar 9) (dLast (dVar 10))))))))) (dLast (dVar 8)))))) (dRetZ (dC (.bl false))) (dSkip)
@[simp] def B_law_1b_8 : DenS :=
    dIfS (dNotB (dB (dCall (F_l_same 8) [] (dCons (dLst (dCons (dCall F_order [] (dCons (dVar 9) (dLast (dVar 10)))) (dLast (dCall F_order [] (dCons (dVar 9) (dLast (dVar 9))))))) (dLast (dLst (dCons (dCall F_l_before [] (dCons (dVar 9) (dLast (dVar 10)))) (dLast (dC (.int 0)))))))))) (dRetZ (dC (.bl false))) (dSkip)
@[simp] def B_law_1b_9 : DenS :=
    dSetZ 13 (dIf (dB (dOp oEq (dCons (dOp oIx (dCons (dVar 9) (dLast (dC (.int 1))))) (dLast (dC (.int 1)))))) (dOp oStr (dLast (dOp oIx (dCons (dVar 9) (dLast (dC (.int 0))))))) (dOp oAdd (dCons (dOp oAdd (dCons (dOp oStr (dLast (dOp oIx (dCons (dVar 9) (dLast (dC (.int 0))))))) (dLast (dC (.str "/"))))) (dLast (dOp oStr (dLast (dOp oIx (dCons (dVar 9) (dLast (dC (.int 1)))))))))))
@[simp] def B_law_1b_10 : DenS :=
    dIfS (dNotB (dB (dCall (F_l_same 8) [] (dCons (dCall F_fraction_text [] (dLast (dVar 9))) (dLast (dVar 13)))))) (dRetZ (dC (.bl false))) (dSkip)
@[simp] def B_law_1b_t11 : DenS :=
    dSeq (B_law_1b_9) (B_law_1b_10)
@[simp] def B_law_1b_t10 : DenS :=
    dSeq (B_law_1b_8) (B_law_1b_t11)
@[simp] def B_law_1b_t8 : DenS :=
    dFrz 8 (dSeq (B_law_1b_7) (B_law_1b_t10))
@[simp] def B_law_1b_t7 : DenS :=
    dSeq (B_law_1b_6) (B_law_1b_t8)
@[simp] def B_law_1b_t6 : DenS :=
    dSeq (B_law_1b_5) (B_law_1b_t7)
@[simp] def B_law_1b_t5 : DenS :=
    dSeq (B_law_1b_4) (B_law_1b_t6)
@[simp] def B_law_1b_t4 : DenS :=
    dSeq (B_law_1b_3) (B_law_1b_t5)
@[simp] def B_law_1b_t2 : DenS :=
    dFrz 3 (dSeq (dUnp (.tp [.nm 9, .nm 10]) (dVar 3)) (B_law_1b_t4))
@[simp] def B_law_1b_t1 : DenS :=
    dSeq (dFor (dRng1 (dLast (dC (.int 2)))) (.nm 4) (B_law_1b_1b) []) (B_law_1b_t2)
def B_law_1b : DenS :=
    dSeq (dSet 3 (dLst (dNil))) (B_law_1b_t1)
@[simp] def B_law_2 : DenS :=
    dRetZ (dOp oEq (dCons (dC (.int 1000000)) (dLast (dC (.int 1000000)))))
@[simp] def B_law : DenS :=
    dSeq (dSet 1 (dCall F_l_bag [] (dLast (dVar 0)))) (dPub 1 (dSeq (dFor (dRng1 (dLast (dC (.int 8)))) (.nm 2) (B_law_1b) []) (B_law_2)))
def F_law : Fn := dBody 14 B_law
structure Env (S : Sx) : Prop where
  b_abs : S.mg "abs" = none
  b_all : S.mg "all" = none
  b_bool : S.mg "bool" = none
  b_int : S.mg "int" = none
  b_isinstance : S.mg "isinstance" = none
  b_len : S.mg "len" = none
  b_list : S.mg "list" = none
  b_range : S.mg "range" = none
  b_str : S.mg "str" = none
  b_tuple : S.mg "tuple" = none
  c_FAR : GV S "FAR" (.int 1000000)
  k_common_divisor : Kn S "common_divisor" (top 11)
  k_fraction : KnD S "fraction" (top 12) [.int 1]
  k_plus : Kn S "plus" (top 13)
  k_less : Kn S "less" (top 14)
  k_times : Kn S "times" (top 15)
  k_middle : Kn S "middle" (top 16)
  k_order : Kn S "order" (top 17)
  k_fraction_text : Kn S "fraction_text" (top 18)
  k_l_bag : Kn S "_law_bag" (top 20)
  k_l_pull : Kn S "_law_pull" (top 21)
  k_l_same : Kn S "_law_same" (top 22)
  k_l_tried : Kn S "_law_tried" (top 23)
  k_l_gcd : Kn S "_law_gcd" (top 24)
  k_l_low : Kn S "_law_low" (top 25)
  k_l_before : Kn S "_law_before" (top 26)
  k_l_any : Kn S "_law_any" (top 27)
  k_law : Kn S "law" (top 28)
  m_ShadeError : S.mg "ShadeError" = some (.ref (S.G.cls 0))
  m_Missing : S.mg "Missing" = some (.ref (S.G.cls 1))
  m_Crowded : S.mg "Crowded" = some (.ref (S.G.cls 2))
  m_BadText : S.mg "BadText" = some (.ref (S.G.cls 15))
  m_Nought : S.mg "Nought" = some (.ref (S.G.cls 16))
  m_NoThing : S.mg "NoThing" = some (.ref (S.G.cls 18))
  m_NoLook : S.mg "NoLook" = some (.ref (S.G.cls 19))
  m_Looked : S.mg "Looked" = some (.ref (S.G.cls 22))
  x_Nought : XR S "Nought" 16 0 "nought"
  xs : ∀ d ∈ ([0, 1, 2, 15, 16, 18, 19, 22] : List Nat), d ∈ S.G.xs
  xf : XF S.G.K S.G XUP XFL
  t_law : ∃ c P, Mk0 S "law" c P
theorem Env.lamS {S : Sx} (E : Env S) (l : Nat → Option LamD) (ok : LamsOk S.P S.w S.mg S.base (S.G.wl l)) : Env (S.lamS l ok) where
  b_abs := E.b_abs
  b_all := E.b_all
  b_bool := E.b_bool
  b_int := E.b_int
  b_isinstance := E.b_isinstance
  b_len := E.b_len
  b_list := E.b_list
  b_range := E.b_range
  b_str := E.b_str
  b_tuple := E.b_tuple
  c_FAR := E.c_FAR.lamS
  k_common_divisor := E.k_common_divisor.lamS
  k_fraction := E.k_fraction.lamS
  k_plus := E.k_plus.lamS
  k_less := E.k_less.lamS
  k_times := E.k_times.lamS
  k_middle := E.k_middle.lamS
  k_order := E.k_order.lamS
  k_fraction_text := E.k_fraction_text.lamS
  k_l_bag := E.k_l_bag.lamS
  k_l_pull := E.k_l_pull.lamS
  k_l_same := E.k_l_same.lamS
  k_l_tried := E.k_l_tried.lamS
  k_l_gcd := E.k_l_gcd.lamS
  k_l_low := E.k_l_low.lamS
  k_l_before := E.k_l_before.lamS
  k_l_any := E.k_l_any.lamS
  k_law := E.k_law.lamS
  m_ShadeError := E.m_ShadeError
  m_Missing := E.m_Missing
  m_Crowded := E.m_Crowded
  m_BadText := E.m_BadText
  m_Nought := E.m_Nought
  m_NoThing := E.m_NoThing
  m_NoLook := E.m_NoLook
  m_Looked := E.m_Looked
  x_Nought := E.x_Nought.lamS
  xs := E.xs
  xf := XF.lamS E.xf
  t_law := E.t_law.imp fun _ ⟨P, h⟩ => ⟨P, h.lamS⟩
theorem Env.c0 {S : Sx} (E : Env S) : Env S.c0 where
  b_abs := E.b_abs
  b_all := E.b_all
  b_bool := E.b_bool
  b_int := E.b_int
  b_isinstance := E.b_isinstance
  b_len := E.b_len
  b_list := E.b_list
  b_range := E.b_range
  b_str := E.b_str
  b_tuple := E.b_tuple
  c_FAR := E.c_FAR.c0
  k_common_divisor := E.k_common_divisor.c0
  k_fraction := E.k_fraction.c0
  k_plus := E.k_plus.c0
  k_less := E.k_less.c0
  k_times := E.k_times.c0
  k_middle := E.k_middle.c0
  k_order := E.k_order.c0
  k_fraction_text := E.k_fraction_text.c0
  k_l_bag := E.k_l_bag.c0
  k_l_pull := E.k_l_pull.c0
  k_l_same := E.k_l_same.c0
  k_l_tried := E.k_l_tried.c0
  k_l_gcd := E.k_l_gcd.c0
  k_l_low := E.k_l_low.c0
  k_l_before := E.k_l_before.c0
  k_l_any := E.k_l_any.c0
  k_law := E.k_law.c0
  m_ShadeError := E.m_ShadeError
  m_Missing := E.m_Missing
  m_Crowded := E.m_Crowded
  m_BadText := E.m_BadText
  m_Nought := E.m_Nought
  m_NoThing := E.m_NoThing
  m_NoLook := E.m_NoLook
  m_Looked := E.m_Looked
  x_Nought := E.x_Nought.c0
  xs := E.xs
  xf := XF.lamS (l := fun _ => none) E.xf
  t_law := E.t_law.imp fun _ ⟨P, h⟩ => ⟨P, h.c0⟩
section
variable {S : Sx}
theorem sc_common_divisor : FnScope ["one", "other"] ["one", "other"] (defScope (top 11)) := ⟨rfl, rfl, rfl, by decide +kernel, rfl, by decide +kernel, by decide +kernel⟩
theorem bn_common_divisor : BindN "common_divisor" (top 11) ["one", "other"] := (fun _ _ _ _ _ _ us hl => match us, hl with | [_, _], _ => rfl)
theorem ds_common_divisor (E : Env S) : DSs (S.at ["one", "other"] (defScope (top 11)) 0) (defBody (top 11)) B_common_divisor := by
  exact (dss_cons (ds_while (dt_c ci_ne (de_var (i := 1) rfl (.inl (by kernel_rfl)) (by kernel_rfl) (by kernel_rfl)) de_int rfl) (dss_one (ds_par (i := 0) (j := 1) rfl rfl (by decide) (by kernel_rfl) (by kernel_rfl) (by kernel_rfl) (by kernel_rfl) (by kernel_rfl) (by kernel_rfl) (by kernel_rfl) (by kernel_rfl) (da_cons (de_var (i := 1) rfl (.inl (by kernel_rfl)) (by kernel_rfl) (by kernel_rfl)) (da_last (de_mod (de_var (i := 0) rfl (.inl (by kernel_rfl)) (by kernel_rfl) (by kernel_rfl)) (de_var (i := 1) rfl (.inl (by kernel_rfl)) (by kernel_rfl) (by kernel_rfl))) (fun _ _ z => by cases z)) (fun _ _ z => by cases z)))))
    (dss_one (ds_retZ (bi_abs (by kernel_rfl) E.b_abs (de_var (i := 0) rfl (.inl (by kernel_rfl)) (by kernel_rfl) (by kernel_rfl)) rfl))))
theorem g_common_divisor (E : Env S) : Good S "common_divisor" 2 F_common_divisor [] 1 := good_fn (N := ["one", "other"]) (ps := ["one", "other"]) (k := 0) (db := B_common_divisor) E.k_common_divisor sc_common_divisor (ds_common_divisor E) bn_common_divisor rfl
theorem sc_fraction : FnScope ["top", "bottom", "most"] ["top", "bottom"] (defScope (top 12)) := ⟨rfl, rfl, rfl, by decide +kernel, rfl, by decide +kernel, by decide +kernel⟩
theorem bd_fraction_d0 : BindD "fraction" (top 12) ["top", "bottom"] 2 1 1 := fun _ _ _ _ _ _ _ us its hu hi => match us, hu, its, hi with | [_, _], _, [_], _ => ⟨_, rfl, rfl⟩
theorem bd_fraction_d1 : BindD "fraction" (top 12) ["top", "bottom"] 1 1 0 := fun _ _ _ _ _ _ _ us its hu hi => match us, hu, its, hi with | [_], _, [_], _ => ⟨_, rfl, rfl⟩
theorem ds_fraction (E : Env S) : DSs (S.at ["top", "bottom", "most"] (defScope (top 12)) 2) (defBody (top 12)) B_fraction := by
  have g_common_divisor := g_common_divisor E
  exact (dss_cons (ds_if (dt_c ci_eq (de_var (i := 1) rfl (.inl (by kernel_rfl)) (by kernel_rfl) (by kernel_rfl)) de_int rfl) (dss_one (ds_raise0 E.x_Nought.at (show 2 ≤ 2 by decide) (by kernel_rfl) (by kernel_rfl))) dss_nil)
    (dss_cons (ds_setZ (i := 2) rfl (.inl (by kernel_rfl)) (.inl rfl) (de_call g_common_divisor.at (show 1 ≤ 2 by decide) (by kernel_rfl) (by kernel_rfl) (da_cons (de_var (i := 0) rfl (.inl (by kernel_rfl)) (by kernel_rfl) (by kernel_rfl)) (da_last (de_var (i := 1) rfl (.inl (by kernel_rfl)) (by kernel_rfl) (by kernel_rfl)) (fun _ _ z => by cases z)) (fun _ _ z => by cases z)) rfl rfl (len_cons len_last)) rfl)
    (dss_cons (ds_if (dt_c ci_lt (de_var (i := 1) rfl (.inl (by kernel_rfl)) (by kernel_rfl) (by kernel_rfl)) de_int rfl) (dss_one (ds_setZ (i := 2) rfl (.inl (by kernel_rfl)) (.inl rfl) (de_neg (de_var (i := 2) rfl (.inl (by kernel_rfl)) (by kernel_rfl) (by kernel_rfl))) rfl)) dss_nil)
    (dss_one (ds_retZ (de_tup (da_cons (de_fdiv (de_var (i := 0) rfl (.inl (by kernel_rfl)) (by kernel_rfl) (by kernel_rfl)) (de_var (i := 2) rfl (.inl (by kernel_rfl)) (by kernel_rfl) (by kernel_rfl))) (da_last (de_fdiv (de_var (i := 1) rfl (.inl (by kernel_rfl)) (by kernel_rfl) (by kernel_rfl)) (de_var (i := 2) rfl (.inl (by kernel_rfl)) (by kernel_rfl) (by kernel_rfl))) (fun _ _ z => by cases z)) (fun _ _ z => by cases z))))))))
theorem g_fraction_d0 (E : Env S) : Good S "fraction" 2 F_fraction [] 3 := good_fnD (N := ["top", "bottom", "most"]) (ps := ["top", "bottom"]) (j := 1) (k := 2) (db := B_fraction) E.k_fraction sc_fraction (ds_fraction E) bd_fraction_d0 (by simp) rfl rfl rfl rfl
theorem g_fraction_d1 (E : Env S) : Good S "fraction" 2 F_fraction [.int 1] 3 := good_fnD (N := ["top", "bottom", "most"]) (ps := ["top", "bottom"]) (j := 0) (k := 2) (db := B_fraction) E.k_fraction sc_fraction (ds_fraction E) bd_fraction_d1 (by simp) rfl rfl rfl rfl
theorem sc_plus : FnScope ["one", "other"] ["one", "other"] (defScope (top 13)) := ⟨rfl, rfl, rfl, by decide +kernel, rfl, by decide +kernel, by decide +kernel⟩
theorem bn_plus : BindN "plus" (top 13) ["one", "other"] := (fun _ _ _ _ _ _ us hl => match us, hl with | [_, _], _ => rfl)
theorem ds_plus (E : Env S) : DSs (S.at ["one", "other"] (defScope (top 13)) 3) (defBody (top 13)) B_plus := by
  have g_fraction_d0 := g_fraction_d0 E
  exact (dss_one (ds_retZ (de_call g_fraction_d0.at (show 3 ≤ 3 by decide) (by kernel_rfl) (by kernel_rfl) (da_cons (de_add (de_mul (de_ixs (de_var (i := 0) rfl (.inl (by kernel_rfl)) (by kernel_rfl) (by kernel_rfl)) de_int rfl) (de_ixs (de_var (i := 1) rfl (.inl (by kernel_rfl)) (by kernel_rfl) (by kernel_rfl)) de_int rfl)) (de_mul (de_ixs (de_var (i := 1) rfl (.inl (by kernel_rfl)) (by kernel_rfl) (by kernel_rfl)) de_int rfl) (de_ixs (de_var (i := 0) rfl (.inl (by kernel_rfl)) (by kernel_rfl) (by kernel_rfl)) de_int rfl))) (da_last (de_mul (de_ixs (de_var (i := 0) rfl (.inl (by kernel_rfl)) (by kernel_rfl) (by kernel_rfl)) de_int rfl) (de_ixs (de_var (i := 1) rfl (.inl (by kernel_rfl)) (by kernel_rfl) (by kernel_rfl)) de_int rfl)) (fun _ _ z => by cases z)) (fun _ _ z => by cases z)) rfl rfl (len_cons len_last))))
theorem g_plus (E : Env S) : Good S "plus" 2 F_plus [] 4 := good_fn (N := ["one", "other"]) (ps := ["one", "other"]) (k := 3) (db := B_plus) E.k_plus sc_plus (ds_plus E) bn_plus rfl
theorem sc_less : FnScope ["one", "other"] ["one", "other"] (defScope (top 14)) := ⟨rfl, rfl, rfl, by decide +kernel, rfl, by decide +kernel, by decide +kernel⟩
theorem bn_less : BindN "less" (top 14) ["one", "other"] := (fun _ _ _ _ _ _ us hl => match us, hl with | [_, _], _ => rfl)
theorem ds_less (E : Env S) : DSs (S.at ["one", "other"] (defScope (top 14)) 3) (defBody (top 14)) B_less := by
  have g_fraction_d0 := g_fraction_d0 E
  exact (dss_one (ds_retZ (de_call g_fraction_d0.at (show 3 ≤ 3 by decide) (by kernel_rfl) (by kernel_rfl) (da_cons (de_sub (de_mul (de_ixs (de_var (i := 0) rfl (.inl (by kernel_rfl)) (by kernel_rfl) (by kernel_rfl)) de_int rfl) (de_ixs (de_var (i := 1) rfl (.inl (by kernel_rfl)) (by kernel_rfl) (by kernel_rfl)) de_int rfl)) (de_mul (de_ixs (de_var (i := 1) rfl (.inl (by kernel_rfl)) (by kernel_rfl) (by kernel_rfl)) de_int rfl) (de_ixs (de_var (i := 0) rfl (.inl (by kernel_rfl)) (by kernel_rfl) (by kernel_rfl)) de_int rfl))) (da_last (de_mul (de_ixs (de_var (i := 0) rfl (.inl (by kernel_rfl)) (by kernel_rfl) (by kernel_rfl)) de_int rfl) (de_ixs (de_var (i := 1) rfl (.inl (by kernel_rfl)) (by kernel_rfl) (by kernel_rfl)) de_int rfl)) (fun _ _ z => by cases z)) (fun _ _ z => by cases z)) rfl rfl (len_cons len_last))))
theorem g_less (E : Env S) : Good S "less" 2 F_less [] 4 := good_fn (N := ["one", "other"]) (ps := ["one", "other"]) (k := 3) (db := B_less) E.k_less sc_less (ds_less E) bn_less rfl
theorem sc_times : FnScope ["one", "other"] ["one", "other"] (defScope (top 15)) := ⟨rfl, rfl, rfl, by decide +kernel, rfl, by decide +kernel, by decide +kernel⟩
theorem bn_times : BindN "times" (top 15) ["one", "other"] := (fun _ _ _ _ _ _ us hl => match us, hl with | [_, _], _ => rfl)
theorem ds_times (E : Env S) : DSs (S.at ["one", "other"] (defScope (top 15)) 3) (defBody (top 15)) B_times := by
  have g_fraction_d0 := g_fraction_d0 E
  exact (dss_one (ds_retZ (de_call g_fraction_d0.at (show 3 ≤ 3 by decide) (by kernel_rfl) (by kernel_rfl) (da_cons (de_mul (de_ixs (de_var (i := 0) rfl (.inl (by kernel_rfl)) (by kernel_rfl) (by kernel_rfl)) de_int rfl) (de_ixs (de_var (i := 1) rfl (.inl (by kernel_rfl)) (by kernel_rfl) (by kernel_rfl)) de_int rfl)) (da_last (de_mul (de_ixs (de_var (i := 0) rfl (.inl (by kernel_rfl)) (by kernel_rfl) (by kernel_rfl)) de_int rfl) (de_ixs (de_var (i := 1) rfl (.inl (by kernel_rfl)) (by kernel_rfl) (by kernel_rfl)) de_int rfl)) (fun _ _ z => by cases z)) (fun _ _ z => by cases z)) rfl rfl (len_cons len_last))))
theorem g_times (E : Env S) : Good S "times" 2 F_times [] 4 := good_fn (N := ["one", "other"]) (ps := ["one", "other"]) (k := 3) (db := B_times) E.k_times sc_times (ds_times E) bn_times rfl
theorem sc_middle : FnScope ["one", "other"] ["one", "other"] (defScope (top 16)) := ⟨rfl, rfl, rfl, by decide +kernel, rfl, by decide +kernel, by decide +kernel⟩
theorem bn_middle : BindN "middle" (top 16) ["one", "other"] := (fun _ _ _ _ _ _ us hl => match us, hl with | [_, _], _ => rfl)
theorem ds_middle (E : Env S) : DSs (S.at ["one", "other"] (defScope (top 16)) 3) (defBody (top 16)) B_middle := by
  have g_fraction_d0 := g_fraction_d0 E
  exact (dss_one (ds_retZ (de_call g_fraction_d0.at (show 3 ≤ 3 by decide) (by kernel_rfl) (by kernel_rfl) (da_cons (de_add (de_mul (de_ixs (de_var (i := 0) rfl (.inl (by kernel_rfl)) (by kernel_rfl) (by kernel_rfl)) de_int rfl) (de_ixs (de_var (i := 1) rfl (.inl (by kernel_rfl)) (by kernel_rfl) (by kernel_rfl)) de_int rfl)) (de_mul (de_ixs (de_var (i := 1) rfl (.inl (by kernel_rfl)) (by kernel_rfl) (by kernel_rfl)) de_int rfl) (de_ixs (de_var (i := 0) rfl (.inl (by kernel_rfl)) (by kernel_rfl) (by kernel_rfl)) de_int rfl))) (da_last (de_mul (de_mul de_int (de_ixs (de_var (i := 0) rfl (.inl (by kernel_rfl)) (by kernel_rfl) (by kernel_rfl)) de_int rfl)) (de_ixs (de_var (i := 1) rfl (.inl (by kernel_rfl)) (by kernel_rfl) (by kernel_rfl)) de_int rfl)) (fun _ _ z => by cases z)) (fun _ _ z => by cases z)) rfl rfl (len_cons len_last))))
theorem g_middle (E : Env S) : Good S "middle" 2 F_middle [] 4 := good_fn (N := ["one", "other"]) (ps := ["one", "other"]) (k := 3) (db := B_middle) E.k_middle sc_middle (ds_middle E) bn_middle rfl
theorem sc_order : FnScope ["one", "other", "gap"] ["one", "other"] (defScope (top 17)) := ⟨rfl, rfl, rfl, by decide +kernel, rfl, by decide +kernel, by decide +kernel⟩
theorem bn_order : BindN "order" (top 17) ["one", "other"] := (fun _ _ _ _ _ _ us hl => match us, hl with | [_, _], _ => rfl)
theorem ds_order (E : Env S) : DSs (S.at ["one", "other", "gap"] (defScope (top 17)) 0) (defBody (top 17)) B_order := by
  exact (dss_cons (ds_setZ (i := 2) rfl (.inl (by kernel_rfl)) (.inl rfl) (de_sub (de_mul (de_ixs (de_var (i := 0) rfl (.inl (by kernel_rfl)) (by kernel_rfl) (by kernel_rfl)) de_int rfl) (de_ixs (de_var (i := 1) rfl (.inl (by kernel_rfl)) (by kernel_rfl) (by kernel_rfl)) de_int rfl)) (de_mul (de_ixs (de_var (i := 1) rfl (.inl (by kernel_rfl)) (by kernel_rfl) (by kernel_rfl)) de_int rfl) (de_ixs (de_var (i := 0) rfl (.inl (by kernel_rfl)) (by kernel_rfl) (by kernel_rfl)) de_int rfl))) rfl)
    (dss_one (ds_retZ (de_sub (de_c ci_gt (de_var (i := 2) rfl (.inl (by kernel_rfl)) (by kernel_rfl) (by kernel_rfl)) de_int rfl) (de_c ci_lt (de_var (i := 2) rfl (.inl (by kernel_rfl)) (by kernel_rfl) (by kernel_rfl)) de_int rfl)))))
theorem g_order (E : Env S) : Good S "order" 2 F_order [] 1 := good_fn (N := ["one", "other", "gap"]) (ps := ["one", "other"]) (k := 0) (db := B_order) E.k_order sc_order (ds_order E) bn_order rfl
theorem sc_fraction_text : FnScope ["one", "top", "bottom"] ["one"] (defScope (top 18)) := ⟨rfl, rfl, rfl, by decide +kernel, rfl, by decide +kernel, by decide +kernel⟩
theorem bn_fraction_text : BindN "fraction_text" (top 18) ["one"] := (fun _ _ _ _ _ _ us hl => match us, hl with | [_], _ => rfl)
theorem ds_fraction_text (E : Env S) : DSs (S.at ["one", "top", "bottom"] (defScope (top 18)) 0) (defBody (top 18)) B_fraction_text := by
  exact (dss_cons (ds_unpT (dg_tup (dgs_cons (dg_nm (i := 1) rfl (.inl (by kernel_rfl)) (.inl rfl)) (dgs_cons (dg_nm (i := 2) rfl (.inl (by kernel_rfl)) (.inl rfl)) dgs_nil (fun _ _ z => by cases z)) (fun _ _ z => by cases z)) rfl rfl) (de_var (i := 0) rfl (.inl (by kernel_rfl)) (by kernel_rfl) (by kernel_rfl)) rfl)
    (dss_one (ds_retZ (de_if (dt_c ci_eq (de_var (i := 2) rfl (.inl (by kernel_rfl)) (by kernel_rfl) (by kernel_rfl)) de_int rfl) (de_fs1 (de_fmt (de_var (i := 1) rfl (.inl (by kernel_rfl)) (by kernel_rfl) (by kernel_rfl)))) (de_fs (.cons (de_fmt (de_var (i := 1) rfl (.inl (by kernel_rfl)) (by kernel_rfl) (by kernel_rfl))) (.cons de_str (.cons (de_fmt (de_var (i := 2) rfl (.inl (by kernel_rfl)) (by kernel_rfl) (by kernel_rfl))) .nil))))))))
theorem g_fraction_text (E : Env S) : Good S "fraction_text" 1 F_fraction_text [] 1 := good_fn (N := ["one", "top", "bottom"]) (ps := ["one"]) (k := 0) (db := B_fraction_text) E.k_fraction_text sc_fraction_text (ds_fraction_text E) bn_fraction_text rfl
theorem sc_l_bag : FnScope ["_law_script", "_law_salt", "_law_cell"] ["_law_script"] (defScope (top 20)) := ⟨rfl, rfl, rfl, by decide +kernel, rfl, by decide +kernel, by decide +kernel⟩
theorem bn_l_bag : BindN "_law_bag" (top 20) ["_law_script"] := (fun _ _ _ _ _ _ us hl => match us, hl with | [_], _ => rfl)
theorem ds_l_bag (E : Env S) : DSs (S.at ["_law_script", "_law_salt", "_law_cell"] (defScope (top 20)) 0) (defBody (top 20)) B_l_bag := by
  exact (dss_cons (ds_setZ (i := 1) rfl (.inl (by kernel_rfl)) (.inl rfl) (de_add de_int (bi_len (by kernel_rfl) E.b_len (de_slH (de_var (i := 0) rfl (.inl (by kernel_rfl)) (by kernel_rfl) (by kernel_rfl)) de_int) rfl)) rfl)
    (dss_cons (ds_for (di_val' (de_slH (de_var (i := 0) rfl (.inl (by kernel_rfl)) (by kernel_rfl) (by kernel_rfl)) de_int)) (dg_nm (i := 2) rfl (.inl (by kernel_rfl)) (.inl rfl)) (dss_one (ds_setZ (i := 1) rfl (.inl (by kernel_rfl)) (.inl rfl) (de_mod (de_add (de_add (de_mul (de_var (i := 1) rfl (.inl (by kernel_rfl)) (by kernel_rfl) (by kernel_rfl)) de_int) (de_mod (de_var (i := 2) rfl (.inl (by kernel_rfl)) (by kernel_rfl) (by kernel_rfl)) de_int)) de_int) de_int) rfl)) rfl)
    (dss_one (ds_ret (de_lst (da_cons (bi_list (by kernel_rfl) E.b_list (de_slH (de_var (i := 0) rfl (.inl (by kernel_rfl)) (by kernel_rfl) (by kernel_rfl)) de_int) rfl) (da_cons de_int (da_cons de_int (da_cons (de_var (i := 1) rfl (.inl (by kernel_rfl)) (by kernel_rfl) (by kernel_rfl)) (da_last de_int (fun _ _ z => by cases z)) (fun _ _ z => by cases z)) (fun _ _ z => by cases z)) (fun _ _ z => by cases z)) (fun _ _ z => by cases z)))))))
theorem g_l_bag (E : Env S) : Good S "_law_bag" 1 F_l_bag [] 1 := good_fn (N := ["_law_script", "_law_salt", "_law_cell"]) (ps := ["_law_script"]) (k := 0) (db := B_l_bag) E.k_l_bag sc_l_bag (ds_l_bag E) bn_l_bag rfl
theorem sc_l_pull : FnScope ["_law_bag_here", "_law_many", "_law_cell", "_law_got", "_law_wider"] ["_law_bag_here", "_law_many"] (defScope (top 21)) := ⟨rfl, rfl, rfl, by decide +kernel, rfl, by decide +kernel, by decide +kernel⟩
theorem bn_l_pull : BindN "_law_pull" (top 21) ["_law_bag_here", "_law_many"] := (fun _ _ _ _ _ _ us hl => match us, hl with | [_, _], _ => rfl)
theorem ds_l_pull (E : Env S) : DSs (S.at ["_law_bag_here", "_law_many", "_law_cell", "_law_got", "_law_wider"] (defScope (top 21)) 0) (defBody (top 21)) B_l_pull := by
  exact (dss_cons (ds_if (dt_w (dw_and (dt_c ci_eq (de_ixs (de_var (i := 0) rfl (.inl (by kernel_rfl)) (by kernel_rfl) (by kernel_rfl)) de_int rfl) de_int rfl) (dw_and1 (dt_c ci_lt (de_ixs (de_var (i := 0) rfl (.inl (by kernel_rfl)) (by kernel_rfl) (by kernel_rfl)) de_int rfl) (bi_len (by kernel_rfl) E.b_len (de_ixs (de_var (i := 0) rfl (.inl (by kernel_rfl)) (by kernel_rfl) (by kernel_rfl)) de_int rfl) rfl) rfl)))) (dss_cons (ds_setZ (i := 2) rfl (.inl (by kernel_rfl)) (.inl rfl) (de_ixs (de_ixs (de_var (i := 0) rfl (.inl (by kernel_rfl)) (by kernel_rfl) (by kernel_rfl)) de_int rfl) (de_ixs (de_var (i := 0) rfl (.inl (by kernel_rfl)) (by kernel_rfl) (by kernel_rfl)) de_int rfl) rfl) rfl)
    (dss_cons (ds_putc (de_var (i := 0) rfl (.inl (by kernel_rfl)) (by kernel_rfl) (by kernel_rfl)) de_int (de_add (de_ixs (de_var (i := 0) rfl (.inl (by kernel_rfl)) (by kernel_rfl) (by kernel_rfl)) de_int rfl) de_int) rfl rfl rfl)
    (dss_one (ds_if (dt_c ci_ge (de_var (i := 2) rfl (.inl (by kernel_rfl)) (by kernel_rfl) (by kernel_rfl)) (de_pow de_int de_int) rfl) (dss_one (ds_putc (de_var (i := 0) rfl (.inl (by kernel_rfl)) (by kernel_rfl) (by kernel_rfl)) de_int (de_var (i := 2) rfl (.inl (by kernel_rfl)) (by kernel_rfl) (by kernel_rfl)) rfl rfl rfl)) (dss_one (ds_putc (de_var (i := 0) rfl (.inl (by kernel_rfl)) (by kernel_rfl) (by kernel_rfl)) de_int (de_mod (de_add (de_add (de_mul (de_ixs (de_var (i := 0) rfl (.inl (by kernel_rfl)) (by kernel_rfl) (by kernel_rfl)) de_int rfl) de_int) (de_mod (de_var (i := 2) rfl (.inl (by kernel_rfl)) (by kernel_rfl) (by kernel_rfl)) de_int)) de_int) de_int) rfl rfl rfl)))))) dss_nil)
    (dss_cons (ds_if (dt_c ci_gt (de_ixs (de_var (i := 0) rfl (.inl (by kernel_rfl)) (by kernel_rfl) (by kernel_rfl)) de_int rfl) de_int rfl) (dss_cons (ds_setZ (i := 3) rfl (.inl (by kernel_rfl)) (.inl rfl) (de_mod (de_ixs (de_var (i := 0) rfl (.inl (by kernel_rfl)) (by kernel_rfl) (by kernel_rfl)) de_int rfl) (de_var (i := 1) rfl (.inl (by kernel_rfl)) (by kernel_rfl) (by kernel_rfl))) rfl)
    (dss_cons (ds_putc (de_var (i := 0) rfl (.inl (by kernel_rfl)) (by kernel_rfl) (by kernel_rfl)) de_int (de_fdiv (de_ixs (de_var (i := 0) rfl (.inl (by kernel_rfl)) (by kernel_rfl) (by kernel_rfl)) de_int rfl) (de_var (i := 1) rfl (.inl (by kernel_rfl)) (by kernel_rfl) (by kernel_rfl))) rfl rfl rfl)
    (dss_one (ds_retZ (de_var (i := 3) rfl (.inl (by kernel_rfl)) (by kernel_rfl) (by kernel_rfl)))))) dss_nil)
    (dss_cons (ds_putc (de_var (i := 0) rfl (.inl (by kernel_rfl)) (by kernel_rfl) (by kernel_rfl)) de_int (de_add (de_ixs (de_var (i := 0) rfl (.inl (by kernel_rfl)) (by kernel_rfl) (by kernel_rfl)) de_int rfl) de_int) rfl rfl rfl)
    (dss_cons (ds_setZ (i := 4) rfl (.inl (by kernel_rfl)) (.inl rfl) (de_add (de_mul (de_ixs (de_var (i := 0) rfl (.inl (by kernel_rfl)) (by kernel_rfl) (by kernel_rfl)) de_int rfl) (de_ixs (de_var (i := 0) rfl (.inl (by kernel_rfl)) (by kernel_rfl) (by kernel_rfl)) de_int rfl)) (de_mul (de_mul de_int (de_ixs (de_var (i := 0) rfl (.inl (by kernel_rfl)) (by kernel_rfl) (by kernel_rfl)) de_int rfl)) (de_add (de_mod (de_ixs (de_var (i := 0) rfl (.inl (by kernel_rfl)) (by kernel_rfl) (by kernel_rfl)) de_int rfl) de_int) de_int))) rfl)
    (dss_cons (ds_putc (de_var (i := 0) rfl (.inl (by kernel_rfl)) (by kernel_rfl) (by kernel_rfl)) de_int (de_mod (de_add (de_add (de_var (i := 4) rfl (.inl (by kernel_rfl)) (by kernel_rfl) (by kernel_rfl)) (de_mul (de_mul (de_ixs (de_var (i := 0) rfl (.inl (by kernel_rfl)) (by kernel_rfl) (by kernel_rfl)) de_int rfl) (de_ixs (de_var (i := 0) rfl (.inl (by kernel_rfl)) (by kernel_rfl) (by kernel_rfl)) de_int rfl)) (de_ixs (de_var (i := 0) rfl (.inl (by kernel_rfl)) (by kernel_rfl) (by kernel_rfl)) de_int rfl))) de_int) de_int) rfl rfl rfl)
    (dss_one (ds_retZ (de_mod (de_add (de_fdiv (de_ixs (de_var (i := 0) rfl (.inl (by kernel_rfl)) (by kernel_rfl) (by kernel_rfl)) de_int rfl) de_int) (de_mul (de_mod (de_ixs (de_var (i := 0) rfl (.inl (by kernel_rfl)) (by kernel_rfl) (by kernel_rfl)) de_int rfl) de_int) de_int)) (de_var (i := 1) rfl (.inl (by kernel_rfl)) (by kernel_rfl) (by kernel_rfl))))))))))
theorem g_l_pull (E : Env S) : Good S "_law_pull" 2 F_l_pull [] 1 := good_fn (N := ["_law_bag_here", "_law_many", "_law_cell", "_law_got", "_law_wider"]) (ps := ["_law_bag_here", "_law_many"]) (k := 0) (db := B_l_pull) E.k_l_pull sc_l_pull (ds_l_pull E) bn_l_pull rfl
theorem sc_l_same : FnScope ["_law_got", "_law_due", "_law_k"] ["_law_got", "_law_due"] (defScope (top 22)) := ⟨rfl, rfl, rfl, by decide +kernel, rfl, by decide +kernel, by decide +kernel⟩
theorem bn_l_same : BindN "_law_same" (top 22) ["_law_got", "_law_due"] := (fun _ _ _ _ _ _ us hl => match us, hl with | [_, _], _ => rfl)
theorem ds_l_same (E : Env S) (m : Nat) (g_rec : Good S "_law_same" 2 (F_l_same m) [] (1 + m)) : DSs (S.at ["_law_got", "_law_due", "_law_k"] (defScope (top 22)) (1 + m)) (defBody (top 22)) (B_l_same (F_l_same m)) := by
  exact (dss_cons (ds_if (dt_w (dw_or (dt_c ci_is (de_var (i := 1) rfl (.inr (.inl (by kernel_rfl))) (by kernel_rfl) (by kernel_rfl)) de_non rfl) (dw_or1 (dt_c ci_is (de_var (i := 0) rfl (.inr (.inl (by kernel_rfl))) (by kernel_rfl) (by kernel_rfl)) de_non rfl)))) (dss_one (ds_retZ (de_and (de_c ci_is (de_var (i := 1) rfl (.inr (.inl (by kernel_rfl))) (by kernel_rfl) (by kernel_rfl)) de_non rfl) (de_one (de_c ci_is (de_var (i := 0) rfl (.inr (.inl (by kernel_rfl))) (by kernel_rfl) (by kernel_rfl)) de_non rfl))))) dss_nil)
    (dss_cons (ds_if (dt_w (dw_or (dt_val (de_isi (by kernel_rfl) E.b_isinstance (de_var (i := 1) rfl (.inr (.inl (by kernel_rfl))) (by kernel_rfl) (by kernel_rfl)) rfl (by kernel_rfl) E.b_bool (by rfl) (by decide) (by kernel_rfl)) rfl) (dw_or1 (dt_val (de_isi (by kernel_rfl) E.b_isinstance (de_var (i := 0) rfl (.inr (.inl (by kernel_rfl))) (by kernel_rfl) (by kernel_rfl)) rfl (by kernel_rfl) E.b_bool (by rfl) (by decide) (by kernel_rfl)) rfl)))) (dss_one (ds_retZ (de_and (de_isi (by kernel_rfl) E.b_isinstance (de_var (i := 1) rfl (.inr (.inl (by kernel_rfl))) (by kernel_rfl) (by kernel_rfl)) rfl (by kernel_rfl) E.b_bool (by rfl) (by decide) (by kernel_rfl)) (de_and (de_isi (by kernel_rfl) E.b_isinstance (de_var (i := 0) rfl (.inr (.inl (by kernel_rfl))) (by kernel_rfl) (by kernel_rfl)) rfl (by kernel_rfl) E.b_bool (by rfl) (by decide) (by kernel_rfl)) (de_one (de_c ci_eq (de_var (i := 0) rfl (.inr (.inl (by kernel_rfl))) (by kernel_rfl) (by kernel_rfl)) (de_var (i := 1) rfl (.inr (.inl (by kernel_rfl))) (by kernel_rfl) (by kernel_rfl)) rfl)))))) dss_nil)
    (dss_cons (ds_if (dt_val (de_isiT (by kernel_rfl) E.b_isinstance (de_var (i := 1) rfl (.inr (.inl (by kernel_rfl))) (by kernel_rfl) (by kernel_rfl)) rfl rfl (tyns_cons (by kernel_rfl) E.b_int (by rfl) (by decide) (by kernel_rfl) (tyns_cons (by kernel_rfl) E.b_str (by rfl) (by decide) (by kernel_rfl) tyns_nil))) rfl) (dss_one (ds_retZ (de_and (de_c ci_eq (de_isi (by kernel_rfl) E.b_isinstance (de_var (i := 0) rfl (.inr (.inl (by kernel_rfl))) (by kernel_rfl) (by kernel_rfl)) rfl (by kernel_rfl) E.b_int (by rfl) (by decide) (by kernel_rfl)) (de_isi (by kernel_rfl) E.b_isinstance (de_var (i := 1) rfl (.inr (.inl (by kernel_rfl))) (by kernel_rfl) (by kernel_rfl)) rfl (by kernel_rfl) E.b_int (by rfl) (by decide) (by kernel_rfl)) rfl) (de_one (de_c ci_eq (de_var (i := 0) rfl (.inr (.inl (by kernel_rfl))) (by kernel_rfl) (by kernel_rfl)) (de_var (i := 1) rfl (.inr (.inl (by kernel_rfl))) (by kernel_rfl) (by kernel_rfl)) rfl))))) dss_nil)
    (dss_cons (ds_if (dt_w (dw_or (dt_c ci_ne (de_isi (by kernel_rfl) E.b_isinstance (de_var (i := 1) rfl (.inr (.inl (by kernel_rfl))) (by kernel_rfl) (by kernel_rfl)) rfl (by kernel_rfl) E.b_list (by rfl) (by decide) (by kernel_rfl)) (de_isi (by kernel_rfl) E.b_isinstance (de_var (i := 0) rfl (.inr (.inl (by kernel_rfl))) (by kernel_rfl) (by kernel_rfl)) rfl (by kernel_rfl) E.b_list (by rfl) (by decide) (by kernel_rfl)) rfl) (dw_or1 (dt_c ci_ne (de_isi (by kernel_rfl) E.b_isinstance (de_var (i := 1) rfl (.inr (.inl (by kernel_rfl))) (by kernel_rfl) (by kernel_rfl)) rfl (by kernel_rfl) E.b_tuple (by rfl) (by decide) (by kernel_rfl)) (de_isi (by kernel_rfl) E.b_isinstance (de_var (i := 0) rfl (.inr (.inl (by kernel_rfl))) (by kernel_rfl) (by kernel_rfl)) rfl (by kernel_rfl) E.b_tuple (by rfl) (by decide) (by kernel_rfl)) rfl)))) (dss_one (ds_retZ de_bl)) dss_nil)
    (dss_one (ds_retZ (de_and (de_c ci_eq (bi_len (by kernel_rfl) E.b_len (de_var (i := 0) rfl (.inr (.inl (by kernel_rfl))) (by kernel_rfl) (by kernel_rfl)) rfl) (bi_len (by kernel_rfl) E.b_len (de_var (i := 1) rfl (.inr (.inl (by kernel_rfl))) (by kernel_rfl) (by kernel_rfl)) rfl) rfl) (de_one (bi_all (by kernel_rfl) E.b_all (de_lc (own := [("_law_k", 2)]) (di_rng1 (da_last (bi_len (by kernel_rfl) E.b_len (de_var (i := 1) rfl (.inr (.inl (by kernel_rfl))) (by kernel_rfl) (by kernel_rfl)) rfl) (fun _ _ z => by cases z)) (fun _ _ z => by cases z) (by kernel_rfl) E.b_range) (dg_nm (i := 2) rfl (.inl (by kernel_rfl)) (.inr (by kernel_rfl))) dif_nil (de_call g_rec.at.blk (Nat.le_refl _) (by kernel_rfl) (by kernel_rfl) (da_cons (de_ixs (de_var (i := 0) rfl (.inr (.inl (by kernel_rfl))) (by kernel_rfl) (by kernel_rfl)) (de_var (i := 2) rfl (.inl (by kernel_rfl)) (by kernel_rfl) (by kernel_rfl)) rfl) (da_last (de_ixs (de_var (i := 1) rfl (.inr (.inl (by kernel_rfl))) (by kernel_rfl) (by kernel_rfl)) (de_var (i := 2) rfl (.inl (by kernel_rfl)) (by kernel_rfl) (by kernel_rfl)) rfl) (fun _ _ z => by cases z)) (fun _ _ z => by cases z)) rfl rfl (len_cons len_last)) (blk_ok (by kernel_rfl)) (by decide +kernel) rfl) rfl)))))))))
theorem g_l_same (E : Env S) : ∀ m, Good S "_law_same" 2 (F_l_same m) [] (1 + m)
  | 0 => good_stuck (N := ["_law_got", "_law_due", "_law_k"]) (ps := ["_law_got", "_law_due"]) (k := 0) E.k_l_same sc_l_same bn_l_same rfl
  | m + 1 => good_fn (N := ["_law_got", "_law_due", "_law_k"]) (ps := ["_law_got", "_law_due"]) (k := 1 + m) (db := B_l_same (F_l_same m)) E.k_l_same sc_l_same (ds_l_same E m (g_l_same E m)) bn_l_same rfl
theorem sc_l_tried : FnScope ["_law_act", "e"] ["_law_act"] (defScope (top 23)) := ⟨rfl, rfl, rfl, by decide +kernel, rfl, by decide +kernel, by decide +kernel⟩
theorem bn_l_tried : BindN "_law_tried" (top 23) ["_law_act"] := (fun _ _ _ _ _ _ us hl => match us, hl with | [_], _ => rfl)
theorem ds_l_tried (E : Env S) : DSs (S.at ["_law_act", "e"] (defScope (top 23)) 60) (defBody (top 23)) (B_l_tried S.G.lr) := by
  exact (dss_one (ds_try (dss_one (ds_retZ (de_tup (da_cons de_str (da_last (de_clo0 (i := 0) rfl (.inl (by kernel_rfl)) (show 60 ≤ 60 by decide)) (fun _ _ z => by cases z)) (fun _ _ z => by cases z))))) (.cons (cl := [18]) (i := 1) (fun X hX => .one (names_of hX (by kernel_rfl) E.m_NoThing)) (mem_sub E.xs (by decide)) rfl (by kernel_rfl) (by decide) (by decide) (.cons (.cons (.cons .nil))) (fun _ _ _ _ _ => rfl) (.cons (cl := [19, 22]) (i := 1) (fun X hX => .two (names_of hX (by kernel_rfl) E.m_NoLook) (names_of hX (by kernel_rfl) E.m_Looked)) (mem_sub E.xs (by decide)) rfl (by kernel_rfl) (by decide) (by decide) (.cons (.cons .nil)) (fun _ _ _ _ _ => rfl) (.cons (cl := [15]) (i := 1) (fun X hX => .one (names_of hX (by kernel_rfl) E.m_BadText)) (mem_sub E.xs (by decide)) rfl (by kernel_rfl) (by decide) (by decide) (.cons (.cons .nil)) (fun _ _ _ _ _ => rfl) (.cons (cl := [0, 1, 2]) (i := 1) (fun X hX => .three (names_of hX (by kernel_rfl) E.m_ShadeError) (names_of hX (by kernel_rfl) E.m_Missing) (names_of hX (by kernel_rfl) E.m_Crowded)) (mem_sub E.xs (by decide)) rfl (by kernel_rfl) (by decide) (by decide) (.cons .nil) (fun _ _ _ _ _ => rfl) .nil)))) E.xf rfl))
theorem gL_l_tried (E : Env S) : GoodL S "_law_tried" 1 F_l_tried 61 := goodL_fn (N := ["_law_act", "e"]) (ps := ["_law_act"]) (k := 60) (db := B_l_tried) E.k_l_tried sc_l_tried (fun l ok => ds_l_tried (E.lamS l ok)) bn_l_tried rfl
theorem sc_l_gcd : FnScope ["_law_one", "_law_other"] ["_law_one", "_law_other"] (defScope (top 24)) := ⟨rfl, rfl, rfl, by decide +kernel, rfl, by decide +kernel, by decide +kernel⟩
theorem bn_l_gcd : BindN "_law_gcd" (top 24) ["_law_one", "_law_other"] := (fun _ _ _ _ _ _ us hl => match us, hl with | [_, _], _ => rfl)
theorem ds_l_gcd (E : Env S) : DSs (S.at ["_law_one", "_law_other"] (defScope (top 24)) 0) (defBody (top 24)) B_l_gcd := by
  exact (dss_cons (ds_par (i := 0) (j := 1) rfl rfl (by decide) (by kernel_rfl) (by kernel_rfl) (by kernel_rfl) (by kernel_rfl) (by kernel_rfl) (by kernel_rfl) (by kernel_rfl) (by kernel_rfl) (da_cons (bi_abs (by kernel_rfl) E.b_abs (de_var (i := 0) rfl (.inl (by kernel_rfl)) (by kernel_rfl) (by kernel_rfl)) rfl) (da_last (bi_abs (by kernel_rfl) E.b_abs (de_var (i := 1) rfl (.inl (by kernel_rfl)) (by kernel_rfl) (by kernel_rfl)) rfl) (fun _ _ z => by cases z)) (fun _ _ z => by cases z)))
    (dss_cons (ds_while (dt_c ci_gt (de_var (i := 1) rfl (.inl (by kernel_rfl)) (by kernel_rfl) (by kernel_rfl)) de_int rfl) (dss_one (ds_par (i := 0) (j := 1) rfl rfl (by decide) (by kernel_rfl) (by kernel_rfl) (by kernel_rfl) (by kernel_rfl) (by kernel_rfl) (by kernel_rfl) (by kernel_rfl) (by kernel_rfl) (da_cons (de_var (i := 1) rfl (.inl (by kernel_rfl)) (by kernel_rfl) (by kernel_rfl)) (da_last (de_mod (de_var (i := 0) rfl (.inl (by kernel_rfl)) (by kernel_rfl) (by kernel_rfl)) (de_var (i := 1) rfl (.inl (by kernel_rfl)) (by kernel_rfl) (by kernel_rfl))) (fun _ _ z => by cases z)) (fun _ _ z => by cases z)))))
    (dss_one (ds_retZ (de_var (i := 0) rfl (.inl (by kernel_rfl)) (by kernel_rfl) (by kernel_rfl))))))
theorem g_l_gcd (E : Env S) : Good S "_law_gcd" 2 F_l_gcd [] 1 := good_fn (N := ["_law_one", "_law_other"]) (ps := ["_law_one", "_law_other"]) (k := 0) (db := B_l_gcd) E.k_l_gcd sc_l_gcd (ds_l_gcd E) bn_l_gcd rfl
theorem sc_l_low : FnScope ["_law_top", "_law_bottom", "_law_upto"] ["_law_top", "_law_bottom"] (defScope (top 25)) := ⟨rfl, rfl, rfl, by decide +kernel, rfl, by decide +kernel, by decide +kernel⟩
theorem bn_l_low : BindN "_law_low" (top 25) ["_law_top", "_law_bottom"] := (fun _ _ _ _ _ _ us hl => match us, hl with | [_, _], _ => rfl)
theorem ds_l_low (E : Env S) : DSs (S.at ["_law_top", "_law_bottom", "_law_upto"] (defScope (top 25)) 1) (defBody (top 25)) B_l_low := by
  have g_l_gcd := g_l_gcd E
  exact (dss_cons (ds_setZ (i := 2) rfl (.inl (by kernel_rfl)) (.inl rfl) (de_call g_l_gcd.at (show 1 ≤ 1 by decide) (by kernel_rfl) (by kernel_rfl) (da_cons (de_var (i := 0) rfl (.inl (by kernel_rfl)) (by kernel_rfl) (by kernel_rfl)) (da_last (de_var (i := 1) rfl (.inl (by kernel_rfl)) (by kernel_rfl) (by kernel_rfl)) (fun _ _ z => by cases z)) (fun _ _ z => by cases z)) rfl rfl (len_cons len_last)) rfl)
    (dss_cons (ds_if (dt_c ci_lt (de_var (i := 1) rfl (.inl (by kernel_rfl)) (by kernel_rfl) (by kernel_rfl)) de_int rfl) (dss_one (ds_setZ (i := 2) rfl (.inl (by kernel_rfl)) (.inl rfl) (de_sub de_int (de_var (i := 2) rfl (.inl (by kernel_rfl)) (by kernel_rfl) (by kernel_rfl))) rfl)) dss_nil)
    (dss_one (ds_retZ (de_tup (da_cons (de_fdiv (de_var (i := 0) rfl (.inl (by kernel_rfl)) (by kernel_rfl) (by kernel_rfl)) (de_var (i := 2) rfl (.inl (by kernel_rfl)) (by kernel_rfl) (by kernel_rfl))) (da_last (de_fdiv (de_var (i := 1) rfl (.inl (by kernel_rfl)) (by kernel_rfl) (by kernel_rfl)) (de_var (i := 2) rfl (.inl (by kernel_rfl)) (by kernel_rfl) (by kernel_rfl))) (fun _ _ z => by cases z)) (fun _ _ z => by cases z)))))))
theorem g_l_low (E : Env S) : Good S "_law_low" 2 F_l_low [] 2 := good_fn (N := ["_law_top", "_law_bottom", "_law_upto"]) (ps := ["_law_top", "_law_bottom"]) (k := 1) (db := B_l_low) E.k_l_low sc_l_low (ds_l_low E) bn_l_low rfl
theorem sc_l_before : FnScope ["_law_one", "_law_other", "_law_gap"] ["_law_one", "_law_other"] (defScope (top 26)) := ⟨rfl, rfl, rfl, by decide +kernel, rfl, by decide +kernel, by decide +kernel⟩
theorem bn_l_before : BindN "_law_before" (top 26) ["_law_one", "_law_other"] := (fun _ _ _ _ _ _ us hl => match us, hl with | [_, _], _ => rfl)
theorem ds_l_before (E : Env S) : DSs (S.at ["_law_one", "_law_other", "_law_gap"] (defScope (top 26)) 0) (defBody (top 26)) B_l_before := by
  exact (dss_cons (ds_setZ (i := 2) rfl (.inl (by kernel_rfl)) (.inl rfl) (de_sub (de_mul (de_ixs (de_var (i := 0) rfl (.inl (by kernel_rfl)) (by kernel_rfl) (by kernel_rfl)) de_int rfl) (de_ixs (de_var (i := 1) rfl (.inl (by kernel_rfl)) (by kernel_rfl) (by kernel_rfl)) de_int rfl)) (de_mul (de_ixs (de_var (i := 1) rfl (.inl (by kernel_rfl)) (by kernel_rfl) (by kernel_rfl)) de_int rfl) (de_ixs (de_var (i := 0) rfl (.inl (by kernel_rfl)) (by kernel_rfl) (by kernel_rfl)) de_int rfl))) rfl)
    (dss_one (ds_retZ (de_if (dt_c ci_lt (de_var (i := 2) rfl (.inl (by kernel_rfl)) (by kernel_rfl) (by kernel_rfl)) de_int rfl) (de_neg de_int) (bi_int (by kernel_rfl) E.b_int (de_c ci_gt (de_var (i := 2) rfl (.inl (by kernel_rfl)) (by kernel_rfl) (by kernel_rfl)) de_int rfl) rfl)))))
theorem g_l_before (E : Env S) : Good S "_law_before" 2 F_l_before [] 1 := good_fn (N := ["_law_one", "_law_other", "_law_gap"]) (ps := ["_law_one", "_law_other"]) (k := 0) (db := B_l_before) E.k_l_before sc_l_before (ds_l_before E) bn_l_before rfl
theorem sc_l_any : FnScope ["_law_bag_here", "_law_way", "_law_wide"] ["_law_bag_here"] (defScope (top 27)) := ⟨rfl, rfl, rfl, by decide +kernel, rfl, by decide +kernel, by decide +kernel⟩
theorem bn_l_any : BindN "_law_any" (top 27) ["_law_bag_here"] := (fun _ _ _ _ _ _ us hl => match us, hl with | [_], _ => rfl)
theorem ds_l_any (E : Env S) : DSs (S.at ["_law_bag_here", "_law_way", "_law_wide"] (defScope (top 27)) 1) (defBody (top 27)) B_l_any := by
  have g_l_pull := g_l_pull E
  exact (dss_cons (ds_setZ (i := 1) rfl (.inl (by kernel_rfl)) (.inl rfl) (de_call g_l_pull.at (show 1 ≤ 1 by decide) (by kernel_rfl) (by kernel_rfl) (da_cons (de_var (i := 0) rfl (.inl (by kernel_rfl)) (by kernel_rfl) (by kernel_rfl)) (da_last de_int (fun _ _ z => by cases z)) (fun _ _ z => by cases z)) rfl rfl (len_cons len_last)) rfl)
    (dss_cons (ds_if (dt_c ci_eq (de_var (i := 1) rfl (.inl (by kernel_rfl)) (by kernel_rfl) (by kernel_rfl)) de_int rfl) (dss_one (ds_retZ de_int)) dss_nil)
    (dss_cons (ds_setZ (i := 2) rfl (.inl (by kernel_rfl)) (.inl rfl) (de_ixs (de_lst (da_cons de_int (da_cons de_int (da_cons (de_pow de_int de_int) (da_last (de_pow de_int de_int) (fun _ _ z => by cases z)) (fun _ _ z => by cases z)) (fun _ _ z => by cases z)) (fun _ _ z => by cases z))) (de_sub (de_var (i := 1) rfl (.inl (by kernel_rfl)) (by kernel_rfl) (by kernel_rfl)) de_int) rfl) rfl)
    (dss_one (ds_retZ (de_sub (de_call g_l_pull.at (show 1 ≤ 1 by decide) (by kernel_rfl) (by kernel_rfl) (da_cons (de_var (i := 0) rfl (.inl (by kernel_rfl)) (by kernel_rfl) (by kernel_rfl)) (da_last (de_add (de_mul de_int (de_var (i := 2) rfl (.inl (by kernel_rfl)) (by kernel_rfl) (by kernel_rfl))) de_int) (fun _ _ z => by cases z)) (fun _ _ z => by cases z)) rfl rfl (len_cons len_last)) (de_var (i := 2) rfl (.inl (by kernel_rfl)) (by kernel_rfl) (by kernel_rfl))))))))
theorem g_l_any (E : Env S) : Good S "_law_any" 1 F_l_any [] 2 := good_fn (N := ["_law_bag_here", "_law_way", "_law_wide"]) (ps := ["_law_bag_here"]) (k := 1) (db := B_l_any) E.k_l_any sc_l_any (ds_l_any E) bn_l_any rfl
theorem sc_law : FnScope ["_law_script", "_law_bag_here", "_law_turn", "_law_some", "_law_k", "_law_top", "_law_bottom", "_law_found", "_law_due", "_law_one", "_law_two", "_law_left", "_law_right", "_law_text"] ["_law_script"] (defScope (top 28)) := ⟨rfl, rfl, rfl, by decide +kernel, rfl, by decide +kernel, by decide +kernel⟩
theorem bn_law : BindN "law" (top 28) ["_law_script"] := (fun _ _ _ _ _ _ us hl => match us, hl with | [_], _ => rfl)
theorem ds_law (E : Env S) {c P : Addr} (M0 : Mk0 S "law" c P) : DSs (S.atL ["_law_script", "_law_bag_here", "_law_turn", "_law_some", "_law_k", "_law_top", "_law_bottom", "_law_found", "_law_due", "_law_one", "_law_two", "_law_left", "_law_right", "_law_text"] (defScope (top 28)) 61 c ("law" ++ ".<locals>.")) (defBody (top 28)) B_law := by
  have M : MkOk (S.atL ["_law_script", "_law_bag_here", "_law_turn", "_law_some", "_law_k", "_law_top", "_law_bottom", "_law_found", "_law_due", "_law_one", "_law_two", "_law_left", "_law_right", "_law_text"] (defScope (top 28)) 61 c ("law" ++ ".<locals>.")) c P ("law" ++ ".<locals>.") := mk_ok M0 (by decide +kernel)
  have g_l_bag := g_l_bag E
  have g_l_any := g_l_any E
  have gL_l_tried := gL_l_tried E
  have g_l_tried := gL_l_tried.on
  have g_l_low := g_l_low E
  have g_l_same := g_l_same E 8
  have g_fraction_d1 := g_fraction_d1 E
  have g_plus := g_plus E
  have g_less := g_less E
  have g_times := g_times E
  have g_middle := g_middle E
  have g_order := g_order E
  have g_l_before := g_l_before E
  have g_fraction_text := g_fraction_text E
  have E0 := E.c0
  have lg_fraction_d0 := g_fraction_d0 E0
  exact (dss_cons (ds_set (i := 1) rfl (.inl (by kernel_rfl)) (.inl rfl) (de_call g_l_bag.atL (show 1 ≤ 61 by decide) (by kernel_rfl) (by kernel_rfl) (da_last (de_var (i := 0) rfl (.inl (by kernel_rfl)) (by kernel_rfl) (by kernel_rfl)) (fun _ _ z => by cases z)) rfl rfl len_last) rfl)
    (dss_pub (i := 1) (dss_cons (ds_for (di_rng1 (da_last de_int (fun _ _ z => by cases z)) (fun _ _ z => by cases z) (by kernel_rfl) E.b_range) (dg_nm (i := 2) rfl (.inl (by kernel_rfl)) (.inl rfl)) (dss_cons (ds_set (i := 3) rfl (.inl (by kernel_rfl)) (.inl rfl) (de_lst da_nil) rfl)
    (dss_cons (ds_for (di_rng1 (da_last de_int (fun _ _ z => by cases z)) (fun _ _ z => by cases z) (by kernel_rfl) E.b_range) (dg_nm (i := 4) rfl (.inl (by kernel_rfl)) (.inl rfl)) (dss_cons (ds_unpC (dg_tup (dgs_cons (dg_nm (i := 5) rfl (.inr (by kernel_rfl)) (.inl rfl)) (dgs_cons (dg_nm (i := 6) rfl (.inr (by kernel_rfl)) (.inl rfl)) dgs_nil (fun _ _ z => by cases z)) (fun _ _ z => by cases z)) rfl rfl) (de_tup (da_cons (de_call g_l_any.atL (show 2 ≤ 61 by decide) (by kernel_rfl) (by kernel_rfl) (da_last (de_var (i := 1) rfl (.inl (by kernel_rfl)) (by kernel_rfl) (by kernel_rfl)) (fun _ _ z => by cases z)) rfl rfl len_last) (da_last (de_call g_l_any.atL (show 2 ≤ 61 by decide) (by kernel_rfl) (by kernel_rfl) (da_last (de_var (i := 1) rfl (.inl (by kernel_rfl)) (by kernel_rfl) (by kernel_rfl)) (fun _ _ z => by cases z)) rfl rfl len_last) (fun _ _ z => by cases z)) (fun _ _ z => by cases z))) (by kernel_rfl))
    (dss_cons (ds_setZ (i := 7) rfl (.inl (by kernel_rfl)) (.inl rfl) (de_lam1 (lamT_of (ps := []) (cap := ["_law_top", "_law_bottom"]) (ci := [5, 6]) (by kernel_rfl) (fun _ => rfl) (fun _ _ _ _ _ us hl => match us, hl with | [], _ => rfl)) (de_call lg_fraction_d0.cl (show 3 ≤ 59 by decide) (by kernel_rfl) (by kernel_rfl) (da_cons (de_var (i := 0) rfl (.inr (.inr (by kernel_rfl))) (by kernel_rfl) (by kernel_rfl)) (da_last (de_var (i := 1) rfl (.inr (.inr (by kernel_rfl))) (by kernel_rfl) (by kernel_rfl)) (fun _ _ z => by cases z)) (fun _ _ z => by cases z)) rfl rfl (len_cons len_last)) gL_l_tried.atL (show 61 ≤ 61 by decide) M rfl (by kernel_rfl) (by kernel_rfl)) rfl)
    (dss_cons (ds_set (i := 8) rfl (.inl (by kernel_rfl)) (.inl rfl) (de_if (dt_c ci_eq (de_var (i := 6) rfl (.inr (.inl (by kernel_rfl))) (by kernel_rfl) (by kernel_rfl)) de_int rfl) (de_tup (da_last de_str (fun _ _ z => by cases z))) (de_tup (da_cons de_str (da_last (de_call g_l_low.atL (show 2 ≤ 61 by decide) (by kernel_rfl) (by kernel_rfl) (da_cons (de_var (i := 5) rfl (.inr (.inl (by kernel_rfl))) (by kernel_rfl) (by kernel_rfl)) (da_last (de_var (i := 6) rfl (.inr (.inl (by kernel_rfl))) (by kernel_rfl) (by kernel_rfl)) (fun _ _ z => by cases z)) (fun _ _ z => by cases z)) rfl rfl (len_cons len_last)) (fun _ _ z => by cases z)) (fun _ _ z => by cases z)))) rfl)
    (dss_frz (i := 8) (dss_cons (ds_if (dt_w (dw_or (dt_not (dt_val (de_call g_l_same.atL (show 9 ≤ 61 by decide) (by kernel_rfl) (by kernel_rfl) (da_cons (de_var (i := 7) rfl (.inl (by kernel_rfl)) (by kernel_rfl) (by kernel_rfl)) (da_last (de_var (i := 8) rfl (.inl (by kernel_rfl)) (by kernel_rfl) (by kernel_rfl)) (fun _ _ z => by cases z)) (fun _ _ z => by cases z)) rfl rfl (len_cons len_last)) rfl)) (dw_or1 (dt_not (dt_val (de_call g_l_same.atL (show 9 ≤ 61 by decide) (by kernel_rfl) (by kernel_rfl) (da_cons (de_call g_fraction_d1.atL (show 3 ≤ 61 by decide) (by kernel_rfl) (by kernel_rfl) (da_last (de_var (i := 5) rfl (.inr (.inl (by kernel_rfl))) (by kernel_rfl) (by kernel_rfl)) (fun _ _ z => by cases z)) rfl rfl len_last) (da_last (de_tup (da_cons (de_var (i := 5) rfl (.inr (.inl (by kernel_rfl))) (by kernel_rfl) (by kernel_rfl)) (da_last de_int (fun _ _ z => by cases z)) (fun _ _ z => by cases z))) (fun _ _ z => by cases z)) (fun _ _ z => by cases z)) rfl rfl (len_cons len_last)) rfl))))) (dss_one (ds_retZ de_bl)) dss_nil)
    (dss_one (ds_app (i := 3) rfl (.inl (by kernel_rfl)) (by kernel_rfl) (by kernel_rfl) (by kernel_rfl) (de_if (dt_c ci_ne (de_var (i := 6) rfl (.inr (.inl (by kernel_rfl))) (by kernel_rfl) (by kernel_rfl)) de_int rfl) (de_ixs (de_var (i := 8) rfl (.inl (by kernel_rfl)) (by kernel_rfl) (by kernel_rfl)) de_int rfl) (de_tup (da_cons (de_var (i := 5) rfl (.inr (.inl (by kernel_rfl))) (by kernel_rfl) (by kernel_rfl)) (da_last de_int (fun _ _ z => by cases z)) (fun _ _ z => by cases z)))) rfl))))))) rfl)
    (dss_frz (i := 3) (dss_cons (ds_unpT (dg_tup (dgs_cons (dg_nm (i := 9) rfl (.inl (by kernel_rfl)) (.inl rfl)) (dgs_cons (dg_nm (i := 10) rfl (.inl (by kernel_rfl)) (.inl rfl)) dgs_nil (fun _ _ z => by cases z)) (fun _ _ z => by cases z)) rfl rfl) (de_var (i := 3) rfl (.inl (by kernel_rfl)) (by kernel_rfl) (by kernel_rfl)) rfl)
    (dss_cons (ds_setZ (i := 6) rfl (.inr (by kernel_rfl)) (.inl rfl) (de_mul (de_ixs (de_var (i := 9) rfl (.inl (by kernel_rfl)) (by kernel_rfl) (by kernel_rfl)) de_int rfl) (de_ixs (de_var (i := 10) rfl (.inl (by kernel_rfl)) (by kernel_rfl) (by kernel_rfl)) de_int rfl)) rfl)
    (dss_cons (ds_par (i := 11) (j := 12) rfl rfl (by decide) (by kernel_rfl) (by kernel_rfl) (by kernel_rfl) (by kernel_rfl) (by kernel_rfl) (by kernel_rfl) (by kernel_rfl) (by kernel_rfl) (da_cons (de_mul (de_ixs (de_var (i := 9) rfl (.inl (by kernel_rfl)) (by kernel_rfl) (by kernel_rfl)) de_int rfl) (de_ixs (de_var (i := 10) rfl (.inl (by kernel_rfl)) (by kernel_rfl) (by kernel_rfl)) de_int rfl)) (da_last (de_mul (de_ixs (de_var (i := 10) rfl (.inl (by kernel_rfl)) (by kernel_rfl) (by kernel_rfl)) de_int rfl) (de_ixs (de_var (i := 9) rfl (.inl (by kernel_rfl)) (by kernel_rfl) (by kernel_rfl)) de_int rfl)) (fun _ _ z => by cases z)) (fun _ _ z => by cases z)))
    (dss_cons (ds_set (i := 8) rfl (.inl (by kernel_rfl)) (.inl rfl) (de_lst (da_cons (de_call g_l_low.atL (show 2 ≤ 61 by decide) (by kernel_rfl) (by kernel_rfl) (da_cons (de_add (de_var (i := 11) rfl (.inl (by kernel_rfl)) (by kernel_rfl) (by kernel_rfl)) (de_var (i := 12) rfl (.inl (by kernel_rfl)) (by kernel_rfl) (by kernel_rfl))) (da_last (de_var (i := 6) rfl (.inr (.inl (by kernel_rfl))) (by kernel_rfl) (by kernel_rfl)) (fun _ _ z => by cases z)) (fun _ _ z => by cases z)) rfl rfl (len_cons len_last)) (da_cons (de_call g_l_low.atL (show 2 ≤ 61 by decide) (by kernel_rfl) (by kernel_rfl) (da_cons (de_sub (de_var (i := 11) rfl (.inl (by kernel_rfl)) (by kernel_rfl) (by kernel_rfl)) (de_var (i := 12) rfl (.inl (by kernel_rfl)) (by kernel_rfl) (by kernel_rfl))) (da_last (de_var (i := 6) rfl (.inr (.inl (by kernel_rfl))) (by kernel_rfl) (by kernel_rfl)) (fun _ _ z => by cases z)) (fun _ _ z => by cases z)) rfl rfl (len_cons len_last)) (da_last (de_call g_l_low.atL (show 2 ≤ 61 by decide) (by kernel_rfl) (by kernel_rfl) (da_cons (de_mul (de_ixs (de_var (i := 9) rfl (.inl (by kernel_rfl)) (by kernel_rfl) (by kernel_rfl)) de_int rfl) (de_ixs (de_var (i := 10) rfl (.inl (by kernel_rfl)) (by kernel_rfl) (by kernel_rfl)) de_int rfl)) (da_last (de_var (i := 6) rfl (.inr (.inl (by kernel_rfl))) (by kernel_rfl) (by kernel_rfl)) (fun _ _ z => by cases z)) (fun _ _ z => by cases z)) rfl rfl (len_cons len_last)) (fun _ _ z => by cases z)) (fun _ _ z => by cases z)) (fun _ _ z => by cases z))) rfl)
    (dss_cons (ds_app (i := 8) rfl (.inl (by kernel_rfl)) (by kernel_rfl) (by kernel_rfl) (by kernel_rfl) (de_call g_l_low.atL (show 2 ≤ 61 by decide) (by kernel_rfl) (by kernel_rfl) (da_cons (de_add (de_var (i := 11) rfl (.inl (by kernel_rfl)) (by kernel_rfl) (by kernel_rfl)) (de_var (i := 12) rfl (.inl (by kernel_rfl)) (by kernel_rfl) (by kernel_rfl))) (da_last (de_mul de_int (de_var (i := 6) rfl (.inr (.inl (by kernel_rfl))) (by kernel_rfl) (by kernel_rfl))) (fun _ _ z => by cases z)) (fun _ _ z => by cases z)) rfl rfl (len_cons len_last)) rfl)
    (dss_frz (i := 8) (dss_cons (ds_if (dt_not (dt_val (de_call g_l_same.atL (show 9 ≤ 61 by decide) (by kernel_rfl) (by kernel_rfl) (da_cons (de_lst (da_cons (de_call g_plus.atL (show 4 ≤ 61 by decide) (by kernel_rfl) (by kernel_rfl) (da_cons (de_var (i := 9) rfl (.inl (by kernel_rfl)) (by kernel_rfl) (by kernel_rfl)) (da_last (de_var (i := 10) rfl (.inl (by kernel_rfl)) (by kernel_rfl) (by kernel_rfl)) (fun _ _ z => by cases z)) (fun _ _ z => by cases z)) rfl rfl (len_cons len_last)) (da_cons (de_call g_less.atL (show 4 ≤ 61 by decide) (by kernel_rfl) (by kernel_rfl) (da_cons (de_var (i := 9) rfl (.inl (by kernel_rfl)) (by kernel_rfl) (by kernel_rfl)) (da_last (de_var (i := 10) rfl (.inl (by kernel_rfl)) (by kernel_rfl) (by kernel_rfl)) (fun _ _ z => by cases z)) (fun _ _ z => by cases z)) rfl rfl (len_cons len_last)) (da_cons (de_call g_times.atL (show 4 ≤ 61 by decide) (by kernel_rfl) (by kernel_rfl) (da_cons (de_var (i := 9) rfl (.inl (by kernel_rfl)) (by kernel_rfl) (by kernel_rfl)) (da_last (de_var (i := 10) rfl (.inl (by kernel_rfl)) (by kernel_rfl) (by kernel_rfl)) (fun _ _ z => by cases z)) (fun _ _ z => by cases z)) rfl rfl (len_cons len_last)) (da_last (de_call g_middle.atL (show 4 ≤ 61 by decide) (by kernel_rfl) (by kernel_rfl) (da_cons (de_var (i := 9) rfl (.inl (by kernel_rfl)) (by kernel_rfl) (by kernel_rfl)) (da_last (de_var (i := 10) rfl (.inl (by kernel_rfl)) (by kernel_rfl) (by kernel_rfl)) (fun _ _ z => by cases z)) (fun _ _ z => by cases z)) rfl rfl (len_cons len_last)) (fun _ _ z => by cases z)) (fun _ _ z => by cases z)) (fun _ _ z => by cases z)) (fun _ _ z => by cases z))) (da_last (de_var (i := 8) rfl (.inl (by kernel_rfl)) (by kernel_rfl) (by kernel_rfl)) (fun _ _ z => by cases z)) (fun _ _ z => by cases z)) rfl rfl (len_cons len_last)) rfl)) (dss_one (ds_retZ de_bl)) dss_nil)
    (dss_cons (ds_if (dt_not (dt_val (de_call g_l_same.atL (show 9 ≤ 61 by decide) (by kernel_rfl) (by kernel_rfl) (da_cons (de_lst (da_cons (de_call g_order.atL (show 1 ≤ 61 by decide) (by kernel_rfl) (by kernel_rfl) (da_cons (de_var (i := 9) rfl (.inl (by kernel_rfl)) (by kernel_rfl) (by kernel_rfl)) (da_last (de_var (i := 10) rfl (.inl (by kernel_rfl)) (by kernel_rfl) (by kernel_rfl)) (fun _ _ z => by cases z)) (fun _ _ z => by cases z)) rfl rfl (len_cons len_last)) (da_last (de_call g_order.atL (show 1 ≤ 61 by decide) (by kernel_rfl) (by kernel_rfl) (da_cons (de_var (i := 9) rfl (.inl (by kernel_rfl)) (by kernel_rfl) (by kernel_rfl)) (da_last (de_var (i := 9) rfl (.inl (by kernel_rfl)) (by kernel_rfl) (by kernel_rfl)) (fun _ _ z => by cases z)) (fun _ _ z => by cases z)) rfl rfl (len_cons len_last)) (fun _ _ z => by cases z)) (fun _ _ z => by cases z))) (da_last (de_lst (da_cons (de_call g_l_before.atL (show 1 ≤ 61 by decide) (by kernel_rfl) (by kernel_rfl) (da_cons (de_var (i := 9) rfl (.inl (by kernel_rfl)) (by kernel_rfl) (by kernel_rfl)) (da_last (de_var (i := 10) rfl (.inl (by kernel_rfl)) (by kernel_rfl) (by kernel_rfl)) (fun _ _ z => by cases z)) (fun _ _ z => by cases z)) rfl rfl (len_cons len_last)) (da_last de_int (fun _ _ z => by cases z)) (fun _ _ z => by cases z))) (fun _ _ z => by cases z)) (fun _ _ z => by cases z)) rfl rfl (len_cons len_last)) rfl)) (dss_one (ds_retZ de_bl)) dss_nil)
    (dss_cons (ds_setZ (i := 13) rfl (.inl (by kernel_rfl)) (.inl rfl) (de_if (dt_c ci_eq (de_ixs (de_var (i := 9) rfl (.inl (by kernel_rfl)) (by kernel_rfl) (by kernel_rfl)) de_int rfl) de_int rfl) (bi_str (by kernel_rfl) E.b_str (de_ixs (de_var (i := 9) rfl (.inl (by kernel_rfl)) (by kernel_rfl) (by kernel_rfl)) de_int rfl) rfl) (de_add (de_add (bi_str (by kernel_rfl) E.b_str (de_ixs (de_var (i := 9) rfl (.inl (by kernel_rfl)) (by kernel_rfl) (by kernel_rfl)) de_int rfl) rfl) de_str) (bi_str (by kernel_rfl) E.b_str (de_ixs (de_var (i := 9) rfl (.inl (by kernel_rfl)) (by kernel_rfl) (by kernel_rfl)) de_int rfl) rfl))) rfl)
    (dss_one (ds_if (dt_not (dt_val (de_call g_l_same.atL (show 9 ≤ 61 by decide) (by kernel_rfl) (by kernel_rfl) (da_cons (de_call g_fraction_text.atL (show 1 ≤ 61 by decide) (by kernel_rfl) (by kernel_rfl) (da_last (de_var (i := 9) rfl (.inl (by kernel_rfl)) (by kernel_rfl) (by kernel_rfl)) (fun _ _ z => by cases z)) rfl rfl len_last) (da_last (de_var (i := 13) rfl (.inl (by kernel_rfl)) (by kernel_rfl) (by kernel_rfl)) (fun _ _ z => by cases z)) (fun _ _ z => by cases z)) rfl rfl (len_cons len_last)) rfl)) (dss_one (ds_retZ de_bl)) dss_nil)))))))))))))) rfl)
    (dss_one (ds_retZ (de_c ci_eq (de_glo E.c_FAR.atL (by kernel_rfl) (by kernel_rfl)) de_int rfl))))))
end
end
end L07

set_option Elab.async false
set_option linter.all false
set_option maxRecDepth 100000
set_option maxHeartbeats 0
set_option autoImplicit false
namespace L07
open PySem PySem.Spec L2 Hx
section
variable {st : Store} {c : Nat} {k : Nat}
theorem pow29 : powOk 10 29 = true := by decide
theorem f_l_any (B : Bag k st c) (hk : k + 3 < 2 ^ 100) : ∃ v st', F_l_any [(.z, .ref c)] st = .ok .z false (.int v) st' ∧ Le 100 v ∧ Bag (k + 2) st' c ∧ Fro1 c st st' := by
  obtain ⟨g, s1, e1, g1, g2, _, B1, f1⟩ := pull (n := 8) 5 B (by omega) (by decide) (by decide) (by decide)
  have p9 := pow99
  have p29 := pow29
  have go : ∀ w : Int, 0 ≤ w → w ≤ 100000000000000000000000000000 → ∃ g' s2, F_l_pull [(.z, .ref c), (.z, .int (2 * w + 1))] s1 = .ok .z false (.int g') s2 ∧ Le 100 (g' - w) ∧ Bag (k + 2) s2 c ∧ Fro1 c st s2 := by
    intro w h0 h1
    obtain ⟨g', s2, e2, g3, g4, _, B2, f2⟩ := pull (n := 100) (2 * w + 1) B1 (by omega) (by omega) (by omega) (by decide)
    exact ⟨g', s2, e2, ⟨by omega⟩, B2, f1.trans f2⟩
  have : g = 0 ∨ g = 1 ∨ g = 2 ∨ g = 3 ∨ g = 4 := by omega
  rcases this with rfl | rfl | rfl | rfl | rfl
  · exact ⟨0, s1, by simp [F_l_any, e1], inferInstance, B1.mono (by omega), f1⟩
  · obtain ⟨g', s2, e2, l, B2, f2⟩ := go 9 (by omega) (by omega)
    exact ⟨g' - 9, s2, by simp at e2; simp [F_l_any, e1, e2, p9, p29], l, B2, f2⟩
  · obtain ⟨g', s2, e2, l, B2, f2⟩ := go 60 (by omega) (by omega)
    exact ⟨g' - 60, s2, by simp at e2; simp [F_l_any, e1, e2, p9, p29], l, B2, f2⟩
  · obtain ⟨g', s2, e2, l, B2, f2⟩ := go 1000000000 (by omega) (by omega)
    exact ⟨g' - 1000000000, s2, by simp at e2; simp [F_l_any, e1, e2, p9, p29], l, B2, f2⟩
  · obtain ⟨g', s2, e2, l, B2, f2⟩ := go 100000000000000000000000000000 (by omega) (by omega)
    exact ⟨g' - 100000000000000000000000000000, s2, by simp at e2; simp [F_l_any, e1, e2, p9, p29], l, B2, f2⟩
theorem fr_nought {a : Int} : F_fraction [(.z, .int a), (.z, .int 0)] st = .exc 16 [.str "nought"] st := by
  simp [F_fraction]
theorem one_p2 {a : Int} : DR ((a : Rat) / ((1 : Int) : Rat)) = P2 a 1 := by
  have e : (a : Rat) / ((1 : Int) : Rat) = (a : Rat) := by
    have : ((1 : Int) : Rat) = 1 := rfl
    rw [this]; grind
  rw [e]; rfl
theorem pl_dr {q : Rat} {n : Nat} : plainB (n + 2) (DR q) = true := by simp [plainB, DR]
theorem int_le {n : Nat} {a : Int} [h : Le (n + 1) a] : LeR (n + 1) (a : Rat) := ⟨h.lt, by
  show 1 < 2 ^ (n + 1)
  exact Nat.one_lt_two_pow (by omega)⟩
theorem pick (B : Bag k st 0) (hk : k + 8 < 2 ^ 100) {scr : D} {ds : List D} (hd : ds.length ≤ 1000000) {v2 v4 v5 v6 v7 v8 v9 v10 v11 v12 v13 : Option (Fr × D)} :
    Nx (fun e s => ∃ q w5 w6 w7 w8, LeR 100 q ∧ Bag (k + 4) s 0 ∧ e = [some (.z, scr), some (.z, .ref 0), v2, some (.c .z, .con .lst (ds ++ [DR q])), v4, w5, w6, w7, w8, v9, v10, v11, v12, v13])
      (B_law_1b_1b [some (.z, scr), some (.z, .ref 0), v2, some (.c .z, .con .lst ds), v4, v5, v6, v7, v8, v9, v10, v11, v12, v13] st) := by
  obtain ⟨a, s1, e1, la, B, f1⟩ := f_l_any B (by omega)
  obtain ⟨b, s2, e2, lb, B, f2⟩ := f_l_any B (by omega)
  have f1 := f_fraction (st := s2) (a := a) (b := 1)
  rw [one_p2] at f1
  by_cases hb : b = 0
  · subst hb
    have := fr_nought (st := s2) (a := a)
    have nb : Nat.blt 1 2 = true := rfl
    simp [B_law_1b_1b, zs, nb, dFrz, dApp, e1, e2, F_l_tried, this, f1, same8, plainB, hd]
    exact ⟨(a : Rat), int_le, B, rfl⟩
  · have hz : Nz b := ⟨hb⟩
    have f0 := f_fraction (st := s2) (a := a) (b := b)
    have f3 := f_l_low (st := s2) (a := a) (b := b)
    have nb : Nat.blt 1 2 = true := rfl
    simp [B_law_1b_1b, zs, nb, dFrz, dApp, e1, e2, F_l_tried, f0, f1, f3, same8, plainB, pl_dr, hb, hd]
    exact ⟨(a : Rat) / (b : Rat), inferInstance, B, rfl⟩
theorem strOk {i : Int} [h : Le 1900 i] : strOkI i = true := by
  unfold strOkI
  rw [decide_eq_true_eq]
  by_cases z : i.natAbs = 0
  · rw [z]; decide
  · exact (Nat.log2_lt z).mpr (Nat.lt_of_lt_of_le h.lt (Nat.pow_le_pow_right (by decide) (by decide)))
theorem len_int {i : Int} [h : Le 100 i] : (Str.ofString (toString i)).length ≤ 60 := by
  have hl := h.lt
  have b : (2 : Nat) ^ 100 < 10 ^ 50 := by decide
  cases i with
  | ofNat m =>
    have : ((m : Nat) : Int) < 10 ^ 50 := by
      have : m < 10 ^ 50 := Nat.lt_trans hl b
      exact_mod_cast this
    exact Nat.le_trans (PyProof.Rows.toString_length_le (v := (m : Int)) (Int.natCast_nonneg m) (k := 50) (by decide) this) (by decide)
  | negSucc m =>
    have : ((m + 1 : Nat) : Int) < 10 ^ 50 := by
      have : m + 1 < 10 ^ 50 := Nat.lt_trans hl b
      exact_mod_cast this
    have k := PyProof.Rows.toString_length_le (v := ((m + 1 : Nat) : Int)) (Int.natCast_nonneg _) (k := 50) (by decide) this
    rw [PyProof.Rows.ofString_length] at k ⊢
    have e : (toString (Int.negSucc m)).toList.length = 1 + (toString ((m + 1 : Nat) : Int)).toList.length := by
      show ("-" ++ toString (m + 1)).toList.length = 1 + (toString (m + 1)).toList.length
      rw [String.toList_append, List.length_append]; rfl
    omega
theorem befR_ord {p q : Rat} : befR p q = ordR p q := by
  unfold befR ordR
  by_cases h : p < q
  · rw [if_pos h, if_neg (by grind), if_pos h]
  · rw [if_neg h]
    by_cases k : q < p
    · rw [if_pos k, if_pos k]
    · rw [if_neg k, if_neg k, if_neg h]
theorem ord_self {p : Rat} : ordR p p = 0 := by unfold ordR; rw [if_neg (by grind), if_neg (by grind)]
theorem nz_mul {a b : Int} [h : Nz a] [k : Nz b] : Nz (a * b) := ⟨Int.mul_ne_zero h.h k.h⟩
section
variable {p q : Rat}
theorem low_fr {a b : Int} [Nz b] [Le 8000 b] : ∃ x : Rat, F_fraction [(.z, .int a), (.z, .int b)] st = .ok .z false (DR x) st ∧ F_l_low [(.z, .int a), (.z, .int b)] st = .ok .z false (DR x) st := ⟨_, f_fraction, f_l_low⟩
theorem five [LeR 100 p] [LeR 100 q] : ∃ x y z m : Rat,
    (F_plus [(.z, DR p), (.z, DR q)] st = .ok .z false (DR x) st ∧ F_l_low [(.z, .int (p.num * q.den + q.num * p.den)), (.z, .int (p.den * q.den))] st = .ok .z false (DR x) st) ∧
    (F_less [(.z, DR p), (.z, DR q)] st = .ok .z false (DR y) st ∧ F_l_low [(.z, .int (p.num * q.den - q.num * p.den)), (.z, .int (p.den * q.den))] st = .ok .z false (DR y) st) ∧
    (F_times [(.z, DR p), (.z, DR q)] st = .ok .z false (DR z) st ∧ F_l_low [(.z, .int (p.num * q.num)), (.z, .int (p.den * q.den))] st = .ok .z false (DR z) st) ∧
    (F_middle [(.z, DR p), (.z, DR q)] st = .ok .z false (DR m) st ∧ F_l_low [(.z, .int (p.num * q.den + q.num * p.den)), (.z, .int (2 * (p.den * q.den)))] st = .ok .z false (DR m) st) := by
  have n1 : Nz ((p.den : Int) * (q.den : Int)) := nz_mul
  have n2 : Nz (2 * ((p.den : Int) * (q.den : Int))) := nz_mul
  obtain ⟨x, x1, x2⟩ := low_fr (st := st) (a := p.num * q.den + q.num * p.den) (b := p.den * q.den)
  obtain ⟨y, y1, y2⟩ := low_fr (st := st) (a := p.num * q.den - q.num * p.den) (b := p.den * q.den)
  obtain ⟨z, z1, z2⟩ := low_fr (st := st) (a := p.num * q.num) (b := p.den * q.den)
  obtain ⟨m, m1, m2⟩ := low_fr (st := st) (a := p.num * q.den + q.num * p.den) (b := 2 * (p.den * q.den))
  rw [← Int.mul_assoc] at m1
  refine ⟨x, y, z, m, ⟨?_, x2⟩, ⟨?_, y2⟩, ⟨?_, z2⟩, ⟨?_, m2⟩⟩
  · simp [F_plus, DR] at x1 ⊢; simp [x1]
  · simp [F_less, DR] at y1 ⊢; simp [y1]
  · simp [F_times, DR] at z1 ⊢; simp [z1]
  · simp [F_middle, DR] at m1 ⊢; simp [m1]
end
theorem ap_len (a b : Str) : (a ++ b).length = a.length + b.length := by
  show (a.cps ++ b.cps).size = a.cps.size + b.cps.size
  simp
theorem emp_ap (a : Str) : Str.empty ++ a = a := by
  show (⟨Str.empty.cps ++ a.cps⟩ : Str) = a
  cases a; simp [Str.empty]
theorem sl_len : (Str.ofString "/").length = 1 := by decide
theorem ok_ofS (s : String) : PyData.strOk (Str.ofString s) = true := by
  rw [Str.ofString_eq_toList]
  unfold PyData.strOk
  simp only [List.all_toArray, List.all_map, List.all_eq_true]
  intro c _
  have := c.valid
  show decide (c.val.toNat < 0x110000) = true
  rw [decide_eq_true_eq]
  rcases this with h | h
  · exact Nat.lt_trans h (by decide)
  · exact h.2
theorem ok_ap {a b : Str} (h : PyData.strOk a = true) (k : PyData.strOk b = true) : PyData.strOk (a ++ b) = true := by
  unfold PyData.strOk at *
  show (a.cps ++ b.cps).all _ = true
  simp only [Array.all_append, h, k, Bool.and_self]
abbrev J (scr : D) (k : Nat) (e : Hx.Env) (s : Store) : Prop := Bag k s 0 ∧ ∃ v2 v3 v4 v5 v6 v7 v8 v9 v10 v11 v12 v13, e = [some (.z, scr), some (.z, .ref 0), v2, v3, v4, v5, v6, v7, v8, v9, v10, v11, v12, v13]
theorem tail {scr : D} {p q : Rat} [LeR 100 p] [LeR 100 q] {v2 v4 v5 v6 v7 v8 v9 v10 v11 v12 v13 : Option (Fr × D)} (B : Bag k st 0) :
    Nx (J scr k) (B_law_1b_t2 [some (.z, scr), some (.z, .ref 0), v2, some (.c .z, .con .lst [DR p, DR q]), v4, v5, v6, v7, v8, v9, v10, v11, v12, v13] st) := by
  obtain ⟨x, y, z, m, ⟨x1, x2⟩, ⟨y1, y2⟩, ⟨z1, z2⟩, ⟨m1, m2⟩⟩ := five (st := st) (p := p) (q := q)
  have o1 := f_order (st := st) (p := p) (q := q)
  have o2 := f_order (st := st) (p := p) (q := p)
  have o3 := f_l_before (st := st) (p := p) (q := q)
  rw [befR_ord] at o3
  rw [ord_self] at o2
  have l1 := len_int (i := p.num)
  have l2 := len_int (i := (p.den : Int))
  have s1 := strOk (i := p.num)
  have s2 := strOk (i := (p.den : Int))
  simp only [DR] at *
  simp [-B_law_1b_t11, dFrz, dApp, zs, x1, x2, y1, y2, z1, z2, m1, m2, o1, o2, o3, same8, plainB]
  clear x1 x2 y1 y2 z1 z2 m1 m2 o1 o2 o3
  simp at l1 l2 s1 s2
  have l3 : (Str.ofString p.num.repr).length ≤ 16777216 := by omega
  have l4 : (Str.ofString p.num.repr).length + 1 ≤ 16777216 := by omega
  have l5 : (Str.ofString p.num.repr).length + 1 + (Str.ofString (p.den : Int).repr).length ≤ 16777216 := by omega
  have l6 : (Str.ofString (p.den : Int).repr).length ≤ 16777216 := by omega
  have so : PyData.strOk (Str.ofString p.num.repr ++ Str.ofString "/" ++ Str.ofString (p.den : Int).repr) = true := ok_ap (ok_ap (ok_ofS _) (ok_ofS _)) (ok_ofS _)
  by_cases h : p.den = 1
  · simp [F_fraction_text, zs, same8, plainB, h, s1, l3, ok_ofS]
    exact ⟨B, _, _, _, _, _, _, _, _, _, _, _, _, rfl⟩
  · have h' : ¬ (p.den : Int) = 1 := by omega
    simp [F_fraction_text, zs, same8, plainB, h, h', s1, s2, l3, l4, l5, l6, ap_len, emp_ap, sl_len, so]
    exact ⟨B, _, _, _, _, _, _, _, _, _, _, _, _, rfl⟩
theorem body {scr : D} {v2 v3 v4 v5 v6 v7 v8 v9 v10 v11 v12 v13 : Option (Fr × D)} (B : Bag k st 0) (hk : k + 20 < 2 ^ 100) :
    Nx (J scr (k + 8)) (B_law_1b [some (.z, scr), some (.z, .ref 0), v2, v3, v4, v5, v6, v7, v8, v9, v10, v11, v12, v13] st) := by
  have s62 : small62 2 = true := by decide
  obtain ⟨e1, t1, h1, p, a5, a6, a7, a8, lp, B1, rfl⟩ := (pick (scr := scr) (v2 := v2) (v4 := some (.z, .int 0)) (v5 := v5) (v6 := v6) (v7 := v7) (v8 := v8) (v9 := v9) (v10 := v10) (v11 := v11) (v12 := v12) (v13 := v13) (ds := []) B (by omega) (by decide)).out
  obtain ⟨e2, t2, h2, q, b5, b6, b7, b8, lq, B2, rfl⟩ := (pick (scr := scr) (v2 := v2) (v4 := some (.z, .int 1)) (v5 := a5) (v6 := a6) (v7 := a7) (v8 := a8) (v9 := v9) (v10 := v10) (v11 := v11) (v12 := v12) (v13 := v13) (ds := [DR p]) B1 (by omega) (by simp)).out
  simp at h1
  have go := tail (p := p) (q := q) (scr := scr) (v2 := v2) (v4 := some (.z, .int 1)) (v5 := b5) (v6 := b6) (v7 := b7) (v8 := b8) (v9 := v9) (v10 := v10) (v11 := v11) (v12 := v12) (v13 := v13) B2
  simp only [List.nil_append, List.cons_append] at h1 h2
  simp [-B_law_1b_t2, B_law_1b, dFor, s62, rg2, forGo, bindP, killE, h1, h2]
  exact go
end
theorem f_law (ns : List Int) (hl : ns.length ≤ 63) : ∃ st, F_law [(.z, .con .frl (ns.map D.int))] [] = .ok .z false (.bl true) st := by
  obtain ⟨d, e, B⟩ := law_bag ns hl
  have s62 : small62 8 = true := by decide
  obtain ⟨env', st', q, _, w2, w3, w4, w5, w6, w7, w8, w9, w10, w11, w12, w13, rfl⟩ := forGo_nx (p := .nm 2) (body := B_law_1b) (ks := []) (fun n => J (.con .frl (ns.map D.int)) (8 * n))
    (rngItems 0 8) [some (.z, .con .frl (ns.map D.int)), some (.z, .ref 0), none, none, none, none, none, none, none, none, none, none, none, none] [(.c .z, .con .lst d)] (by
      rintro i env st d0 hi _ ⟨B, v2, v3, v4, v5, v6, v7, v8, v9, v10, v11, v12, v13, rfl⟩
      have hi : i < 8 := hi
      exact ⟨_, rfl, body (k := 8 * i) B (by omega)⟩) ⟨B, _, _, _, _, _, _, _, _, _, _, _, _, rfl⟩
  exact ⟨st', by simp [F_law, e, dFor, s62, q]⟩
end L07

set_option Elab.async false
set_option linter.all false
set_option maxRecDepth 100000
set_option maxHeartbeats 0
set_option autoImplicit false
namespace L07
open PySem PySem.Spec L2 Hx
open PyProof.Rows hiding St
def dd_common_divisor : He.DefD := ⟨("common_divisor", none), "common_divisor", "common_divisor", defArgs (top 11), defBody (top 11), defScope (top 11), [], []⟩
def dd_fraction : He.DefD := ⟨("fraction", none), "fraction", "fraction", defArgs (top 12), defBody (top 12), defScope (top 12), [.int 1].map dvOf, []⟩
def dd_plus : He.DefD := ⟨("plus", none), "plus", "plus", defArgs (top 13), defBody (top 13), defScope (top 13), [], []⟩
def dd_less : He.DefD := ⟨("less", none), "less", "less", defArgs (top 14), defBody (top 14), defScope (top 14), [], []⟩
def dd_times : He.DefD := ⟨("times", none), "times", "times", defArgs (top 15), defBody (top 15), defScope (top 15), [], []⟩
def dd_middle : He.DefD := ⟨("middle", none), "middle", "middle", defArgs (top 16), defBody (top 16), defScope (top 16), [], []⟩
def dd_order : He.DefD := ⟨("order", none), "order", "order", defArgs (top 17), defBody (top 17), defScope (top 17), [], []⟩
def dd_fraction_text : He.DefD := ⟨("fraction_text", none), "fraction_text", "fraction_text", defArgs (top 18), defBody (top 18), defScope (top 18), [], []⟩
def dd_l_bag : He.DefD := ⟨("_law_bag", none), "_law_bag", "_law_bag", defArgs (top 20), defBody (top 20), defScope (top 20), [], []⟩
def dd_l_pull : He.DefD := ⟨("_law_pull", none), "_law_pull", "_law_pull", defArgs (top 21), defBody (top 21), defScope (top 21), [], []⟩
def dd_l_same : He.DefD := ⟨("_law_same", none), "_law_same", "_law_same", defArgs (top 22), defBody (top 22), defScope (top 22), [], []⟩
def dd_l_tried : He.DefD := ⟨("_law_tried", none), "_law_tried", "_law_tried", defArgs (top 23), defBody (top 23), defScope (top 23), [], []⟩
def dd_l_gcd : He.DefD := ⟨("_law_gcd", none), "_law_gcd", "_law_gcd", defArgs (top 24), defBody (top 24), defScope (top 24), [], []⟩
def dd_l_low : He.DefD := ⟨("_law_low", none), "_law_low", "_law_low", defArgs (top 25), defBody (top 25), defScope (top 25), [], []⟩
def dd_l_before : He.DefD := ⟨("_law_before", none), "_law_before", "_law_before", defArgs (top 26), defBody (top 26), defScope (top 26), [], []⟩
def dd_l_any : He.DefD := ⟨("_law_any", none), "_law_any", "_law_any", defArgs (top 27), defBody (top 27), defScope (top 27), [], []⟩
def dd_law : He.DefD := ⟨("law", none), "law", "law", defArgs (top 28), defBody (top 28), defScope (top 28), [], []⟩
def ii_Nought : Stmt := inClass (top 5) 0
def dd_init_Nought : He.DefD := ⟨("Nought", some "__init__"), "__init__", "Nought.__init__", defArgs ii_Nought, defBody ii_Nought, defScope ii_Nought, [], []⟩
def hfn : List He.DefD := [dd_common_divisor, dd_fraction, dd_plus, dd_less, dd_times, dd_middle, dd_order, dd_fraction_text, dd_l_bag, dd_l_pull, dd_l_same, dd_l_tried, dd_l_gcd, dd_l_low, dd_l_before, dd_l_any, dd_law, dd_init_Nought]
def hfa : List He.Fa := [.glo "common_divisor", .glo "fraction", .glo "plus", .glo "less", .glo "times", .glo "middle", .glo "order", .glo "fraction_text", .glo "_law_bag", .glo "_law_pull", .glo "_law_same", .glo "_law_tried", .glo "_law_gcd", .glo "_law_low", .glo "_law_before", .glo "_law_any", .glo "law", .free "abs", .free "all", .free "bool", .free "int", .free "isinstance", .free "len", .free "list", .free "range", .free "str", .free "tuple", .glo "ShadeError", .glo "Missing", .glo "Crowded", .glo "BadText", .glo "Nought", .glo "NoThing", .glo "NoLook", .glo "Looked", .meth "Nought" "__init__"]
def hcs : List (Str × D) := [("FAR", .int 1000000)]
def exB (K : PySem.W.Frag) : Bool := constsB hcs K && (xsB [0, 1, 2, 15, 16, 18, 19, 22] [16] K && tabsB ["law"] K)
def hloose : List Str := (["ShadeError", "Missing", "Crowded", "BadText", "Nought", "NoThing", "NoLook", "Looked", "FAR", "common_divisor", "fraction", "plus", "less", "times", "middle", "order", "fraction_text", "_law_bag", "_law_pull", "_law_same", "_law_tried", "_law_gcd", "_law_low", "_law_before", "_law_any"] : List Str)
abbrev hR : PySem.W.OpenRow := PySem.W.OpenLaw.row PySem.Challenge.rw_hueshade_k07_fractions
def has (q : Addr → Option Obj) : List Addr := noTab q (He.asD q 4)
abbrev hH : PySem.W.Hook := hookX has hfa hfn exB
def hob (s : PySem.W.SharedT) : He.AlD × Bool := obsX has hfa hfn exB (HandSHeadRun.getT s)
theorem hob_eq (s : PySem.W.SharedT) : hob s = hH.obs s.abs := obsX_eq (HandSHeadRun.getT_eq s)
theorem hrun (w : World) : HandSHeadRun.RunEq hR (PySem.W.view hR.prog [28]) hH hob 20000 hloose w := by
  intro os
  kernel_rfl
theorem cx_of {K : PySem.W.Frag} (h : exB K = true) : constsB hcs K = true ∧ xsB [0, 1, 2, 15, 16, 18, 19, 22] [16] K = true ∧ tabsB ["law"] K = true := by
  unfold exB at h
  rw [Bool.and_eq_true, Bool.and_eq_true] at h
  exact h
theorem env_of {P : Program} {w : World} {K : PySem.W.Frag} {h : Heap} {mg : Str → Option Value} {base : Heap} (X : K.In h) (Gn : h.Ns mainGlobals mg) (c : He.SaysD hfa hfn K) (cx : constsB hcs K = true ∧ xsB [0, 1, 2, 15, 16, 18, 19, 22] [16] K = true ∧ tabsB ["law"] K = true)
    (hb : ∀ y c P, y ∈ (["law"] : List Str) → PySem.W.tabIn K y = some (c, P) → LamX.TabB base mg c P) : Env (S1 P w K mg base [0, 1, 2, 15, 16, 18, 19, 22] ["law"]) where
  b_abs := He.free_ok X Gn (c.fact 17 (f := .free "abs") rfl)
  b_all := He.free_ok X Gn (c.fact 18 (f := .free "all") rfl)
  b_bool := He.free_ok X Gn (c.fact 19 (f := .free "bool") rfl)
  b_int := He.free_ok X Gn (c.fact 20 (f := .free "int") rfl)
  b_isinstance := He.free_ok X Gn (c.fact 21 (f := .free "isinstance") rfl)
  b_len := He.free_ok X Gn (c.fact 22 (f := .free "len") rfl)
  b_list := He.free_ok X Gn (c.fact 23 (f := .free "list") rfl)
  b_range := He.free_ok X Gn (c.fact 24 (f := .free "range") rfl)
  b_str := He.free_ok X Gn (c.fact 25 (f := .free "str") rfl)
  b_tuple := He.free_ok X Gn (c.fact 26 (f := .free "tuple") rfl)
  c_FAR := gv_of (S := S1 P w K mg base [0, 1, 2, 15, 16, 18, 19, 22] ["law"]) X Gn (constsB_at cx.1 0 rfl)
  k_common_divisor := kn_at (kn_of c X Gn 0 0 (d := dd_common_divisor) rfl rfl)
  k_fraction := knd_at (knd_of c X Gn 1 1 (d := dd_fraction) rfl rfl)
  k_plus := kn_at (kn_of c X Gn 2 2 (d := dd_plus) rfl rfl)
  k_less := kn_at (kn_of c X Gn 3 3 (d := dd_less) rfl rfl)
  k_times := kn_at (kn_of c X Gn 4 4 (d := dd_times) rfl rfl)
  k_middle := kn_at (kn_of c X Gn 5 5 (d := dd_middle) rfl rfl)
  k_order := kn_at (kn_of c X Gn 6 6 (d := dd_order) rfl rfl)
  k_fraction_text := kn_at (kn_of c X Gn 7 7 (d := dd_fraction_text) rfl rfl)
  k_l_bag := kn_at (kn_of c X Gn 8 8 (d := dd_l_bag) rfl rfl)
  k_l_pull := kn_at (kn_of c X Gn 9 9 (d := dd_l_pull) rfl rfl)
  k_l_same := kn_at (kn_of c X Gn 10 10 (d := dd_l_same) rfl rfl)
  k_l_tried := kn_at (kn_of c X Gn 11 11 (d := dd_l_tried) rfl rfl)
  k_l_gcd := kn_at (kn_of c X Gn 12 12 (d := dd_l_gcd) rfl rfl)
  k_l_low := kn_at (kn_of c X Gn 13 13 (d := dd_l_low) rfl rfl)
  k_l_before := kn_at (kn_of c X Gn 14 14 (d := dd_l_before) rfl rfl)
  k_l_any := kn_at (kn_of c X Gn 15 15 (d := dd_l_any) rfl rfl)
  k_law := kn_at (kn_of c X Gn 16 16 (d := dd_law) rfl rfl)
  m_ShadeError := He.glo_ok X Gn (c.fact 27 (f := .glo "ShadeError") rfl)
  m_Missing := He.glo_ok X Gn (c.fact 28 (f := .glo "Missing") rfl)
  m_Crowded := He.glo_ok X Gn (c.fact 29 (f := .glo "Crowded") rfl)
  m_BadText := He.glo_ok X Gn (c.fact 30 (f := .glo "BadText") rfl)
  m_Nought := He.glo_ok X Gn (c.fact 31 (f := .glo "Nought") rfl)
  m_NoThing := He.glo_ok X Gn (c.fact 32 (f := .glo "NoThing") rfl)
  m_NoLook := He.glo_ok X Gn (c.fact 33 (f := .glo "NoLook") rfl)
  m_Looked := He.glo_ok X Gn (c.fact 34 (f := .glo "Looked") rfl)
  x_Nought := xr_of (st := ii_Nought) (N := ["self"]) (ps := ["self"]) (fl := []) (g := "word") (wd := "nought") (qual := "Nought.__init__") c X Gn cx.2.1 (k := 16) (by decide) (by decide) 17 31 35 rfl rfl rfl rfl (by decide) ⟨rfl, rfl, rfl, by decide +kernel, rfl, by decide +kernel, by decide +kernel⟩ rfl rfl (by decide) (fun _ _ _ _ _ _ us hl => match us, hl with | [_], _ => rfl) (fun _ _ _ _ _ _ _ => (.cons (pe_var (i := 0) rfl (.inl (by kernel_rfl)) (by decide) (by decide)) pe_str rfl .nil))
  t_law := mk0_of X Gn cx.2.2 (by decide) hb
  xs := fun d hd => hd
  xf := xf_of cx.2.1
theorem facts {P : Program} {w : World} {K : PySem.W.Frag} {h : Heap} {mg : Str → Option Value} {f : Addr} (X : K.In h) (Gn : h.Ns mainGlobals mg) (hfa0 : mg ("law" : Str) = some (.ref f)) (c : He.SaysD hfa hfn K) (cx : constsB hcs K = true ∧ xsB [0, 1, 2, 15, 16, 18, 19, 22] [16] K = true ∧ tabsB ["law"] K = true) :
    ∃ fd : FuncData, (∀ (s : Shared) (v : Value), BindsTo s fd ⟨[v], []⟩ [("_law_script", v)]) ∧ ∀ base : Heap, K.In base → base.Ns mainGlobals mg → (∀ y c P, y ∈ (["law"] : List Str) → PySem.W.tabIn K y = some (c, P) → LamX.TabB base mg c P) →
      FnOk P w K mg base (L2.CX P w) 62 f fd ["_law_script"] (SpF (S1 P w K mg base [0, 1, 2, 15, 16, 18, 19, 22] ["law"]).G 1 F_law) := by
  obtain ⟨fd, F⟩ := c.def_ 16 (d := dd_law) rfl
  have e := hfa0.symm.trans (He.glo_ok X Gn (c.fact 16 (f := .glo "law") rfl))
  cases e
  have b := FunD.bindsA (ps := ["_law_script"]) F bn_law
  exact ⟨fd, fun s v => b s [v] rfl, fun base _ _ hb => by
    obtain ⟨cc, PP, M0⟩ := mk0_of (P' := P) (w := w) (xs := [0, 1, 2, 15, 16, 18, 19, 22]) (x := "law") X Gn cx.2.2 (by decide) hb
    exact ok_fnT (N := ["_law_script", "_law_bag_here", "_law_turn", "_law_some", "_law_k", "_law_top", "_law_bottom", "_law_found", "_law_due", "_law_one", "_law_two", "_law_left", "_law_right", "_law_text"]) (sc := defScope (top 28)) (k := 61) F M0 (He.glo_ok X Gn (c.fact 16 (f := .glo "law") rfl)) sc_law (ds_law (env_of X Gn c cx hb) M0)⟩
end L07
open PySem PySem.W PySem.Calls PyProof.Rows
theorem PySem.Challenge.cw_hueshade_k07_fractions_holds : PySem.Challenge.rw_hueshade_k07_fractions.Holds := by
  w_on; o_law
  refine HandSHeadRun.head_any (r := OpenLaw.row PySem.Challenge.rw_hueshade_k07_fractions) (q := view (OpenLaw.row PySem.Challenge.rw_hueshade_k07_fractions).prog [28]) (H := L07.hH) (ob := L07.hob) (M := 20000) (loose := L07.hloose) (d := HandSHeadRun.topDef (OpenLaw.row PySem.Challenge.rw_hueshade_k07_fractions).prog 28) (kwd := []) L07.hob_eq
    (by kernel_rfl) (fun s => by kernel_rfl) L07.hrun (by kernel_rfl) (by kernel_rfl) (by kernel_rfl) (by rfl) (by first | assumption | decide +kernel) (by decide +kernel) ⟨rfl, rfl, rfl, rfl, rfl, by decide +kernel⟩ ?hw ?hc
  case hw => w_witness2
  case hc =>
    refine Hx.law_endT ["law"] (l := PySem.Challenge.rw_hueshade_k07_fractions) (n := 63) (k := 62) (x := "_law_script") rfl (by decide) (by kernel_rfl) ⟨rfl, by decide, by decide⟩ (by kernel_rfl) ?F
    intro w mg fa h Y Gn hmg0
    obtain ⟨K, KX, c, cx⟩ := Y
    have cx := L07.cx_of cx
    have hmg : mg ("law" : PySem.Str) = some (.ref fa) := by
      have e : (HandSHeadRun.topDef (OpenLaw.row PySem.Challenge.rw_hueshade_k07_fractions).prog 28).name = ("law" : PySem.Str) := by kernel_rfl
      rw [← e]
      exact hmg0
    obtain ⟨fd, hb, hF⟩ := L07.facts (P := (PySem.Challenge.rw_hueshade_k07_fractions).prog) (w := w) KX Gn hmg c cx
    exact ⟨K, fd, Hx.SpF (Hx.S1 (PySem.Challenge.rw_hueshade_k07_fractions).prog w K mg h [0, 1, 2, 15, 16, 18, 19, 22] ["law"]).G 1 L07.F_law, KX, cx.2.2, hb, fun H a ns hl hT hS => by
      obtain ⟨st, e⟩ := L07.f_law ns hl
      exact Hx.law_sp (G := (Hx.S1 (PySem.Challenge.rw_hueshade_k07_fractions).prog w K mg h [0, 1, 2, 15, 16, 18, 19, 22] ["law"]).G) hS hT (fun _ => rfl) e, hF⟩

