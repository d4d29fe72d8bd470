import PyProof.Rows.All
import Wide.All
import OpenK.AllK
import Wide.FinOn
import HandS.ForMost
import HandS.Exc
import HandS.Defaults
import HandS.Wide
import HandS.CallSlots
import HandS.WordsExc
import HandS.Lambda
import KE.KNest
import HandS.Style
import HandS.NoneIn
import HandS.TupAny
import HandS.IsInst
import HandS.WordsDict
import KE.KExcInit
import HandS.ExcInit
import HandS.ExcField
import PyProof.ExcBaseAll.RuntimeError
import PyProof.ExcBaseAll.LookupError
import HandS.Nested
import KE.KStateDown
import HandS.Head0
import HandS.Head1
import HandS.Head2
import HandS.HeadEnd
import HandS.HeadHook1
import HandS.HeadHook2
import Lean
import HandS.EndOwn
import KE.GoesZip
import HandS.Zip0
import HandS.Iter
import HandS.Zip
import KE.GoesEnumKw
import HandS.Rev
import HandS.SortInts
import HandS.More
import HandS.Text
import HandS.FStr
import HandS.Flow
import HandS.RaiseMore
import HandS.StrMore
import HandS.Deep
import KE.KUnpackStar
import HandS.TupMul
import HandS.Strs
import HandS.HeadHook3
import HandS.DictComp
import HandS.OwnEq
import HandS.ListEq
import HandS.SortRule
import KE.KItemsList
import HandS.ListItems
import HandS.SetBool
import HandS.TupSets
import HandS.DictEq
import HandS.Conv
import HandS.Words
import PySem.Challenge.RW_hueshade_k53_deeds_as_texts
set_option Elab.async false
set_option linter.all false
set_option maxRecDepth 100000
set_option autoImplicit false
namespace Hx
open PySem PySem.Spec L2
open PyProof.Rows hiding St
inductive Kd
 | tup | lst | frl | dik (ks : List Key) | dit (ks : List (List Key)) | ins (c : Nat)
 deriving DecidableEq
inductive D
 | non | bl (b : Bool) | int (i : Int) | str (s : Str) | fnv (f : Addr) (j : Nat) | ref (i : Nat) | con (k : Kd) (ds : List D)
 deriving Inhabited
inductive Fr
 | z | c (f : Fr) | t (fs : List Fr) | o (fs : List Fr)
 deriving Inhabited
abbrev Fp := Addr -> Nat
abbrev Env := List (Option (Fr × D))
abbrev Zd := List (Fr × D)
inductive Res
 | ok (f : Fr) (b : Bool) (d : D) (st : Zd) | exc (c : Nat) (ds : List D) (st : Zd) | stuck
abbrev Fn := List (Fr × D) -> Zd -> Res
structure LamD where
 f : Addr
 n : Nat
 r : Fn
 ent : List (Addr × HO)
 cv : List V
 cd : List D
structure Sg where
 K : PySem.W.Frag
 cls : Nat -> Addr
 fld : Nat -> List Str
 T : List (Addr × Str)
 lam : Nat -> Option LamD
 xs : List Nat
@[reducible] def Sg.off (G : Sg) : Sg := { G with lam := fun _ => none }
def Scal (G : Sg) : V -> D -> Prop
 | .non, .non => True
 | .bl a, .bl b => a = b
 | .int a, .int b => a = b
 | .str a, .str b => a = b
 | x, .fnv f _ => x = .ref f
 | _, _ => False
def IsO (G : Sg) : Kd -> List V -> HO -> Prop
 | .tup, vs, o => o = .tup vs
 | .lst, vs, o => o = .lst vs
 | .frl, vs, o => ∃ ob, o = .frz ob (.lst vs)
 | .dik ks, vs, o => o = .dK (ks.zip vs) ∧ ks.length = vs.length
 | .dit ks, vs, o => o = .dT (ks.zip vs) ∧ ks.length = vs.length
 | .ins c, vs, o => ∃ dx, o = .ins (G.cls c) dx ((G.fld c).zip vs) ∧ vs.length <= (G.fld c).length
def Rdk (H : Hp) (p : Addr) : Kd -> HO -> Prop
 | .dik _, o => Rd H p o
 | .dit _, o => Rd H p o
 | _, o => H p = some o
def dkO : HO -> Bool
 | .dK _ => true
 | .dT _ => true
 | _ => false
def Shr (G : Sg) (Fz : Addr -> Prop) (H : Hp) (p : Addr) (k : Kd) (vs : List V) : Prop :=
 match k with
 | .tup => SqT G.K H p vs
 | .frl => (Fz p ∧ Rd H p (.lst vs)) ∨ (SqL G.K (fun _ => none) p vs)
 | k => Fz p ∧ ∃ o, Rdk H p k o ∧ IsO G k vs o
def Own (G : Sg) (H : Hp) (p : Addr) (k : Kd) (vs : List V) : Prop := (k ≠ .tup ∧ k ≠ .frl) ∧ ∃ o, H p = some o ∧ IsO G k vs o
def zs (n : Nat) : List Fr := List.replicate n .z
mutual
inductive Rep (G : Sg) (Fz : Addr -> Prop) (am : List Addr) (H : Hp) : Fr -> V -> D -> Fp -> Prop
 | sc {v d n} : Scal G v d -> (∀ q, n q = 0) -> Rep G Fz am H .z v d n
 | rf {i p n} : am[i]? = some p -> (∀ q, n q = 0) -> Rep G Fz am H .z (.ref p) (.ref i) n
 | zz {p k vs ds n} : Shr G Fz H p k vs -> Reps G Fz am H (zs ds.length) vs ds n -> (∀ q, n q = 0) -> Rep G Fz am H .z (.ref p) (.con k ds) n
 | tp {p vs ds fs n} : SqT G.K H p vs -> Reps G Fz am H fs vs ds n -> Rep G Fz am H (.t fs) (.ref p) (.con .tup ds) n
 | cc {p k vs ds f n m} : Own G H p k vs -> Reps G Fz am H (List.replicate ds.length f) vs ds m -> (∀ q, n q = m q + if q = p then 1 else 0) -> Rep G Fz am H (.c f) (.ref p) (.con k ds) n
 | oo {p c vs ds fs n m} : Own G H p (.ins c) vs -> Reps G Fz am H fs vs ds m -> (∀ q, n q = m q + if q = p then 1 else 0) -> Rep G Fz am H (.o fs) (.ref p) (.con (.ins c) ds) n
inductive Reps (G : Sg) (Fz : Addr -> Prop) (am : List Addr) (H : Hp) : List Fr -> List V -> List D -> Fp -> Prop
 | nil {n} : (∀ q, n q = 0) -> Reps G Fz am H [] [] [] n
 | cons {f v d fs vs ds n1 n2 n} : Rep G Fz am H f v d n1 -> Reps G Fz am H fs vs ds n2 -> (∀ q, n q = n1 q + n2 q) -> Reps G Fz am H (f :: fs) (v :: vs) (d :: ds) n
end
section
variable {G : Sg} {Fz Fz' : Addr -> Prop} {am am' : List Addr} {H H' : Hp}
structure Ext (Fz : Addr -> Prop) (am : List Addr) (H : Hp) (Fz' : Addr -> Prop) (am' : List Addr) (H' : Hp) : Prop where
 fz : ∀ p, Fz p -> Fz' p
 cl : ∀ (i : Nat) (p : Addr), am[i]? = some p -> am'[i]? = some p
 rd : ∀ p u, Fz p -> Rd H p u -> Rd H' p u
 st : ∀ p u, Fz p -> H p = some u -> dkO u = false -> H' p = some u
 tp : ∀ p xs, Rd H p (.tup xs) -> Rd H' p (.tup xs)
theorem Ext.refl : Ext Fz am H Fz am H := ⟨fun _ h => h, fun _ _ h => h, fun _ _ _ h => h, fun _ _ _ h _ => h, fun _ _ h => h⟩
theorem Ext.trans {Fz2 : Addr -> Prop} {am2 : List Addr} {H2 : Hp} (a : Ext Fz am H Fz' am' H') (b : Ext Fz' am' H' Fz2 am2 H2) : Ext Fz am H Fz2 am2 H2 :=
 ⟨fun p h => b.fz p (a.fz p h), fun i p h => b.cl i p (a.cl i p h), fun p u h1 h2 => b.rd p u (a.fz p h1) (a.rd p u h1 h2), fun p u h1 h2 h3 => b.st p u (a.fz p h1) (a.st p u h1 h2 h3) h3, fun p xs h => b.tp p xs (a.tp p xs h)⟩
theorem Ext.sqt (E : Ext Fz am H Fz' am' H') {K : PySem.W.Frag} {p : Addr} {vs : List V} (h : SqT K H p vs) : SqT K H' p vs := h.imp (E.tp _ _) fun x => x
theorem Ext.shr (E : Ext Fz am H Fz' am' H') {p : Addr} {k : Kd} {vs : List V} (h : Shr G Fz H p k vs) : Shr G Fz' H' p k vs := by
 cases k with
 | tup => exact E.sqt h
 | dik ks => obtain ⟨h1, o, h2, h3⟩ := h; exact ⟨E.fz _ h1, o, E.rd _ _ h1 h2, h3⟩
 | dit ks => obtain ⟨h1, o, h2, h3⟩ := h; exact ⟨E.fz _ h1, o, E.rd _ _ h1 h2, h3⟩
 | lst => obtain ⟨h1, o, h2, h3⟩ := h; exact ⟨E.fz _ h1, o, E.st _ _ h1 h2 (by cases h3; rfl), h3⟩
 | frl => exact h.imp (fun ⟨h1, h2⟩ => ⟨E.fz _ h1, E.rd _ _ h1 h2⟩) id
 | ins c => obtain ⟨h1, o, h2, h3⟩ := h; exact ⟨E.fz _ h1, o, E.st _ _ h1 h2 (by obtain ⟨dx, e, _⟩ := h3; subst e; rfl), h3⟩
mutual
theorem Rep.ext {f : Fr} {v : V} {d : D} {n : Fp} (E : Ext Fz am H Fz' am' H') (r : Rep G Fz am H f v d n) (k : ∀ p o, 0 < n p -> H p = some o -> H' p = some o) : Rep G Fz' am' H' f v d n :=
 match r with
 | .sc h1 h2 => .sc h1 h2
 | .rf h1 h2 => .rf (E.cl _ _ h1) h2
 | .zz h1 h2 h3 => .zz (E.shr h1) (Reps.ext E h2 k) h3
 | .tp h1 h2 => .tp (E.sqt h1) (Reps.ext E h2 k)
 | .cc ⟨t, o, h1, h2⟩ h3 h4 => .cc ⟨t, o, k _ _ (by rw [h4]; simp) h1, h2⟩ (Reps.ext E h3 fun p o hp => k p o (by rw [h4]; omega)) h4
 | .oo ⟨t, o, h1, h2⟩ h3 h4 => .oo ⟨t, o, k _ _ (by rw [h4]; simp) h1, h2⟩ (Reps.ext E h3 fun p o hp => k p o (by rw [h4]; omega)) h4
theorem Reps.ext {fs : List Fr} {vs : List V} {ds : List D} {n : Fp} (E : Ext Fz am H Fz' am' H') (r : Reps G Fz am H fs vs ds n) (k : ∀ p o, 0 < n p -> H p = some o -> H' p = some o) : Reps G Fz' am' H' fs vs ds n :=
 match r with
 | .nil h => .nil h
 | .cons h1 h2 h3 => .cons (Rep.ext E h1 fun p o hp => k p o (by rw [h3]; omega)) (Reps.ext E h2 fun p o hp => k p o (by rw [h3]; omega)) h3
end
theorem Rep.fp {f : Fr} {v : V} {d : D} {n m : Fp} (r : Rep G Fz am H f v d n) (h : ∀ q, n q = m q) : Rep G Fz am H f v d m := by
 have e : n = m := funext h
 exact e ▸ r
theorem Reps.fp {f : List Fr} {v : List V} {d : List D} {n m : Fp} (r : Reps G Fz am H f v d n) (h : ∀ q, n q = m q) : Reps G Fz am H f v d m := by
 have e : n = m := funext h
 exact e ▸ r
theorem Rep.z0 {v : V} {d : D} {n : Fp} (r : Rep G Fz am H .z v d n) : ∀ q, n q = 0 := by
 cases r with
 | sc _ h => exact h
 | rf _ h => exact h
 | zz _ _ h => exact h
theorem Reps.z0 : ∀ {k : Nat} {vs : List V} {ds : List D} {n : Fp}, Reps G Fz am H (zs k) vs ds n -> ∀ q, n q = 0
 | 0, _, _, _, r => by
  cases r with
  | nil h => exact h
 | k + 1, _, _, _, r => by
  have e : zs (k + 1) = .z :: zs k := List.replicate_succ
  rw [e] at r
  cases r with
  | cons h1 h2 h3 => intro q; rw [h3, h1.z0, Reps.z0 h2]
theorem Reps.len {fs : List Fr} {vs : List V} {ds : List D} {n : Fp} (r : Reps G Fz am H fs vs ds n) : fs.length = ds.length ∧ vs.length = ds.length := by
 match r with
 | .nil _ => exact ⟨rfl, rfl⟩
 | .cons _ h _ => have := h.len; exact ⟨congrArg Nat.succ this.1, congrArg Nat.succ this.2⟩
theorem own_there {p0 p : Addr} {k : Kd} {vs : List V} {m : Nat} (h1 : Own G H p0 k vs) (ih : 0 < m -> ∃ o, H p = some o) (hp : 0 < m + if p = p0 then 1 else 0) : ∃ o, H p = some o := by
 by_cases e : p = p0
 ·subst e
  obtain ⟨_, o, h, _⟩ := h1
  exact ⟨o, h⟩
 ·simp [e] at hp
  exact ih hp
mutual
theorem Rep.there {f : Fr} {v : V} {d : D} {n : Fp} (r : Rep G Fz am H f v d n) (p : Addr) (hp : 0 < n p) : ∃ o, H p = some o :=
 match r with
 | .sc _ h => by rw [h] at hp; omega
 | .rf _ h => by rw [h] at hp; omega
 | .zz _ _ h => by rw [h] at hp; omega
 | .tp _ h => Reps.there h p hp
 | .cc h1 h2 h3 => own_there h1 (Reps.there h2 p) (h3 p ▸ hp)
 | .oo h1 h2 h3 => own_there h1 (Reps.there h2 p) (h3 p ▸ hp)
theorem Reps.there {fs : List Fr} {vs : List V} {ds : List D} {n : Fp} (r : Reps G Fz am H fs vs ds n) (p : Addr) (hp : 0 < n p) : ∃ o, H p = some o :=
 match r with
 | .nil h => by rw [h] at hp; omega
 | .cons (n1 := n1) h1 h2 h3 => if e : 0 < n1 p then Rep.there h1 p e else Reps.there h2 p (by rw [h3] at hp; omega)
end
def OwnK : HO -> Prop
 | .lst _ => True
 | .dK _ => True
 | .dT _ => True
 | .ins _ _ _ => True
 | _ => False
theorem own_kind {p0 p : Addr} {k : Kd} {vs : List V} {m : Nat} (h1 : Own G H p0 k vs) (ih : 0 < m -> ∃ o, H p = some o ∧ OwnK o) (hp : 0 < m + if p = p0 then 1 else 0) : ∃ o, H p = some o ∧ OwnK o := by
 by_cases e : p = p0
 ·subst e
  obtain ⟨t, o, h, i⟩ := h1
  refine ⟨o, h, ?_⟩
  cases k with
  | tup => exact absurd rfl t.1
  | frl => exact absurd rfl t.2
  | lst => cases i; trivial
  | dik ks => obtain ⟨e, _⟩ := i; subst e; trivial
  | dit ks => obtain ⟨e, _⟩ := i; subst e; trivial
  | ins c => obtain ⟨dx, e, _⟩ := i; subst e; trivial
 ·simp [e] at hp
  exact ih hp
mutual
theorem Rep.kind {f : Fr} {v : V} {d : D} {n : Fp} (r : Rep G Fz am H f v d n) (p : Addr) (hp : 0 < n p) : ∃ o, H p = some o ∧ OwnK o :=
 match r with
 | .sc _ h => by rw [h] at hp; omega
 | .rf _ h => by rw [h] at hp; omega
 | .zz _ _ h => by rw [h] at hp; omega
 | .tp _ h => Reps.kind h p hp
 | .cc h1 h2 h3 => own_kind h1 (Reps.kind h2 p) (h3 p ▸ hp)
 | .oo h1 h2 h3 => own_kind h1 (Reps.kind h2 p) (h3 p ▸ hp)
theorem Reps.kind {fs : List Fr} {vs : List V} {ds : List D} {n : Fp} (r : Reps G Fz am H fs vs ds n) (p : Addr) (hp : 0 < n p) : ∃ o, H p = some o ∧ OwnK o :=
 match r with
 | .nil h => by rw [h] at hp; omega
 | .cons (n1 := n1) h1 h2 h3 => if e : 0 < n1 p then Rep.kind h1 p e else Reps.kind h2 p (by rw [h3] at hp; omega)
end
def Fro (Fz : Addr -> Prop) (n : Fp) : Addr -> Prop := fun p => Fz p ∨ 0 < n p
theorem own_shr {p0 : Addr} {k : Kd} {vs : List V} (h1 : Own G H p0 k vs) (hz : Fz p0) : Shr G Fz H p0 k vs := by
 obtain ⟨t, o, h, i⟩ := h1
 cases k with
 | tup => exact absurd rfl t.1
 | frl => exact absurd rfl t.2
 | dik ks => exact ⟨hz, o, .inl h, i⟩
 | dit ks => exact ⟨hz, o, .inl h, i⟩
 | _ => exact ⟨hz, o, h, i⟩
theorem Reps.zlen {vs : List V} {ds : List D} {n : Fp} {k : Nat} (h : Reps G Fz am H (zs k) vs ds n) : Reps G Fz am H (zs ds.length) vs ds n := by
 have e : k = ds.length := by have := h.len.1; simpa [zs] using this
 rw [<- e]; exact h
mutual
theorem Rep.frz {f : Fr} {v : V} {d : D} {n : Fp} (r : Rep G Fz am H f v d n) (hz : ∀ p, Fz p -> Fz' p) (hn : ∀ p, 0 < n p -> Fz' p) : Rep G Fz' am H .z v d (fun _ => 0) :=
 match r with
 | .sc h1 _ => .sc h1 fun _ => rfl
 | .rf h1 _ => .rf h1 fun _ => rfl
 | .zz h1 h2 h3 => .zz (Ext.shr (am := am) (am' := am) ⟨hz, fun _ _ h => h, fun _ _ _ h => h, fun _ _ _ h _ => h, fun _ _ h => h⟩ h1) (Reps.frz h2 hz fun p hp => hn p (by rw [h3]; rw [h2.z0] at hp; omega)) fun _ => rfl
 | .tp h1 h2 => .zz (k := .tup) h1 (Reps.frz h2 hz hn) fun _ => rfl
 | .cc h1 h2 h3 => .zz (own_shr h1 (hn _ (by rw [h3]; simp))) (Reps.frz h2 hz fun p hp => hn p (by rw [h3]; omega)) fun _ => rfl
 | .oo h1 h2 h3 => .zz (own_shr h1 (hn _ (by rw [h3]; simp))) (Reps.frz h2 hz fun p hp => hn p (by rw [h3]; omega)) fun _ => rfl
theorem Reps.frz {fs : List Fr} {vs : List V} {ds : List D} {n : Fp} (r : Reps G Fz am H fs vs ds n) (hz : ∀ p, Fz p -> Fz' p) (hn : ∀ p, 0 < n p -> Fz' p) : Reps G Fz' am H (zs ds.length) vs ds (fun _ => 0) :=
 match r with
 | .nil _ => .nil fun _ => rfl
 | .cons h1 h2 h3 => .cons (Rep.frz h1 hz fun p hp => hn p (by rw [h3]; omega)) (Reps.frz h2 hz fun p hp => hn p (by rw [h3]; omega)) fun _ => rfl
end
end
def RdO (G : Sg) (H : Hp) (p : Addr) (k : Kd) (vs : List V) : Prop :=
 match k with
 | .tup => SqT G.K H p vs
 | .frl => SqL G.K H p vs
 | k => ∃ o, Rdk H p k o ∧ IsO G k vs o
def View (G : Sg) (Fz : Addr -> Prop) (am : List Addr) (H : Hp) (v : V) : D -> Prop
 | .con k ds => ∃ p vs, v = .ref p ∧ RdO G H p k vs ∧ Reps G Fz am H (zs ds.length) vs ds (fun _ => 0)
 | .ref i => ∃ p, v = .ref p ∧ am[i]? = some p
 | d => Scal G v d
def Fr.isz : Fr -> Bool
 | .z => true
 | _ => false
def Fr.flat : Fr -> Bool
 | .z => true
 | .c f => f.isz
 | .t fs => fs.all Fr.isz
 | .o fs => fs.all Fr.isz
theorem Fr.Uu {f : Fr} (h : f.isz = true) : f = .z := by cases f <;> first | rfl | cases h
theorem all_isz : ∀ {fs : List Fr}, fs.all Fr.isz = true -> fs = zs fs.length
 | [], _ => rfl
 | f :: fs, h => by
  simp only [List.all_cons, Bool.and_eq_true] at h
  rw [Fr.Uu h.1]
  show Fr.z :: fs = zs (fs.length + 1)
  rw [show zs (fs.length + 1) = Fr.z :: zs fs.length from List.replicate_succ, <- all_isz h.2]
section
variable {G : Sg} {Fz Fz' : Addr -> Prop} {am am' : List Addr} {H H' : Hp}
theorem Reps.toz {vs : List V} {ds : List D} {k : Nat} {n : Fp} (h : Reps G Fz am H (zs k) vs ds n) : Reps G Fz am H (zs ds.length) vs ds (fun _ => 0) := h.zlen.fp h.z0
theorem Rep.view {f : Fr} {v : V} {d : D} {n : Fp} (r : Rep G Fz am H f v d n) (hf : f.flat = true) : View G Fz am H v d := by
 cases r with
 | sc h1 h2 =>
  cases d with
  | ref i => cases v <;> exact h1.elim
  | con k ds => cases v <;> exact h1.elim
  | _ => exact h1
 | rf h1 h2 => exact ⟨_, rfl, h1⟩
 | @zz p k vs ds n h1 h2 h3 =>
  refine ⟨p, vs, rfl, ?_, h2.toz⟩
  cases k with
  | tup => exact h1
  | frl =>
   rcases h1 with ⟨_, h⟩ | (h | ⟨_, h⟩) | h
   ·exact .inl h
   ·cases h
   ·cases h
   ·exact .inr h
  | _ => exact h1.2
 | @tp p vs ds fs n h1 h2 =>
  refine ⟨p, vs, rfl, h1, ?_⟩
  have e := all_isz (fs := fs) hf
  rw [e] at h2
  exact h2.toz
 | @cc p k vs ds f n m h1 h2 h3 =>
  have e : f = .z := Fr.Uu hf
  subst e
  obtain ⟨t, o, h4, h5⟩ := h1
  refine ⟨p, vs, rfl, ?_, h2.toz⟩
  cases k with
  | tup => exact absurd rfl t.1
  | frl => exact absurd rfl t.2
  | dik ks => exact ⟨o, .inl h4, h5⟩
  | dit ks => exact ⟨o, .inl h4, h5⟩
  | _ => exact ⟨o, h4, h5⟩
 | @oo p c vs ds fs n m h1 h2 h3 =>
  obtain ⟨t, o, h4, h5⟩ := h1
  have e := all_isz (fs := fs) hf
  rw [e] at h2
  exact ⟨p, vs, rfl, ⟨o, h4, h5⟩, h2.toz⟩
end
inductive EnvR (G : Sg) (Fz : Addr -> Prop) (am : List Addr) (H : Hp) : Env -> St -> Fp -> Prop
 | nil {n} : (∀ q, n q = 0) -> EnvR G Fz am H [] [] n
 | som {f d v env σ n1 n2 n} : Rep G Fz am H f v d n1 -> EnvR G Fz am H env σ n2 -> (∀ q, n q = n1 q + n2 q) -> EnvR G Fz am H (some (f, d) :: env) (some v :: σ) n
 | non {x env σ n} : EnvR G Fz am H env σ n -> EnvR G Fz am H (none :: env) (x :: σ) n
structure Tm where
 v : V
 f : Fr
 d : D
 bor : Bool := false
inductive TmR (G : Sg) (Fz : Addr -> Prop) (am : List Addr) (H : Hp) (ne : Fp) : List Tm -> Fp -> Prop
 | nil {n} : (∀ q, n q = 0) -> TmR G Fz am H ne [] n
 | own {f v d T n1 n2 n} : Rep G Fz am H f v d n1 -> TmR G Fz am H ne T n2 -> (∀ q, n q = n1 q + n2 q) -> TmR G Fz am H ne (⟨v, f, d, false⟩ :: T) n
 | bor {f v d T n1 n} : Rep G Fz am H f v d n1 -> (∀ q, n1 q <= ne q) -> TmR G Fz am H ne T n -> TmR G Fz am H ne (⟨v, f, d, true⟩ :: T) n
def StoR (G : Sg) (Fz : Addr -> Prop) (am : List Addr) (H : Hp) (st : Zd) (n : Fp) : Prop := Reps G Fz am H (st.map (·.1)) (am.map V.ref) (st.map (·.2)) n
structure Gd where
 H0 : Hp
 A0 : Addr -> Prop
 F0 : Addr -> Prop
 am0 : List Addr
def Vf : HO -> Bool
 | .tbl _ => true
 | _ => false
theorem OwnK.nt {o : HO} (h : OwnK o) : Vf o = false := by cases o <;> first | rfl | exact h.elim
def isExt : HO -> Bool
 | .ext _ => true
 | _ => false
def VX : HO -> Bool
 | .tbl _ => false
 | .ext _ => false
 | _ => true
theorem OwnK.pl {o : HO} (h : OwnK o) : VX o = true := by cases o <;> first | rfl | exact h.elim
theorem pl_nt {o : HO} (h : VX o = true) : Vf o = false := by cases o <;> first | rfl | cases h
theorem ext_nt {o : HO} (h : isExt o = true) : Vf o = false := by cases o <;> first | rfl | cases h
theorem ext_np {o : HO} (h : isExt o = true) : VX o = false := by cases o <;> first | rfl | cases h
theorem ext_no {o : HO} (h : isExt o = true) : ¬ OwnK o := fun k => by
 have e := k.pl
 rw [ext_np h] at e
 cases e
def St1 (H : Hp) (p : Addr) (f : Prop) (o : HO) : Prop := H p = some o ∨ (f ∧ dkO o = true ∧ ∃ ob, H p = some (.frz ob o))
theorem St1.nd {H : Hp} {p : Addr} {f : Prop} {o : HO} (h : St1 H p f o) (n : dkO o = false) : H p = some o := h.elim id fun ⟨_, d, _⟩ => by rw [n] at d; cases d
theorem St1.nf {H : Hp} {p : Addr} {f : Prop} {o : HO} (h : St1 H p f o) (n : ¬ f) : H p = some o := h.elim id fun ⟨z, _⟩ => (n z).elim
theorem St1.rd {H : Hp} {p : Addr} {f : Prop} {o : HO} (h : St1 H p f o) : Rd H p o := h.imp id fun ⟨_, _, ob, e⟩ => ⟨ob, e⟩
theorem St1.map {H H' : Hp} {p : Addr} {f : Prop} {o : HO} (h : St1 H p f o) (k : ∀ u, (u = o ∨ Vf u = false) -> H p = some u -> H' p = some u) : St1 H' p f o := h.imp (k _ (.inl rfl)) fun ⟨a, b, ob, e⟩ => ⟨a, b, ob, k _ (.inr rfl) e⟩
theorem St1.some {H : Hp} {p : Addr} {f : Prop} {o : HO} (h : St1 H p f o) : ∃ u, H p = some u := h.elim (fun e => ⟨_, e⟩) fun ⟨_, _, ob, e⟩ => ⟨_, e⟩
theorem dk_dct {o : HO} (h : dkO o = false) : dkO o = false := h
theorem ext_dk {o : HO} (h : isExt o = true) : dkO o = false := by cases o <;> first | rfl | cases h
structure Home (G : Sg) (g : Gd) : Prop where
 fz : ∀ p, g.F0 p -> ¬ g.A0 p ∧ ∃ o, g.H0 p = some o ∧ VX o = true
 a : ∀ p, g.A0 p -> ∃ o, g.H0 p = some o ∧ OwnK o
 lam : ∀ (j : Nat) (l : LamD), G.lam j = some l -> (∀ e ∈ l.ent, isExt e.2 = true ∧ g.H0 e.1 = some e.2) ∧ Reps G g.F0 g.am0 g.H0 (zs l.cd.length) l.cv l.cd (fun _ => 0)
structure Rel0 (G : Sg) (g : Gd) (Fz : Addr -> Prop) (am : List Addr) (H : Hp) (tot : Fp) : Prop where
 n1 : ∀ p, tot p <= 1
 nz : ∀ p, 0 < tot p -> ¬ Fz p
 th : ∀ p, 0 < tot p -> ∃ o, H p = some o ∧ OwnK o
 zt : ∀ p, Fz p -> ∃ o, H p = some o ∧ VX o = true
 k : ∀ p o, Vf o = false -> g.H0 p = some o -> ¬ g.A0 p -> St1 H p (g.F0 p) o
 f : ∀ p, 0 < tot p -> g.A0 p ∨ g.H0 p = none
 z0 : ∀ p, g.F0 p -> Fz p
 z1 : ∀ p, Fz p -> g.F0 p ∨ g.A0 p ∨ g.H0 p = none
 a : ∀ (i : Nat) p, g.am0[i]? = some p -> am[i]? = some p
 tb : LamX.Tabs G.T H
 hm : Home G g
 kt : ∀ p o, Vf o = true -> g.H0 p = some o -> ¬ g.A0 p -> ∃ o', H p = some o' ∧ Vf o' = true
def RlB (G : Sg) (g : Gd) (env : Env) (st : Zd) (T : List Tm) (σ : St) (H : Hp) (B : (Addr -> Prop) -> List Addr -> Prop) : Prop :=
 ∃ Fz am ne nt ns, EnvR G Fz am H env σ ne ∧ TmR G Fz am H ne T nt ∧ StoR G Fz am H st ns ∧ Rel0 G g Fz am H (fun p => ne p + nt p + ns p) ∧ B Fz am
def Rl (G : Sg) (g : Gd) (env : Env) (st : Zd) (T : List Tm) (σ : St) (H : Hp) : Prop := RlB G g env st T σ H fun _ _ => True
section
variable {G : Sg} {g : Gd} {Fz Fz' : Addr -> Prop} {am am' : List Addr} {H H' : Hp} {env : Env} {st st' : Zd} {T T' : List Tm} {σ : St} {ne nt ns n : Fp}
theorem EnvR.ext (E : Ext Fz am H Fz' am' H') (r : EnvR G Fz am H env σ n) (k : ∀ p o, 0 < n p -> H p = some o -> H' p = some o) : EnvR G Fz' am' H' env σ n := by
 induction r with
 | nil h => exact .nil h
 | som h1 h2 h3 ih => exact .som (h1.ext E fun p o hp => k p o (by rw [h3]; omega)) (ih fun p o hp => k p o (by rw [h3]; omega)) h3
 | non h ih => exact .non (ih k)
theorem TmR.ext (E : Ext Fz am H Fz' am' H') (r : TmR G Fz am H ne T n) (k : ∀ p o, 0 < n p -> H p = some o -> H' p = some o) (ke : ∀ p o, 0 < ne p -> H p = some o -> H' p = some o) : TmR G Fz' am' H' ne T n := by
 induction r with
 | nil h => exact .nil h
 | own h1 h2 h3 ih => exact .own (h1.ext E fun p o hp => k p o (by rw [h3]; omega)) (ih fun p o hp => k p o (by rw [h3]; omega)) h3
 | bor h1 h2 h3 ih => exact .bor (h1.ext E fun p o hp => ke p o (by have := h2 p; omega)) h2 (ih k)
theorem EnvR.len (r : EnvR G Fz am H env σ n) : env.length = σ.length := by
 induction r with
 | nil => rfl
 | som _ _ _ ih => simp [ih]
 | non _ ih => simp [ih]
theorem EnvR.get (r : EnvR G Fz am H env σ n) : ∀ {i : Nat} {f : Fr} {d : D}, env[i]? = some (some (f, d)) -> ∃ v m, σ[i]? = some (some v) ∧ Rep G Fz am H f v d m ∧ ∀ q, m q <= n q := by
 induction r with
 | nil h => intro i f d e; simp at e
 | @som f' d' v env σ n1 n2 n h1 h2 h3 ih =>
  intro i f d e
  cases i with
  | zero =>
   simp at e
   obtain ⟨rfl, rfl⟩ := e
   exact ⟨v, n1, by simp, h1, fun q => by rw [h3]; omega⟩
  | succ i =>
   obtain ⟨v, m, e1, e2, e3⟩ := ih (i := i) (f := f) (d := d) (by simpa using e)
   exact ⟨v, m, by simpa using e1, e2, fun q => by rw [h3]; have := e3 q; omega⟩
 | @non x env σ n h ih =>
  intro i f d e
  cases i with
  | zero => simp at e
  | succ i =>
   obtain ⟨v, m, e1, e2, e3⟩ := ih (i := i) (f := f) (d := d) (by simpa using e)
   exact ⟨v, m, by simpa using e1, e2, e3⟩
theorem EnvR.set {f : Fr} {v : V} {d : D} {m : Fp} (h : Rep G Fz am H f v d m) (r : EnvR G Fz am H env σ n) : ∀ (i : Nat), ∃ n', EnvR G Fz am H (env.set i (some (f, d))) (σ.set i (some v)) n' ∧ ∀ q, n' q <= n q + m q := by
 induction r with
 | nil h0 => intro i; exact ⟨_, .nil h0, fun q => by omega⟩
 | @som f' d' v' env σ n1 n2 n h1 h2 h3 ih =>
  intro i
  cases i with
  | zero => exact ⟨_, .som h h2 (n := fun q => m q + n2 q) fun _ => rfl, fun q => by rw [h3]; omega⟩
  | succ i =>
   obtain ⟨n', e1, e2⟩ := ih i
   exact ⟨_, .som h1 e1 (n := fun q => n1 q + n' q) fun _ => rfl, fun q => by rw [h3]; have := e2 q; omega⟩
 | @non x env σ n h2 ih =>
  intro i
  cases i with
  | zero => exact ⟨_, .som h h2 (n := fun q => m q + n q) fun _ => rfl, fun q => by omega⟩
  | succ i =>
   obtain ⟨n', e1, e2⟩ := ih i
   exact ⟨n', .non e1, e2⟩
theorem EnvR.kill (r : EnvR G Fz am H env σ n) : ∀ (i : Nat) (y : St) , y.length = σ.length -> (∀ j, j ≠ i -> y[j]? = σ[j]?) -> ∃ n', EnvR G Fz am H (env.set i none) y n' ∧ ∀ q, n' q <= n q := by
 induction r with
 | nil h0 =>
  intro i y hy _
  have e : y = [] := List.length_eq_zero_iff.mp hy
  subst e
  exact ⟨_, .nil h0, fun q => Nat.le_refl _⟩
 | @som f' d' v' env σ n1 n2 n h1 h2 h3 ih =>
  intro i y hy hs
  cases y with
  | nil => simp at hy
  | cons y0 y =>
   cases i with
   | zero =>
    have e : y = σ := by
     apply List.ext_getElem?
     intro j
     have := hs (j + 1) (by omega)
     simpa using this
    subst e
    exact ⟨n2, .non h2, fun q => by rw [h3]; omega⟩
   | succ i =>
    have e0 : y0 = some v' := by
     have := hs 0 (by omega)
     simpa using this
    subst e0
    obtain ⟨n', e1, e2⟩ := ih i y (by simpa using hy) fun j hj => by
     have := hs (j + 1) (by omega)
     simpa using this
    exact ⟨_, .som h1 e1 (n := fun q => n1 q + n' q) fun _ => rfl, fun q => by rw [h3]; have := e2 q; omega⟩
 | @non x env σ n h2 ih =>
  intro i y hy hs
  cases y with
  | nil => simp at hy
  | cons y0 y =>
   cases i with
   | zero =>
    have e : y = σ := by
     apply List.ext_getElem?
     intro j
     have := hs (j + 1) (by omega)
     simpa using this
    subst e
    exact ⟨n, .non h2, fun q => Nat.le_refl _⟩
   | succ i =>
    obtain ⟨n', e1, e2⟩ := ih i y (by simpa using hy) fun j hj => by
     have := hs (j + 1) (by omega)
     simpa using this
    exact ⟨n', .non e1, e2⟩
theorem EnvR.frz (r : EnvR G Fz am H env σ n) : ∀ {i : Nat} {f : Fr} {d : D}, env[i]? = some (some (f, d)) -> ∃ m n' : Fp, (∀ q, n q = m q + n' q) ∧
  ∀ Fz', (∀ p, Fz p -> Fz' p) -> (∀ p, 0 < m p -> Fz' p) -> EnvR G Fz' am H (env.set i (some (.z, d))) σ n' := by
 have up : ∀ {env : Env} {σ : St} {n : Fp} (Fz' : Addr -> Prop), (∀ p, Fz p -> Fz' p) -> EnvR G Fz am H env σ n -> EnvR G Fz' am H env σ n := fun Fz' hz r => r.ext ⟨hz, fun _ _ h => h, fun _ _ _ h => h, fun _ _ _ h _ => h, fun _ _ h => h⟩ fun _ _ _ h => h
 induction r with
 | nil h => intro i f d e; simp at e
 | @som f' d' v env σ n1 n2 n h1 h2 h3 ih =>
  intro i f d e
  cases i with
  | zero =>
   simp at e
   obtain ⟨rfl, rfl⟩ := e
   exact ⟨n1, n2, h3, fun Fz' hz hm => .som (h1.frz hz hm) (up Fz' hz h2) (n := n2) fun q => by simp⟩
  | succ i =>
   obtain ⟨m, n', e1, e2⟩ := ih (i := i) (f := f) (d := d) (by simpa using e)
   exact ⟨m, fun q => n1 q + n' q, fun q => by rw [h3, e1]; show _ = m q + (n1 q + n' q); omega, fun Fz' hz hm => .som (h1.ext ⟨hz, fun _ _ h => h, fun _ _ _ h => h, fun _ _ _ h _ => h, fun _ _ h => h⟩ fun _ _ _ h => h) (e2 Fz' hz hm) fun _ => rfl⟩
 | @non x env σ n h ih =>
  intro i f d e
  cases i with
  | zero => simp at e
  | succ i =>
   obtain ⟨m, n', e1, e2⟩ := ih (i := i) (f := f) (d := d) (by simpa using e)
   exact ⟨m, n', e1, fun Fz' hz hm => .non (e2 Fz' hz hm)⟩
theorem EnvR.take (r : EnvR G Fz am H env σ n) : ∀ {i : Nat} {f : Fr} {d : D}, env[i]? = some (some (f, d)) -> ∃ (v : V) (m n' : Fp), σ[i]? = some (some v) ∧ Rep G Fz am H f v d m ∧ (∀ q, n q = m q + n' q) ∧ EnvR G Fz am H (env.set i none) σ n' := by
 induction r with
 | nil h => intro i f d e; simp at e
 | @som f' d' v env σ n1 n2 n h1 h2 h3 ih =>
  intro i f d e
  cases i with
  | zero =>
   simp at e
   obtain ⟨rfl, rfl⟩ := e
   exact ⟨v, n1, n2, by simp, h1, h3, .non h2⟩
  | succ i =>
   obtain ⟨v, m, n', e0, e1, e2, e3⟩ := ih (i := i) (f := f) (d := d) (by simpa using e)
   exact ⟨v, m, fun q => n1 q + n' q, by simpa using e0, e1, fun q => by rw [h3, e2]; show _ = m q + (n1 q + n' q); omega, .som h1 e3 fun _ => rfl⟩
 | @non x env σ n h ih =>
  intro i f d e
  cases i with
  | zero => simp at e
  | succ i =>
   obtain ⟨v, m, n', e0, e1, e2, e3⟩ := ih (i := i) (f := f) (d := d) (by simpa using e)
   exact ⟨v, m, n', by simpa using e0, e1, e2, .non e3⟩
theorem Rel0.less {t t' : Fp} (r : Rel0 G g Fz am H t) (h : ∀ q, t' q <= t q) : Rel0 G g Fz am H t' :=
 ⟨fun p => Nat.le_trans (h p) (r.n1 p), fun p hp => r.nz p (Nat.lt_of_lt_of_le hp (h p)), fun p hp => r.th p (Nat.lt_of_lt_of_le hp (h p)), r.zt, r.k, fun p hp => r.f p (Nat.lt_of_lt_of_le hp (h p)), r.z0, r.z1, r.a, r.tb, r.hm, r.kt⟩
theorem Rel0.froz {t t' m : Fp} (r : Rel0 G g Fz am H t) (h : ∀ q, t q = m q + t' q) : Rel0 G g (Fro Fz m) am H t' :=
 ⟨fun p => by have := r.n1 p; rw [h] at this; omega, fun p hp z => by
  rcases z with z | z
  ·exact r.nz p (by rw [h]; omega) z
  ·have := r.n1 p; rw [h] at this; omega, fun p hp => r.th p (by rw [h]; omega), fun p z => by
  rcases z with z | z
  ·exact r.zt p z
  ·obtain ⟨o, e, ow⟩ := r.th p (by rw [h]; omega)
   exact ⟨o, e, ow.pl⟩, r.k, fun p hp => r.f p (by rw [h]; omega), fun p z => .inl (r.z0 p z), fun p z => by
  rcases z with z | z
  ·exact r.z1 p z
  ·exact .inr (r.f p (by rw [h]; omega)), r.a, r.tb, r.hm, r.kt⟩
theorem Rel0.ext {t : Fp} (r : Rel0 G g Fz am H t) : Ext g.F0 g.am0 g.H0 Fz am H where
 fz := r.z0
 cl := r.a
 rd := fun p u z h => by
  obtain ⟨na, o, e, nt⟩ := r.hm.fz p z
  rcases h with h | ⟨o', h⟩
  ·rw [h] at e; cases e
   exact (r.k _ _ (pl_nt nt) h na).rd
  ·exact .inr ⟨o', (r.k _ _ rfl h na).nd rfl⟩
 st := fun p u z h nd => by
  obtain ⟨na, o, e, nt⟩ := r.hm.fz p z
  rw [h] at e; cases e
  exact (r.k _ _ (pl_nt nt) h na).nd (dk_dct nd)
 tp := fun p xs h => by
  have na : ∀ u : HO, ¬ OwnK u -> g.H0 p = some u -> ¬ g.A0 p := fun u nu e q => by
   obtain ⟨o, e1, k1⟩ := r.hm.a p q
   rw [e] at e1; cases e1
   exact nu k1
  rcases h with h | ⟨o, h⟩
  ·exact .inl ((r.k _ _ rfl h (na (.tup xs) (fun z => z) h)).nd rfl)
  ·exact .inr ⟨o, (r.k _ _ rfl h (na (.frz o (.tup xs)) (fun z => z) h)).nd rfl⟩
theorem Rel0.home {t m : Fp} (r : Rel0 G g Fz am H t) (h : ∀ q, m q <= t q) : Home G ⟨H, fun p => 0 < m p, Fz, am⟩ where
 fz := fun p z => ⟨fun q => r.nz p (Nat.lt_of_lt_of_le q (h p)) z, r.zt p z⟩
 a := fun p q => r.th p (Nat.lt_of_lt_of_le q (h p))
 lam := fun j l e => by
  obtain ⟨h1, h2⟩ := r.hm.lam j l e
  refine ⟨fun x hx => ?_, h2.ext r.ext fun p o hp => absurd hp (Nat.lt_irrefl 0)⟩
  obtain ⟨a1, a3⟩ := h1 x hx
  refine ⟨a1, (r.k _ _ (ext_nt a1) a3 fun q => ?_).nd (ext_dk a1)⟩
  obtain ⟨o, e1, k1⟩ := r.hm.a _ q
  rw [a3] at e1; cases e1
  exact ext_no a1 k1
theorem Rel0.new {t : Fp} (r : Rel0 G g Fz am H t) {p : Addr} (hn : H p = none) : g.A0 p ∨ g.H0 p = none := by
 cases e2 : g.H0 p with
 | none => exact .inr rfl
 | some o =>
  by_cases na : g.A0 p
  ·exact .inl na
  ·cases nt : Vf o with
   | false =>
    obtain ⟨u, this⟩ := (r.k p o nt e2 na).some
    rw [hn] at this
    cases this
   | true =>
    obtain ⟨o', e, _⟩ := r.kt p o nt e2 na
    rw [hn] at e
    cases e
theorem Rel0.grow {t t' m : Fp} (r : Rel0 G g Fz am H t) (s : Same H H') (hm : ∀ p, 0 < m p -> m p = 1 ∧ H p = none ∧ ∃ o, H' p = some o ∧ OwnK o) (h : ∀ q, t' q = m q + t q) : Rel0 G g Fz am H' t' := by
 have key : ∀ p, 0 < m p -> t p = 0 := fun p hp => by
  cases e : t p with
  | zero => rfl
  | succ k =>
   obtain ⟨o, e2, _⟩ := r.th p (by omega)
   rw [(hm p hp).2.1] at e2
   cases e2
 refine ⟨fun p => ?_, fun p hp z => ?_, fun p hp => ?_, fun p z => ?_, fun p o nt e na => (r.k p o nt e na).map fun u _ => s _ _, fun p hp => ?_, r.z0, r.z1, r.a, r.tb.ext s, r.hm, fun p o t e na => (r.kt p o t e na).imp fun o' ⟨e1, t1⟩ => ⟨s _ _ e1, t1⟩⟩
 ·rw [h]
  by_cases e : 0 < m p
  ·rw [key p e, (hm p e).1]
   omega
  ·have := r.n1 p; omega
 ·rw [h] at hp
  by_cases e : 0 < m p
  ·obtain ⟨o, e2, _⟩ := r.zt p z
   rw [(hm p e).2.1] at e2
   cases e2
  ·exact r.nz p (by omega) z
 ·rw [h] at hp
  by_cases e : 0 < m p
  ·exact (hm p e).2.2
  ·obtain ⟨o, e2, e3⟩ := r.th p (by omega)
   exact ⟨o, s _ _ e2, e3⟩
 ·obtain ⟨o, e, nt⟩ := r.zt p z
  exact ⟨o, s _ _ e, nt⟩
 ·rw [h] at hp
  by_cases e : 0 < m p
  ·exact r.new (hm p e).2.1
  ·exact r.f p (by omega)
theorem Ext.same (s : Same H H') (hz : ∀ p, Fz p -> Fz' p) : Ext Fz am H Fz' am H' := ⟨hz, fun _ _ h => h, fun p u _ h => h.imp (s _ _) fun ⟨o, q⟩ => ⟨o, s _ _ q⟩, fun p u _ h _ => s _ _ h, fun p xs h => h.imp (s _ _) fun ⟨o, q⟩ => ⟨o, s _ _ q⟩⟩
theorem Ext.shared (hz : ∀ p, Fz p -> Fz' p) : Ext Fz am H Fz' am H := Ext.same (Same.refl H) hz
end
inductive ResL
 | ok (ts : List (Fr × Bool × D)) (st : Zd) | exc (c : Nat) (ds : List D) (st : Zd) | stuck
inductive ResB
 | ok (b : Bool) (st : Zd) | exc (c : Nat) (ds : List D) (st : Zd) | stuck
abbrev Den := Env -> Zd -> Res
abbrev DenL := Env -> Zd -> ResL
abbrev DenB := Env -> Zd -> ResB
def ExcB (G : Sg) (H : Hp) (c : Nat) (ds : List D) (cls : Value) (dx : Option Addr) : (Addr -> Prop) -> List Addr -> Prop := fun Fz am =>
 c ∈ G.xs ∧ ∃ p fs vs, cls = .ref (G.cls c) ∧ dx = some p ∧ H p = some (.xd fs) ∧ Reps G Fz am H (zs ds.length) vs ds (fun _ => 0) ∧
  ∀ (i : Nat) (x : Str), (G.fld c)[i]? = some x -> ∀ v, vs[i]? = some v -> fs.lookup x = some v
section
variable (G : Sg) (g : Gd) (env : Env) (T : List Tm) (σ : St) (W : WX)
def ExcP (c : Nat) (ds : List D) (st : Zd) : Prop := ∀ cls dx H', RlB G g env st [] σ H' (ExcB G H' c ds cls dx) -> W cls dx σ H'
def Wo (Q : VK) : Res -> Prop
 | .ok f b d st => ∀ v H', Rl G g env st (⟨v, f, d, b⟩ :: T) σ H' -> Q v H'
 | .exc c ds st => ExcP G g env σ W c ds st
 | .stuck => False
def mkT : List V -> List (Fr × Bool × D) -> List Tm
 | v :: vs, (f, b, d) :: ts => ⟨v, f, d, b⟩ :: mkT vs ts
 | _, _ => []
def PostL (Q : List V -> Hp -> Prop) : ResL -> Prop
 | .ok ts st => ∀ vs H', vs.length = ts.length -> Rl G g env st (mkT vs ts ++ T) σ H' -> Q vs H'
 | .exc c ds st => ExcP G g env σ W c ds st
 | .stuck => False
def PostB (Q : Bool -> Hp -> Prop) : ResB -> Prop
 | .ok b st => ∀ H', Rl G g env st T σ H' -> Q b H'
 | .exc c ds st => ExcP G g env σ W c ds st
 | .stuck => False
end
def PostF (G : Sg) (g : Gd) (Q : VK) (E : XK) : Res -> Prop
 | .ok f b d st => b = false ∧ ∀ v H', Rl G g [] st [⟨v, f, d, false⟩] [] H' -> Q v H'
 | .exc c ds st => ∀ cls dx H', RlB G g [] st [] [] H' (ExcB G H' c ds cls dx) -> E cls dx H'
 | .stuck => False
def SpF (G : Sg) (n : Nat) (F : Fn) : Sp := fun vs H Q E => vs.length = n ∧ ∃ Fz am as st na ns, Reps G Fz am H (as.map (·.1)) vs (as.map (·.2)) na ∧ StoR G Fz am H st ns ∧
 Rel0 G ⟨H, fun p => 0 < na p + ns p, Fz, am⟩ Fz am H (fun p => na p + ns p) ∧ PostF G ⟨H, fun p => 0 < na p + ns p, Fz, am⟩ Q E (F as st)
def SpL (G : Sg) (l : LamD) : Sp := fun vs H Q E => vs.length = l.n ∧ (∀ e ∈ l.ent, H e.1 = some e.2) ∧ ∃ Fz am as st na ns, Reps G Fz am H (as.map (·.1)) vs (as.map (·.2)) na ∧ StoR G Fz am H st ns ∧
 Reps G Fz am H (zs l.cd.length) l.cv l.cd (fun _ => 0) ∧
 Rel0 G ⟨H, fun p => 0 < na p + ns p, Fz, am⟩ Fz am H (fun p => na p + ns p) ∧ PostF G ⟨H, fun p => 0 < na p + ns p, Fz, am⟩ Q E (l.r as st)
structure CloOk (P : Program) (w : World) (K : PySem.W.Frag) (mg : Str -> Option Value) (base : Heap) (k : Nat) (f : Addr) (ent : List (Addr × HO)) (sp : Sp) : Prop where
 at_ : ∀ (H : Hp) (h : Heap), HOk P w H h -> (∀ e ∈ ent, H e.1 = some e.2) -> PySem.W.FnAt f h
 run : ∀ (A : Around) (outer : List PySem.Env) (s : Shared) (H : Hp) (us : List Value) (vs : List V) (Q : VK) (E : XK), Room k A -> Env0 P w K mg base A outer s H -> Vals vs us -> sp vs H Q E ->
  codeAny (model P w) A (.call (.ref f) ⟨us, []⟩) (CR (L2.CX P w) outer P w H s Q E) s
abbrev LK : Nat := 60
def LamsOk (P : Program) (w : World) (mg : Str -> Option Value) (base : Heap) (G : Sg) : Prop := ∀ (j : Nat) (l : LamD), G.lam j = some l -> CloOk P w G.K mg base LK l.f l.ent (SpL G.off l)
theorem lams0 {P : Program} {w : World} {mg : Str -> Option Value} {base : Heap} {G : Sg} (h : ∀ j, G.lam j = none) : LamsOk P w mg base G := fun j l e => by rw [h] at e; cases e
structure Sx where
 P : Program
 w : World
 mg : Str -> Option Value
 base : Heap
 G : Sg
 N : List Str
 sc : Scope
 k : Nat
 fnA : Bool
 lok : LamsOk P w mg base G
 lmk : Option (Addr × Str)
 fnC : Str -> Bool
structure Stx (S : Sx) (X : Cx) : Prop where
 pr : X.prog = S.P
 w : X.w = S.w
 mg : X.mg = S.mg
 base : X.base = S.base
 K : X.K = S.G.K
 N : X.N = S.N
 sc : X.env.scope = S.sc
 nd : X.N.Nodup
 calm : X.calm = true
 room : Room S.k X.A
 po : PassesOwn (model X.prog X.w) X.A X.env X.xe
 fn : S.fnA = true -> ∀ x, X.fn x = true
 stk : S.fnA = true -> X.stack = X.env :: X.outer ∧ X.env.frame = some X.env.locals
 lmk : ∀ c q, S.lmk = some (c, q) -> X.env.code = .ref c ∧ X.env.qual = q
 fnC : ∀ x, S.fnC x = true -> X.fn x = true
def Zy (T : List Tm) : Prop := ∀ a ∈ T, a.bor = false
def DE (S : Sx) (e : Expr) (den : Den) : Prop := ∀ W : WX, ∃ t : TE, (∀ X, Stx S X -> Takes X W -> PE X e t) ∧
 ∀ g env st T σ H Q, Zy T -> Rl S.G g env st T σ H -> Wo S.G g env T σ W Q (den env st) -> t σ H Q
def DA (S : Sx) (es : List Expr) (den : DenL) : Prop := ∀ W : WX, ∃ t : TA, (∀ X, Stx S X -> Takes X W -> PA X es t) ∧
 ∀ g env st T σ H Q, Zy T -> Rl S.G g env st T σ H -> PostL S.G g env T σ W Q (den env st) -> t σ H Q
def DT (S : Sx) (e : Expr) (den : DenB) : Prop := ∀ W : WX, ∃ t : TT, (∀ X, Stx S X -> Takes X W -> PT X e t) ∧
 ∀ g env st T σ H Q, Zy T -> Rl S.G g env st T σ H -> PostB S.G g env T σ W Q (den env st) -> t σ H Q
section
variable {G : Sg} {g : Gd} {env : Env} {st st' : Zd} {T T' : List Tm} {σ : St} {H H' : Hp} {B B' : (Addr -> Prop) -> List Addr -> Prop}
theorem TmR.drop {Fz : Addr -> Prop} {am : List Addr} {ne nt : Fp} {a : Tm} (r : TmR G Fz am H ne (a :: T) nt) : ∃ nt', TmR G Fz am H ne T nt' ∧ ∀ q, nt' q <= nt q := by
 cases r with
 | own h1 h2 h3 => exact ⟨_, h2, fun q => by rw [h3]; omega⟩
 | bor h1 h2 h3 => exact ⟨_, h3, fun q => Nat.le_refl _⟩
theorem TmR.tail {Fz : Addr -> Prop} {am : List Addr} {ne nt : Fp} : ∀ {l : List Tm}, TmR G Fz am H ne (l ++ T) nt -> ∃ nt', TmR G Fz am H ne T nt' ∧ ∀ q, nt' q <= nt q
 | [], r => ⟨_, r, fun _ => Nat.le_refl _⟩
 | a :: l, r => by
  obtain ⟨n1, r1, l1⟩ := r.drop
  obtain ⟨n2, r2, l2⟩ := TmR.tail r1
  exact ⟨n2, r2, fun q => Nat.le_trans (l2 q) (l1 q)⟩
theorem TmR.mid {Fz : Addr -> Prop} {am : List Addr} {ne nt : Fp} {a : Tm} : ∀ {l : List Tm}, TmR G Fz am H ne (l ++ a :: T) nt -> TmR G Fz am H ne (a :: (l ++ T)) nt
 | [], r => r
 | b :: l, r => by
  cases r with
  | own h1 h2 h3 =>
   cases TmR.mid h2 with
   | own k1 k2 k3 => exact .own k1 (.own h1 k2 fun _ => rfl) fun q => by rw [h3, k3]; omega
   | bor k1 k2 k3 => exact .bor k1 k2 (.own h1 k3 h3)
  | bor h1 h2 h3 =>
   cases TmR.mid h3 with
   | own k1 k2 k3 => exact .own k1 (.bor h1 h2 k2) k3
   | bor k1 k2 k3 => exact .bor k1 k2 (.bor h1 h2 k3)
theorem RlB.tail {l : List Tm} (r : RlB G g env st (l ++ T) σ H B) : RlB G g env st T σ H B := by
 obtain ⟨Fz, am, ne, nt, ns, h1, h2, h3, h4, h5⟩ := r
 obtain ⟨nt', k1, k2⟩ := h2.tail
 exact ⟨Fz, am, ne, nt', ns, h1, k1, h3, h4.less fun q => by have := k2 q; omega, h5⟩
theorem RlB.drop {a : Tm} (r : RlB G g env st (a :: T) σ H B) : RlB G g env st T σ H B := RlB.tail (l := [a]) r
theorem RlB.notmp (r : RlB G g env st T σ H B) : RlB G g env st [] σ H B := RlB.tail (l := T) (by rw [List.append_nil]; exact r)
theorem RlB.mid {l : List Tm} {a : Tm} (r : RlB G g env st (l ++ a :: T) σ H B) : RlB G g env st (a :: (l ++ T)) σ H B := by
 obtain ⟨Fz, am, ne, nt, ns, h1, h2, h3, h4, h5⟩ := r
 exact ⟨Fz, am, ne, nt, ns, h1, h2.mid, h3, h4, h5⟩
theorem RlB.imp (r : RlB G g env st T σ H B) (h : ∀ Fz am, B Fz am -> B' Fz am) : RlB G g env st T σ H B' := by
 obtain ⟨Fz, am, ne, nt, ns, h1, h2, h3, h4, h5⟩ := r
 exact ⟨Fz, am, ne, nt, ns, h1, h2, h3, h4, h _ _ h5⟩
theorem RlB.rl (r : RlB G g env st T σ H B) : Rl G g env st T σ H := RlB.imp r fun _ _ _ => trivial
theorem Rl.scal {v : V} {d : D} (r : Rl G g env st T σ H) (h : Scal G v d) : Rl G g env st (⟨v, .z, d, false⟩ :: T) σ H := by
 obtain ⟨Fz, am, ne, nt, ns, h1, h2, h3, h4, h5⟩ := r
 exact ⟨Fz, am, ne, nt, ns, h1, .own (.sc h fun _ => rfl) h2 (n1 := fun _ => 0) fun q => by simp, h3, h4, h5⟩
theorem Rl.pushz {i : Nat} {d : D} (r : Rl G g env st T σ H) (e : env[i]? = some (some (.z, d))) : ∃ v, σ[i]? = some (some v) ∧ Rl G g env st (⟨v, .z, d, false⟩ :: T) σ H := by
 obtain ⟨Fz, am, ne, nt, ns, h1, h2, h3, h4, h5⟩ := r
 obtain ⟨v, m, e1, e2, e3⟩ := h1.get e
 exact ⟨v, e1, Fz, am, ne, nt, ns, h1, .own (e2.fp e2.z0) h2 (n1 := fun _ => 0) fun q => by simp, h3, h4, h5⟩
theorem Rl.pushb {i : Nat} {f : Fr} {d : D} (r : Rl G g env st T σ H) (e : env[i]? = some (some (f, d))) : ∃ v, σ[i]? = some (some v) ∧ Rl G g env st (⟨v, f, d, true⟩ :: T) σ H := by
 obtain ⟨Fz, am, ne, nt, ns, h1, h2, h3, h4, h5⟩ := r
 obtain ⟨v, m, e1, e2, e3⟩ := h1.get e
 exact ⟨v, e1, Fz, am, ne, nt, ns, h1, .bor e2 e3 h2, h3, h4, h5⟩
theorem Rl.frz {v : V} {f : Fr} {d : D} (r : Rl G g env st (⟨v, f, d, false⟩ :: T) σ H) : Rl G g env st (⟨v, .z, d, false⟩ :: T) σ H := by
 obtain ⟨Fz, am, ne, nt, ns, h1, h2, h3, h4, h5⟩ := r
 cases h2 with
 | @own _ _ _ _ n1 n2 _ k1 k2 k3 =>
  have E : Ext Fz am H (Fro Fz n1) am H := Ext.shared fun p z => .inl z
  exact ⟨Fro Fz n1, am, ne, n2, ns, h1.ext E fun _ _ _ h => h, .own (k1.frz (fun p z => .inl z) fun p z => .inr z) (k2.ext E (fun _ _ _ h => h) fun _ _ _ h => h) (n1 := fun _ => 0) (fun q => by simp), Reps.ext E h3 fun _ _ _ h => h, h4.froz fun q => by rw [k3]; omega, trivial⟩
end
abbrev Vws (G : Sg) (Fz : Addr -> Prop) (am : List Addr) (H : Hp) : List V -> List D -> Prop := Paired (View G Fz am H)
abbrev Op := List D -> Option (Fr × D)
def Newp (H H' : Hp) (n : Fp) : Prop := ∀ p, 0 < n p -> n p = 1 ∧ H p = none ∧ ∃ o, H' p = some o ∧ OwnK o
def VOp (G : Sg) (r : List V -> Hp -> VK -> Prop) (op : Op) : Prop := ∀ Fz am H vs ds f d Q, Vws G Fz am H vs ds -> op ds = some (f, d) ->
 (∀ v H' n, Same H H' -> Newp H H' n -> Rep G Fz am H' f v d n -> Q v H') -> r vs H Q
theorem VOp.imp {G : Sg} {r r' : List V -> Hp -> VK -> Prop} {op : Op} (h : VOp G r op) (k : ∀ vs H Q, r vs H Q -> r' vs H Q) : VOp G r' op := fun Fz am H vs ds f d Q h1 h2 h3 => k _ _ _ (h Fz am H vs ds f d Q h1 h2 h3)
@[simp] def orOp (a b : Op) : Op := fun ds => match a ds with
 | some r => some r
 | none => b ds
theorem VOp.or {G : Sg} {r r' : List V -> Hp -> VK -> Prop} {a b : Op} (h : VOp G r a) (h' : VOp G r' b) : VOp G (fun vs H Q => r vs H Q ∨ r' vs H Q) (orOp a b) := fun Fz am H vs ds f d Q h1 h2 h3 => by
 unfold orOp at h2
 cases e : a ds with
 | some x =>
  rw [e] at h2
  cases h2
  exact .inl (h Fz am H vs ds f d Q h1 e h3)
 | none =>
  rw [e] at h2
  exact .inr (h' Fz am H vs ds f d Q h1 h2 h3)
theorem same_refl (H : Hp) : Same H H := fun _ _ h => h
theorem Vj {H H' : Hp} : Newp H H' (fun _ => 0) := fun p hp => absurd hp (Nat.lt_irrefl 0)
@[simp] def flats (ts : List (Fr × Bool × D)) : Bool := ts.all fun t => t.1.flat
def lk (st : Zd) : D -> D
 | .ref i => match st[i]? with
  | some (f, d) => bif f.flat then d else .ref i
  | none => .ref i
 | d => d
@[simp] def dOp (op : Op) (as : DenL) : Den := fun env st => match as env st with
 | .ok ts st' => bif flats ts then (match op (ts.map fun t => lk st' t.2.2) with
  | some (f, d) => .ok f false d st'
  | none => .stuck) else .stuck
 | .exc c ds st' => .exc c ds st'
 | .stuck => .stuck
section
variable {G : Sg} {g : Gd} {env : Env} {st st' : Zd} {T T' : List Tm} {σ : St} {H H' : Hp}
theorem TmR.views {Fz : Addr -> Prop} {am : List Addr} {ne nt : Fp} : ∀ {vs : List V} {ts : List (Fr × Bool × D)}, vs.length = ts.length -> flats ts = true -> TmR G Fz am H ne (mkT vs ts ++ T) nt -> Vws G Fz am H vs (ts.map fun t => t.2.2)
 | [], [], _, _, _ => .nil
 | v :: vs, (f, b, d) :: ts, hl, hf, r => by
  simp only [flats, List.all_cons, Bool.and_eq_true] at hf
  cases b with
  | false =>
   cases r with
   | own h1 h2 h3 => exact .cons (h1.view hf.1) (TmR.views (by simpa using hl) hf.2 h2)
  | true =>
   cases r with
   | bor h1 h2 h3 => exact .cons (h1.view hf.1) (TmR.views (by simpa using hl) hf.2 h3)
theorem Reps.at {Fz : Addr -> Prop} {am : List Addr} : ∀ {fs : List Fr} {vs : List V} {ds : List D} {n : Fp} {i : Nat} {f : Fr} {d : D}, Reps G Fz am H fs vs ds n -> fs[i]? = some f -> ds[i]? = some d -> ∃ v m, vs[i]? = some v ∧ Rep G Fz am H f v d m ∧ ∀ q, m q <= n q
 | [], _, _, _, i, f, d, r, e1, e2 => by simp at e1
 | f0 :: fs, _, _, _, i, f, d, r, e1, e2 => by
  cases r with
  | cons h1 h2 h3 =>
   cases i with
   | zero =>
    simp at e1 e2
    subst e1 e2
    exact ⟨_, _, by simp, h1, fun q => by rw [h3]; omega⟩
   | succ i =>
    obtain ⟨v, m, a, b, c⟩ := Reps.at (i := i) (f := f) (d := d) h2 (by simpa using e1) (by simpa using e2)
    exact ⟨v, m, by simpa using a, b, fun q => by rw [h3]; have := c q; omega⟩
theorem StoR.at {Fz : Addr -> Prop} {am : List Addr} {n : Fp} (r : StoR G Fz am H st n) {i : Nat} {f : Fr} {d : D} (e : st[i]? = some (f, d)) : ∃ p m, am[i]? = some p ∧ Rep G Fz am H f (.ref p) d m ∧ ∀ q, m q <= n q := by
 obtain ⟨v, m, a, b, c⟩ := Reps.at r (i := i) (f := f) (d := d) (by simp [e]) (by simp [e])
 rw [List.getElem?_map] at a
 obtain ⟨p, a1, a2⟩ := Option.map_eq_some_iff.mp a
 subst a2
 exact ⟨p, m, a1, b, c⟩
theorem Vws.lk {Fz : Addr -> Prop} {am : List Addr} {n : Fp} (r : StoR G Fz am H st n) : ∀ {vs : List V} {ds : List D}, Vws G Fz am H vs ds -> Vws G Fz am H vs (ds.map (lk st))
 | _, _, .nil => .nil
 | _, d :: _, .cons h t => .cons (by
  cases d with
  | ref i =>
   unfold Hx.lk
   dsimp only
   cases e : st[i]? with
   | none => exact h
   | some x =>
    obtain ⟨f, d⟩ := x
    dsimp only
    cases ef : f.flat with
    | false => exact h
    | true =>
     obtain ⟨p, m, a, b, _⟩ := r.at e
     obtain ⟨p', e1, e2⟩ := h
     rw [a] at e2
     cases e2
     rw [e1]
     exact b.view ef
  | _ => exact h) (Vws.lk r t)
theorem Rl.op {r : List V -> Hp -> VK -> Prop} {op : Op} {vs : List V} {ts : List (Fr × Bool × D)} {f : Fr} {d : D} {Q : VK} (hv : VOp G r op) (R : Rl G g env st (mkT vs ts ++ T) σ H) (hl : vs.length = ts.length) (hf : flats ts = true)
  (e : op (ts.map fun t => lk st t.2.2) = some (f, d)) (hq : ∀ v H', Rl G g env st (⟨v, f, d, false⟩ :: T) σ H' -> Q v H') : r vs H Q := by
 obtain ⟨Fz, am, ne, nt, ns, h1, h2, h3, h4, h5⟩ := R
 have vw := Vws.lk h3 (h2.views hl hf)
 rw [List.map_map] at vw
 refine hv Fz am H vs _ f d Q vw e fun v H' n s nn rep => hq v H' ?_
 obtain ⟨nt', k1, k2⟩ := h2.tail
 have E : Ext Fz am H Fz am H' := Ext.same s fun _ h => h
 have h4' : Rel0 G g Fz am H (fun p => ne p + nt' p + ns p) := h4.less fun q => by have := k2 q; omega
 exact ⟨Fz, am, ne, fun q => n q + nt' q, ns, h1.ext E fun p o _ h => s _ _ h, .own rep (k1.ext E (fun p o _ h => s _ _ h) fun p o _ h => s _ _ h) fun _ => rfl, Reps.ext E h3 fun p o _ h => s _ _ h, h4'.grow s nn fun q => by show ne q + (n q + nt' q) + ns q = _; omega, trivial⟩
theorem post1 {r : List V -> Hp -> VK -> Prop} {op : Op} {W : WX} {Q : VK} {f : Fr} {b : Bool} {d : D} (hv : VOp G r op)
  (h : Wo G g env T σ W Q (dOp op (fun _ st => .ok [(f, b, d)] st) env st)) : ∀ v H', Rl G g env st (⟨v, f, d, b⟩ :: T) σ H' -> r [v] H' Q := fun v H' R => by
 unfold dOp at h
 dsimp only at h
 cases hf : flats [(f, b, d)] with
 | false => rw [hf] at h; exact h.elim
 | true =>
  rw [hf] at h
  simp only [cond_true] at h
  cases e : op ([(f, b, d)].map fun t => lk st t.2.2) with
  | none => rw [e] at h; exact h.elim
  | some x =>
   obtain ⟨f', d'⟩ := x
   rw [e] at h
   exact Rl.op (vs := [v]) (ts := [(f, b, d)]) hv R rfl hf e h
end
@[simp] def dNil : DenL := fun _ st => .ok [] st
@[simp] def Zb (a : Den) (as : DenL) : DenL := fun env st => match a env st with
 | .ok f b d st1 => bif !b || f.isz then (match as env st1 with
  | .ok ts st2 => .ok ((f, false, d) :: ts) st2
  | .exc c ds st2 => .exc c ds st2
  | .stuck => .stuck) else .stuck
 | .exc c ds st1 => .exc c ds st1
 | .stuck => .stuck
@[simp] def Za (a : Den) : DenL := fun env st => match a env st with
 | .ok f b d st1 => .ok [(f, b, d)] st1
 | .exc c ds st1 => .exc c ds st1
 | .stuck => .stuck
theorem bifT {α : Type} {c : Bool} {a b : α} {P : α -> Prop} (h : P (bif c then a else b)) (n : ¬ P b) : c = true ∧ P a := by
 cases c with
 | true => exact ⟨rfl, h⟩
 | false => exact (n h).elim
theorem WO {T : List Tm} {v : V} {f : Fr} {d : D} (h : Zy T) : Zy (⟨v, f, d, false⟩ :: T) := fun a ha => by
 rcases List.mem_cons.mp ha with e | e
 ·rw [e]
 ·exact h a e
theorem Rl.unb {G : Sg} {g : Gd} {env : Env} {st : Zd} {T : List Tm} {σ : St} {H : Hp} {v : V} {f : Fr} {b : Bool} {d : D} (R : Rl G g env st (⟨v, f, d, b⟩ :: T) σ H) (hb : (!b || f.isz) = true) : Rl G g env st (⟨v, f, d, false⟩ :: T) σ H := by
 cases b with
 | false => exact R
 | true =>
  have e : f = .z := Fr.Uu (by simpa using hb)
  subst e
  obtain ⟨Fz, am, ne, nt, ns, h1, h2, h3, h4, h5⟩ := R
  cases h2 with
  | bor k1 k2 k3 => exact ⟨Fz, am, ne, nt, ns, h1, .own (k1.fp k1.z0) k3 fun q => by simp, h3, h4, trivial⟩
section
variable {S : Sx} {e a b : Expr} {es : List Expr} {da db : Den} {das : DenL} {pos : Pos}
theorem da_nil : DA S [] dNil := fun W => ⟨_, fun X hX tk => pa_nil, fun g env st T σ H Q hT R h => h [] H rfl R⟩
theorem Wg : ∀ {e : Expr} {es : List Expr} {env : PySem.Env}, (∀ x p, e ≠ .Starred x p) -> starEach (e :: es) env = (false, eval e env) :: starEach es env := fun {e es env} h => by
 cases e <;> first | rfl | exact absurd rfl (h _ _)
theorem Zj (ha : DE S e da) (hr : DA S es das) (hs : ∀ x p, e ≠ .Starred x p) : DA S (e :: es) (Zb da das) := fun W => by
 obtain ⟨ta, pa, qa⟩ := ha W
 obtain ⟨tr, pr, qr⟩ := hr W
 refine ⟨_, fun X hX tk => pa_cons (pa X hX tk) (pr X hX tk) (Wg hs), fun g env st T σ H Q hT R h => ?_⟩
 refine qa g env st T σ H _ hT R ?_
 unfold Zb at h
 cases e1 : da env st with
 | stuck => rw [e1] at h; exact h.elim
 | exc c ds st1 => rw [e1] at h; exact h
 | ok f b d st1 =>
  rw [e1] at h
  obtain ⟨hb, h⟩ := bifT h id
  intro v H1 R1
  refine qr g env st1 _ σ H1 _ (WO hT) (R1.unb hb) ?_
  cases e2 : das env st1 with
  | stuck => rw [e2] at h; exact h.elim
  | exc c ds st2 => rw [e2] at h; exact h
  | ok ts st2 =>
   rw [e2] at h
   dsimp only at h
   intro vs H2 hl R2
   exact h (v :: vs) H2 (by simp [hl]) R2.mid
theorem Zg (ha : DE S e da) (hs : ∀ x p, e ≠ .Starred x p) : DA S [e] (Za da) := fun W => by
 obtain ⟨ta, pa, qa⟩ := ha W
 refine ⟨_, fun X hX tk => pa_cons (pa X hX tk) pa_nil (Wg hs), fun g env st T σ H Q hT R h => qa g env st T σ H _ hT R ?_⟩
 unfold Za at h
 cases e1 : da env st with
 | stuck => rw [e1] at h; exact h.elim
 | exc c ds st1 => rw [e1] at h; exact h
 | ok f b d st1 =>
  rw [e1] at h
  exact fun v H1 R1 => h [v] H1 rfl R1
theorem run2 {r : List V -> Hp -> VK -> Prop} {op : Op} {W : WX} {ta tb : TE} (hv : VOp S.G r op)
  (qa : ∀ g env st T σ H Q, Zy T -> Rl S.G g env st T σ H -> Wo S.G g env T σ W Q (da env st) -> ta σ H Q)
  (qb : ∀ g env st T σ H Q, Zy T -> Rl S.G g env st T σ H -> Wo S.G g env T σ W Q (db env st) -> tb σ H Q)
  (g : Gd) (env : Env) (st : Zd) (T : List Tm) (σ : St) (H : Hp) (Q : VK) (hT : Zy T) (R : Rl S.G g env st T σ H) (h : Wo S.G g env T σ W Q (dOp op (Zb da (Za db)) env st)) :
  ta σ H fun x H1 => tb σ H1 fun y H2 => r [x, y] H2 Q := by
 refine qa g env st T σ H _ hT R ?_
 unfold dOp Zb at h
 cases e1 : da env st with
 | stuck => rw [e1] at h; exact h.elim
 | exc c ds st1 => rw [e1] at h; exact h
 | ok f b d st1 =>
  rw [e1] at h
  dsimp only at h
  cases hb : (!b || f.isz) with
  | false => rw [hb] at h; exact h.elim
  | true =>
  rw [hb] at h
  intro v H1 R1
  refine qb g env st1 _ σ H1 _ (WO hT) (R1.unb hb) ?_
  unfold Za at h
  dsimp only [cond_true] at h
  cases e2 : db env st1 with
  | stuck => rw [e2] at h; exact h.elim
  | exc c ds st2 => rw [e2] at h; exact h
  | ok f2 b2 d2 st2 =>
   rw [e2] at h
   dsimp only at h
   intro v2 H2 R2
   have R3 : Rl S.G g env st2 (mkT [v, v2] [(f, false, d), (f2, b2, d2)] ++ T) σ H2 := RlB.mid (l := [_]) R2
   cases hf : flats [(f, false, d), (f2, b2, d2)] with
   | false => rw [hf] at h; exact h.elim
   | true =>
    rw [hf] at h
    simp only [cond_true] at h
    cases e3 : op ([(f, false, d), (f2, b2, d2)].map fun t => lk st2 t.2.2) with
    | none => rw [e3] at h; exact h.elim
    | some x =>
     obtain ⟨f', d'⟩ := x
     rw [e3] at h
     exact Rl.op hv R3 rfl hf e3 h
theorem run1 {r : List V -> Hp -> VK -> Prop} {op : Op} {W : WX} {ta : TE} (hv : VOp S.G r op)
  (qa : ∀ g env st T σ H Q, Zy T -> Rl S.G g env st T σ H -> Wo S.G g env T σ W Q (da env st) -> ta σ H Q)
  (g : Gd) (env : Env) (st : Zd) (T : List Tm) (σ : St) (H : Hp) (Q : VK) (hT : Zy T) (R : Rl S.G g env st T σ H) (h : Wo S.G g env T σ W Q (dOp op (Za da) env st)) :
  ta σ H fun x H1 => r [x] H1 Q := by
 refine qa g env st T σ H _ hT R ?_
 unfold dOp Za at h
 cases e1 : da env st with
 | stuck => rw [e1] at h; exact h.elim
 | exc c ds st1 => rw [e1] at h; exact h
 | ok f b d st1 =>
  rw [e1] at h
  exact post1 hv h
theorem runL {r : List V -> Hp -> VK -> Prop} {op : Op} {W : WX} {ta : TA} (hv : VOp S.G r op)
  (qa : ∀ g env st T σ H Q, Zy T -> Rl S.G g env st T σ H -> PostL S.G g env T σ W Q (das env st) -> ta σ H Q)
  (g : Gd) (env : Env) (st : Zd) (T : List Tm) (σ : St) (H : Hp) (Q : VK) (hT : Zy T) (R : Rl S.G g env st T σ H) (h : Wo S.G g env T σ W Q (dOp op das env st)) :
  ta σ H fun vs H1 => r vs H1 Q := by
 refine qa g env st T σ H _ hT R ?_
 unfold dOp at h
 cases e1 : das env st with
 | stuck => rw [e1] at h; exact h.elim
 | exc c ds st1 => rw [e1] at h; exact h
 | ok ts st1 =>
  rw [e1] at h
  dsimp only at h
  intro vs H1 hl R1
  cases hf : flats ts with
  | false => rw [hf] at h; exact h.elim
  | true =>
   rw [hf] at h
   simp only [cond_true] at h
   cases e3 : op (ts.map fun t => lk st1 t.2.2) with
   | none => rw [e3] at h; exact h.elim
   | some x =>
    obtain ⟨f', d'⟩ := x
    rw [e3] at h
    exact Rl.op hv R1 hl hf e3 h
@[simp] def Ze (i : Nat) : Den := fun env st => match env[i]? with
 | some (some (.z, d)) => .ok .z false d st
 | _ => .stuck
@[simp] def dC (d : D) : Den := fun _ st => .ok .z false d st
theorem de_pv {i : Nat} {x : Str} {p : Pos} (hN : S.N[i]? = some x) (hv : Vis S.sc x) (hd : (x == ("__debug__" : Str)) = false) (hcd : (x == ("__classdict__" : Str)) = false) {X : Cx} (hX : Stx S X) : PE X (.Name x p) (tVar i) :=
 pe_var (by rw [hX.N]; exact hN) (by rw [hX.sc]; exact hv) hd hcd
theorem ZG {i : Nat} {x : Str} {p : Pos} (hN : S.N[i]? = some x) (hv : Vis S.sc x) (hd : (x == ("__debug__" : Str)) = false) (hcd : (x == ("__classdict__" : Str)) = false) : DE S (.Name x p) (Ze i) := fun W => by
 refine ⟨_, fun X hX tk => de_pv hN hv hd hcd hX, fun g env st T σ H Q hT R h => ?_⟩
 unfold Ze at h
 split at h
 ·rename_i d e
  obtain ⟨v, e1, R1⟩ := R.pushz e
  exact ⟨v, e1, h v H R1⟩
 ·exact h.elim
theorem Zf {i : Int} {j} {p : Pos} : DE S (.Constant (.int i) j p) (dC (.int i)) := fun W => ⟨_, fun X hX tk => pe_int, fun g env st T σ H Q hT R h => h _ H (R.scal rfl)⟩
theorem de_bl {i : Bool} {j} {p : Pos} : DE S (.Constant (.bool i) j p) (dC (.bl i)) := fun W => ⟨_, fun X hX tk => pe_bl, fun g env st T σ H Q hT R h => h _ H (R.scal rfl)⟩
theorem ZW {j} {p : Pos} : DE S (.Constant .none j p) (dC .non) := fun W => ⟨_, fun X hX tk => pe_non, fun g env st T σ H Q hT R h => h _ H (R.scal trivial)⟩
theorem Zi {i : Str} {j} {p : Pos} : DE S (.Constant (.str i) j p) (dC (.str i)) := fun W => ⟨_, fun X hX tk => pe_str, fun g env st T σ H Q hT R h => h _ H (R.scal rfl)⟩
def l1 (r : V -> Hp -> VK -> Prop) : List V -> Hp -> VK -> Prop := fun vs H Q => r (vs.getD 0 .non) H Q
def l2 (r : R2) : List V -> Hp -> VK -> Prop := fun vs H Q => r (vs.getD 0 .non) (vs.getD 1 .non) H Q
theorem ZaP {o : Operator} {r : R2} {op : Op} (ho : ∀ X, Stx S X -> OpR X (binaryOp o) r) (hv : VOp S.G (l2 r) op) (ha : DE S a da) (hb : DE S b db) :
  DE S (.BinOp a o b pos) (dOp op (Zb da (Za db))) := fun W => by
 obtain ⟨ta, pa, qa⟩ := ha W
 obtain ⟨tb, pb, qb⟩ := hb W
 exact ⟨_, fun X hX tk => pe_op (ho X hX) (pa X hX tk) (pb X hX tk), fun g env st T σ H Q hT R h => run2 hv qa qb g env st T σ H Q hT R h⟩
def Wj : Expr -> Bool
 | .Set _ _ _ => false
 | _ => true
theorem marks {o : CmpOp} {e : Expr} (h : Wj e = true) : behindInMarks o e = false := by
 cases e <;> first | rfl | cases h
theorem de_cmp {o : CmpOp} {r : R2} {op : Op} (ho : ∀ X, Stx S X -> OpR X (compareOp o) r) (hv : VOp S.G (l2 r) op) (ha : DE S a da) (hb : DE S b db) (hm : Wj b = true) :
  DE S (.Compare a [o] [b] pos) (dOp op (Zb da (Za db))) := fun W => by
 obtain ⟨ta, pa, qa⟩ := ha W
 obtain ⟨tb, pb, qb⟩ := hb W
 exact ⟨_, fun X hX tk => pe_cmpR (ho X hX) (pa X hX tk) (pb X hX tk) (marks hm), fun g env st T σ H Q hT R h => run2 hv qa qb g env st T σ H Q hT R h⟩
def Vb : Expr -> Bool
 | .Slice _ _ _ _ => false
 | _ => true
theorem plainIx {e : Expr} (h : Vb e = true) : PlainIx e := fun o i => by
 cases e <;> first | rfl | cases h
theorem de_ix {r : R2} {op : Op} (ho : ∀ X, Stx S X -> IxR X r) (hv : VOp S.G (l2 r) op) (ha : DE S a da) (hb : DE S b db) (hm : Vb b = true) :
  DE S (.Subscript a b pos) (dOp op (Zb da (Za db))) := fun W => by
 obtain ⟨ta, pa, qa⟩ := ha W
 obtain ⟨tb, pb, qb⟩ := hb W
 exact ⟨_, fun X hX tk => pe_ix (ho X hX) (pa X hX tk) (pb X hX tk) (plainIx hm), fun g env st T σ H Q hT R h => run2 hv qa qb g env st T σ H Q hT R h⟩
theorem noStar : ∀ {es : List Expr} {env : PySem.Env} {pos : Pos}, (∀ e ∈ es, ∀ x p, e ≠ .Starred x p) -> (backTo pos (starEach es env)).any (·.1) = false := fun {es} => by
 induction es with
 | nil => intro env pos _; rfl
 | cons e es ih =>
  intro env pos h
  rw [Wg (h e List.mem_cons_self)]
  have := ih (env := env) (pos := pos) fun x hx => h x (List.mem_cons_of_mem _ hx)
  simpa [backTo] using this
def Zx : List Expr -> Bool
 | [] => true
 | .Starred _ _ :: _ => false
 | _ :: es => Zx es
theorem Zp : ∀ {es : List Expr}, Zx es = true -> ∀ e ∈ es, ∀ x p, e ≠ .Starred x p
 | e :: es, h, e', he, x, p => by
  rcases List.mem_cons.mp he with rfl | he
  ·intro z; subst z; exact Bool.noConfusion h
  ·have h2 : Zx es = true := by
    cases e <;> first | exact h | exact Bool.noConfusion h
   exact Zp h2 e' he x p
theorem de_bi {x : Str} {p : Pos} {id : String} {r : List V -> Hp -> VK -> Prop} {op : Op} (ho : ∀ X, Stx S X -> CallR X (.builtin id) r) (hv : VOp S.G r op) (hg : S.sc.names.lookup x = some .globalImplicit) (hm : S.mg x = none) (hb : bootBuiltins x = some (.builtin id)) (hn : x ≠ "__name__") (hdb : (x == ("__debug__" : Str)) = false)
  (ha : DA S (e :: es) das) (hp : Zx (e :: es) = true) : DE S (.Call (.Name x p) (e :: es) [] pos) (dOp op das) := fun W => by
 obtain ⟨ta, pa, qa⟩ := ha W
 have h1 := Zp hp
 exact ⟨_, fun X hX tk => pe_callB (ho X hX) (show X.env.scope.names.lookup x = some .globalImplicit by rw [hX.sc]; exact hg) (by rw [hX.mg]; exact hm) hb (pa X hX tk) hn hdb (Wg (h1 e List.mem_cons_self)) (noStar fun y hy => h1 y (List.mem_cons_of_mem _ hy)), fun g env st T σ H Q hT R h => runL hv qa g env st T σ H Q hT R h⟩
theorem de_ty {x : Str} {p : Pos} {id : String} {r : List V -> Hp -> VK -> Prop} {op : Op} (ho : ∀ X, Stx S X -> CallR X (.type id) r) (hv : VOp S.G r op) (hg : S.sc.names.lookup x = some .globalImplicit) (hm : S.mg x = none) (hb : bootBuiltins x = some (.type id)) (hn : x ≠ "__name__") (hdb : (x == ("__debug__" : Str)) = false)
  (ha : DA S (e :: es) das) (hp : Zx (e :: es) = true) : DE S (.Call (.Name x p) (e :: es) [] pos) (dOp op das) := fun W => by
 obtain ⟨ta, pa, qa⟩ := ha W
 have h1 := Zp hp
 exact ⟨_, fun X hX tk => pe_callTy (ho X hX) (show X.env.scope.names.lookup x = some .globalImplicit by rw [hX.sc]; exact hg) (by rw [hX.mg]; exact hm) hb (pa X hX tk) hn hdb (Wg (h1 e List.mem_cons_self)) (noStar fun y hy => h1 y (List.mem_cons_of_mem _ hy)), fun g env st T σ H Q hT R h => runL hv qa g env st T σ H Q hT R h⟩
theorem Rl.bl {G : Sg} {g : Gd} {env : Env} {st : Zd} {T : List Tm} {σ : St} {H : Hp} {v : V} {f : Fr} {b c : Bool} (R : Rl G g env st (⟨v, f, .bl c, b⟩ :: T) σ H) : v = .bl c := by
 obtain ⟨Fz, am, ne, nt, ns, h1, h2, h3, h4, h5⟩ := R
 have key : ∀ {n : Fp}, Rep G Fz am H f v (.bl c) n -> v = .bl c := fun {n} r => by
  cases r with
  | sc h _ => cases v <;> first | exact congrArg V.bl h | exact h.elim
 cases h2 with
 | own h _ _ => exact key h
 | bor h _ _ => exact key h
@[simp] def dB (a : Den) : DenB := fun env st => match a env st with
 | .ok _ _ (.bl c) st1 => .ok c st1
 | .ok _ _ _ _ => .stuck
 | .exc c ds st1 => .exc c ds st1
 | .stuck => .stuck
theorem postB {G : Sg} {g : Gd} {env : Env} {st : Zd} {T : List Tm} {σ : St} {W : WX} {Q : Bool -> Hp -> Prop} {a : Den} (h : PostB G g env T σ W Q (dB a env st)) : Wo G g env T σ W (fun x H1 => ∃ c, x = .bl c ∧ Q c H1) (a env st) := by
 unfold dB at h
 cases e : a env st with
 | stuck => rw [e] at h; exact h.elim
 | exc c ds st1 => rw [e] at h; exact h
 | ok f b d st1 =>
  rw [e] at h
  cases d with
  | bl c => exact fun v H1 R1 => ⟨c, R1.bl, h H1 R1.drop⟩
  | _ => exact h.elim
def plainTest : Expr -> Bool
 | .UnaryOp .Not _ _ => false
 | .BoolOp _ _ _ => false
 | .IfExp _ _ _ _ => false
 | .Compare _ _ _ _ => false
 | _ => true
theorem plainTest_ok {e : Expr} (h : plainTest e = true) (env : PySem.Env) (whole : Sem Value) : isTrue e env whole = (do let v <- whole; standAt e.pos; holding [v] (truthy v)) := by
 cases e <;> first | rfl | exact Bool.noConfusion h | skip
 rename_i o x p
 cases o <;> first | rfl | exact Bool.noConfusion h
theorem Ux (ha : DE S a da) (hp : plainTest a = true) : DT S a (dB da) := fun W => by
 obtain ⟨ta, pa, qa⟩ := ha W
 exact ⟨_, fun X hX tk => pt_val (pa X hX tk) (plainTest_ok hp X.env), fun g env st T σ H Q hT R h => qa g env st T σ H _ hT R (postB h)⟩
theorem dt_cmp {o : CmpOp} {r : R2} {op : Op} (ho : ∀ X, Stx S X -> OpR X (compareOp o) r) (hv : VOp S.G (l2 r) op) (ha : DE S a da) (hb : DE S b db) (hm : Wj b = true) :
  DT S (.Compare a [o] [b] pos) (dB (dOp op (Zb da (Za db)))) := fun W => by
 obtain ⟨ta, pa, qa⟩ := ha W
 obtain ⟨tb, pb, qb⟩ := hb W
 exact ⟨_, fun X hX tk => pt_cmpR (ho X hX) (pa X hX tk) (pb X hX tk) (marks hm), fun g env st T σ H Q hT R h => run2 hv qa qb g env st T σ H _ hT R (postB h)⟩
@[simp] def dNotB (a : DenB) : DenB := fun env st => match a env st with
 | .ok c st1 => .ok (!c) st1
 | .exc c ds st1 => .exc c ds st1
 | .stuck => .stuck
@[simp] def dAndB (a b : DenB) : DenB := fun env st => match a env st with
 | .ok true st1 => b env st1
 | .ok false st1 => .ok false st1
 | .exc c ds st1 => .exc c ds st1
 | .stuck => .stuck
@[simp] def dOrB (a b : DenB) : DenB := fun env st => match a env st with
 | .ok true st1 => .ok true st1
 | .ok false st1 => b env st1
 | .exc c ds st1 => .exc c ds st1
 | .stuck => .stuck
theorem dt_not {ta : DenB} (ha : DT S a ta) : DT S (.UnaryOp .Not a pos) (dNotB ta) := fun W => by
 obtain ⟨t, p, q⟩ := ha W
 refine ⟨_, fun X hX tk => pt_not (p X hX tk), fun g env st T σ H Q hT R h => q g env st T σ H _ hT R ?_⟩
 unfold dNotB at h
 cases e : ta env st with
 | stuck => rw [e] at h; exact h.elim
 | exc c ds st1 => rw [e] at h; exact h
 | ok c st1 => rw [e] at h; exact h
def DW (S : Sx) (e : Expr) (den : DenB) : Prop := ∀ W : WX, ∃ t : TT, (∀ X, Stx S X -> Takes X W -> PW X e t) ∧
 ∀ g env st T σ H Q, Zy T -> Rl S.G g env st T σ H -> PostB S.G g env T σ W Q (den env st) -> t σ H Q
theorem dt_w {ta : DenB} (ha : DW S a ta) : DT S a ta := fun W => by
 obtain ⟨t, p, q⟩ := ha W
 exact ⟨t, fun X hX tk => (p X hX tk).pt, q⟩
theorem dw_and1 {ta : DenB} (ha : DT S a ta) : DW S (.BoolOp .And [a] pos) ta := fun W => by
 obtain ⟨t, p, q⟩ := ha W
 exact ⟨t, fun X hX tk => pw_and1 (p X hX tk), q⟩
theorem Ub {ta : DenB} (ha : DT S a ta) : DW S (.BoolOp .Or [a] pos) ta := fun W => by
 obtain ⟨t, p, q⟩ := ha W
 exact ⟨t, fun X hX tk => pw_or1 (p X hX tk), q⟩
theorem dw_and {ta tr : DenB} (ha : DT S a ta) (hr : DW S (.BoolOp .And (b :: es) pos) tr) : DW S (.BoolOp .And (a :: b :: es) pos) (dAndB ta tr) := fun W => by
 obtain ⟨t, p, q⟩ := ha W
 obtain ⟨t2, p2, q2⟩ := hr W
 refine ⟨_, fun X hX tk => pw_and (p X hX tk) (p2 X hX tk), fun g env st T σ H Q hT R h => q g env st T σ H _ hT R ?_⟩
 unfold dAndB at h
 cases e : ta env st with
 | stuck => rw [e] at h; exact h.elim
 | exc c ds st1 => rw [e] at h; exact h
 | ok c st1 =>
  rw [e] at h
  intro H1 R1
  cases c with
  | true => exact iteT (q2 _ _ _ _ _ _ _ hT R1 h)
  | false => exact iteF (h H1 R1)
theorem UG {ta tr : DenB} (ha : DT S a ta) (hr : DW S (.BoolOp .Or (b :: es) pos) tr) : DW S (.BoolOp .Or (a :: b :: es) pos) (dOrB ta tr) := fun W => by
 obtain ⟨t, p, q⟩ := ha W
 obtain ⟨t2, p2, q2⟩ := hr W
 refine ⟨_, fun X hX tk => pw_or (p X hX tk) (p2 X hX tk), fun g env st T σ H Q hT R h => q g env st T σ H _ hT R ?_⟩
 unfold dOrB at h
 cases e : ta env st with
 | stuck => rw [e] at h; exact h.elim
 | exc c ds st1 => rw [e] at h; exact h
 | ok c st1 =>
  rw [e] at h
  intro H1 R1
  cases c with
  | true => exact iteT (h H1 R1)
  | false => exact iteF (q2 _ _ _ _ _ _ _ hT R1 h)
@[simp] def dAnd (a b : Den) : Den := fun env st => match a env st with
 | .ok _ _ (.bl true) st1 => b env st1
 | .ok _ _ (.bl false) st1 => .ok .z false (.bl false) st1
 | .ok _ _ _ _ => .stuck
 | .exc c ds st1 => .exc c ds st1
 | .stuck => .stuck
@[simp] def dOr (a b : Den) : Den := fun env st => match a env st with
 | .ok _ _ (.bl true) st1 => .ok .z false (.bl true) st1
 | .ok _ _ (.bl false) st1 => b env st1
 | .ok _ _ _ _ => .stuck
 | .exc c ds st1 => .exc c ds st1
 | .stuck => .stuck
@[simp] def dIf (c : DenB) (a b : Den) : Den := fun env st => match c env st with
 | .ok true st1 => a env st1
 | .ok false st1 => b env st1
 | .exc c ds st1 => .exc c ds st1
 | .stuck => .stuck
theorem de_one {o : BoolOp} (ha : DE S a da) : DE S (.BoolOp o [a] pos) da := fun W => by
 obtain ⟨t, p, q⟩ := ha W
 exact ⟨t, fun X hX tk => pe_one (p X hX tk), q⟩
theorem de_and (ha : DE S a da) (hr : DE S (.BoolOp .And (b :: es) pos) db) : DE S (.BoolOp .And (a :: b :: es) pos) (dAnd da db) := fun W => by
 obtain ⟨t, p, q⟩ := ha W
 obtain ⟨t2, p2, q2⟩ := hr W
 refine ⟨_, fun X hX tk => pe_and (p X hX tk) (p2 X hX tk), fun g env st T σ H Q hT R h => q g env st T σ H _ hT R ?_⟩
 unfold dAnd at h
 cases e : da env st with
 | stuck => rw [e] at h; exact h.elim
 | exc c ds st1 => rw [e] at h; exact h
 | ok f b0 d st1 =>
  rw [e] at h
  cases d with
  | bl c =>
   intro v H1 R1
   cases c with
   | true => exact ⟨true, R1.bl, iteT (q2 _ _ _ _ _ _ _ hT R1.drop h)⟩
   | false => exact ⟨false, R1.bl, iteF (h _ H1 (Rl.scal R1.drop rfl))⟩
  | _ => exact h.elim
theorem de_or (ha : DE S a da) (hr : DE S (.BoolOp .Or (b :: es) pos) db) : DE S (.BoolOp .Or (a :: b :: es) pos) (dOr da db) := fun W => by
 obtain ⟨t, p, q⟩ := ha W
 obtain ⟨t2, p2, q2⟩ := hr W
 refine ⟨_, fun X hX tk => pe_or (p X hX tk) (p2 X hX tk), fun g env st T σ H Q hT R h => q g env st T σ H _ hT R ?_⟩
 unfold dOr at h
 cases e : da env st with
 | stuck => rw [e] at h; exact h.elim
 | exc c ds st1 => rw [e] at h; exact h
 | ok f b0 d st1 =>
  rw [e] at h
  cases d with
  | bl c =>
   intro v H1 R1
   cases c with
   | true => exact ⟨true, R1.bl, iteT (h _ H1 (Rl.scal R1.drop rfl))⟩
   | false => exact ⟨false, R1.bl, iteF (q2 _ _ _ _ _ _ _ hT R1.drop h)⟩
  | _ => exact h.elim
theorem Ug {c : Expr} {tc : DenB} (hc : DT S c tc) (ha : DE S a da) (hb : DE S b db) : DE S (.IfExp c a b pos) (dIf tc da db) := fun W => by
 obtain ⟨t, p, q⟩ := hc W
 obtain ⟨t2, p2, q2⟩ := ha W
 obtain ⟨t3, p3, q3⟩ := hb W
 refine ⟨_, fun X hX tk => pe_ifExp (p X hX tk) (p2 X hX tk) (p3 X hX tk), fun g env st T σ H Q hT R h => q g env st T σ H _ hT R ?_⟩
 unfold dIf at h
 cases e : tc env st with
 | stuck => rw [e] at h; exact h.elim
 | exc c ds st1 => rw [e] at h; exact h
 | ok c st1 =>
  rw [e] at h
  intro H1 R1
  cases c with
  | true => exact iteT (q2 _ _ _ _ _ _ _ hT R1 h)
  | false => exact iteF (q3 _ _ _ _ _ _ _ hT R1 h)
end
section
variable {G : Sg} {g : Gd} {env : Env} {st st' : Zd} {T T' : List Tm} {σ : St} {H H' : Hp} {B B' : (Addr -> Prop) -> List Addr -> Prop}
@[simp] def keeps (ts : List (Fr × Bool × D)) : Bool := ts.all fun t => !t.2.1 || t.1.isz
theorem TmR.reps {Fz : Addr -> Prop} {am : List Addr} {ne nt : Fp} : ∀ {vs : List V} {ts : List (Fr × Bool × D)}, vs.length = ts.length -> keeps ts = true -> TmR G Fz am H ne (mkT vs ts ++ T) nt ->
  ∃ n1 n2 : Fp, Reps G Fz am H (ts.map (·.1)) vs (ts.map fun t => t.2.2) n1 ∧ TmR G Fz am H ne T n2 ∧ ∀ q, nt q = n1 q + n2 q
 | [], [], _, _, r => ⟨fun _ => 0, nt, .nil fun _ => rfl, r, fun q => by simp⟩
 | v :: vs, (f, b, d) :: ts, hl, hf, r => by
  simp only [keeps, List.all_cons, Bool.and_eq_true] at hf
  cases b with
  | false =>
   cases r with
   | @own _ _ _ _ m1 m2 _ h1 h2 h3 =>
    obtain ⟨n1, n2, k1, k2, k3⟩ := TmR.reps (by simpa using hl) hf.2 h2
    exact ⟨fun q => m1 q + n1 q, n2, .cons h1 k1 fun _ => rfl, k2, fun q => by rw [h3, k3]; show _ = m1 q + n1 q + n2 q; omega⟩
  | true =>
   cases r with
   | @bor _ _ _ _ m1 _ h1 h2 h3 =>
    obtain ⟨n1, n2, k1, k2, k3⟩ := TmR.reps (by simpa using hl) hf.2 h3
    have e : f = .z := Fr.Uu (by simpa using hf.1)
    subst e
    exact ⟨n1, n2, .cons h1 k1 fun q => by rw [h1.z0]; omega, k2, k3⟩
theorem Rl.frzL {vs : List V} {ts : List (Fr × Bool × D)} (R : Rl G g env st (mkT vs ts ++ T) σ H) (hl : vs.length = ts.length) (hk : keeps ts = true) :
  RlB G g env st T σ H fun Fz am => Reps G Fz am H (zs ts.length) vs (ts.map fun t => t.2.2) (fun _ => 0) := by
 obtain ⟨Fz, am, ne, nt, ns, h1, h2, h3, h4, h5⟩ := R
 obtain ⟨n1, n2, k1, k2, k3⟩ := h2.reps hl hk
 have E : Ext Fz am H (Fro Fz n1) am H := Ext.shared fun p z => .inl z
 refine ⟨Fro Fz n1, am, ne, n2, ns, h1.ext E fun _ _ _ h => h, k2.ext E (fun _ _ _ h => h) fun _ _ _ h => h, Reps.ext E h3 fun _ _ _ h => h, h4.froz fun q => by rw [k3]; omega, ?_⟩
 have := k1.frz (Fz' := Fro Fz n1) (fun p z => .inl z) fun p z => .inr z
 simpa using this
theorem Rl.own {vs : List V} {ts : List (Fr × Bool × D)} (R : Rl G g env st (mkT vs ts ++ T) σ H) (hl : vs.length = ts.length) (hk : keeps ts = true) :
  ∃ Fz am ne n1 n2 ns, Reps G Fz am H (ts.map (·.1)) vs (ts.map fun t => t.2.2) n1 ∧ EnvR G Fz am H env σ ne ∧ TmR G Fz am H ne T n2 ∧ StoR G Fz am H st ns ∧ Rel0 G g Fz am H fun p => n1 p + (ne p + n2 p + ns p) := by
 obtain ⟨Fz, am, ne, nt, ns, h1, h2, h3, h4, h5⟩ := R
 obtain ⟨n1, n2, k1, k2, k3⟩ := h2.reps hl hk
 exact ⟨Fz, am, ne, n1, n2, ns, k1, h1, k2, h3, h4.less fun q => by rw [k3]; omega⟩
theorem RlB.new {v : V} {f : Fr} {d : D} {n : Fp} (R : RlB G g env st T σ H B) (s : Same H H') (nn : Newp H H' n) (h : ∀ Fz am, Ext Fz am H Fz am H' -> B Fz am -> Rep G Fz am H' f v d n) : Rl G g env st (⟨v, f, d, false⟩ :: T) σ H' := by
 obtain ⟨Fz, am, ne, nt, ns, h1, h2, h3, h4, h5⟩ := R
 have E : Ext Fz am H Fz am H' := Ext.same s fun _ h => h
 exact ⟨Fz, am, ne, fun q => n q + nt q, ns, h1.ext E fun p o _ h => s _ _ h, .own (h Fz am E h5) (h2.ext E (fun p o _ h => s _ _ h) fun p o _ h => s _ _ h) fun _ => rfl, Reps.ext E h3 fun p o _ h => s _ _ h, h4.grow s nn fun q => by show ne q + (n q + nt q) + ns q = _; omega, trivial⟩
theorem Wy {p : Addr} {o : HO} (h : H p = none) : Same H (upd H p o) := fun b x e => by
 rw [upd_ne (ne_of_none e h)]
 exact e
def one1 (p : Addr) : Fp := fun q => if q = p then 1 else 0
theorem newp1 {p : Addr} {o : HO} (h : H p = none) (k : OwnK o) : Newp H (upd H p o) (one1 p) := fun q hq => by
 unfold one1 at hq ⊢
 by_cases e : q = p
 ·subst e
  exact ⟨if_pos rfl, h, o, upd_same, k⟩
 ·rw [if_neg e] at hq
  omega
theorem rep_lst {Fz : Addr -> Prop} {am : List Addr} {p : Addr} {vs : List V} {ds : List D} (E : Ext Fz am H Fz am (upd H p (.lst vs))) (h : Reps G Fz am H (zs ds.length) vs ds (fun _ => 0)) : Rep G Fz am (upd H p (.lst vs)) (.c .z) (.ref p) (.con .lst ds) (one1 p) :=
 .cc ⟨⟨by decide, by decide⟩, _, upd_same, rfl⟩ (Reps.ext E h fun q o hq => absurd hq (Nat.lt_irrefl 0)) fun q => by unfold one1; simp
theorem rep_tup {Fz : Addr -> Prop} {am : List Addr} {p : Addr} {vs : List V} {ds : List D} (E : Ext Fz am H Fz am (upd H p (.tup vs))) (h : Reps G Fz am H (zs ds.length) vs ds (fun _ => 0)) : Rep G Fz am (upd H p (.tup vs)) .z (.ref p) (.con .tup ds) (fun _ => 0) :=
 .zz (k := .tup) (SqT.of upd_same) (Reps.ext E h fun q o hq => absurd hq (Nat.lt_irrefl 0)) fun _ => rfl
end
@[simp] def dTup (as : DenL) : Den := fun env st => match as env st with
 | .ok ts st1 => bif keeps ts && ts.length.ble 1000 then .ok .z false (.con .tup (ts.map fun t => t.2.2)) st1 else .stuck
 | .exc c ds st1 => .exc c ds st1
 | .stuck => .stuck
@[simp] def dLst (as : DenL) : Den := fun env st => match as env st with
 | .ok ts st1 => bif keeps ts && ts.length.ble 1000 then .ok (.c .z) false (.con .lst (ts.map fun t => t.2.2)) st1 else .stuck
 | .exc c ds st1 => .exc c ds st1
 | .stuck => .stuck
theorem Zbp {n : Nat} (h : n.ble 1000 = true) : n <= sizeLine := Nat.le_trans (Nat.le_of_ble_eq_true h) (by decide)
section
variable {S : Sx} {e a b : Expr} {es : List Expr} {da db : Den} {das : DenL} {pos : Pos}
theorem Wc {x1} (ha : DA S es das) : DE S (.Tuple es x1 pos) (dTup das) := fun W => by
 obtain ⟨t, p, q⟩ := ha W
 refine ⟨_, fun X hX tk => pe_tup (p X hX tk), fun g env st T σ H Q hT R h => q g env st T σ H _ hT R ?_⟩
 unfold dTup at h
 cases e : das env st with
 | stuck => rw [e] at h; exact h.elim
 | exc c ds st1 => rw [e] at h; exact h
 | ok ts st1 =>
  rw [e] at h
  obtain ⟨hc, h⟩ := bifT h id
  rw [Bool.and_eq_true] at hc
  intro vs H1 hl R1
  refine ⟨by rw [hl]; exact Zbp hc.2, fun pA hp => h _ _ ?_⟩
  exact RlB.new (R1.frzL hl hc.1) (Wy hp) Vj fun Fz am E k => rep_tup E (by simpa using k)
theorem Vh (ha : DA S es das) : DE S (.List es pos) (dLst das) := fun W => by
 obtain ⟨t, p, q⟩ := ha W
 refine ⟨_, fun X hX tk => pe_lst (p X hX tk), fun g env st T σ H Q hT R h => q g env st T σ H _ hT R ?_⟩
 unfold dLst at h
 cases e : das env st with
 | stuck => rw [e] at h; exact h.elim
 | exc c ds st1 => rw [e] at h; exact h
 | ok ts st1 =>
  rw [e] at h
  obtain ⟨hc, h⟩ := bifT h id
  rw [Bool.and_eq_true] at hc
  intro vs H1 hl R1
  refine ⟨by rw [hl]; exact Zbp hc.2, fun pA hp => h _ _ ?_⟩
  exact RlB.new (R1.frzL hl hc.1) (Wy hp) (newp1 hp trivial) fun Fz am E k => rep_lst E (by simpa using k)
end
section
variable {G : Sg} {g : Gd} {env : Env} {st st' : Zd} {T T' : List Tm} {σ : St} {H H' : Hp} {B B' : (Addr -> Prop) -> List Addr -> Prop}
theorem Rel0.base {Fz : Addr -> Prop} {am : List Addr} {na ne nt ns : Fp} (h : Rel0 G g Fz am H fun p => na p + (ne p + nt p + ns p)) : Rel0 G ⟨H, fun p => 0 < na p + ns p, Fz, am⟩ Fz am H (fun p => na p + ns p) where
 n1 := fun p => by have := h.n1 p; omega
 nz := fun p hp => h.nz p (by omega)
 th := fun p hp => h.th p (by omega)
 zt := h.zt
 k := fun p o _ e _ => .inl e
 f := fun p hp => .inl hp
 z0 := fun _ z => z
 z1 := fun _ z => .inl z
 a := fun _ _ z => z
 tb := h.tb
 hm := h.home fun q => by omega
 kt := fun p o t e _ => ⟨o, e, t⟩
theorem after {Fz : Addr -> Prop} {am : List Addr} {na ne nt ns : Fp} (h0 : Rel0 G g Fz am H fun p => na p + (ne p + nt p + ns p)) (hE : EnvR G Fz am H env σ ne) (hT : TmR G Fz am H ne T nt) {T1 : List Tm}
  (R : RlB G ⟨H, fun p => 0 < na p + ns p, Fz, am⟩ [] st' T1 [] H' B) : ∃ Fz' am' nt' ns', B Fz' am' ∧ EnvR G Fz' am' H' env σ ne ∧ TmR G Fz' am' H' ne T nt ∧ TmR G Fz' am' H' (fun _ => 0) T1 nt' ∧ StoR G Fz' am' H' st' ns' ∧ Rel0 G g Fz' am' H' fun p => nt' p + (ne p + nt p + ns' p) := by
 obtain ⟨Fz', am', ne', nt', ns', k1, k2, k3, k4, k5⟩ := R
 have hne' : ∀ q, ne' q = 0 := by cases k1 with | nil h => exact h
 have notA : ∀ p, 0 < ne p + nt p -> ¬ 0 < na p + ns p := fun p hp z => by have := h0.n1 p; omega
 have own : ∀ p o, 0 < ne p + nt p -> H p = some o -> H' p = some o := fun p o hp e => by
  obtain ⟨o1, e1, ow⟩ := h0.th p (by show 0 < na p + (ne p + nt p + ns p); omega)
  rw [e] at e1; cases e1
  exact (k4.k p o ow.nt e (notA p hp)).nf fun z => h0.nz p (by show 0 < na p + (ne p + nt p + ns p); omega) z
 have E : Ext Fz am H Fz' am' H' := ⟨k4.z0, fun i p e => k4.a i p e, fun p u z r => by
   have na' : ¬ 0 < na p + ns p := fun q => h0.nz p (by show 0 < na p + (ne p + nt p + ns p); omega) z
   obtain ⟨o1, e1, nt1⟩ := h0.zt p z
   exact r.elim (fun e => by rw [e] at e1; cases e1; exact (k4.k _ _ (pl_nt nt1) e na').rd) fun ⟨o, e⟩ => .inr ⟨o, (k4.k _ _ rfl e na').nd rfl⟩, fun p u z e nd => by
   have na' : ¬ 0 < na p + ns p := fun q => h0.nz p (by show 0 < na p + (ne p + nt p + ns p); omega) z
   obtain ⟨o1, e1, nt1⟩ := h0.zt p z
   rw [e] at e1; cases e1
   exact (k4.k _ _ (pl_nt nt1) e na').nd (dk_dct nd), fun p xs r => by
   have na' : ¬ 0 < na p + ns p := fun q => by
    obtain ⟨o, e, ok⟩ := h0.th p (by show 0 < na p + (ne p + nt p + ns p); omega)
    rcases r with r | ⟨_, r⟩
    ·rw [r] at e; cases e; exact ok
    ·rw [r] at e; cases e; exact ok
   exact r.imp (fun e => (k4.k _ _ rfl e na').nd rfl) fun ⟨o, e⟩ => ⟨o, (k4.k _ _ rfl e na').nd rfl⟩⟩
 refine ⟨Fz', am', nt', ns', k5, hE.ext E fun p o hp e => own p o (by omega) e, hT.ext E (fun p o hp e => own p o (by omega) e) fun p o hp e => own p o (by omega) e, ?_, k3, ?_⟩
 ·have e0 : ne' = fun _ => 0 := funext hne'
  rw [<- e0]
  exact k2
 ·have there : ∀ p, 0 < ne p + nt p -> ∃ o, H p = some o ∧ OwnK o := fun p hp => h0.th p (by show 0 < na p + (ne p + nt p + ns p); omega)
  have disj : ∀ p, 0 < ne p + nt p -> nt' p + ns' p = 0 := fun p hp => by
   rcases Nat.eq_zero_or_pos (nt' p + ns' p) with z | z
   ·exact z
   ·rcases k4.f p (by show 0 < ne' p + nt' p + ns' p; omega) with q | q
    ·exact absurd q (notA p hp)
    ·obtain ⟨o, e, _⟩ := there p hp
     rw [show H p = none from q] at e; cases e
  refine ⟨fun p => ?_, fun p hp z => ?_, fun p hp => ?_, k4.zt, fun p o nt e na' => ?_, fun p hp => ?_, fun p z => k4.z0 p (h0.z0 p z), fun p z => ?_, fun i p e => k4.a i p (h0.a i p e), k4.tb, h0.hm, fun p o t e na' => ?_⟩
  ·show nt' p + (ne p + nt p + ns' p) <= 1
   by_cases q : 0 < ne p + nt p
   ·have := disj p q
    have := h0.n1 p
    omega
   ·have := k4.n1 p
    omega
  ·by_cases q : 0 < ne p + nt p
   ·rcases k4.z1 p z with y | y | y
    ·exact h0.nz p (by show 0 < na p + (ne p + nt p + ns p); omega) y
    ·exact notA p q y
    ·obtain ⟨o, e, _⟩ := there p q
     rw [show H p = none from y] at e; cases e
   ·exact k4.nz p (by omega) z
  ·by_cases q : 0 < ne p + nt p
   ·obtain ⟨o, e, ok⟩ := there p q
    exact ⟨o, own p o q e, ok⟩
   ·exact k4.th p (by omega)
  ·have nA : ¬ (0 < na p + ns p) := fun q => by
    rcases h0.f p (by have q : 0 < na p + ns p := q; show 0 < na p + (ne p + _ + ns p); omega) with y | y
    ·exact na' y
    ·rw [y] at e; cases e
   ·rcases h0.k p o nt e na' with e1 | ⟨f1, d1, ob, e1⟩
    ·rcases k4.k p o nt e1 nA with e2 | ⟨f2, d2, ob, e2⟩
     ·exact .inl e2
     ·refine .inr ⟨?_, d2, ob, e2⟩
      rcases h0.z1 p f2 with y | y | y
      ·exact y
      ·exact absurd y na'
      ·rw [y] at e; cases e
    ·exact .inr ⟨f1, d1, ob, (k4.k p _ rfl e1 nA).nd rfl⟩
  ·by_cases q : 0 < ne p + nt p
   ·exact h0.f p (by show 0 < na p + (ne p + nt p + ns p); omega)
   ·rcases k4.f p (by omega) with y | y
    ·exact h0.f p (by have y : 0 < na p + ns p := y; show 0 < na p + (ne p + nt p + ns p); omega)
    ·exact h0.new y
  ·rcases k4.z1 p z with y | y | y
   ·exact h0.z1 p y
   ·exact .inr (h0.f p (by have y : 0 < na p + ns p := y; show 0 < na p + (ne p + nt p + ns p); omega))
   ·exact .inr (h0.new y)
  ·obtain ⟨o1, e1, t1⟩ := h0.kt p o t e na'
   refine k4.kt p o1 t1 e1 fun q => ?_
   obtain ⟨o2, e2, ow⟩ := h0.th p (by have q : 0 < na p + ns p := q; show 0 < na p + (ne p + _ + ns p); omega)
   rw [e1] at e2; cases e2
   rw [ow.nt] at t1; cases t1
end
section
variable {G : Sg} {g : Gd} {env : Env} {st st' : Zd} {T T' : List Tm} {σ : St} {H H' : Hp} {B B' : (Addr -> Prop) -> List Addr -> Prop}
theorem TmR.up {Fz : Addr -> Prop} {am : List Addr} {ne ne' nt : Fp} (r : TmR G Fz am H ne T nt) (h : ∀ q, ne q <= ne' q) : TmR G Fz am H ne' T nt := by
 induction r with
 | nil h => exact .nil h
 | own h1 h2 h3 ih => exact .own h1 ih h3
 | bor h1 h2 h3 ih => exact .bor h1 (fun q => Nat.le_trans (h2 q) (h q)) ih
theorem TmR.app {Fz : Addr -> Prop} {am : List Addr} {ne n2 : Fp} (r2 : TmR G Fz am H ne T n2) : ∀ {l : List Tm} {n1 n : Fp}, TmR G Fz am H ne l n1 -> (∀ q, n q = n1 q + n2 q) -> TmR G Fz am H ne (l ++ T) n := by
 intro l n1 n r hn
 induction r generalizing n with
 | nil h =>
  have e : n = n2 := funext fun q => by rw [hn, h]; simp
  rw [e]
  exact r2
 | @own f v d T' m1 m2 m h1 h2 h3 ih => exact .own h1 (ih (n := fun q => m2 q + n2 q) fun q => rfl) fun q => by rw [hn, h3]; omega
 | @bor f v d T' m1 m h1 h2 h3 ih => exact .bor h1 h2 (ih hn)
theorem join {Fz : Addr -> Prop} {am : List Addr} {na ne nt ns : Fp} (h0 : Rel0 G g Fz am H fun p => na p + (ne p + nt p + ns p)) (hE : EnvR G Fz am H env σ ne) (hT : TmR G Fz am H ne T nt) {T1 : List Tm}
  (R : RlB G ⟨H, fun p => 0 < na p + ns p, Fz, am⟩ [] st' T1 [] H' B) : RlB G g env st' (T1 ++ T) σ H' B := by
 obtain ⟨Fz', am', nt', ns', h1, h2, h3, h4, h5, h6⟩ := after h0 hE hT R
 exact ⟨Fz', am', ne, fun q => nt' q + nt q, ns', h2, TmR.app h3 (h4.up fun q => Nat.zero_le _) fun _ => rfl, h5, h6.less fun q => by show ne q + (nt' q + nt q) + ns' q <= _; omega, h1⟩
theorem Reps.app {Fz : Addr -> Prop} {am : List Addr} {fs' : List Fr} {vs' : List V} {ds' : List D} (r2 : Reps G Fz am H fs' vs' ds' (fun _ => 0)) : ∀ {fs : List Fr} {vs : List V} {ds : List D} {n : Fp}, Reps G Fz am H fs vs ds n -> Reps G Fz am H (fs ++ fs') (vs ++ vs') (ds ++ ds') n
 | _, _, _, _, .nil h => r2.fp fun q => (h q).symm
 | _, _, _, _, .cons h1 h2 h3 => .cons h1 (Reps.app r2 h2) h3
end
structure Good (S : Sx) (x : Str) (n : Nat) (F : Fn) (dd : List D) (k : Nat) : Prop where
 ex : ∃ f fd ps ds dvs, FnOk S.P S.w S.G.K S.mg S.base (L2.CX S.P S.w) k f fd ps (SpF S.G n F) ∧ S.mg x = some (.ref f) ∧ PySem.W.keepIn S.G.K (.ref f) = true ∧ Binds S.G.K fd ps ds ∧ Vals dvs ds ∧
  ∀ Fz am H, Reps S.G Fz am H (zs dd.length) dvs dd (fun _ => 0)
@[simp] def fin : Res -> Res
 | .ok f false d st => .ok f false d st
 | .ok _ true _ _ => .stuck
 | r => r
@[simp] def zd (ds : List D) : List (Fr × D) := ds.map fun d => (.z, d)
@[simp] def Zq (F : Fn) (dd : List D) (as : DenL) : Den := fun env st => match as env st with
 | .ok ts st1 => bif keeps ts then fin (F (zd ((ts.map fun t => t.2.2) ++ dd)) st1) else .stuck
 | .exc c ds st1 => .exc c ds st1
 | .stuck => .stuck
theorem zd_fst (ds : List D) : (zd ds).map (·.1) = zs ds.length := by
 induction ds with
 | nil => rfl
 | cons d ds ih => show Fr.z :: (zd ds).map (·.1) = zs (ds.length + 1); rw [ih]; rfl
theorem zd_snd (ds : List D) : (zd ds).map (·.2) = ds := by
 induction ds with
 | nil => rfl
 | cons d ds ih => show d :: (zd ds).map (·.2) = _; rw [ih]
section
variable {S : Sx} {e a b : Expr} {es : List Expr} {da db : Den} {das : DenL} {pos : Pos}
theorem sp_of {n : Nat} {F : Fn} {g : Gd} {env : Env} {st : Zd} {T : List Tm} {σ : St} {H : Hp} {Q : VK} {W : WX} {vs : List V} {ts : List (Fr × Bool × D)} {dd : List D} {dvs : List V}
  (hd : ∀ Fz am H, Reps S.G Fz am H (zs dd.length) dvs dd (fun _ => 0)) (hn : ts.length + dd.length = n) (R : Rl S.G g env st (mkT vs ts ++ T) σ H) (hl : vs.length = ts.length) (hk : keeps ts = true)
  (h : Wo S.G g env T σ W Q (fin (F (zd ((ts.map fun t => t.2.2) ++ dd)) st))) : SpF S.G n F (vs ++ dvs) H Q (WE W σ) := by
 obtain ⟨Fz, am, ne, nt, ns, h1, h2, h3, h4, h5⟩ := Rl.frzL R hl hk
 have hd0 := hd Fz am H
 refine ⟨by rw [List.length_append, hl, (hd0.len).2, hn], Fz, am, zd ((ts.map fun t => t.2.2) ++ dd), st, fun _ => 0, ns, ?_, h3, ?_, ?_⟩
 ·rw [zd_fst, zd_snd, List.length_append, List.length_map]
  rw [show zs (ts.length + dd.length) = zs ts.length ++ zs dd.length by unfold zs; rw [List.replicate_append_replicate]]
  exact Reps.app hd0 h5
 ·exact Rel0.base (g := g) (ne := ne) (nt := nt) (h4.less fun q => by omega)
 ·have h4' : Rel0 S.G g Fz am H fun p => (fun _ => 0) p + (ne p + nt p + ns p) := h4.less fun q => by show 0 + (ne q + nt q + ns q) <= _; omega
  cases e : F (zd ((ts.map fun t => t.2.2) ++ dd)) st with
  | stuck => rw [e] at h; exact h.elim
  | exc c ds st1 =>
   rw [e] at h
   exact fun cls dx H' R1 => h cls dx H' (join (T := T) h4' h1 h2 R1).notmp
  | ok f b d st1 =>
   rw [e] at h
   cases b with
   | true => exact h.elim
   | false => exact ⟨rfl, fun v H' R1 => h v H' (join h4' h1 h2 R1)⟩
theorem Zt {x : Str} {p : Pos} {n k : Nat} {F : Fn} {dd : List D} (hG : Good S x n F dd k) (hk : k <= S.k) (hg : S.sc.names.lookup x = some .globalImplicit) (hdb : (x == ("__debug__" : Str)) = false) (ha : DA S (e :: es) das) (hp : Zx (e :: es) = true) (hn : (e :: es).length + dd.length = n) (hlen : ∀ env st ts st1, das env st = .ok ts st1 -> ts.length = (e :: es).length) :
  DE S (.Call (.Name x p) (e :: es) [] pos) (Zq F dd das) := fun W => by
 obtain ⟨ta, pa, qa⟩ := ha W
 obtain ⟨f, fd, ps, ds, dvs, hF, hm, hkp, hb, hv, hd⟩ := hG.ex
 have h1 := Zp hp
 have hF' : ∀ X, Stx S X -> FnOk X.prog X.w X.K X.mg X.base (L2.CX X.prog X.w) k f fd ps (SpF S.G n F) := fun X hX => by rw [hX.pr, hX.w, hX.mg, hX.base, hX.K]; exact hF
 refine ⟨_, fun X hX tk => pe_callSD (E := WE W) (hF' X hX) (hX.room.mono hk) (show X.env.scope.names.lookup x = some .globalImplicit by rw [hX.sc]; exact hg) (by rw [hX.mg]; exact hm) (by rw [hX.K]; exact hkp) (by rw [hX.K]; exact hb) hv (fun σ => passAt tk σ) (pa X hX tk) hdb
  (Wg (h1 e List.mem_cons_self)) (noStar fun y hy => h1 y (List.mem_cons_of_mem _ hy)), fun g env st T σ H Q hT R h => qa g env st T σ H _ hT R ?_⟩
 unfold Zq at h
 cases e1 : das env st with
 | stuck => rw [e1] at h; exact h.elim
 | exc c ds st1 => rw [e1] at h; exact h
 | ok ts st1 =>
  rw [e1] at h
  obtain ⟨hc, h⟩ := bifT h id
  intro vs H1 hl R1
  exact sp_of hd (by rw [hlen env st ts st1 e1]; exact hn) R1 hl hc h
theorem ZU {n : Nat} (h : ∀ env st ts st1, das env st = .ok ts st1 -> ts.length = n) : ∀ env st ts st1, Zb da das env st = .ok ts st1 -> ts.length = n + 1 := fun env st ts st1 e => by
 unfold Zb at e
 cases e1 : da env st with
 | stuck => rw [e1] at e; cases e
 | exc c ds s => rw [e1] at e; cases e
 | ok f b d s =>
  rw [e1] at e
  dsimp only at e
  cases hb : (!b || f.isz) with
  | false => rw [hb] at e; cases e
  | true =>
  rw [hb] at e
  dsimp only [cond_true] at e
  cases e2 : das env s with
  | stuck => rw [e2] at e; cases e
  | exc c ds s => rw [e2] at e; cases e
  | ok ts' s' =>
   rw [e2] at e
   injection e with e3 e4
   rw [<- e3, List.length_cons, h env s ts' s' e2]
theorem Zm : ∀ env st ts st1, Za da env st = .ok ts st1 -> ts.length = 1 := fun env st ts st1 e => by
 unfold Za at e
 cases e1 : da env st with
 | stuck => rw [e1] at e; cases e
 | exc c ds s => rw [e1] at e; cases e
 | ok f b d s =>
  rw [e1] at e
  injection e with e3 e4
  rw [<- e3]; rfl
end
inductive ResS
 | nx (env : Env) (st : Zd) | rt (f : Fr) (d : D) (st : Zd) | bk (env : Env) (st : Zd) | ct (env : Env) (st : Zd)
 | exc (c : Nat) (ds : List D) (env : Env) (st : Zd) | stuck
abbrev DenS := Env -> Zd -> ResS
section
variable (G : Sg) (g : Gd) (T : List Tm) (W : WX)
def Uh (D : Ends) : ResS -> Prop
 | .nx env st => ∀ σ' H', Rl G g env st T σ' H' -> D.nx σ' H'
 | .rt f d st => ∀ v H', Rl G g [] st [⟨v, f, d, false⟩] [] H' -> D.rt v H'
 | .bk env st => ∀ σ' H', Rl G g env st T σ' H' -> D.bk σ' H'
 | .ct env st => ∀ σ' H', Rl G g env st T σ' H' -> D.ct σ' H'
 | .exc c ds env st => ∀ σ', ExcP G g env σ' W c ds st
 | .stuck => False
end
def DS (S : Sx) (s : Stmt) (den : DenS) : Prop := ∀ W : WX, ∃ t : TS, (∀ X, Stx S X -> Takes X W -> PS X s t) ∧
 ∀ g env st T σ H D, Zy T -> Rl S.G g env st T σ H -> Uh S.G g T W D (den env st) -> t D σ H
def DSs (S : Sx) (s : List Stmt) (den : DenS) : Prop := ∀ W : WX, ∃ t : TS, (∀ X, Stx S X -> Takes X W -> PSs X s t) ∧
 ∀ g env st T σ H D, Zy T -> Rl S.G g env st T σ H -> Uh S.G g T W D (den env st) -> t D σ H
section
variable {G : Sg} {g : Gd} {env : Env} {st st' : Zd} {T T' : List Tm} {σ : St} {H H' : Hp} {B B' : (Addr -> Prop) -> List Addr -> Prop}
theorem TmR.nb {Fz : Addr -> Prop} {am : List Addr} {ne ne' nt : Fp} (r : TmR G Fz am H ne T nt) (h : Zy T) : TmR G Fz am H ne' T nt := by
 induction r with
 | nil h0 => exact .nil h0
 | own h1 h2 h3 ih => exact .own h1 (ih fun a ha => h a (List.mem_cons_of_mem _ ha)) h3
 | bor h1 h2 h3 ih => exact absurd (h _ List.mem_cons_self) (by simp)
theorem Rl.ret {v : V} {f : Fr} {b : Bool} {d : D} (R : Rl G g env st (⟨v, f, d, b⟩ :: T) σ H) (hb : (!b || f.isz) = true) : Rl G g [] st [⟨v, f, d, false⟩] [] H := by
 obtain ⟨Fz, am, ne, nt, ns, h1, h2, h3, h4, h5⟩ := R
 cases h2 with
 | @own _ _ _ _ n1 n2 _ k1 k2 k3 => exact ⟨Fz, am, fun _ => 0, n1, ns, .nil fun _ => rfl, .own k1 (.nil (n := fun _ => 0) fun _ => rfl) fun q => by simp, h3, h4.less fun q => by show 0 + n1 q + ns q <= _; rw [k3]; omega, trivial⟩
 | @bor _ _ _ _ n1 _ k1 k2 k3 =>
  have e : f = .z := Fr.Uu (by simpa using hb)
  subst e
  exact ⟨Fz, am, fun _ => 0, n1, ns, .nil fun _ => rfl, .own k1 (.nil (n := fun _ => 0) fun _ => rfl) fun q => by simp, h3, h4.less fun q => by show 0 + n1 q + ns q <= _; rw [k1.z0]; omega, trivial⟩
theorem Rl.store {v : V} {f : Fr} {b : Bool} {d : D} (R : Rl G g env st (⟨v, f, d, b⟩ :: T) σ H) (hb : (!b || f.isz) = true) (hT : Zy T) (i : Nat) : Rl G g (env.set i (some (f, d))) st T (σ.set i (some v)) H := by
 obtain ⟨Fz, am, ne, nt, ns, h1, h2, h3, h4, h5⟩ := R
 cases h2 with
 | @own _ _ _ _ n1 n2 _ k1 k2 k3 =>
  obtain ⟨n', r1, r2⟩ := EnvR.set k1 h1 i
  exact ⟨Fz, am, n', n2, ns, r1, k2.nb hT, h3, h4.less fun q => by rw [k3]; have := r2 q; omega, trivial⟩
 | @bor _ _ _ _ n1 _ k1 k2 k3 =>
  have e : f = .z := Fr.Uu (by simpa using hb)
  subst e
  obtain ⟨n', r1, r2⟩ := EnvR.set k1 h1 i
  exact ⟨Fz, am, n', nt, ns, r1, k3.nb hT, h3, h4.less fun q => by have := r2 q; rw [k1.z0] at this; omega, trivial⟩
theorem Rl.kill (R : Rl G g env st T σ H) (hT : Zy T) (i : Nat) : Rl G g (env.set i none) st T σ H := by
 obtain ⟨Fz, am, ne, nt, ns, h1, h2, h3, h4, h5⟩ := R
 obtain ⟨n', r1, r2⟩ := h1.kill i σ rfl fun j _ => rfl
 exact ⟨Fz, am, n', nt, ns, r1, h2.nb hT, h3, h4.less fun q => by have := r2 q; omega, trivial⟩
def killE (ks : List Nat) (env : Env) : Env := ks.foldl (fun e i => e.set i none) env
theorem Rl.kills (hT : Zy T) : ∀ {ks : List Nat} {env : Env}, Rl G g env st T σ H -> Rl G g (killE ks env) st T σ H
 | [], _, R => R
 | k :: ks, env, R => Rl.kills hT (ks := ks) (env := env.set k none) (R.kill hT k)
theorem Rl.frzS {i : Nat} {f : Fr} {d : D} (R : Rl G g env st T σ H) (hT : Zy T) (e : env[i]? = some (some (f, d))) : Rl G g (env.set i (some (.z, d))) st T σ H := by
 obtain ⟨Fz, am, ne, nt, ns, h1, h2, h3, h4, h5⟩ := R
 obtain ⟨m, n', r1, r2⟩ := h1.frz e
 have E : Ext Fz am H (Fro Fz m) am H := Ext.shared fun p z => .inl z
 exact ⟨Fro Fz m, am, n', nt, ns, r2 _ (fun p z => .inl z) fun p z => .inr z, (h2.nb (ne' := n') hT).ext E (fun _ _ _ h => h) fun _ _ _ h => h, Reps.ext E h3 fun _ _ _ h => h, h4.froz fun q => by rw [r1]; omega, trivial⟩
end
@[simp] def Wa : DenS := fun env st => .nx env st
@[simp] def dSeq (a b : DenS) : DenS := fun env st => match a env st with
 | .nx env1 st1 => b env1 st1
 | r => r
section
variable {S : Sx} {e a b : Expr} {es : List Expr} {da db : Den} {das : DenL} {pos : Pos} {s : Stmt} {ss : List Stmt} {ts tr : DenS}
theorem ZC : DSs S [] Wa := fun W => ⟨_, fun X hX tk => pss_nil, fun g env st T σ H D hT R h => h σ H R⟩
theorem Uh.seq {G : Sg} {g : Gd} {T : List Tm} {W : WX} {D : Ends} {t : TS} {r : ResS} {k : DenS} (h : Uh G g T W D (match r with | .nx env1 st1 => k env1 st1 | r => r))
  (q : ∀ env st σ H, Rl G g env st T σ H -> Uh G g T W D (k env st) -> t D σ H) : Uh G g T W { D with nx := t D } r := by
 cases r with
 | nx env1 st1 => exact fun σ' H' R => q env1 st1 σ' H' R h
 | rt f d st1 => exact h
 | bk env1 st1 => exact h
 | ct env1 st1 => exact h
 | exc c ds env1 st1 => exact h
 | stuck => exact h
theorem Zh (hs : DS S s ts) (hr : DSs S ss tr) : DSs S (s :: ss) (dSeq ts tr) := fun W => by
 obtain ⟨t, p, q⟩ := hs W
 obtain ⟨t2, p2, q2⟩ := hr W
 refine ⟨_, fun X hX tk => pss_cons (p X hX tk) (p2 X hX tk), fun g env st T σ H D hT R h => q g env st T σ H _ hT R ?_⟩
 exact Uh.seq h fun env st σ H R h => q2 g env st T σ H D hT R h
theorem Zn (hs : DS S s ts) : DSs S [s] ts := fun W => by
 obtain ⟨t, p, q⟩ := hs W
 exact ⟨_, fun X hX tk => pss_one (p X hX tk), q⟩
def dFrz (i : Nat) (k : DenS) : DenS := fun env st => match env[i]? with
 | some (some (_, d)) => k (env.set i (some (.z, d))) st
 | _ => .stuck
theorem dss_frz {i : Nat} (hr : DSs S ss tr) : DSs S ss (dFrz i tr) := fun W => by
 obtain ⟨t, p, q⟩ := hr W
 refine ⟨t, p, fun g env st T σ H D hT R h => ?_⟩
 unfold dFrz at h
 split at h
 ·rename_i f d e
  exact q g _ st T σ H D hT (R.frzS hT e) h
 ·exact h.elim
@[simp] def dRet (a : Den) : DenS := fun env st => match a env st with
 | .ok f b d st1 => bif !b || f.isz then .rt f d st1 else .stuck
 | .exc c ds st1 => .exc c ds env st1
 | .stuck => .stuck
@[simp] def ZJ (a : Den) : DenS := fun env st => match a env st with
 | .ok f b d st1 => bif !b || f.isz then .rt .z d st1 else .stuck
 | .exc c ds st1 => .exc c ds env st1
 | .stuck => .stuck
theorem ds_ret (ha : DE S a da) : DS S (.Return (some a) pos) (dRet da) := fun W => by
 obtain ⟨t, p, q⟩ := ha W
 refine ⟨_, fun X hX tk => ps_ret (p X hX tk), fun g env st T σ H D hT R h => q g env st T σ H _ hT R ?_⟩
 unfold dRet at h
 cases e : da env st with
 | stuck => rw [e] at h; exact h.elim
 | exc c ds st1 => rw [e] at h; exact h σ
 | ok f b d st1 =>
  rw [e] at h
  obtain ⟨hc, h⟩ := bifT h id
  exact fun v H1 R1 => h v H1 (R1.ret hc)
theorem Zr (ha : DE S a da) : DS S (.Return (some a) pos) (ZJ da) := fun W => by
 obtain ⟨t, p, q⟩ := ha W
 refine ⟨_, fun X hX tk => ps_ret (p X hX tk), fun g env st T σ H D hT R h => q g env st T σ H _ hT R ?_⟩
 unfold ZJ at h
 cases e : da env st with
 | stuck => rw [e] at h; exact h.elim
 | exc c ds st1 => rw [e] at h; exact h σ
 | ok f b d st1 =>
  rw [e] at h
  obtain ⟨hc, h⟩ := bifT h id
  exact fun v H1 R1 => h v H1 (R1.ret hc).frz
def Zax : Expr -> Bool
 | .ListComp _ _ _ _ => false
 | .SetComp _ _ _ _ => false
 | .DictComp _ _ _ _ _ => false
 | _ => true
theorem ZaE {e : Expr} {t : Option Expr} {l : Nat} {env : PySem.Env} (h : Zax e = true) : swapsWith e t l env = pure false := by
 cases e <;> first | rfl | cases h
@[simp] def dIfS (c : DenB) (a b : DenS) : DenS := fun env st => match c env st with
 | .ok true st1 => a env st1
 | .ok false st1 => b env st1
 | .exc c ds st1 => .exc c ds env st1
 | .stuck => .stuck
theorem Wb {c : Expr} {tc : DenB} {sa sb : List Stmt} {ta tb : DenS} (hc : DT S c tc) (ha : DSs S sa ta) (hb : DSs S sb tb) : DS S (.If c sa sb pos) (dIfS tc ta tb) := fun W => by
 obtain ⟨t, p, q⟩ := hc W
 obtain ⟨t2, p2, q2⟩ := ha W
 obtain ⟨t3, p3, q3⟩ := hb W
 refine ⟨_, fun X hX tk => ps_if (p X hX tk) (p2 X hX tk) (p3 X hX tk), fun g env st T σ H D hT R h => q g env st T σ H _ hT R ?_⟩
 unfold dIfS at h
 cases e : tc env st with
 | stuck => rw [e] at h; exact h.elim
 | exc c ds st1 => rw [e] at h; exact h σ
 | ok c st1 =>
  rw [e] at h
  intro H1 R1
  cases c with
  | true => exact iteT (q2 _ _ _ _ _ _ _ hT R1 h)
  | false => exact iteF (q3 _ _ _ _ _ _ _ hT R1 h)
@[simp] def dSet (i : Nat) (a : Den) : DenS := fun env st => match a env st with
 | .ok f b d st1 => bif !b || f.isz then .nx (env.set i (some (f, d))) st1 else .stuck
 | .exc c ds st1 => .exc c ds env st1
 | .stuck => .stuck
@[simp] def ZO (i : Nat) (a : Den) : DenS := fun env st => match a env st with
 | .ok f b d st1 => bif !b || f.isz then .nx (env.set i (some (.z, d))) st1 else .stuck
 | .exc c ds st1 => .exc c ds env st1
 | .stuck => .stuck
theorem dset_run {i : Nat} {W : WX} {t : TE} (q : ∀ g env st T σ H Q, Zy T -> Rl S.G g env st T σ H -> Wo S.G g env T σ W Q (da env st) -> t σ H Q)
  (g : Gd) (env : Env) (st : Zd) (T : List Tm) (σ : St) (H : Hp) (D : Ends) (hT : Zy T) (R : Rl S.G g env st T σ H) (h : Uh S.G g T W D (dSet i da env st)) : tAsg t (gName i) D σ H := by
 refine q g env st T σ H _ hT R ?_
 unfold dSet at h
 cases e : da env st with
 | stuck => rw [e] at h; exact h.elim
 | exc c ds st1 => rw [e] at h; exact h σ
 | ok f b d st1 =>
  rw [e] at h
  obtain ⟨hc, h⟩ := bifT h id
  exact fun v H1 R1 => h _ H1 (R1.store hc hT i)
theorem dsetZ_run {i : Nat} {W : WX} {t : TE} (q : ∀ g env st T σ H Q, Zy T -> Rl S.G g env st T σ H -> Wo S.G g env T σ W Q (da env st) -> t σ H Q)
  (g : Gd) (env : Env) (st : Zd) (T : List Tm) (σ : St) (H : Hp) (D : Ends) (hT : Zy T) (R : Rl S.G g env st T σ H) (h : Uh S.G g T W D (ZO i da env st)) : tAsg t (gName i) D σ H := by
 refine q g env st T σ H _ hT R ?_
 unfold ZO at h
 cases e : da env st with
 | stuck => rw [e] at h; exact h.elim
 | exc c ds st1 => rw [e] at h; exact h σ
 | ok f b d st1 =>
  rw [e] at h
  obtain ⟨hc, h⟩ := bifT h id
  intro v H1 R1
  refine h _ H1 ?_
  cases b with
  | false => exact Rl.store (b := false) R1.frz rfl hT i
  | true =>
   have e : f = .z := Fr.Uu (by simpa using hc)
   subst e
   exact Rl.store R1 rfl hT i
theorem stx_fn {X : Cx} (hX : Stx S X) {x : Str} (hf : S.fnA = true ∨ S.sc.names.lookup x = some .local) : X.fn x = true ∨ X.env.scope.names.lookup x = some .local := by
 rcases hf with h | h
 ·exact .inl (hX.fn h x)
 ·rw [hX.sc]; exact .inr h
theorem ds_set {i : Nat} {x : Str} {p : Pos} (hN : S.N[i]? = some x) (hx : Loc S.sc x) (hf : S.fnA = true ∨ S.sc.names.lookup x = some .local) (ha : DE S a da) (hc : Zax a = true) : DS S (.Assign [.Name x p] a pos) (dSet i da) := fun W => by
 obtain ⟨t, p, q⟩ := ha W
 exact ⟨_, fun X hX tk => ps_set hX.nd (by rw [hX.N]; exact hN) (by rw [hX.sc]; exact hx) (p X hX tk) (ZaE hc) (stx_fn hX hf), fun g env st T σ H D hT R h => dset_run q g env st T σ H D hT R h⟩
theorem ZD {i : Nat} {x : Str} {p : Pos} (hN : S.N[i]? = some x) (hx : Loc S.sc x) (hf : S.fnA = true ∨ S.sc.names.lookup x = some .local) (ha : DE S a da) (hc : Zax a = true) : DS S (.Assign [.Name x p] a pos) (ZO i da) := fun W => by
 obtain ⟨t, p, q⟩ := ha W
 exact ⟨_, fun X hX tk => ps_set hX.nd (by rw [hX.N]; exact hN) (by rw [hX.sc]; exact hx) (p X hX tk) (ZaE hc) (stx_fn hX hf), fun g env st T σ H D hT R h => dsetZ_run q g env st T σ H D hT R h⟩
end
inductive Pat
 | nm (i : Nat) | tp (ps : List Pat)
@[simp] def kidsP : Fr -> D -> Option (List Fr × List D)
 | .z, .con .tup ds => some (zs ds.length, ds)
 | .t fs, .con .tup ds => some (fs, ds)
 | .z, .con .lst ds => some (zs ds.length, ds)
 | .c f, .con .lst ds => some (List.replicate ds.length f, ds)
 | _, _ => none
mutual
@[simp] def ZS : Pat -> Fr -> D -> Env -> Option Env
 | .nm i, f, d, env => some (env.set i (some (f, d)))
 | .tp ps, f, d, env => match kidsP f d with
  | some (fs, ds) => ZF ps fs ds env
  | none => none
@[simp] def ZF : List Pat -> List Fr -> List D -> Env -> Option Env
 | [], [], [], env => some env
 | p :: ps, f :: fs, d :: ds, env => (ZS p f d env).bind fun env1 => ZF ps fs ds env1
 | _, _, _, _ => none
end
mutual
def Pat.slots : Pat -> List Nat
 | .nm i => [i]
 | .tp ps => Pat.slotsL ps
def Pat.slotsL : List Pat -> List Nat
 | [] => []
 | p :: ps => p.slots ++ Pat.slotsL ps
end
def Dif (l : List Nat) (σ σ' : St) : Prop := σ'.length = σ.length ∧ ∀ j, j ∉ l -> σ'[j]? = σ[j]?
def DG (S : Sx) (tg : Expr) (p : Pat) : Prop := ∃ t : TG, (∀ X, Stx S X -> PG X tg t) ∧
 ∀ g env st T σ H v f d env' Q, Zy T -> Rl S.G g env st (⟨v, f, d, false⟩ :: T) σ H -> ZS p f d env = some env' -> (∀ σ' H', Dif p.slots σ σ' -> Rl S.G g env' st T σ' H' -> Q σ' H') -> t v σ H Q
def mkF : List V -> List Fr -> List D -> List Tm
 | v :: vs, f :: fs, d :: ds => ⟨v, f, d, false⟩ :: mkF vs fs ds
 | _, _, _ => []
def DGs (S : Sx) (tgs : List Expr) (ps : List Pat) : Prop := ∃ t : TGs, (∀ X, Stx S X -> PGs X tgs t) ∧
 ∀ g env st T σ H vs fs ds env' Q, Zy T -> vs.length = ds.length -> Rl S.G g env st (mkF vs fs ds ++ T) σ H -> ZF ps fs ds env = some env' -> (∀ σ' H', Dif (Pat.slotsL ps) σ σ' -> Rl S.G g env' st T σ' H' -> Q σ' H') -> t vs σ H Q
theorem mkF_nb : ∀ {vs : List V} {fs : List Fr} {ds : List D}, Zy (mkF vs fs ds)
 | v :: vs, f :: fs, d :: ds => fun a ha => by
  rcases List.mem_cons.mp (show a ∈ ⟨v, f, d, false⟩ :: mkF vs fs ds from ha) with e | e
  ·rw [e]
  ·exact mkF_nb a e
 | [], _, _ => fun a ha => by cases ha
 | _ :: _, [], _ => fun a ha => by cases ha
 | _ :: _, _ :: _, [] => fun a ha => by cases ha
theorem nb_app {T T' : List Tm} (h : Zy T) (h' : Zy T') : Zy (T ++ T') := fun a ha => (List.mem_append.mp ha).elim (h a) (h' a)
section
variable {S : Sx}
theorem Dif.refl {l : List Nat} {σ : St} : Dif l σ σ := ⟨rfl, fun _ _ => rfl⟩
theorem Dif.app {l l' : List Nat} {σ σ1 σ2 : St} (h : Dif l σ σ1) (h' : Dif l' σ1 σ2) : Dif (l ++ l') σ σ2 := ⟨h'.1.trans h.1, fun j hj => by
 rw [List.mem_append, not_or] at hj
 rw [h'.2 j hj.2, h.2 j hj.1]⟩
theorem Wi {i : Nat} {x : Str} {p : Pos} (hN : S.N[i]? = some x) (hx : Loc S.sc x) (hf : S.fnA = true ∨ S.sc.names.lookup x = some .local) : DG S (.Name x p) (.nm i) :=
 ⟨_, fun X hX => pg_name hX.nd (by rw [hX.N]; exact hN) (by rw [hX.sc]; exact hx) (stx_fn hX hf), fun g env st T σ H v f d env' Q hT R e h => by
  cases e
  exact h _ H ⟨by simp, fun j hj => List.getElem?_set_ne fun z => hj (by rw [<- z]; exact List.mem_singleton.mpr rfl)⟩ (R.store rfl hT i)⟩
theorem dgs_nil : DGs S [] [] := ⟨_, fun X hX => pgs_nil, fun g env st T σ H vs fs ds env' Q hT hl R e h => by
 cases ds with
 | cons d ds => cases fs <;> simp [ZF] at e
 | nil =>
  have : vs = [] := List.length_eq_zero_iff.mp hl
  subst this
  cases fs with
  | cons f fs => simp [ZF] at e
  | nil =>
   simp [ZF] at e
   subst e
   exact ⟨rfl, h σ H Dif.refl R⟩⟩
theorem assignNo {tg : Expr} {tgs : List Expr} {env : PySem.Env} (h : ∀ x p, tg ≠ .Starred x p) : assignEach (tg :: tgs) env = (false, assign tg env) :: assignEach tgs env := by
 cases tg <;> first | rfl | exact absurd rfl (h _ _)
theorem UW {env : PySem.Env} : ∀ {tgs : List Expr}, (∀ e ∈ tgs, ∀ x p, e ≠ .Starred x p) -> (assignEach tgs env).length = tgs.length ∧ (assignEach tgs env).findIdx? (·.1) = none
 | [], _ => ⟨rfl, rfl⟩
 | tg :: tgs, h => by
  obtain ⟨h1, h2⟩ := UW (env := env) (tgs := tgs) fun e he => h e (List.mem_cons_of_mem _ he)
  rw [assignNo (h tg List.mem_cons_self)]
  refine ⟨by rw [List.length_cons, List.length_cons, h1], ?_⟩
  rw [List.findIdx?_cons, h2]
  rfl
theorem VH {tg : Expr} {tgs : List Expr} {p : Pat} {ps : List Pat} (h1 : DG S tg p) (h2 : DGs S tgs ps) (hs : ∀ x q, tg ≠ .Starred x q) : DGs S (tg :: tgs) (p :: ps) := by
 obtain ⟨t, pt, q⟩ := h1
 obtain ⟨t2, pt2, q2⟩ := h2
 refine ⟨_, fun X hX => pgs_cons (pt X hX) (pt2 X hX) (by rw [assignNo hs]; rfl), fun g env st T σ H vs fs ds env' Q hT hl R e h => ?_⟩
 cases fs with
 | nil => cases ds <;> simp [ZF] at e
 | cons f fs =>
  cases ds with
  | nil => simp [ZF] at e
  | cons d ds =>
   cases vs with
   | nil => simp at hl
   | cons v vs =>
    rw [ZF] at e
    obtain ⟨env1, e1, e2⟩ := Option.bind_eq_some_iff.mp e
    refine ⟨v, vs, rfl, q g env st (mkF vs fs ds ++ T) σ H v f d env1 _ (nb_app mkF_nb hT) R e1 fun σ' H' D' R' => ?_⟩
    exact q2 g env1 st T σ' H' vs fs ds env' Q hT (by simpa using hl) R' e2 fun σ2 H2 D2 R2 => h σ2 H2 (D'.app D2) R2
theorem WW {G : Sg} {Fz : Addr -> Prop} {am : List Addr} {H : Hp} {ne n2 : Fp} {T : List Tm} (h : TmR G Fz am H ne T n2) : ∀ {fs : List Fr} {vs : List V} {ds : List D} {n1 n : Fp}, Reps G Fz am H fs vs ds n1 -> (∀ q, n q = n1 q + n2 q) -> TmR G Fz am H ne (mkF vs fs ds ++ T) n
 | _, _, _, n1, n, .nil h0, hn => by
  have e : n = n2 := funext fun q => by rw [hn, h0]; simp
  rw [e]; exact h
 | _, _, _, n1, n, .cons (n2 := m2) h1 h2 h3, hn => .own h1 (WW h h2 (n := fun q => m2 q + n2 q) fun _ => rfl) fun q => by rw [hn, h3]; omega
theorem Rl.open {G : Sg} {g : Gd} {env : Env} {st : Zd} {T : List Tm} {σ : St} {H : Hp} {v : V} {f : Fr} {ds : List D} (R : Rl G g env st (⟨v, f, .con .tup ds, false⟩ :: T) σ H) :
  ∃ a vs fs, v = .ref a ∧ SqT G.K H a vs ∧ vs.length = ds.length ∧ ((f = .z ∧ fs = zs ds.length) ∨ f = .t fs) ∧ Rl G g env st (mkF vs fs ds ++ T) σ H := by
 obtain ⟨Fz, am, ne, nt, ns, h1, h2, h3, h4, h5⟩ := R
 cases h2 with
 | @own _ _ _ _ n1 n2 _ k1 k2 k3 =>
  cases k1 with
  | sc h _ => cases v <;> exact h.elim
  | @zz p k vs _ n a1 a2 a3 => exact ⟨p, vs, zs ds.length, rfl, a1, a2.len.2, .inl ⟨rfl, rfl⟩, Fz, am, ne, nt, ns, h1, WW k2 a2 k3, h3, h4, trivial⟩
  | @tp p vs _ fs n a1 a2 => exact ⟨p, vs, fs, rfl, a1, a2.len.2, .inr rfl, Fz, am, ne, nt, ns, h1, WW k2 a2 k3, h3, h4, trivial⟩
  | cc a1 _ _ => exact absurd rfl a1.1.1
theorem Rl.openL {G : Sg} {g : Gd} {env : Env} {st : Zd} {T : List Tm} {σ : St} {H : Hp} {v : V} {f : Fr} {ds : List D} (R : Rl G g env st (⟨v, f, .con .lst ds, false⟩ :: T) σ H) :
  ∃ a vs f0, v = .ref a ∧ SqL G.K H a vs ∧ vs.length = ds.length ∧ ((f = .z ∧ f0 = .z) ∨ f = .c f0) ∧ Rl G g env st (mkF vs (List.replicate ds.length f0) ds ++ T) σ H := by
 obtain ⟨Fz, am, ne, nt, ns, h1, h2, h3, h4, h5⟩ := R
 cases h2 with
 | @own _ _ _ _ n1 n2 _ k1 k2 k3 =>
  cases k1 with
  | sc h _ => cases v <;> exact h.elim
  | @zz p k vs _ n a1 a2 a3 =>
   obtain ⟨_, o, b1, b2⟩ := a1
   subst b2
   exact ⟨p, vs, .z, rfl, SqL.of b1, a2.len.2, .inl ⟨rfl, rfl⟩, Fz, am, ne, nt, ns, h1, WW k2 a2 k3, h3, h4, trivial⟩
  | @cc p k vs _ f0 n m a1 a2 a3 =>
   obtain ⟨_, o, b1, b2⟩ := a1
   subst b2
   exact ⟨p, vs, f0, rfl, SqL.of b1, a2.len.2, .inr rfl, Fz, am, ne, fun q => m q + n2 q, ns, h1, WW k2 a2 fun _ => rfl, h3, h4.less fun q => by show ne q + (m q + n2 q) + ns q <= _; rw [k3, a3]; omega, trivial⟩
theorem PG.or {X : Cx} {tg : Expr} {t t' : TG} (h : PG X tg t) (h' : PG X tg t') : PG X tg fun v σ H Q => t v σ H Q ∨ t' v σ H Q :=
 ⟨fun pins s σ H v u Q I r hw => hw.elim (h.run pins s σ H v u Q I r) (h'.run pins s σ H v u Q I r)⟩
theorem Zai : ∀ {ps : List Pat} {fs : List Fr} {ds : List D} {env env' : Env}, ZF ps fs ds env = some env' -> ps.length = ds.length
 | [], [], [], _, _, _ => rfl
 | p :: ps, f :: fs, d :: ds, env, env', h => by
  rw [ZF] at h
  obtain ⟨env1, _, e2⟩ := Option.bind_eq_some_iff.mp h
  rw [List.length_cons, List.length_cons, Zai e2]
 | [], [], _ :: _, _, _, h => by simp [ZF] at h
 | [], _ :: _, _, _, _, h => by simp [ZF] at h
 | _ :: _, [], _, _, _, h => by simp [ZF] at h
 | _ :: _, _ :: _, [], _, _, h => by simp [ZF] at h
theorem dg_tup {es : List Expr} {k : Nat} {p : Pos} {ps : List Pat} (h : DGs S es ps) (hp : Zx es = true) (hl : es.length = ps.length) : DG S (.Tuple es k p) (.tp ps) := by
 obtain ⟨t, pt, q⟩ := h
 have aa := fun env => UW (env := env) (Zp hp)
 refine ⟨fun v σ H Q => gTup S.G.K es.length t v σ H Q ∨ gUnl S.G.K es.length t v σ H Q, fun X hX => by rw [<- hX.K]; exact PG.or (pg_tup hX.calm (pt X hX) (aa X.env).1 (aa X.env).2) (pg_unl hX.calm (pt X hX) (aa X.env).1 (aa X.env).2), fun g env st T σ H v f d env' Q hT R e hq => ?_⟩
 cases d with
 | con kd ds =>
  cases kd with
  | tup =>
   obtain ⟨a, vs, fs, e1, e2, e3, e4, R1⟩ := R.open
   have eb : ZF ps fs ds env = some env' := by
    rcases e4 with ⟨rfl, rfl⟩ | rfl <;> simpa [ZS, kidsP] using e
   exact .inl ⟨a, vs, e1, e2, by rw [e3, hl, Zai eb], q g env st T σ H vs fs ds env' Q hT e3 R1 eb hq⟩
  | lst =>
   obtain ⟨a, vs, f0, e1, e2, e3, e4, R1⟩ := R.openL
   have eb : ZF ps (List.replicate ds.length f0) ds env = some env' := by
    rcases e4 with ⟨rfl, rfl⟩ | rfl <;> simpa [ZS, kidsP, zs] using e
   exact .inr ⟨a, vs, e1, e2, by rw [e3, hl, Zai eb], q g env st T σ H vs _ ds env' Q hT e3 R1 eb hq⟩
  | _ => cases f <;> simp [ZS, kidsP] at e
 | _ => cases f <;> simp [ZS, kidsP] at e
@[simp] def dUnp (p : Pat) (a : Den) : DenS := fun env st => match a env st with
 | .ok f b d st1 => bif !b || f.isz then (match ZS p f d env with
  | some env1 => .nx env1 st1
  | none => .stuck) else .stuck
 | .exc c ds st1 => .exc c ds env st1
 | .stuck => .stuck
def noSwap : Expr -> Bool
 | .Tuple _ _ _ => false
 | _ => true
theorem Zba {ts : List Expr} {e : Expr} {env : PySem.Env} (h : noSwap e = true) : swappedStores ts e env = pure none := by
 unfold swappedStores
 cases e <;> first | exact Bool.noConfusion h | (cases ts with
  | nil => rfl
  | cons t ts => cases ts <;> cases t <;> rfl)
end
inductive ResI
 | ok (items : List D) (st : Zd) | exc (c : Nat) (ds : List D) (st : Zd) | stuck
abbrev DenI := Env -> Zd -> ResI
structure ItOk (G : Sg) (g : Gd) (J : It) (keep : List Tm) (items : List D) : Prop where
 nb : Zy keep
 go : ∀ i env st T σ H, Rl G g env st (keep ++ T) σ H -> i < items.length -> J.go i H
 yld : ∀ i env st T σ H x H' d, Rl G g env st (keep ++ T) σ H -> J.yld i H x H' -> items[i]? = some d -> Rl G g env st (⟨x, .z, d, false⟩ :: (keep ++ T)) σ H'
 stop : ∀ i env st T σ H, Rl G g env st (keep ++ T) σ H -> i = items.length -> J.stop i H
def Gle (G : Sg) (g' g : Gd) : Prop := ∀ Fz am H tot, Rel0 G g' Fz am H tot -> Rel0 G g Fz am H tot
theorem Gle.refl {G : Sg} {g : Gd} : Gle G g g := fun _ _ _ _ h => h
theorem RlB.back {G : Sg} {g g' : Gd} {env : Env} {st : Zd} {T : List Tm} {σ : St} {H : Hp} {B : (Addr -> Prop) -> List Addr -> Prop} (b : Gle G g' g) (R : RlB G g' env st T σ H B) : RlB G g env st T σ H B := by
 obtain ⟨Fz, am, ne, nt, ns, h1, h2, h3, h4, h5⟩ := R
 exact ⟨Fz, am, ne, nt, ns, h1, h2, h3, b _ _ _ _ h4, h5⟩
def PostI (G : Sg) (g : Gd) (env : Env) (T : List Tm) (σ : St) (W : WX) (R : It -> Hp -> Prop) : ResI -> Prop
 | .ok items st => ∀ J H' keep g', Gle G g' g -> ItOk G g' J keep items -> Rl G g' env st (keep ++ T) σ H' -> R J H'
 | .exc c ds st => ExcP G g env σ W c ds st
 | .stuck => False
def DI (S : Sx) (tg it : Expr) (den : DenI) : Prop := ∀ W : WX, ∃ wi : TI, (∀ X, Stx S X -> Takes X W -> PI X tg it wi) ∧
 ∀ g env st T σ H R, Zy T -> Rl S.G g env st T σ H -> PostI S.G g env T σ W R (den env st) -> wi σ H R
theorem PI.or {X : Cx} {tg e : Expr} {w1 w2 : TI} (h1 : PI X tg e w1) (h2 : PI X tg e w2) : PI X tg e fun σ H R => w1 σ H R ∨ w2 σ H R :=
 ⟨fun pins s σ H R I h => h.elim (h1.run pins s σ H R I) (h2.run pins s σ H R I)⟩
theorem Um {G : Sg} {Fz : Addr -> Prop} {am : List Addr} {H : Hp} : ∀ {k : Nat} {vs : List V} {ds : List D} {n : Fp} {i : Nat} {v : V} {d : D}, Reps G Fz am H (zs k) vs ds n -> vs[i]? = some v -> ds[i]? = some d -> Rep G Fz am H .z v d (fun _ => 0)
 | 0, _, _, _, i, v, d, r, e1, e2 => by
  cases r with
  | nil h => simp at e2
 | k + 1, _, _, _, i, v, d, r, e1, e2 => by
  have e : zs (k + 1) = .z :: zs k := List.replicate_succ
  rw [e] at r
  cases r with
  | cons h1 h2 h3 =>
   cases i with
   | zero =>
    simp at e1 e2
    subst e1 e2
    exact h1.fp h1.z0
   | succ i => exact Um (i := i) h2 (by simpa using e1) (by simpa using e2)
section
variable {G : Sg} {g : Gd} {env : Env} {st st' : Zd} {T T' : List Tm} {σ : St} {H H' : Hp}
theorem Rl.pz {v : V} {d : D} (R : Rl G g env st T σ H) (h : ∀ Fz am ne nt, EnvR G Fz am H env σ ne -> TmR G Fz am H ne T nt -> Rep G Fz am H .z v d (fun _ => 0)) : Rl G g env st (⟨v, .z, d, false⟩ :: T) σ H := by
 obtain ⟨Fz, am, ne, nt, ns, h1, h2, h3, h4, h5⟩ := R
 exact ⟨Fz, am, ne, nt, ns, h1, .own (h Fz am ne nt h1 h2) h2 (n1 := fun _ => 0) fun q => by simp, h3, h4, trivial⟩
theorem lst_at {a : Addr} {ds : List D} (R : Rl G g env st (⟨.ref a, .z, .con .lst ds, false⟩ :: T) σ H) : ∃ vs, H a = some (.lst vs) ∧ vs.length = ds.length := by
 obtain ⟨Fz, am, ne, nt, ns, h1, h2, h3, h4, h5⟩ := R
 cases h2 with
 | own k1 k2 k3 =>
  cases k1 with
  | sc h _ => exact h.elim
  | zz a1 a2 a3 =>
   obtain ⟨_, o, b1, b2⟩ := a1
   subst b2
   exact ⟨_, b1, a2.len.2⟩
theorem lst_item {a : Addr} {ds : List D} {vs : List V} {i : Nat} {x : V} {d : D} (R : Rl G g env st (⟨.ref a, .z, .con .lst ds, false⟩ :: T) σ H) (ha : H a = some (.lst vs)) (e1 : vs[i]? = some x) (e2 : ds[i]? = some d) : Rl G g env st (⟨x, .z, d, false⟩ :: (⟨.ref a, .z, .con .lst ds, false⟩ :: T)) σ H :=
 R.pz fun Fz am ne nt _ h2 => by
  cases h2 with
  | own k1 k2 k3 =>
   cases k1 with
   | sc h _ => exact h.elim
   | zz a1 a2 a3 =>
    obtain ⟨_, o, b1, b2⟩ := a1
    subst b2
    have b1 : H a = some (.lst _) := b1
    rw [ha] at b1
    cases b1
    exact Um a2 e1 e2
theorem it_list {a : Addr} {ds : List D} : ItOk G g (Itl G.K a) [⟨.ref a, .z, .con .lst ds, false⟩] ds where
 nb := fun x hx => by rw [List.mem_singleton.mp hx]
 go := fun i env st T σ H R hi => by
  obtain ⟨vs, e1, e2⟩ := lst_at R
  exact ⟨_, _, SqL.of e1, List.getElem?_eq_getElem (by rw [e2]; exact hi)⟩
 yld := fun i env st T σ H x H' d R y e => by
  obtain ⟨rfl, y⟩ := y
  obtain ⟨vs, e1, e2⟩ := lst_at R
  exact lst_item R e1 (y _ (SqL.of e1)) e
 stop := fun i env st T σ H R he => by
  have hi := Nat.le_of_eq he.symm
  obtain ⟨vs, e1, e2⟩ := lst_at R
  exact ⟨_, SqL.of e1, by rw [e2]; exact hi⟩
theorem tup_at {a : Addr} {ds : List D} (R : Rl G g env st (⟨.ref a, .z, .con .tup ds, false⟩ :: T) σ H) : ∃ vs, SqT G.K H a vs ∧ vs.length = ds.length ∧ ∀ (i : Nat) (x : V) (d : D), vs[i]? = some x -> ds[i]? = some d -> Rl G g env st (⟨x, .z, d, false⟩ :: (⟨.ref a, .z, .con .tup ds, false⟩ :: T)) σ H := by
 obtain ⟨Fz, am, ne, nt, ns, h1, h2, h3, h4, h5⟩ := R
 cases id h2 with
 | own k1 k2 k3 =>
  cases k1 with
  | sc h _ => exact h.elim
  | @zz _ _ vs _ _ a1 a2 a3 =>
   exact ⟨vs, a1, a2.len.2, fun i x d e1 e2 => ⟨Fz, am, ne, nt, ns, h1, .own (Um a2 e1 e2) h2 (n1 := fun _ => 0) fun q => by simp, h3, h4, trivial⟩⟩
theorem it_tup {a : Addr} {ds : List D} : ItOk G g (Itt G.K a) [⟨.ref a, .z, .con .tup ds, false⟩] ds where
 nb := fun x hx => by rw [List.mem_singleton.mp hx]
 go := fun i env st T σ H R hi => by
  obtain ⟨vs, e1, e2, _⟩ := tup_at R
  exact ⟨_, _, e1, List.getElem?_eq_getElem (by rw [e2]; exact hi)⟩
 yld := fun i env st T σ H x H' d R y e => by
  obtain ⟨rfl, y⟩ := y
  obtain ⟨vs, e1, e2, e3⟩ := tup_at R
  exact e3 i x d (y _ e1) e
 stop := fun i env st T σ H R he => by
  have hi := Nat.le_of_eq he.symm
  obtain ⟨vs, e1, e2, _⟩ := tup_at R
  exact ⟨_, e1, by rw [e2]; exact hi⟩
theorem it_rng {lo : Int} {n : Nat} : ItOk G g (Itr lo n) [] ((List.range n).map fun (i : Nat) => D.int (lo + (i : Int))) where
 nb := fun x hx => by cases hx
 go := fun i env st T σ H R hi => by show i < n; simpa using hi
 yld := fun i env st T σ H x H' d R y e => by
  obtain ⟨rfl, rfl⟩ := y
  obtain ⟨h1, h2⟩ := List.getElem?_eq_some_iff.mp e
  simp at h2
  subst h2
  exact Rl.scal R rfl
 stop := fun i env st T σ H R he => by
  have hi := Nat.le_of_eq he.symm
  show n <= i; simpa using hi
end
@[simp] def dIvS (a : Den) : DenI := fun env st => match a env st with
 | .ok f b (.con .lst ds) st1 => bif !b || f.isz then .ok ds st1 else .stuck
 | .ok f b (.con .tup ds) st1 => bif !b || f.isz then .ok ds st1 else .stuck
 | .ok _ _ _ _ => .stuck
 | .exc c ds st1 => .exc c ds st1
 | .stuck => .stuck
section
variable {S : Sx} {e a b tg : Expr} {es : List Expr} {da db : Den} {das : DenL} {pos p : Pos}
theorem VU {n : Nat} (h : n.ble 16777216 = true) : n <= sizeLine := Nat.le_trans (Nat.le_of_ble_eq_true h) (by decide)
theorem di_val (ha : DE S a da) : DI S tg a (dIvS da) := fun W => by
 obtain ⟨t, p, q⟩ := ha W
 refine ⟨fun σ H R => iList S.G.K t σ H R ∨ iTup S.G.K t σ H R, fun X hX tk => by rw [<- hX.K]; exact PI.or (pi_list (p X hX tk)) (pi_tup (p X hX tk)), fun g env st T σ H R0 hT R h => ?_⟩
 unfold dIvS at h
 cases e : da env st with
 | stuck => rw [e] at h; exact h.elim
 | exc c ds st1 => rw [e] at h; exact .inl (q g env st T σ H _ hT R (by rw [e]; exact h))
 | ok f b d st1 =>
  rw [e] at h
  cases d with
  | con k ds =>
   cases k with
   | lst =>
    obtain ⟨hc, h⟩ := bifT h id
    refine .inl (q g env st T σ H _ hT R ?_)
    rw [e]
    intro v H1 R1
    have R2 := (R1.unb hc).frz
    obtain ⟨a, vs, f0, rfl, e2, _⟩ := Rl.openL R2
    exact ⟨a, rfl, ⟨vs, e2⟩, h _ H1 _ g .refl it_list R2⟩
   | tup =>
    obtain ⟨hc, h⟩ := bifT h id
    refine .inr (q g env st T σ H _ hT R ?_)
    rw [e]
    intro v H1 R1
    have R2 := (R1.unb hc).frz
    obtain ⟨a, vs, f0, rfl, e2, _⟩ := Rl.open R2
    exact ⟨a, rfl, ⟨vs, e2⟩, h _ H1 _ g .refl it_tup R2⟩
   | _ => exact h.elim
  | _ => exact h.elim
def Zo (lo hi : Int) : List D := (List.range (hi - lo).toNat).map fun (i : Nat) => D.int (lo + (i : Int))
def Wd (j : Int) : Bool := decide (-16777216 <= j) && decide (j <= 16777216)
@[simp] def UY (as : DenL) : DenI := fun env st => match as env st with
 | .ok ts st1 => (match ts with
  | [(_, _, .int j)] => bif Wd j then .ok (Zo 0 j) st1 else .stuck
  | _ => .stuck)
 | .exc c ds st1 => .exc c ds st1
 | .stuck => .stuck
@[simp] def dRng2 (as : DenL) : DenI := fun env st => match as env st with
 | .ok ts st1 => (match ts with
  | [(_, _, .int i), (_, _, .int j)] => bif Wd i && Wd j then .ok (Zo i j) st1 else .stuck
  | _ => .stuck)
 | .exc c ds st1 => .exc c ds st1
 | .stuck => .stuck
theorem Rl.int {G : Sg} {g : Gd} {env : Env} {st : Zd} {T : List Tm} {σ : St} {H : Hp} {v : V} {f : Fr} {b : Bool} {c : Int} (R : Rl G g env st (⟨v, f, .int c, b⟩ :: T) σ H) : v = .int c := by
 obtain ⟨Fz, am, ne, nt, ns, h1, h2, h3, h4, h5⟩ := R
 have key : ∀ {n : Fp}, Rep G Fz am H f v (.int c) n -> v = .int c := fun {n} r => by
  cases r with
  | sc h _ => cases v <;> first | exact congrArg V.int h | exact h.elim
 cases h2 with
 | own h _ _ => exact key h
 | bor h _ _ => exact key h
theorem Zaj {j : Int} (h : Wd j = true) : (-(2 ^ 62) <= j ∧ j < 2 ^ 62) ∧ (-16777216 <= j ∧ j <= 16777216) := by
 unfold Wd at h
 rw [Bool.and_eq_true] at h
 have h1 := of_decide_eq_true h.1
 have h2 := of_decide_eq_true h.2
 omega
theorem UQ (ha : DA S [a] das) (hs : ∀ x q, a ≠ .Starred x q) (hg : S.sc.names.lookup ("range" : Str) = some .globalImplicit) (hm : S.mg "range" = none) : DI S tg (.Call (.Name "range" p) [a] [] pos) (UY das) := fun W => by
 obtain ⟨t, pt, q⟩ := ha W
 refine ⟨_, fun X hX tk => pi_range1 (show X.env.scope.names.lookup ("range" : Str) = some .globalImplicit by rw [hX.sc]; exact hg) (by rw [hX.mg]; exact hm) (pt X hX tk) (by rw [Wg hs]; rfl), fun g env st T σ H R0 hT R h => q g env st T σ H _ hT R ?_⟩
 unfold UY at h
 cases e : das env st with
 | stuck => rw [e] at h; exact h.elim
 | exc c ds st1 => rw [e] at h; exact h
 | ok ts st1 =>
  rw [e] at h
  intro vs H1 hl R1
  dsimp only at h
  split at h
  ·rename_i f b j
   obtain ⟨hc, h⟩ := bifT h id
   match vs, hl with
   | [v], _ =>
    have ev : v = .int j := Rl.int R1
    subst ev
    have hb := (Zaj hc).1
    refine ⟨j, rfl, hb.1, hb.2, ?_⟩
    have it := it_rng (G := S.G) (g := g) (lo := 0) (n := j.toNat)
    unfold Zo at h
    rw [show (j - 0).toNat = j.toNat by congr 1; omega] at h
    exact h _ H1 [] g .refl it (RlB.drop R1)
  ·exact h.elim
theorem di_rng2 (ha : DA S [a, b] das) (hs : ∀ x q, a ≠ .Starred x q) (hs2 : ∀ x q, b ≠ .Starred x q) (hg : S.sc.names.lookup ("range" : Str) = some .globalImplicit) (hm : S.mg "range" = none) : DI S tg (.Call (.Name "range" p) [a, b] [] pos) (dRng2 das) := fun W => by
 obtain ⟨t, pt, q⟩ := ha W
 refine ⟨_, fun X hX tk => pi_range2 (show X.env.scope.names.lookup ("range" : Str) = some .globalImplicit by rw [hX.sc]; exact hg) (by rw [hX.mg]; exact hm) (pt X hX tk) (by rw [Wg hs, Wg hs2]; rfl) (by rw [Wg hs2]; rfl), fun g env st T σ H R0 hT R h => q g env st T σ H _ hT R ?_⟩
 unfold dRng2 at h
 cases e : das env st with
 | stuck => rw [e] at h; exact h.elim
 | exc c ds st1 => rw [e] at h; exact h
 | ok ts st1 =>
  rw [e] at h
  intro vs H1 hl R1
  dsimp only at h
  split at h
  ·rename_i f b i f2 b2 j
   obtain ⟨hc, h⟩ := bifT h id
   rw [Bool.and_eq_true] at hc
   match vs, hl with
   | [v, v2], _ =>
    have ev : v = .int i := Rl.int R1
    have ev2 : v2 = .int j := Rl.int (RlB.drop R1)
    subst ev ev2
    have hb := (Zaj hc.1).1
    have hb2 := (Zaj hc.2).1
    refine ⟨i, j, rfl, ⟨hb.1, hb.2, hb2.1, hb2.2⟩, ?_⟩
    exact h _ H1 [] g .refl (it_rng (G := S.G) (g := g) (lo := i) (n := (j - i).toNat)) (RlB.drop (RlB.drop R1))
  ·exact h.elim
def Ve (p : Pat) (body : DenS) (ks : List Nat) : List D -> DenS
 | [], env, st => .nx env st
 | d :: ds, env, st => match ZS p .z d env with
  | none => .stuck
  | some env1 => match body env1 st with
   | .nx env2 st2 => Ve p body ks ds (killE ks env2) st2
   | .ct env2 st2 => Ve p body ks ds (killE ks env2) st2
   | .bk env2 st2 => .nx (killE ks env2) st2
   | r => r
def dFor (it : DenI) (p : Pat) (body : DenS) (ks : List Nat) : DenS := fun env st => match it env st with
 | .ok items st1 => Ve p body ks items env st1
 | .exc c ds st1 => .exc c ds env st1
 | .stuck => .stuck
theorem Ui {e : Expr} {env : PySem.Env} (h : Wj e = true) (x : Value) : foldedSetIterable e env x = pure x := by
 cases e <;> first | rfl | cases h
theorem ds_for {it : Expr} {di : DenI} {p : Pat} {body : List Stmt} {db : DenS} {ks : List Nat} (hi : DI S tg it di) (hg : DG S tg p) (hb : DSs S body db) (hs : Wj it = true) : DS S (.For tg it body [] pos) (dFor di p db ks) := fun W => by
 obtain ⟨wi, pi, qi⟩ := hi W
 obtain ⟨tg', pg, qg⟩ := hg
 obtain ⟨tb, pb, qb⟩ := hb W
 refine ⟨tFor wi tg' tb, fun X hX tk => ps_for hX.po hX.calm (pi X hX tk) (pg X hX) (pb X hX tk) (Ui hs), fun g env st T σ H D hT R h => qi g env st T σ H _ hT R ?_⟩
 unfold dFor at h
 cases e : di env st with
 | stuck => rw [e] at h; exact h.elim
 | exc c ds st1 => rw [e] at h; exact h σ
 | ok items st1 =>
  rw [e] at h
  intro J H1 keep g' bk IO R1
  have nbT : Zy (keep ++ T) := nb_app IO.nb hT
  refine ⟨fun i m σ H => ∃ env st, m = items.length - i ∧ i <= items.length ∧ Rl S.G g' env st (keep ++ T) σ H ∧ Uh S.G g T W D (Ve p db ks (items.drop i) env st), ⟨items.length, env, st1, by omega, Nat.zero_le _, R1, by simpa using h⟩, ?_⟩
  rintro i m σ H ⟨env, st, rfl, hi, R, h⟩
  by_cases hlt : i < items.length
  ·refine .inr ⟨IO.go i env st T σ H R hlt, fun σ' H' => ∃ env st, i + 1 <= items.length ∧ Rl S.G g' env st (keep ++ T) σ' H' ∧ Uh S.G g T W D (Ve p db ks (items.drop (i + 1)) env st), fun σ' H' ⟨env, st, h1, h2, h3⟩ => ⟨items.length - (i + 1), by omega, env, st, rfl, h1, h2, h3⟩, fun x H' y => ?_⟩
   have ei : items[i]? = some items[i] := List.getElem?_eq_getElem hlt
   have R2 := IO.yld i env st T σ H x H' _ R y ei
   rw [List.drop_eq_getElem_cons hlt] at h
   unfold Ve at h
   cases eb : ZS p .z items[i] env with
   | none => rw [eb] at h; exact h.elim
   | some env1 =>
    rw [eb] at h
    refine qg g' env st (keep ++ T) σ H' x .z items[i] env1 _ nbT R2 eb fun σ' H'' _ R3 => ?_
    refine qb g' env1 st (keep ++ T) σ' H'' _ nbT R3 ?_
    dsimp only at h
    cases er : db env1 st with
    | stuck => rw [er] at h; exact h.elim
    | rt f d st2 => rw [er] at h; exact fun v H3 R4 => h v H3 (R4.back bk)
    | exc c ds env2 st2 => rw [er] at h; exact fun σ3 cls dx H3 R4 => h σ3 cls dx H3 (R4.back bk)
    | nx env2 st2 => rw [er] at h; exact fun σ3 H3 R4 => ⟨_, st2, hlt, R4.kills nbT, h⟩
    | ct env2 st2 => rw [er] at h; exact fun σ3 H3 R4 => ⟨_, st2, hlt, R4.kills nbT, h⟩
    | bk env2 st2 => rw [er] at h; exact fun σ3 H3 R4 => h σ3 H3 (Rl.kills hT (RlB.tail (R4.back bk)))
  ·have e : i = items.length := by omega
   subst e
   rw [List.drop_length] at h
   exact .inl ⟨IO.stop _ env st T σ H R rfl, h σ H (RlB.tail (R.back bk))⟩
def dYes : DenB := fun _ st => .ok true st
def lcGo (p : Pat) (c : DenB) (el : Den) : List D -> Env -> Zd -> List D -> Res
 | [], _, st, acc => .ok (.c .z) false (.con .lst acc) st
 | d :: ds, env, st, acc => match ZS p .z d env with
  | none => .stuck
  | some env1 => match c env1 st with
   | .ok false st1 => lcGo p c el ds env st1 acc
   | .ok true st1 => (match el env1 st1 with
    | .ok f b d' st2 => bif !b || f.isz then lcGo p c el ds env st2 (acc ++ [d']) else .stuck
    | _ => .stuck)
   | _ => .stuck
def Zw (own : List Nat) (env : Env) : Bool := own.all fun i => match env[i]? with
 | some none => true
 | _ => false
def dLc (it : DenI) (own : List Nat) (p : Pat) (c : DenB) (el : Den) : Den := fun env st => match it env st with
 | .ok items st1 => bif Zw own env && items.length.ble 16777215 then lcGo p c el items env st1 [] else .stuck
 | .exc c ds st1 => .exc c ds st1
 | .stuck => .stuck
def Sx.blk (S : Sx) (scope : Scope) : Sx := { S with sc := relS scope S.sc, fnA := false, lmk := none, fnC := fun x => scope.names.lookup x == some .cell }
theorem UM {X : Cx} (hX : Stx S X) (s : Shared) (H : Hp) (scope : Scope) (C : Addr) (cl : List (Str × Addr)) (fp : List Addr) : Stx (S.blk scope) (X.blk s H scope (compEnvC scope cl C X.env) fp) where
 pr := hX.pr
 w := hX.w
 mg := hX.mg
 base := hX.base
 K := hX.K
 N := hX.N
 sc := by show relS scope X.env.scope = relS scope S.sc; rw [hX.sc]
 nd := hX.nd
 calm := hX.calm
 room := hX.room
 po := PassesOwn.never
 fn := fun h => Bool.noConfusion h
 stk := fun h => Bool.noConfusion h
 lmk := fun c q h => nomatch h
 fnC := fun x h => h
theorem wipe_at {j : Nat} : ∀ (τ : St) (ow : List Nat), j ∈ ow -> (wipe τ ow)[j]? = if j < τ.length then some none else none := by
 intro τ ow
 induction ow with
 | nil => intro h; cases h
 | cons v vs ih =>
  intro h
  unfold wipe
  by_cases e : v = j
  ·subst e
   rw [List.getElem?_set]
   simp [wipe_length]
  ·rw [List.getElem?_set_ne e]
   rcases List.mem_cons.mp h with z | z
   ·exact absurd z.symm e
   ·exact ih z
theorem wipe_dif {σ σ2 : St} {l own : List Nat} (h : Dif l σ σ2) (hl : ∀ i ∈ l, i ∈ own) : wipe σ2 own = wipe σ own := by
 apply List.ext_getElem?
 intro j
 by_cases hj : j ∈ own
 ·rw [wipe_at σ2 own hj, wipe_at σ own hj, h.1]
 ·rw [wipe_out hj, wipe_out hj]
  exact h.2 j fun z => hj (hl j z)
theorem EnvR.resig {G : Sg} {Fz : Addr -> Prop} {am : List Addr} {H : Hp} {env : Env} {σ : St} {n : Fp} (r : EnvR G Fz am H env σ n) : ∀ {σ' : St}, σ'.length = σ.length -> (∀ (i : Nat) x, env[i]? = some (some x) -> σ'[i]? = σ[i]?) -> EnvR G Fz am H env σ' n := by
 induction r with
 | nil h =>
  intro σ' hl _
  have e : σ' = [] := List.length_eq_zero_iff.mp hl
  subst e
  exact .nil h
 | @som f d v env σ n1 n2 n h1 h2 h3 ih =>
  intro σ' hl hs
  cases σ' with
  | nil => simp at hl
  | cons y σ' =>
   have e : y = some v := by simpa using hs 0 (f, d) (by simp)
   subst e
   exact .som h1 (ih (by simpa using hl) fun i x e => by simpa using hs (i + 1) x (by simpa using e)) h3
 | @non x env σ n h ih =>
  intro σ' hl hs
  cases σ' with
  | nil => simp at hl
  | cons y σ' => exact .non (ih (by simpa using hl) fun i x e => by simpa using hs (i + 1) x (by simpa using e))
theorem EnvR.weak {G : Sg} {Fz : Addr -> Prop} {am : List Addr} {H : Hp} {env : Env} {σ : St} {n : Fp} (r : EnvR G Fz am H env σ n) : ∀ {env' : Env} {σ'' : St}, env'.length = env.length -> σ''.length = σ.length ->
  (∀ (i : Nat) x, env'[i]? = some (some x) -> env[i]? = some (some x) ∧ σ''[i]? = σ[i]?) -> ∃ n', EnvR G Fz am H env' σ'' n' ∧ ∀ q, n' q <= n q := by
 induction r with
 | nil h =>
  intro env' σ'' h1 h2 _
  have e : σ'' = [] := List.length_eq_zero_iff.mp h2
  have e2 : env' = [] := List.length_eq_zero_iff.mp h1
  subst e e2
  exact ⟨_, .nil h, fun _ => Nat.le_refl _⟩
 | @som f d v env σ n1 n2 n h1 h2 h3 ih =>
  intro env' σ'' hl hs hx
  cases σ'' with
  | nil => simp at hs
  | cons y σ'' =>
  cases env' with
  | nil => simp at hl
  | cons w env' =>
   obtain ⟨n', k1, k2⟩ := ih (env' := env') (σ'' := σ'') (by simpa using hl) (by simpa using hs) fun i x e => by simpa using hx (i + 1) x (by simpa using e)
   cases w with
   | none => exact ⟨n', .non k1, fun q => by have := k2 q; rw [h3]; omega⟩
   | some w =>
    obtain ⟨e1, e2⟩ := hx 0 w (by simp)
    simp at e1 e2
    subst e1 e2
    exact ⟨_, .som h1 k1 (n := fun q => n1 q + n' q) fun _ => rfl, fun q => by have := k2 q; rw [h3]; omega⟩
 | @non x env σ n h ih =>
  intro env' σ'' hl hs hx
  cases σ'' with
  | nil => simp at hs
  | cons y σ'' =>
  cases env' with
  | nil => simp at hl
  | cons w env' =>
   obtain ⟨n', k1, k2⟩ := ih (env' := env') (σ'' := σ'') (by simpa using hl) (by simpa using hs) fun i x e => by simpa using hx (i + 1) x (by simpa using e)
   cases w with
   | none => exact ⟨n', .non k1, k2⟩
   | some w =>
    obtain ⟨e1, e2⟩ := hx 0 w (by simp)
    simp at e1
mutual
theorem bindP_dif : ∀ (p : Pat) {f : Fr} {d : D} {env env' : Env}, ZS p f d env = some env' -> env'.length = env.length ∧ ∀ j, j ∉ p.slots -> env'[j]? = env[j]?
 | .nm i, f, d, env, env', h => by
  cases h
  exact ⟨by simp, fun j hj => List.getElem?_set_ne fun z => hj (by rw [<- z]; exact List.mem_singleton.mpr rfl)⟩
 | .tp ps, f, d, env, env', h => by
  unfold ZS at h
  cases e : kidsP f d with
  | none => rw [e] at h; cases h
  | some x => rw [e] at h; exact Zcc ps h
theorem Zcc : ∀ (ps : List Pat) {fs : List Fr} {ds : List D} {env env' : Env}, ZF ps fs ds env = some env' -> env'.length = env.length ∧ ∀ j, j ∉ Pat.slotsL ps -> env'[j]? = env[j]?
 | [], [], [], env, env', h => by
  simp [ZF] at h
  subst h
  exact ⟨rfl, fun _ _ => rfl⟩
 | p :: ps, f :: fs, d :: ds, env, env', h => by
  rw [ZF] at h
  obtain ⟨env1, e1, e2⟩ := Option.bind_eq_some_iff.mp h
  have a := bindP_dif p e1
  have b := Zcc ps e2
  refine ⟨b.1.trans a.1, fun j hj => ?_⟩
  have hj' : j ∉ p.slots ++ Pat.slotsL ps := hj
  rw [List.mem_append, not_or] at hj'
  rw [b.2 j hj'.2, a.2 j hj'.1]
 | [], [], _ :: _, _, _, h => by simp [ZF] at h
 | [], _ :: _, _, _, _, h => by simp [ZF] at h
 | _ :: _, [], _, _, _, h => by simp [ZF] at h
 | _ :: _, _ :: _, [], _, _, h => by simp [ZF] at h
end
theorem ZbN {own : List Nat} {env : Env} (h : Zw own env = true) (σ : St) : ∀ (i : Nat) x, env[i]? = some (some x) -> (wipe σ own)[i]? = σ[i]? := fun i x e => wipe_out fun hi => by
 have := List.all_eq_true.mp h i hi
 rw [e] at this
 cases this
theorem TmR.dim {G : Sg} {Fz : Addr -> Prop} {am : List Addr} {H : Hp} {ne : Fp} {T : List Tm} {a : Tm} : ∀ {l : List Tm} {nt : Fp}, TmR G Fz am H ne (a :: (l ++ T)) nt -> TmR G Fz am H ne (l ++ a :: T) nt
 | [], _, r => r
 | b :: l, _, r => by
  cases r with
  | @own _ _ _ _ n1 n2 _ h1 h2 h3 =>
   cases h2 with
   | @own _ _ _ _ m1 m2 _ k1 k2 k3 => exact .own k1 (TmR.dim (.own h1 k2 (n := fun q => n1 q + m2 q) fun _ => rfl)) fun q => by rw [h3, k3]; omega
   | @bor _ _ _ _ m1 _ k1 k2 k3 => exact .bor k1 k2 (TmR.dim (.own h1 k3 h3))
  | bor h1 h2 h3 =>
   cases h3 with
   | own k1 k2 k3 => exact .own k1 (TmR.dim (.bor h1 h2 k2)) k3
   | bor k1 k2 k3 => exact .bor k1 k2 (TmR.dim (.bor h1 h2 k3))
theorem wipe_wipe {σ σ2 : St} {l own : List Nat} (h : Dif l (wipe σ own) σ2) (hl : ∀ i ∈ l, i ∈ own) : wipe σ2 own = wipe σ own := by
 rw [wipe_dif h hl]
 apply List.ext_getElem?
 intro j
 by_cases hj : j ∈ own
 ·rw [wipe_at _ _ hj, wipe_at _ _ hj, wipe_length]
 ·rw [wipe_out hj]
theorem Rl.resig {G : Sg} {g : Gd} {env : Env} {st : Zd} {T : List Tm} {σ σ' : St} {H : Hp} (R : Rl G g env st T σ H) (hl : σ'.length = σ.length) (hs : ∀ (i : Nat) x, env[i]? = some (some x) -> σ'[i]? = σ[i]?) : Rl G g env st T σ' H := by
 obtain ⟨Fz, am, ne, nt, ns, h1, h2, h3, h4, h5⟩ := R
 exact ⟨Fz, am, ne, nt, ns, h1.resig hl hs, h2, h3, h4, h5⟩
end
section
variable {G : Sg} {g : Gd} {env : Env} {st st' : Zd} {T T' : List Tm} {σ : St} {H H' : Hp} {Fz : Addr -> Prop} {am : List Addr} {tot : Fp} {A : Addr} {o : HO}
theorem Rel0.wext (r : Rel0 G g Fz am H tot) (hA : 0 < tot A) : Ext Fz am H Fz am (upd H A o) := by
 have nz : ∀ p, Fz p -> p ≠ A := fun p z e => r.nz A hA (by rw [<- e]; exact z)
 obtain ⟨oA, eA, kA⟩ := r.th A hA
 refine ⟨fun _ h => h, fun _ _ h => h, fun p u z h => ?_, fun p u z h _ => ?_, fun p xs h => ?_⟩
 ·exact h.imp (fun h => by rw [upd_ne (nz p z)]; exact h) fun ⟨w, h⟩ => ⟨w, by rw [upd_ne (nz p z)]; exact h⟩
 ·rw [upd_ne (nz p z)]; exact h
 ·have ne : p ≠ A := fun e => by
   subst e
   rcases h with h | ⟨_, h⟩
   ·rw [eA] at h; cases h; exact kA
   ·rw [eA] at h; cases h; exact kA
  exact h.imp (fun h => by rw [upd_ne ne]; exact h) fun ⟨w, h⟩ => ⟨w, by rw [upd_ne ne]; exact h⟩
theorem Rel0.wrel (r : Rel0 G g Fz am H tot) (hA : 0 < tot A) (ok : OwnK o) : Rel0 G g Fz am (upd H A o) tot := by
 have out : ∀ p u, ¬ OwnK u -> H p = some u -> upd H A o p = some u := fun p u nu e => by
  obtain ⟨oA, eA, kA⟩ := r.th A hA
  rw [upd_ne fun q => by subst q; rw [eA] at e; cases e; exact nu kA]
  exact e
 refine ⟨r.n1, r.nz, fun p hp => ?_, fun p z => ?_, fun p u nt e na => ?_, r.f, r.z0, r.z1, r.a, fun x hx => ?_, r.hm, fun p u t e na => ?_⟩
 ·by_cases e : p = A
  ·subst e; exact ⟨o, upd_same, ok⟩
  ·rw [upd_ne e]; exact r.th p hp
 ·rw [upd_ne fun e => r.nz A hA (by rw [<- e]; exact z)]; exact r.zt p z
 ·have h := r.k p u nt e na
  by_cases q : p = A
  ·subst q
   rcases r.f p hA with y | y
   ·exact absurd y na
   ·rw [y] at e; cases e
  ·exact h.map fun u _ k => by rw [upd_ne q]; exact k
 ·obtain ⟨ps, a1, a2, a3⟩ := r.tb x hx
  refine ⟨ps, out _ _ (fun z => z) a1, a2, fun p' cv z => ?_⟩
  obtain ⟨c, e1, e2⟩ := a3 p' cv z
  exact ⟨c, e1, out _ _ (fun z => by unfold LamX.CodeO at z; exact z) e2⟩
 ·obtain ⟨o', e1, t1⟩ := r.kt p u t e na
  exact ⟨o', out _ _ (fun z => by rw [z.nt] at t1; cases t1) e1, t1⟩
theorem ZQ {n : Fp} (h : n A = 0) : ∀ p u, 0 < n p -> H p = some u -> upd H A o p = some u := fun p u hp e => by
 rw [upd_ne fun q => by subst q; omega]; exact e
theorem Reps.snoc {fs : List Fr} {vs : List V} {ds : List D} {n m k : Fp} {f : Fr} {v : V} {d : D} (h : Reps G Fz am H fs vs ds n) (r : Rep G Fz am H f v d m) (hk : ∀ q, k q = n q + m q) : Reps G Fz am H (fs ++ [f]) (vs ++ [v]) (ds ++ [d]) k := by
 match fs, vs, ds, h with
 | [], [], [], .nil h0 => exact .cons r (.nil (n := fun _ => 0) fun _ => rfl) fun q => by rw [hk, h0]; simp
 | _ :: _, _ :: _, _ :: _, .cons (n1 := n1) (n2 := n2) h1 h2 h3 => exact .cons h1 (Reps.snoc h2 r (k := fun q => n2 q + m q) fun _ => rfl) fun q => by rw [hk, h3]; omega
theorem Rl.appT {x : V} {ds : List D} {d : D} (R : Rl G g env st (⟨.ref A, .c .z, .con .lst ds, false⟩ :: ⟨x, .z, d, false⟩ :: T) σ H) :
  ∃ acc, H A = some (.lst acc) ∧ acc.length = ds.length ∧ Rl G g env st (⟨.ref A, .c .z, .con .lst (ds ++ [d]), false⟩ :: T) σ (upd H A (.lst (acc ++ [x]))) := by
 obtain ⟨Fz, am, ne, nt, ns, h1, h2, h3, h4, h5⟩ := R
 cases h2 with
 | @own _ _ _ _ n1 n2 _ k1 k2 k3 =>
  cases k2 with
  | @own _ _ _ _ m1 m2 _ j1 j2 j3 =>
   cases k1 with
   | @cc _ _ vs _ _ _ m a1 a2 a3 =>
    obtain ⟨_, o, b1, b2⟩ := a1
    subst b2
    have hA : 0 < ne A + nt A + ns A := by rw [k3, a3]; simp; omega
    have le := h4.n1 A
    have zA : ne A = 0 ∧ m2 A = 0 ∧ ns A = 0 ∧ m A = 0 := by rw [k3, a3, j3] at le; simp at le; omega
    have E := h4.wext (o := .lst (vs ++ [x])) hA
    have m0 := Reps.z0 (k := ds.length) a2
    refine ⟨vs, b1, a2.len.2, Fz, am, ne, fun q => n1 q + m2 q, ns, h1.ext E (ZQ zA.1), .own (.cc (m := fun _ => 0) ⟨by decide, _, upd_same, rfl⟩ ?_ fun q => by rw [a3, m0]) (j2.ext E (ZQ zA.2.1) (ZQ zA.1)) fun _ => rfl, Reps.ext E h3 (ZQ zA.2.2.1), (h4.wrel (o := .lst (vs ++ [x])) hA trivial).less fun q => by show ne q + (n1 q + m2 q) + ns q <= _; rw [k3, j3]; omega, trivial⟩
    have s := Reps.snoc (k := fun _ => 0) (a2.fp m0 (m := fun _ => 0)) (j1.fp j1.z0 (m := fun _ => 0)) fun _ => rfl
    have s2 := Reps.ext E s fun p u hp => absurd hp (Nat.lt_irrefl 0)
    have e : List.replicate ds.length Fr.z ++ [Fr.z] = List.replicate (ds ++ [d]).length Fr.z := by rw [List.length_append]; exact List.replicate_append_replicate (n := ds.length) (m := 1)
    rw [<- e]
    exact s2
end
section
variable {S : Sx} {e a b tg : Expr} {es : List Expr} {da db : Den} {das : DenL} {pos p : Pos}
theorem lc_run {di : DenI} {p : Pat} {own : List Nat} {c : DenB} {el : Den} {W : WX} {wi : TI} {tg' : TG} {tt : TT} {te : TE}
  (qi : ∀ g env st T σ H R, Zy T -> Rl S.G g env st T σ H -> PostI S.G g env T σ W R (di env st) -> wi σ H R)
  (qg : ∀ g env st T σ H v f d env' Q, Zy T -> Rl S.G g env st (⟨v, f, d, false⟩ :: T) σ H -> ZS p f d env = some env' -> (∀ σ' H', Dif p.slots σ σ' -> Rl S.G g env' st T σ' H' -> Q σ' H') -> tg' v σ H Q)
  (qt : ∀ g env st T σ H Q, Zy T -> Rl S.G g env st T σ H -> PostB S.G g env T σ (fun _ _ _ _ => False) Q (c env st) -> tt σ H Q)
  (qe : ∀ g env st T σ H Q, Zy T -> Rl S.G g env st T σ H -> Wo S.G g env T σ (fun _ _ _ _ => False) Q (el env st) -> te σ H Q)
  (ho : ∀ i ∈ p.slots, i ∈ own)
  (g : Gd) (env : Env) (st : Zd) (T : List Tm) (σ : St) (H : Hp) (Q : VK) (hT : Zy T) (R : Rl S.G g env st T σ H) (h : Wo S.G g env T σ W Q (dLc di own p c el env st)) : tLc wi tg' tt te own σ H Q := by
 refine qi g env st T σ H _ hT R ?_
 unfold dLc at h
 cases e : di env st with
 | stuck => rw [e] at h; exact h.elim
 | exc c ds st1 => rw [e] at h; exact h
 | ok items st1 =>
  rw [e] at h
  obtain ⟨hc, h⟩ := bifT h id
  rw [Bool.and_eq_true] at hc
  intro J H1 keep g' bk IO R1 A hA
  have nbA : ∀ ds, Zy (keep ++ (⟨.ref A, .c .z, .con .lst ds, false⟩ :: T)) := fun ds => nb_app IO.nb (WO hT)
  have line : 16777215 < sizeLine := by decide
  have hlen := Nat.le_of_ble_eq_true hc.2
  have outside : ∀ (i : Nat) x, env[i]? = some (some x) -> i ∉ own := fun i x e hi => by
   have := List.all_eq_true.mp hc.1 i hi
   rw [e] at this
   cases this
  have R2 : Rl S.G g' env st1 (keep ++ (⟨.ref A, .c .z, .con .lst [], false⟩ :: T)) (wipe σ own) (upd H1 A (.lst [])) := by
   have r := RlB.new (B := fun _ _ => True) (v := .ref A) (f := .c .z) (d := .con .lst []) (n := one1 A) R1 (Wy hA) (newp1 (o := .lst []) hA trivial) fun Fz am E _ => rep_lst E (.nil fun _ => rfl)
   have r2 : Rl S.G g' env st1 (keep ++ (⟨.ref A, .c .z, .con .lst [], false⟩ :: T)) σ (upd H1 A (.lst [])) := by
    obtain ⟨Fz, am, ne, nt, ns, h1, h2, h3, h4, h5⟩ := r
    exact ⟨Fz, am, ne, nt, ns, h1, h2.dim, h3, h4, h5⟩
   exact r2.resig (wipe_length _ _) (ZbN hc.1 σ)
  refine ⟨fun i m H => ∃ st acc, m = items.length - i ∧ i <= items.length ∧ acc.length <= i ∧ Rl S.G g' env st (keep ++ (⟨.ref A, .c .z, .con .lst acc, false⟩ :: T)) (wipe σ own) H ∧ Wo S.G g env T σ W Q (lcGo p c el (items.drop i) env st acc),
   ⟨items.length, st1, [], by omega, Nat.zero_le _, Nat.le_refl _, R2, by simpa using h⟩, ?_⟩
  rintro i m H ⟨st, acc, rfl, hi, hacc, R, h⟩
  by_cases hlt : i < items.length
  ·refine .inr ⟨IO.go i env st _ _ H R hlt, fun H' => ∃ st acc, i + 1 <= items.length ∧ acc.length <= i + 1 ∧ Rl S.G g' env st (keep ++ (⟨.ref A, .c .z, .con .lst acc, false⟩ :: T)) (wipe σ own) H' ∧ Wo S.G g env T σ W Q (lcGo p c el (items.drop (i + 1)) env st acc),
    fun H' ⟨st, acc, h1, h2, h3, h4⟩ => ⟨items.length - (i + 1), by omega, st, acc, rfl, h1, h2, h3, h4⟩, fun x H' y => ?_⟩
   have ei : items[i]? = some items[i] := List.getElem?_eq_getElem hlt
   have R3 := IO.yld i env st _ _ H x H' _ R y ei
   rw [List.drop_eq_getElem_cons hlt] at h
   unfold lcGo at h
   cases eb : ZS p .z items[i] env with
   | none => rw [eb] at h; exact h.elim
   | some env1 =>
    rw [eb] at h
    refine qg g' env st _ _ H' x .z items[i] env1 _ (nbA acc) R3 eb fun σ' H'' D' R4 => ⟨wipe_wipe D' ho, ?_⟩
    refine qt g' env1 st _ σ' H'' _ (nbA acc) R4 ?_
    dsimp only at h
    cases ec : c env1 st with
    | stuck => rw [ec] at h; exact h.elim
    | exc c ds st2 => rw [ec] at h; exact h.elim
    | ok b st2 =>
     rw [ec] at h
     intro H3 R5
     have back : ∀ {st : Zd} {ds : List D} {H4 : Hp}, Rl S.G g' env1 st (keep ++ (⟨.ref A, .c .z, .con .lst ds, false⟩ :: T)) σ' H4 -> Rl S.G g' env st (keep ++ (⟨.ref A, .c .z, .con .lst ds, false⟩ :: T)) (wipe σ own) H4 := fun {st ds H4} r => by
      obtain ⟨Fz, am, ne, nt, ns, h1, h2, h3, h4, h5⟩ := r
      have bd := bindP_dif p eb
      obtain ⟨n', k1, k2⟩ := h1.weak (env' := env) (σ'' := wipe σ own) bd.1.symm D'.1.symm fun i x e => ⟨by rw [bd.2 i fun z => outside i x e (ho i z)]; exact e, (D'.2 i fun z => outside i x e (ho i z)).symm⟩
      exact ⟨Fz, am, n', nt, ns, k1, h2.nb (nbA ds), h3, h4.less fun q => by have := k2 q; omega, trivial⟩
     cases b with
     | false => exact iteF ⟨st2, acc, hlt, by omega, back R5, h⟩
     | true =>
      refine iteT (qe g' env1 st2 _ σ' H3 _ (nbA acc) R5 ?_)
      dsimp only at h
      cases ee : el env1 st2 with
      | stuck => rw [ee] at h; exact h.elim
      | exc c ds st3 => rw [ee] at h; exact h.elim
      | ok f b d' st3 =>
       rw [ee] at h
       obtain ⟨hb, h⟩ := bifT h id
       intro y' H4 R6
       have R7 := (R6.unb hb).frz
       obtain ⟨vs, e1, e2, R8⟩ := Rl.appT (RlB.mid (l := ⟨y', .z, d', false⟩ :: keep) R7)
       refine ⟨vs, e1, by rw [e2]; omega, st3, acc ++ [d'], hlt, by rw [List.length_append]; simp; omega, back (by
        obtain ⟨Fz, am, ne, nt, ns, h1, h2, h3, h4, h5⟩ := R8
        exact ⟨Fz, am, ne, nt, ns, h1, h2.dim, h3, h4, h5⟩), h⟩
  ·have e : i = items.length := by omega
   subst e
   rw [List.drop_length] at h
   refine .inl ⟨IO.stop _ env st _ _ H R rfl, h _ H ?_⟩
   exact Rl.resig (RlB.tail (R.back bk)) (by rw [wipe_length]) fun i x e => (ZbN hc.1 σ i x e).symm
end
section
variable {S : Sx} {e a b tg it elt : Expr} {ifs : List Expr} {es : List Expr} {da db el : Den} {das : DenL} {pos p' : Pos} {p : Pat} {di : DenI} {c : DenB} {scope : Scope} {own : List (Str × Nat)}
def DIf (S : Sx) (ifs : List Expr) (c : DenB) : Prop := ∃ tt : TT, (∀ X, Stx S X -> Takes X (fun _ _ _ _ => False) -> PTs X ifs tt) ∧
 ∀ g env st T σ H Q, Zy T -> Rl S.G g env st T σ H -> PostB S.G g env T σ (fun _ _ _ _ => False) Q (c env st) -> tt σ H Q
theorem ZZ : DIf S [] dYes := ⟨_, fun X hX tk => pts_nil, fun g env st T σ H Q hT R h => h H R⟩
theorem VE (hi : DI S tg it di) (hg : DG (S.blk scope) tg p) (hc : DIf (S.blk scope) ifs c) (he : DE (S.blk scope) elt el) (ok : BlkOk S.N S.sc scope own) (ho : ∀ i ∈ p.slots, i ∈ own.map (·.2)) (hs : Wj it = true) :
  DE S (.ListComp elt [⟨tg, it, ifs, 0⟩] scope pos) (dLc di (own.map (·.2)) p c el) := fun W => by
 obtain ⟨wi, pi, qi⟩ := hi W
 obtain ⟨tg', pg, qg⟩ := hg
 obtain ⟨tt, pt, qt⟩ := hc
 obtain ⟨te, pe, qe⟩ := he fun _ _ _ _ => False
 refine ⟨tLc wi tg' tt te (own.map (·.2)), fun X hX tk => pe_lc hX.calm hX.nd (pi X hX tk) (by rw [hX.N, hX.sc]; exact ok) (fun s H C cl fp => pg _ (UM hX s H scope C cl fp)) (fun s H C cl fp => pt _ (UM hX s H scope C cl fp) L2.takes0) (fun s H C cl fp => pe _ (UM hX s H scope C cl fp) L2.takes0) (Ui hs),
  fun g env st T σ H Q hT R h => lc_run qi qg qt qe ho g env st T σ H Q hT R h⟩
theorem lcset_pre (hi : DI S tg it di) (hg : DG (S.blk scope) tg p) (hc : DIf (S.blk scope) ifs c) (he : DE (S.blk scope) elt el) (ok : BlkOk S.N S.sc scope own) (ho : ∀ i ∈ p.slots, i ∈ own.map (·.2)) (hs : Wj it = true)
  {i : Nat} {y : Str} {py spos : Pos} (hN : S.N[i]? = some y) (hyl : S.sc.names.lookup y = some .local) (hl : (py.line == pos.line) = true) (hk : S.sc.kind = .function) (ha : (scope.names.any fun (n, k) => n == y && (k == .local || k == .cell)) = false) (W : WX) :
  ∃ te : TE, (∀ X, Stx S X -> Takes X W -> PS X (.Assign [.Name y py] (.ListComp elt [⟨tg, it, ifs, 0⟩] scope pos) spos) (tAsg te (gName i))) ∧
   ∀ g env st T σ H Q, Zy T -> Rl S.G g env st T σ H -> Wo S.G g env T σ W Q (dLc di (own.map (·.2)) p c el env st) -> te σ H Q := by
 obtain ⟨wi, pi, qi⟩ := hi W
 obtain ⟨tg', pg, qg⟩ := hg
 obtain ⟨tt, pt, qt⟩ := hc
 obtain ⟨te, pe, qe⟩ := he fun _ _ _ _ => False
 refine ⟨tLc wi tg' tt te (own.map (·.2)), fun X hX tk => ps_setLc hX.calm hX.nd (by rw [hX.N]; exact hN) (by rw [hX.sc]; exact hyl) (sw_true (by rw [hX.sc]; exact hk) (by rw [hX.sc]; exact hyl) hl ha) (pi X hX tk) (by rw [hX.N, hX.sc]; exact ok) (fun s H C cl fp => pg _ (UM hX s H scope C cl fp)) (fun s H C cl fp => pt _ (UM hX s H scope C cl fp) L2.takes0) (fun s H C cl fp => pe _ (UM hX s H scope C cl fp) L2.takes0) (Ui hs),
  fun g env st T σ H Q hT R h => lc_run qi qg qt qe ho g env st T σ H Q hT R h⟩
theorem VM (hi : DI S tg it di) (hg : DG (S.blk scope) tg p) (hc : DIf (S.blk scope) ifs c) (he : DE (S.blk scope) elt el) (ok : BlkOk S.N S.sc scope own) (ho : ∀ i ∈ p.slots, i ∈ own.map (·.2)) (hs : Wj it = true)
  {i : Nat} {y : Str} {py spos : Pos} (hN : S.N[i]? = some y) (hyl : S.sc.names.lookup y = some .local) (hl : (py.line == pos.line) = true) (hk : S.sc.kind = .function) (ha : (scope.names.any fun (n, k) => n == y && (k == .local || k == .cell)) = false) :
  DS S (.Assign [.Name y py] (.ListComp elt [⟨tg, it, ifs, 0⟩] scope pos) spos) (ZO i (dLc di (own.map (·.2)) p c el)) := fun W => by
 obtain ⟨te, p, q⟩ := lcset_pre hi hg hc he ok ho hs hN hyl hl hk ha W
 exact ⟨_, p, fun g env st T σ H D hT R h => dsetZ_run q g env st T σ H D hT R h⟩
end
@[simp] def start0 (n : Nat) (as : List (Fr × D)) : Env := as.map some ++ List.replicate (n - as.length) none
@[simp] def Ww (n : Nat) (b : DenS) : Fn := fun as st => match b (start0 n as) st with
 | .rt f d st1 => .ok f false d st1
 | .nx _ st1 => .ok .z false .non st1
 | .exc c ds _ st1 => .exc c ds st1
 | _ => .stuck
theorem env_start {G : Sg} {Fz : Addr -> Prop} {am : List Addr} {H : Hp} {m : Nat} : ∀ {as : List (Fr × D)} {vs : List V} {n : Fp}, Reps G Fz am H (as.map (·.1)) vs (as.map (·.2)) n ->
  EnvR G Fz am H (as.map some ++ List.replicate m none) (vs.map some ++ List.replicate m none) n := by
 intro as
 induction as with
 | nil =>
  intro vs n r
  cases r with
  | nil h =>
   show EnvR G Fz am H (List.replicate m none) (List.replicate m none) n
   induction m with
   | zero => exact .nil h
   | succ m ih => rw [List.replicate_succ, List.replicate_succ]; exact .non ih
 | cons a as ih =>
  intro vs n r
  obtain ⟨f, d⟩ := a
  cases r with
  | cons h1 h2 h3 => exact .som h1 (ih h2) h3
theorem ok_fn {S : Sx} {x qual : Str} {params : Arguments} {body : List Stmt} {dvs : List V} {kws : List (Str × V)} {f : Addr} {fd : FuncData} {ps : List Str} {db : DenS} (F : FunD S.G.K x qual params body S.sc dvs kws f fd) (Sc : FnScope S.N ps S.sc) (hb : DSs S body db) (hf : S.fnA = true) (hmk : S.lmk = none := by rfl) :
  FnOk S.P S.w S.G.K S.mg S.base (L2.CX S.P S.w) (S.k + 1) f fd ps (SpF S.G ps.length (Ww S.N.length db)) := by
 refine F.ok Sc (fun vs H Q E h => h.1) fun cdv A outer s H vs Q E hr h => ?_
 obtain ⟨hl, Fz, am, as, st, na, ns, h1, h2, h3, h4⟩ := h
 obtain ⟨t, pt, qt⟩ := hb fun cls d _ H => E cls d H
 have hX : Stx S (cxOf (L2.CX S.P S.w) S.P S.w S.G.K S.mg S.base S.N qual S.sc f cdv A outer s H E) := ⟨rfl, rfl, rfl, rfl, rfl, rfl, rfl, Sc.nd, rfl, hr, passes_of rfl, fun _ _ => rfl, fun _ => ⟨rfl, rfl⟩, fun c q h => (by rw [hmk] at h; cases h), fun _ _ => rfl⟩
 refine ⟨t, pt _ hX (takes_of rfl rfl rfl rfl), ?_⟩
 have la : as.length = vs.length := by have := h1.len; simpa using this.2.symm
 refine qt ⟨H, fun p => 0 < na p + ns p, Fz, am⟩ (start0 S.N.length as) st [] (L2.start S.N vs) H _ (fun a ha => by cases ha) ⟨Fz, am, na, fun _ => 0, ns, ?_, .nil fun _ => rfl, h2, h3.less fun q => by show na q + 0 + ns q <= _; omega, trivial⟩ ?_
 ·unfold start0 L2.start
  rw [la]
  exact env_start h1
 ·unfold Ww at h4
  cases e : db (start0 S.N.length as) st with
  | stuck => rw [e] at h4; exact h4.elim
  | bk env1 st1 => rw [e] at h4; exact h4.elim
  | ct env1 st1 => rw [e] at h4; exact h4.elim
  | rt f d st1 => rw [e] at h4; exact h4.2
  | nx env1 st1 => rw [e] at h4; exact fun σ' H' R => h4.2 .non H' (Rl.ret (b := false) (Rl.scal (v := .non) (d := .non) R trivial) rfl)
  | exc c ds env1 st1 =>
   rw [e] at h4
   intro σ' cls dx H' R
   refine h4 cls dx H' ?_
   obtain ⟨Fz', am', ne, nt, ns', k1, k2, k3, k4, k5⟩ := R
   cases k2 with
   | nil h0 => exact ⟨Fz', am', fun _ => 0, fun _ => 0, ns', .nil fun _ => rfl, .nil fun _ => rfl, k3, k4.less fun q => by show 0 + 0 + ns' q <= _; omega, k5⟩
section
variable {G : Sg} {Fz : Addr -> Prop} {am : List Addr} {H H' : Hp} {v : V}
theorem View.int {i : Int} (h : View G Fz am H v (.int i)) : v = .int i := by
 cases v <;> first | exact congrArg V.int h | exact h.elim
theorem View.bl {i : Bool} (h : View G Fz am H v (.bl i)) : v = .bl i := by
 cases v <;> first | exact congrArg V.bl h | exact h.elim
theorem View.str {i : Str} (h : View G Fz am H v (.str i)) : v = .str i := by
 cases v <;> first | exact congrArg V.str h | exact h.elim
theorem View.non (h : View G Fz am H v .non) : v = .non := by
 cases v <;> first | rfl | exact h.elim
theorem View.fnv {k : Addr} {j : Nat} (h : View G Fz am H v (.fnv k j)) : v = .ref k := by
 cases v <;> exact h
theorem View.tup {ds : List D} (h : View G Fz am H v (.con .tup ds)) : ∃ p vs, v = .ref p ∧ SqT G.K H p vs ∧ Reps G Fz am H (zs ds.length) vs ds (fun _ => 0) := h
def Kd.seq : Kd -> Bool
 | .tup => true
 | .lst => true
 | .frl => true
 | _ => false
def Kd.sq : Kd -> Bool
 | .lst => true
 | .frl => true
 | _ => false
theorem View.sq {k : Kd} {ds : List D} (hk : k.sq = true) (h : View G Fz am H v (.con k ds)) : ∃ p vs, v = .ref p ∧ SqL G.K H p vs ∧ Reps G Fz am H (zs ds.length) vs ds (fun _ => 0) := by
 obtain ⟨p, vs, e, r, s⟩ := h
 cases k with
 | lst =>
  obtain ⟨o, r1, r2⟩ := r
  have e2 : o = .lst vs := r2
  subst e2
  exact ⟨p, vs, e, .inl (.inl r1), s⟩
 | frl => exact ⟨p, vs, e, r, s⟩
 | _ => cases hk
theorem View.seq {k : Kd} {ds : List D} (hk : k.seq = true) (h : View G Fz am H v (.con k ds)) : ∃ p vs, v = .ref p ∧ (SqL G.K H p vs ∨ SqT G.K H p vs) ∧ Reps G Fz am H (zs ds.length) vs ds (fun _ => 0) := by
 cases k with
 | tup =>
  obtain ⟨p, vs, e, r, s⟩ := h.tup
  exact ⟨p, vs, e, .inr r, s⟩
 | lst =>
  obtain ⟨p, vs, e, r, s⟩ := h.sq rfl
  exact ⟨p, vs, e, .inl r, s⟩
 | frl =>
  obtain ⟨p, vs, e, r, s⟩ := h.sq rfl
  exact ⟨p, vs, e, .inl r, s⟩
 | _ => cases hk
theorem View.lst {ds : List D} (h : View G Fz am H v (.con .lst ds)) : ∃ p vs, v = .ref p ∧ H p = some (.lst vs) ∧ Reps G Fz am H (zs ds.length) vs ds (fun _ => 0) := by
 obtain ⟨p, vs, e, ⟨o, r1, r2⟩, s⟩ := h
 have e2 : o = .lst vs := r2
 subst e2
 exact ⟨p, vs, e, r1, s⟩
theorem View.nonI {d : D} (h : View G Fz am H v d) (hf : ∀ k j, d ≠ .fnv k j) : (v = .non) = (d = .non) := by
 cases d with
 | non => rw [h.non]; simp
 | fnv k j => exact absurd rfl (hf k j)
 | con k ds => obtain ⟨p, vs, e, _⟩ := h; subst e; simp
 | ref i => obtain ⟨p, e, _⟩ := h; subst e; simp
 | int i => rw [h.int]; simp
 | bl i => rw [h.bl]; simp
 | str i => rw [h.str]; simp
theorem Vws.two {vs : List V} {a b : D} (h : Vws G Fz am H vs [a, b]) : ∃ v w, vs = [v, w] ∧ View G Fz am H v a ∧ View G Fz am H w b := by
 cases h with
 | cons h1 h2 =>
  cases h2 with
  | cons h3 h4 => cases h4; exact ⟨_, _, rfl, h1, h3⟩
theorem Vws.one {vs : List V} {a : D} (h : Vws G Fz am H vs [a]) : ∃ v, vs = [v] ∧ View G Fz am H v a := by
 cases h with
 | cons h1 h2 => cases h2; exact ⟨_, rfl, h1⟩
theorem reps_at {ds : List D} {vs : List V} {d : D} {i : Int} (r : Reps G Fz am H (zs ds.length) vs ds (fun _ => 0)) (h : atI ds i = some d) : ∃ v, atI vs i = some v ∧ Rep G Fz am H .z v d (fun _ => 0) := by
 unfold atI at h ⊢
 rw [r.len.2]
 cases e : ixN ds.length i with
 | none => rw [e] at h; cases h
 | some j =>
  rw [e] at h
  have h2 : ds[j]? = some d := h
  have hj : j < vs.length := by rw [r.len.2]; exact (List.getElem?_eq_some_iff.mp h2).1
  exact ⟨vs[j], List.getElem?_eq_getElem hj, Um r (List.getElem?_eq_getElem hj) h2⟩
end
section
variable {G : Sg}
@[simp] def oI2 (f : Int -> Int -> Option D) : Op := fun ds => match ds with
 | [.int i, .int j] => (f i j).map fun d => (.z, d)
 | _ => none
theorem v_I2 {C : Int -> Int -> Prop} {g : Int -> Int -> V} {f : Int -> Int -> Option D} (hf : ∀ i j d, f i j = some d -> C i j ∧ Scal G (g i j) d) : VOp G (l2 (rI C g)) (oI2 f) := fun Fz am H vs ds fr d Q h1 h2 h3 => by
 unfold oI2 at h2
 split at h2
 ·obtain ⟨v, w, rfl, a, b⟩ := h1.two
  obtain ⟨d', e1, e2⟩ := Option.map_eq_some_iff.mp h2
  cases e2
  obtain ⟨c, s⟩ := hf _ _ _ e1
  exact ⟨_, _, a.int, b.int, c, h3 _ H _ (same_refl H) Vj (.sc s fun _ => rfl)⟩
 ·cases h2
theorem v_I0 {g : Int -> Int -> V} {f : Int -> Int -> Option D} (hf : ∀ i j d, f i j = some d -> Scal G (g i j) d) : VOp G (l2 (rI0 g)) (oI2 f) :=
 (v_I2 (C := fun _ _ => True) fun i j d e => ⟨trivial, hf i j d e⟩).imp fun vs H Q ⟨i, j, a, b, _, q⟩ => ⟨i, j, a, b, q⟩
@[simp] def oS1 (f : D -> Option D) : Op := fun ds => match ds with
 | [a] => (f a).map fun d => (.z, d)
 | _ => none
@[simp] def oS2 (f : D -> D -> Option D) : Op := fun ds => match ds with
 | [a, b] => (f a b).map fun d => (.z, d)
 | _ => none
theorem v_S2 {r : R2} {f : D -> D -> Option D} (hf : ∀ Fz am H v w a b d Q, View G Fz am H v a -> View G Fz am H w b -> f a b = some d -> (∀ x, Scal G x d -> Q x H) -> r v w H Q) : VOp G (l2 r) (oS2 f) := fun Fz am H vs ds fr d Q h1 h2 h3 => by
 unfold oS2 at h2
 split at h2
 ·obtain ⟨v, w, rfl, a, b⟩ := h1.two
  obtain ⟨d', e1, e2⟩ := Option.map_eq_some_iff.mp h2
  cases e2
  exact hf _ _ _ _ _ _ _ _ _ a b e1 fun x s => h3 _ H _ (same_refl H) Vj (.sc s fun _ => rfl)
 ·cases h2
theorem v_C1 {r : List V -> Hp -> VK -> Prop} {f : D -> Option D} (hf : ∀ Fz am H v a d Q, View G Fz am H v a -> f a = some d -> (∀ x, Scal G x d -> Q x H) -> r [v] H Q) : VOp G r (oS1 f) := fun Fz am H vs ds fr d Q h1 h2 h3 => by
 unfold oS1 at h2
 split at h2
 ·obtain ⟨v, rfl, a⟩ := h1.one
  obtain ⟨d', e1, e2⟩ := Option.map_eq_some_iff.mp h2
  cases e2
  exact hf _ _ _ _ _ _ _ a e1 fun x s => h3 _ H _ (same_refl H) Vj (.sc s fun _ => rfl)
 ·cases h2
@[simp] def oAddI : Op := oI2 fun i j => some (.int (i + j))
@[simp] def oSubI : Op := oI2 fun i j => some (.int (i - j))
def Ud (i j : Int) : Bool := decide (i.natAbs.log2 + j.natAbs.log2 < 1000000)
@[simp] def oMulI : Op := oI2 fun i j => bif Ud i j then some (.int (i * j)) else none
def divOk (j : Int) : Bool := decide (j ≠ 0) && decide (j.natAbs.log2 < 9000)
@[simp] def oFdiv : Op := oI2 fun i j => bif divOk j then some (.int (i.fdiv j)) else none
@[simp] def oMod : Op := oI2 fun i j => bif decide (j ≠ 0) then some (.int (i.fmod j)) else none
def powOk (i j : Int) : Bool := decide (0 <= j) && decide (j <= 1000000) && decide (i.natAbs < 18446744073709551616)
@[simp] def oPow : Op := oI2 fun i j => bif powOk i j then some (.int (i ^ j.toNat)) else none
theorem v_addI : VOp G (l2 (rI0 fun i j => .int (i + j))) oAddI := v_I0 fun i j d e => by cases e; rfl
theorem v_subI : VOp G (l2 (rI0 fun i j => .int (i - j))) oSubI := v_I0 fun i j d e => by cases e; rfl
theorem bifS {α : Type} {c : Bool} {a b : α} (h : (bif c then some a else none) = some b) : c = true ∧ a = b := by
 cases c with
 | true => exact ⟨rfl, Option.some.inj h⟩
 | false => cases h
theorem v_mulI : VOp G (l2 (rI CMulW fun i j => .int (i * j))) oMulI := v_I2 fun i j d e => by
 obtain ⟨c, e⟩ := bifS e
 subst e
 exact ⟨by simpa [Ud, CMulW] using c, rfl⟩
def CDivF (_ j : Int) : Prop := j ≠ 0 ∧ j.natAbs.log2 < 9000
theorem op_fdivF {X : Cx} : OpR X (binaryOp .FloorDiv) (rI CDivF fun i j => .int (i.fdiv j)) := opI fun i j _ _ _ _ _ hc q => floordiv_int hc.1 q (.inl (PyProof.noPylong_of_log2 hc.2))
theorem v_fdiv : VOp G (l2 (rI CDivF fun i j => .int (i.fdiv j))) oFdiv := v_I2 fun i j d e => by
 obtain ⟨c, e⟩ := bifS e
 subst e
 simp only [divOk, Bool.and_eq_true, decide_eq_true_eq] at c
 exact ⟨c, rfl⟩
theorem v_mod : VOp G (l2 (rI (fun _ j => j ≠ 0) fun i j => .int (i.fmod j))) oMod := v_I2 fun i j d e => by
 obtain ⟨c, e⟩ := bifS e
 subst e
 exact ⟨of_decide_eq_true c, rfl⟩
theorem v_pow : VOp G (l2 (rI CPow fun i j => .int (i ^ j.toNat))) oPow := v_I2 fun i j d e => by
 obtain ⟨c, e⟩ := bifS e
 subst e
 simp only [powOk, Bool.and_eq_true, decide_eq_true_eq] at c
 exact ⟨⟨c.1.1, c.1.2, by have := c.2; omega⟩, rfl⟩
@[simp] def oLt : Op := oI2 fun i j => some (.bl (decide (i < j)))
@[simp] def oLe : Op := oI2 fun i j => some (.bl (decide (i <= j)))
@[simp] def oGt : Op := oI2 fun i j => some (.bl (decide (j < i)))
@[simp] def oGe : Op := oI2 fun i j => some (.bl (decide (j <= i)))
theorem v_lt : VOp G (l2 (rI0 fun i j => .bl (decide (i < j)))) oLt := v_I0 fun i j d e => by cases e; rfl
theorem v_le : VOp G (l2 (rI0 fun i j => .bl (decide (i <= j)))) oLe := v_I0 fun i j d e => by cases e; rfl
theorem v_gt : VOp G (l2 (rI0 fun i j => .bl (decide (j < i)))) oGt := v_I0 fun i j d e => by cases e; rfl
theorem v_ge : VOp G (l2 (rI0 fun i j => .bl (decide (j <= i)))) oGe := v_I0 fun i j d e => by cases e; rfl
def rSubB : R2 := fun x y H Q => ∃ i j, x = .bl i ∧ y = .bl j ∧ Q (.int ((if i then 1 else 0) - (if j then 1 else 0))) H
theorem op_subB {X : Cx} : OpR X (binaryOp .Sub) rSubB := by
 intro pins s σ H x y v u Q I rx ry h
 obtain ⟨i, j, rfl, rfl, q⟩ := h
 cases rx
 cases ry
 exact sub_bool ⟨.int _, H, I.tok _, ⟨_, rfl⟩, q⟩
@[simp] def oSubB : Op := oS2 fun a b => match a, b with
 | .bl i, .bl j => some (.int ((if i then 1 else 0) - (if j then 1 else 0)))
 | _, _ => none
theorem v_subB : VOp G (l2 rSubB) oSubB := v_S2 fun Fz am H v w a b d Q h1 h2 e q => by
 split at e
 ·cases e; rw [h1.bl, h2.bl]; exact ⟨_, _, rfl, rfl, q _ rfl⟩
 ·cases e
@[simp] def oSub : Op := orOp oSubI oSubB
mutual
def D.py : D -> Option PyData
 | .non => some .none
 | .bl b => some (.bool b)
 | .int i => some (.int i)
 | .str s => some (.str s)
 | .con .tup ds => (D.pys ds).map PyData.tuple
 | .con .lst ds => (D.pys ds).map PyData.list
 | .con .frl ds => (D.pys ds).map PyData.list
 | _ => none
def D.pys : List D -> Option (List PyData)
 | [] => some []
 | d :: ds => match D.py d, D.pys ds with
  | some a, some b => some (a :: b)
  | _, _ => none
end
section
variable {Fz : Addr -> Prop} {am : List Addr} {H : Hp}
mutual
theorem rep_dp : ∀ (d : D) {f : Fr} {v : V} {n : Fp} {e : PyData}, Rep G Fz am H f v d n -> d.py = some e -> Dp G.K H v e
 | .non, f, v, n, e, r, h => by
  cases r with
  | sc s _ => unfold D.py at h; cases h; cases v <;> first | exact .non | exact s.elim
 | .bl b, f, v, n, e, r, h => by
  cases r with
  | sc s _ => unfold D.py at h; cases h; cases v <;> first | (cases (show _ = b from s); exact .bl _) | exact s.elim
 | .int b, f, v, n, e, r, h => by
  cases r with
  | sc s _ => unfold D.py at h; cases h; cases v <;> first | (cases (show _ = b from s); exact .int _) | exact s.elim
 | .str b, f, v, n, e, r, h => by
  cases r with
  | sc s _ => unfold D.py at h; cases h; cases v <;> first | (cases (show _ = b from s); exact .str _) | exact s.elim
 | .fnv k j, f, v, n, e, r, h => by unfold D.py at h; cases h
 | .ref k, f, v, n, e, r, h => by unfold D.py at h; cases h
 | .con .tup ds, f, v, n, e, r, h => by
  unfold D.py at h
  obtain ⟨es, e1, e2⟩ := Option.map_eq_some_iff.mp h
  subst e2
  cases r with
  | sc s _ => cases v <;> exact s.elim
  | zz a b c => exact .tup a (Vp ds b e1)
  | tp a b => exact .tup a (Vp ds b e1)
  | cc a b c => exact absurd rfl a.1.1
 | .con .lst ds, f, v, n, e, r, h => by
  unfold D.py at h
  obtain ⟨es, e1, e2⟩ := Option.map_eq_some_iff.mp h
  subst e2
  cases r with
  | sc s _ => cases v <;> exact s.elim
  | zz a b c =>
   obtain ⟨_, o, a1, a2⟩ := a
   have e2 : o = .lst _ := a2
   subst e2
   exact .lst (.inl (.inl a1)) (Vp ds b e1)
  | cc a b c =>
   obtain ⟨_, o, a1, a2⟩ := a
   have e2 : o = .lst _ := a2
   subst e2
   exact .lst (.inl (.inl a1)) (Vp ds b e1)
 | .con .frl ds, f, v, n, e, r, h => by
  unfold D.py at h
  obtain ⟨es, e1, e2⟩ := Option.map_eq_some_iff.mp h
  subst e2
  cases r with
  | sc s _ => cases v <;> exact s.elim
  | zz a b c =>
   refine .lst ?_ (Vp ds b e1)
   rcases a with ⟨_, h⟩ | (h | ⟨_, h⟩) | h
   ·exact .inl h
   ·cases h
   ·cases h
   ·exact .inr h
  | cc a b c => exact absurd rfl a.1.2
 | .con (.dik ks) ds, f, v, n, e, r, h => by unfold D.py at h; cases h
 | .con (.dit ks) ds, f, v, n, e, r, h => by unfold D.py at h; cases h
 | .con (.ins c) ds, f, v, n, e, r, h => by unfold D.py at h; cases h
theorem Vp : ∀ (ds : List D) {fs : List Fr} {vs : List V} {n : Fp} {es : List PyData}, Reps G Fz am H fs vs ds n -> D.pys ds = some es -> DpAll G.K H vs es
 | [], fs, vs, n, es, r, h => by
  cases r
  unfold D.pys at h
  cases h
  exact .nil
 | d :: ds, fs, vs, n, es, r, h => by
  unfold D.pys at h
  split at h
  ·rename_i a b ea eb
   cases h
   cases r with
   | cons r1 r2 _ => exact .cons (rep_dp d r1 ea) (Vp ds r2 eb)
  ·cases h
end
theorem UJ {d : D} {v : V} {e : PyData} (h : View G Fz am H v d) (he : d.py = some e) : Dp G.K H v e := by
 have main : ∀ {k : Kd} {ds : List D}, k.seq = true -> View G Fz am H v (.con k ds) -> ∀ {es}, D.pys ds = some es -> ((k = .tup -> Dp G.K H v (.tuple es)) ∧ (k.sq = true -> Dp G.K H v (.list es))) := fun {k ds} hk h {es} e1 => by
  constructor
  ·intro e
   subst e
   obtain ⟨p, vs, rfl, r, s⟩ := h.tup
   exact .tup r (Vp ds s e1)
  ·intro e
   obtain ⟨p, vs, rfl, r, s⟩ := h.sq e
   exact .lst r (Vp ds s e1)
 cases d with
 | non => unfold D.py at he; cases he; rw [h.non]; exact .non
 | bl b => unfold D.py at he; cases he; rw [h.bl]; exact .bl _
 | int b => unfold D.py at he; cases he; rw [h.int]; exact .int _
 | str b => unfold D.py at he; cases he; rw [h.str]; exact .str _
 | fnv k j => unfold D.py at he; cases he
 | ref k => unfold D.py at he; cases he
 | con k ds =>
  cases k with
  | tup =>
   unfold D.py at he
   obtain ⟨es, e1, e2⟩ := Option.map_eq_some_iff.mp he
   subst e2
   exact (main rfl h e1).1 rfl
  | lst =>
   unfold D.py at he
   obtain ⟨es, e1, e2⟩ := Option.map_eq_some_iff.mp he
   subst e2
   exact (main rfl h e1).2 rfl
  | frl =>
   unfold D.py at he
   obtain ⟨es, e1, e2⟩ := Option.map_eq_some_iff.mp he
   subst e2
   exact (main rfl h e1).2 rfl
  | dik ks => unfold D.py at he; cases he
  | dit ks => unfold D.py at he; cases he
  | ins c => unfold D.py at he; cases he
end
def eqD (a b : D) : Option Bool := match a.py, b.py with
 | some x, some y => bif SeqAt.shaped x && SeqAt.shaped y then some (PyData.eqv x y) else none
 | _, _ => none
@[simp] def oEq : Op := oS2 fun a b => (eqD a b).map D.bl
@[simp] def oNe : Op := oS2 fun a b => (eqD a b).map fun c => D.bl (!c)
theorem eqD_some {a b : D} {c : Bool} (h : eqD a b = some c) : ∃ x y, a.py = some x ∧ b.py = some y ∧ SeqAt.shaped x = true ∧ SeqAt.shaped y = true ∧ PyData.eqv x y = c := by
 unfold eqD at h
 split at h
 ·rename_i x y e1 e2
  obtain ⟨c1, c2⟩ := bifS h
  rw [Bool.and_eq_true] at c1
  exact ⟨x, y, e1, e2, c1.1, c1.2, c2⟩
 ·cases h
theorem v_eq : VOp G (l2 (rEqD G.K)) oEq := v_S2 fun Fz am H v w a b d Q h1 h2 e q => by
 obtain ⟨c, e1, e2⟩ := Option.map_eq_some_iff.mp e
 subst e2
 obtain ⟨x, y, a1, a2, a3, a4, a5⟩ := eqD_some e1
 exact ⟨x, y, UJ h1 a1, UJ h2 a2, a3, a4, q _ a5⟩
theorem v_ne : VOp G (l2 (rNeD G.K)) oNe := v_S2 fun Fz am H v w a b d Q h1 h2 e q => by
 obtain ⟨c, e1, e2⟩ := Option.map_eq_some_iff.mp e
 subst e2
 obtain ⟨x, y, a1, a2, a3, a4, a5⟩ := eqD_some e1
 refine ⟨x, y, UJ h1 a1, UJ h2 a2, a3, a4, q _ ?_⟩
 rw [a5]
 exact rfl
@[simp] def isN (a : D) : Option Bool := match a with
 | .non => some true
 | .fnv _ _ => none
 | _ => some false
@[simp] def oIsN : Op := oS2 fun a b => match b with
 | .non => (isN a).map D.bl
 | _ => none
theorem isN_some {a : D} {c : Bool} (h : isN a = some c) : (∀ k j, a ≠ .fnv k j) ∧ (a = .non ↔ c = true) := by
 cases a <;> simp_all [isN]
theorem v_isN : VOp G (l2 fun x y H Q => y = .non ∧ Q (.bl (decide (x = .non))) H) oIsN := v_S2 fun Fz am H v w a b d Q h1 h2 e q => by
 split at e
 ·obtain ⟨c, e1, e2⟩ := Option.map_eq_some_iff.mp e
  subst e2
  obtain ⟨a1, a2⟩ := isN_some e1
  refine ⟨h2.non, q _ ?_⟩
  have := h1.nonI a1
  show decide (v = .non) = c
  cases c <;> simp_all
 ·cases e
@[simp] def oIxS : Op := fun ds => match ds with
 | [.con k xs, .int i] => bif k.seq then (atI xs i).map fun d => (.z, d) else none
 | _ => none
theorem v_ix : VOp G (l2 (rIx G.K)) oIxS := fun Fz am H vs ds fr d Q h1 h2 h3 => by
 unfold oIxS at h2
 split at h2
 ·rename_i k xs i
  obtain ⟨v, w, rfl, a, b⟩ := h1.two
  cases hk : k.seq with
  | false => rw [hk] at h2; cases h2
  | true =>
   rw [hk] at h2
   obtain ⟨d', e1, e2⟩ := Option.map_eq_some_iff.mp h2
   cases e2
   obtain ⟨p, ys, e, r, s⟩ := a.seq hk
   obtain ⟨x, e3, r3⟩ := reps_at s e1
   have q := h3 x H _ (same_refl H) Vj r3
   rcases r with r | r
   ·exact .inl ⟨p, ys, i, x, e, b.int, r, e3, q⟩
   ·exact .inr (.inl ⟨p, ys, i, x, e, b.int, r, e3, q⟩)
 ·cases h2
@[simp] def oLenS : Op := oS1 fun a => match a with
 | .con k xs => bif k.seq then some (.int xs.length) else none
 | _ => none
theorem v_len : VOp G (fun xs H Q => ∃ p ys, xs = [.ref p] ∧ (SqL G.K H p ys ∨ SqT G.K H p ys) ∧ Q (.int ys.length) H) oLenS := v_C1 fun Fz am H v a d Q h e q => by
 split at e
 ·rename_i k xs
  obtain ⟨hk, e2⟩ := bifS e
  subst e2
  obtain ⟨p, ys, rfl, r, s⟩ := h.seq hk
  refine ⟨p, ys, rfl, r, q _ ?_⟩
  show (ys.length : Int) = xs.length
  rw [s.len.2]
 ·cases e
theorem VB {Fz : Addr -> Prop} {am : List Addr} {H : Hp} {vs : List V} {ds : List D} {Q : VK} (s : Reps G Fz am H (zs ds.length) vs ds (fun _ => 0))
  (h : ∀ v H' n, Same H H' -> Newp H H' n -> Rep G Fz am H' (.c .z) v (.con .lst ds) n -> Q v H') : ∀ p, H p = none -> Q (.ref p) (upd H p (.lst vs)) := fun p hp =>
 h (.ref p) _ (one1 p) (Wy hp) (newp1 hp trivial) (rep_lst (Ext.same (Wy hp) fun _ h => h) s)
theorem VI {Fz : Addr -> Prop} {am : List Addr} {H : Hp} {vs : List V} {ds : List D} {Q : VK} (s : Reps G Fz am H (zs ds.length) vs ds (fun _ => 0))
  (h : ∀ v H' n, Same H H' -> Newp H H' n -> Rep G Fz am H' .z v (.con .tup ds) n -> Q v H') : ∀ p, H p = none -> Q (.ref p) (upd H p (.tup vs)) := fun p hp =>
 h (.ref p) _ (fun _ => 0) (Wy hp) Vj (rep_tup (Ext.same (Wy hp) fun _ h => h) s)
@[simp] def oList : Op := fun ds => match ds with
 | [.con k xs] => bif k.seq then some (.c .z, .con .lst xs) else none
 | _ => none
theorem v_list : VOp G (fun xs H Q => ∃ p ys, xs = [.ref p] ∧ (SqL G.K H p ys ∨ SqT G.K H p ys) ∧ ∀ l, H l = none -> Q (.ref l) (upd H l (.lst ys))) oList := fun Fz am H vs ds fr d Q h1 h2 h3 => by
 unfold oList at h2
 split at h2
 ·rename_i k xs
  obtain ⟨v, rfl, a⟩ := h1.one
  obtain ⟨hk, e2⟩ := bifS h2
  cases e2
  obtain ⟨p, ys, rfl, r, s⟩ := a.seq hk
  exact ⟨p, ys, rfl, r, VB s h3⟩
 ·cases h2
@[simp] def WT : Op := fun ds => match ds with
 | [.con k xs] => bif k.seq then some (.z, .con .tup xs) else none
 | _ => none
theorem v_tuple : VOp G (fun xs H Q => ∃ p ys, xs = [.ref p] ∧ ((SqL G.K H p ys ∧ ∀ l, H l = none -> Q (.ref l) (upd H l (.tup ys))) ∨ (SqT G.K H p ys ∧ Q (.ref p) H))) WT := fun Fz am H vs ds fr d Q h1 h2 h3 => by
 unfold WT at h2
 split at h2
 ·rename_i k xs
  obtain ⟨v, rfl, a⟩ := h1.one
  obtain ⟨hk, e2⟩ := bifS h2
  cases e2
  cases k with
  | tup =>
   obtain ⟨p, ys, rfl, r, s⟩ := a.tup
   exact ⟨p, ys, rfl, .inr ⟨r, h3 _ H _ (same_refl H) Vj (.zz (k := .tup) r s fun _ => rfl)⟩⟩
  | lst =>
   obtain ⟨p, ys, rfl, r, s⟩ := a.sq rfl
   exact ⟨p, ys, rfl, .inl ⟨r, VI s h3⟩⟩
  | frl =>
   obtain ⟨p, ys, rfl, r, s⟩ := a.sq rfl
   exact ⟨p, ys, rfl, .inl ⟨r, VI s h3⟩⟩
  | _ => cases hk
 ·cases h2
@[simp] def oAddS : Op := oS2 fun a b => match a, b with
 | .str x, .str y => bif (x.length + y.length).ble 16777216 then some (.str (x ++ y)) else none
 | _, _ => none
theorem v_addS : VOp G (l2 fun x y H Q => ∃ i j, x = .str i ∧ y = .str j ∧ i.length + j.length <= sizeLine ∧ Q (.str (i ++ j)) H) oAddS := v_S2 fun Fz am H v w a b d Q h1 h2 e q => by
 split at e
 ·obtain ⟨hk, e2⟩ := bifS e
  subst e2
  exact ⟨_, _, h1.str, h2.str, VU hk, q _ rfl⟩
 ·cases e
@[simp] def oAddL : Op := fun ds => match ds with
 | [.con .lst xs, .con .lst ys] => bif (xs.length + ys.length).ble 16777216 then some (.c .z, .con .lst (xs ++ ys)) else none
 | _ => none
theorem Reps.cat {Fz : Addr -> Prop} {am : List Addr} {H : Hp} {vs ws : List V} {xs ys : List D} (s : Reps G Fz am H (zs xs.length) vs xs (fun _ => 0)) (s2 : Reps G Fz am H (zs ys.length) ws ys (fun _ => 0)) : Reps G Fz am H (zs (xs ++ ys).length) (vs ++ ws) (xs ++ ys) (fun _ => 0) := by
 have := Reps.app s2 s
 have e : zs xs.length ++ zs ys.length = zs (xs ++ ys).length := by
  unfold zs
  rw [List.replicate_append_replicate, List.length_append]
 rw [e] at this
 exact this
theorem v_addL : VOp G (l2 rCat) oAddL := fun Fz am H vs ds fr d Q h1 h2 h3 => by
 unfold oAddL at h2
 split at h2
 ·rename_i xs ys
  obtain ⟨v, w, rfl, a, b⟩ := h1.two
  obtain ⟨hk, e2⟩ := bifS h2
  cases e2
  obtain ⟨p, as, e, r, s⟩ := a.lst
  obtain ⟨p2, bs, e', r2, s2⟩ := b.lst
  exact ⟨p, p2, as, bs, e, e', r, r2, by rw [s.len.2, s2.len.2]; exact VU hk, VB (s.cat s2) h3⟩
 ·cases h2
@[simp] def oAddT : Op := fun ds => match ds with
 | [.con .tup xs, .con .tup ys] => bif (xs.length + ys.length).ble 16777216 then some (.z, .con .tup (xs ++ ys)) else none
 | _ => none
theorem Reps.nilD {Fz : Addr -> Prop} {am : List Addr} {H : Hp} {fs : List Fr} {n : Fp} {vs : List V} {xs : List D} (s : Reps G Fz am H fs vs xs n) : vs = [] ↔ xs = [] := by
 constructor <;> intro e <;> subst e <;> cases s <;> rfl
theorem v_addT : VOp G (l2 (rCatA G.K)) oAddT := fun Fz am H vs ds fr d Q h1 h2 h3 => by
 unfold oAddT at h2
 split at h2
 ·rename_i xs ys
  obtain ⟨v, w, rfl, a, b⟩ := h1.two
  obtain ⟨hk, e2⟩ := bifS h2
  cases e2
  obtain ⟨p, as, e, r, s⟩ := a.tup
  obtain ⟨p2, bs, e', r2, s2⟩ := b.tup
  refine ⟨p, p2, as, bs, e, e', r, r2, by rw [s.len.2, s2.len.2]; exact VU hk, fun z => ?_, fun z z2 => ?_, fun _ _ => VI (s.cat s2) h3⟩
  ·have z' := s.nilD.mp z
   subst z'
   exact h3 _ H _ (same_refl H) Vj (.zz (k := .tup) r2 s2 fun _ => rfl)
  ·have z' := s2.nilD.mp z2
   subst z'
   rw [List.append_nil] at h3
   exact h3 _ H _ (same_refl H) Vj (.zz (k := .tup) r s fun _ => rfl)
 ·cases h2
@[simp] def oAdd : Op := orOp oAddI (orOp oAddS (orOp oAddL oAddT))
@[simp] def oMulL : Op := fun ds => match ds with
 | [.con .lst xs, .int k] => bif decide (-16777216 <= k) && decide (k <= 16777216) && (xs.length * k.toNat).ble 16777216 then some (.c .z, .con .lst (List.replicate k.toNat xs).flatten) else none
 | _ => none
theorem Reps.rep {Fz : Addr -> Prop} {am : List Addr} {H : Hp} {vs : List V} {xs : List D} (s : Reps G Fz am H (zs xs.length) vs xs (fun _ => 0)) : ∀ k : Nat, Reps G Fz am H (zs (List.replicate k xs).flatten.length) (List.replicate k vs).flatten (List.replicate k xs).flatten (fun _ => 0)
 | 0 => .nil fun _ => rfl
 | k + 1 => by
  rw [List.replicate_succ, List.replicate_succ, List.flatten_cons, List.flatten_cons]
  exact s.cat (Reps.rep s k)
theorem v_mulL : VOp G (l2 rRep) oMulL := fun Fz am H vs ds fr d Q h1 h2 h3 => by
 unfold oMulL at h2
 split at h2
 ·rename_i xs k
  obtain ⟨v, w, rfl, a, b⟩ := h1.two
  obtain ⟨hk, e2⟩ := bifS h2
  cases e2
  simp only [Bool.and_eq_true, decide_eq_true_eq] at hk
  obtain ⟨p, as, e, r, s⟩ := a.lst
  exact ⟨p, k, as, e, b.int, r, by omega, by omega, by rw [s.len.2]; exact VU hk.2, VB (s.rep _) h3⟩
 ·cases h2
@[simp] def oMul : Op := orOp oMulI oMulL
@[simp] def oMin2 : Op := oI2 fun i j => some (.int (if j < i then j else i))
theorem v_min2 : VOp G (fun xs H Q => ∃ i j, xs = [.int i, .int j] ∧ Q (.int (if j < i then j else i)) H) oMin2 := fun Fz am H vs ds fr d Q h1 h2 h3 => by
 unfold oMin2 oI2 at h2
 split at h2
 ·cases h2
  obtain ⟨v, w, rfl, a, b⟩ := h1.two
  rw [a.int, b.int]
  exact ⟨_, _, rfl, h3 _ H _ (same_refl H) Vj (.sc rfl fun _ => rfl)⟩
 ·cases h2
theorem scal_bl {v : V} {b : Bool} (h : Scal G v (.bl b)) : v = .bl b := by cases v <;> first | exact congrArg V.bl h | exact h.elim
@[simp] def bools : List D -> Option (List Bool)
 | [] => some []
 | .bl b :: ds => (bools ds).map (b :: ·)
 | _ => none
theorem ZbR {Fz : Addr -> Prop} {am : List Addr} {H : Hp} : ∀ {ds : List D} {fs : List Fr} {vs : List V} {n : Fp} {bs : List Bool}, Reps G Fz am H fs vs ds n -> bools ds = some bs -> vs = bs.map V.bl
 | [], _, _, _, bs, r, h => by cases r; cases h; rfl
 | .bl b :: ds, _, _, _, bs, r, h => by
  obtain ⟨bs', e1, e2⟩ := Option.map_eq_some_iff.mp h
  subst e2
  cases r with
  | cons r1 r2 _ =>
   rw [ZbR r2 e1]
   cases r1 with
   | sc s _ => rw [scal_bl s]; rfl
@[simp] def oAll : Op := oS1 fun a => match a with
 | .con k xs => bif k.sq then (bools xs).map fun bs => .bl (bs.all id) else none
 | _ => none
theorem v_all : VOp G (rAll G.K) oAll := v_C1 fun Fz am H v a d Q h e q => by
 split at e
 ·rename_i k xs
  cases hk : k.sq with
  | false => rw [hk] at e; cases e
  | true =>
   rw [hk] at e
   obtain ⟨bs, e1, e2⟩ := Option.map_eq_some_iff.mp e
   subst e2
   obtain ⟨p, vs, rfl, r, s⟩ := h.sq hk
   exact ⟨p, bs, rfl, ZbR s e1 ▸ r, q _ rfl⟩
 ·cases e
end
section
variable {G : Sg} {g : Gd} {env : Env} {st st' : Zd} {T T' : List Tm} {σ : St} {H H' : Hp} {Fz : Addr -> Prop} {am : List Addr}
theorem Reps.updAt : ∀ {fs : List Fr} {vs : List V} {ds : List D} {n : Fp} {i : Nat} {xs : List D}, Reps G Fz am H fs vs ds n -> (∀ q, n q <= 1) -> fs[i]? = some (.c .z) -> ds[i]? = some (.con .lst xs) ->
  ∃ A acc, vs[i]? = some (.ref A) ∧ H A = some (.lst acc) ∧ Reps G Fz am H (zs xs.length) acc xs (fun _ => 0) ∧ 0 < n A ∧
   ∀ acc' xs', Reps G Fz am H (zs xs'.length) acc' xs' (fun _ => 0) -> Ext Fz am H Fz am (upd H A (.lst acc')) -> Reps G Fz am (upd H A (.lst acc')) fs vs (ds.set i (.con .lst xs')) n
 | [], _, _, _, i, xs, r, _, e1, e2 => by simp at e1
 | f0 :: fs, _, _, _, i, xs, r, hn, e1, e2 => by
  cases r with
  | @cons _ _ _ _ _ _ n1 n2 _ h1 h2 h3 =>
   cases i with
   | zero =>
    simp at e1 e2
    subst e1 e2
    cases h1 with
    | @cc A _ acc _ _ _ m a1 a2 a3 =>
     obtain ⟨_, o, b1, b2⟩ := a1
     have e0 : o = .lst acc := b2
     subst e0
     have m0 := Reps.z0 (k := xs.length) a2
     have hA : 0 < n1 A := by rw [a3]; simp
     have z2 : n2 A = 0 := by have := hn A; rw [h3] at this; omega
     refine ⟨A, acc, by simp, b1, a2.fp m0, by rw [h3]; omega, fun acc' xs' s E => ?_⟩
     refine .cons (.cc (m := fun _ => 0) ⟨by decide, _, upd_same, rfl⟩ (Reps.ext E s fun p u hp => absurd hp (Nat.lt_irrefl 0)) fun q => by rw [a3, m0]) (Reps.ext E h2 (ZQ z2)) h3
   | succ i =>
    obtain ⟨A, acc, a, b, c, d, k⟩ := Reps.updAt (i := i) (xs := xs) h2 (fun q => by have := hn q; rw [h3] at this; omega) (by simpa using e1) (by simpa using e2)
    have z1 : n1 A = 0 := by have := hn A; rw [h3] at this; omega
    exact ⟨A, acc, by simpa using a, b, c, by rw [h3]; omega, fun acc' xs' s E => .cons (Rep.ext E h1 (ZQ z1)) (k acc' xs' s E) h3⟩
theorem StoR.updAt {ns : Fp} {c : Nat} {xs : List D} (r : StoR G Fz am H st ns) (hn : ∀ q, ns q <= 1) (e : st[c]? = some (.c .z, .con .lst xs)) :
  ∃ A acc, am[c]? = some A ∧ H A = some (.lst acc) ∧ Reps G Fz am H (zs xs.length) acc xs (fun _ => 0) ∧ 0 < ns A ∧
   ∀ acc' xs', Reps G Fz am H (zs xs'.length) acc' xs' (fun _ => 0) -> Ext Fz am H Fz am (upd H A (.lst acc')) -> StoR G Fz am (upd H A (.lst acc')) (st.set c (.c .z, .con .lst xs')) ns := by
 obtain ⟨A, acc, a, b, s, d, k⟩ := Reps.updAt (i := c) (xs := xs) r hn (by simp [e]) (by simp [e])
 refine ⟨A, acc, ?_, b, s, d, fun acc' xs' s' E => ?_⟩
 ·rw [List.getElem?_map] at a
  obtain ⟨p, a1, a2⟩ := Option.map_eq_some_iff.mp a
  cases a2
  exact a1
 ·have := k acc' xs' s' E
  unfold StoR
  rw [List.map_set, List.map_set]
  have e1 : (st.map (·.1)).set c (.c .z) = st.map (·.1) := by
   apply List.ext_getElem?
   intro j
   rw [List.getElem?_set]
   split
   ·rename_i h
    subst h
    split
    ·simp [e]
    ·rename_i h; rw [List.getElem?_eq_none (by simpa using h)]
   ·rfl
  show Reps G Fz am _ ((st.map (·.1)).set c (.c .z)) _ _ _
  rw [e1]
  exact this
theorem Rl.wrc {x v : V} {fv : Fr} {bv : Bool} {c : Nat} {xs xs' : List D} {d : D} {fV : List V -> List V} (R : Rl G g env st (⟨v, fv, .ref c, bv⟩ :: ⟨x, .z, d, false⟩ :: T) σ H) (e : st[c]? = some (.c .z, .con .lst xs))
  (up : ∀ Fz am acc, Reps G Fz am H (zs xs.length) acc xs (fun _ => 0) -> Rep G Fz am H .z x d (fun _ => 0) -> Reps G Fz am H (zs xs'.length) (fV acc) xs' (fun _ => 0)) :
  ∃ A acc, v = .ref A ∧ H A = some (.lst acc) ∧ acc.length = xs.length ∧ Rl G g env (st.set c (.c .z, .con .lst xs')) T σ (upd H A (.lst (fV acc))) := by
 obtain ⟨Fz, am, ne, nt, ns, h1, h2, h3, h4, h5⟩ := R
 obtain ⟨A, acc, a1, a2, a3, a4, a5⟩ := StoR.updAt h3 (fun q => by have := h4.n1 q; omega) e
 have hv : v = .ref A ∧ ∃ nt', TmR G Fz am H ne (⟨x, .z, d, false⟩ :: T) nt' ∧ ∀ q, nt' q <= nt q := by
  have key : ∀ {n : Fp}, Rep G Fz am H fv v (.ref c) n -> v = .ref A := fun {n} r => by
   cases r with
   | sc s _ => cases v <;> exact s.elim
   | rf s _ => rw [a1] at s; cases s; rfl
  cases h2 with
  | own k1 k2 k3 => exact ⟨key k1, _, k2, fun q => by rw [k3]; omega⟩
  | bor k1 k2 k3 => exact ⟨key k1, _, k3, fun q => Nat.le_refl _⟩
 obtain ⟨hv, nt', k, kl⟩ := hv
 cases k with
 | @own _ _ _ _ n1 n2 _ j1 j2 j3 =>
  have hA : 0 < ne A + nt A + ns A := by omega
  have le := h4.n1 A
  have z1 : ne A = 0 := by omega
  have z2 : n2 A = 0 := by have := kl A; rw [j3] at this; omega
  have E := h4.wext (o := .lst (fV acc)) hA
  refine ⟨A, acc, hv, a2, a3.len.2, Fz, am, ne, n2, ns, h1.ext E (ZQ z1), j2.ext E (ZQ z2) (ZQ z1), a5 _ _ (up _ _ _ a3 (j1.fp j1.z0)) E, (h4.wrel (o := .lst (fV acc)) hA trivial).less fun q => ?_, trivial⟩
  show ne q + n2 q + ns q <= _
  have := kl q; rw [j3] at this; omega
theorem EnvR.updAt {ne : Fp} (r : EnvR G Fz am H env σ ne) : (∀ q, ne q <= 1) -> ∀ {i : Nat} {xs : List D}, env[i]? = some (some (.c .z, .con .lst xs)) ->
  ∃ A acc, σ[i]? = some (some (.ref A)) ∧ H A = some (.lst acc) ∧ Reps G Fz am H (zs xs.length) acc xs (fun _ => 0) ∧ 0 < ne A ∧
   ∀ acc' xs', Reps G Fz am H (zs xs'.length) acc' xs' (fun _ => 0) -> Ext Fz am H Fz am (upd H A (.lst acc')) -> EnvR G Fz am (upd H A (.lst acc')) (env.set i (some (.c .z, .con .lst xs'))) σ ne := by
 induction r with
 | nil h => intro _ i xs e; simp at e
 | @som f' d' v env σ n1 n2 n h1 h2 h3 ih =>
  intro hn i xs e
  cases i with
  | zero =>
   simp at e
   obtain ⟨rfl, rfl⟩ := e
   cases h1 with
   | @cc A _ acc _ _ _ m a1 a2 a3 =>
    obtain ⟨_, o, b1, b2⟩ := a1
    have e0 : o = .lst acc := b2
    subst e0
    have m0 := Reps.z0 (k := xs.length) a2
    have hA : 0 < n1 A := by rw [a3]; simp
    have z2 : n2 A = 0 := by have := hn A; rw [h3] at this; omega
    refine ⟨A, acc, by simp, b1, a2.fp m0, by rw [h3]; omega, fun acc' xs' s E => ?_⟩
    exact .som (.cc (m := fun _ => 0) ⟨by decide, _, upd_same, rfl⟩ (Reps.ext E s fun p u hp => absurd hp (Nat.lt_irrefl 0)) fun q => by rw [a3, m0]) (h2.ext E (ZQ z2)) h3
  | succ i =>
   obtain ⟨A, acc, a, b, c, d, k⟩ := ih (fun q => by have := hn q; rw [h3] at this; omega) (i := i) (xs := xs) (by simpa using e)
   have z1 : n1 A = 0 := by have := hn A; rw [h3] at this; omega
   exact ⟨A, acc, by simpa using a, b, c, by rw [h3]; omega, fun acc' xs' s E => .som (Rep.ext E h1 (ZQ z1)) (k acc' xs' s E) h3⟩
 | @non x env σ n h ih =>
  intro hn i xs e
  cases i with
  | zero => simp at e
  | succ i =>
   obtain ⟨A, acc, a, b, c, d, k⟩ := ih hn (i := i) (xs := xs) (by simpa using e)
   exact ⟨A, acc, by simpa using a, b, c, d, fun acc' xs' s E => .non (k acc' xs' s E)⟩
theorem Rl.wre {x : V} {i : Nat} {xs xs' : List D} {d : D} {fV : List V -> List V} (R : Rl G g env st (⟨x, .z, d, false⟩ :: T) σ H) (hT : Zy T) (e : env[i]? = some (some (.c .z, .con .lst xs)))
  (up : ∀ Fz am acc, Reps G Fz am H (zs xs.length) acc xs (fun _ => 0) -> Rep G Fz am H .z x d (fun _ => 0) -> Reps G Fz am H (zs xs'.length) (fV acc) xs' (fun _ => 0)) :
  ∃ A acc, σ[i]? = some (some (.ref A)) ∧ H A = some (.lst acc) ∧ acc.length = xs.length ∧ Rl G g (env.set i (some (.c .z, .con .lst xs'))) st T σ (upd H A (.lst (fV acc))) := by
 obtain ⟨Fz, am, ne, nt, ns, h1, h2, h3, h4, h5⟩ := R
 obtain ⟨A, acc, a1, a2, a3, a4, a5⟩ := EnvR.updAt h1 (fun q => by have := h4.n1 q; omega) e
 cases h2 with
 | @own _ _ _ _ n1 n2 _ j1 j2 j3 =>
  have hA : 0 < ne A + nt A + ns A := by omega
  have le := h4.n1 A
  have z1 : ns A = 0 := by omega
  have z2 : n2 A = 0 := by have := h4.n1 A; rw [j3] at this; omega
  have E := h4.wext (o := .lst (fV acc)) hA
  refine ⟨A, acc, a1, a2, a3.len.2, Fz, am, ne, n2, ns, a5 _ _ (up _ _ _ a3 (j1.fp j1.z0)) E, ?_, Reps.ext E h3 (ZQ z1), (h4.wrel (o := .lst (fV acc)) hA trivial).less fun q => ?_, trivial⟩
  ·exact (j2.nb hT).ext (ne := fun _ => 0) E (ZQ z2) (fun _ _ hp => absurd hp (Nat.lt_irrefl 0)) |>.nb hT
  ·show ne q + n2 q + ns q <= _
   rw [j3]; omega
theorem Rl.pub {i : Nat} {f : Fr} {k : Kd} {ds : List D} (R : Rl G g env st T σ H) (hT : Zy T) (e : env[i]? = some (some (f, .con k ds))) : Rl G g (env.set i (some (.z, .ref st.length))) (st ++ [(f, .con k ds)]) T σ H := by
 obtain ⟨Fz, am, ne, nt, ns, h1, h2, h3, h4, h5⟩ := R
 obtain ⟨v, m, n', a1, a2, a3, a4⟩ := h1.take e
 obtain ⟨p, rfl⟩ : ∃ p, v = .ref p := by
  cases a2 with
  | sc s _ => cases v <;> exact s.elim
  | zz a b c => exact ⟨_, rfl⟩
  | tp a b => exact ⟨_, rfl⟩
  | cc a b c => exact ⟨_, rfl⟩
  | oo a b c => exact ⟨_, rfl⟩
 have hl : am.length = st.length := by have := h3.len.2; simpa using this
 have E : Ext Fz am H Fz (am ++ [p]) H := ⟨fun _ h => h, fun j q h => by
  have : j < am.length := (List.getElem?_eq_some_iff.mp h).1
  rw [List.getElem?_append_left this]; exact h, fun _ _ _ h => h, fun _ _ _ h _ => h, fun _ _ h => h⟩
 have id' : ∀ {n : Fp}, ∀ (p : Addr) (o : HO), 0 < n p -> H p = some o -> H p = some o := fun {n} _ _ _ h => h
 obtain ⟨n2, b1, b2⟩ := EnvR.set (i := i) (v := .ref p) (f := .z) (d := .ref st.length) (m := fun _ => 0) (G := G) (Fz := Fz) (am := am ++ [p]) (H := H) (.rf (by rw [<- hl]; simp) fun _ => rfl) (a4.ext E id')
 have hσ : σ.set i (some (.ref p)) = σ := by
  apply List.ext_getElem?
  intro j
  rw [List.getElem?_set]
  split
  ·rename_i h
   subst h
   split
   ·rw [a1]
   ·rename_i h
    rw [List.getElem?_eq_none (by simpa using h)] at a1
    cases a1
  ·rfl
 rw [hσ, List.set_set] at b1
 have h4' : Rel0 G g Fz (am ++ [p]) H (fun p => ne p + nt p + ns p) := ⟨h4.n1, h4.nz, h4.th, h4.zt, h4.k, h4.f, h4.z0, h4.z1, fun j q h => E.cl _ _ (h4.a j q h), h4.tb, h4.hm, h4.kt⟩
 refine ⟨Fz, am ++ [p], n2, nt, fun q => ns q + m q, b1, ((h2.nb (ne' := n2) hT).ext E id' id'), ?_, h4'.less fun q => ?_, trivial⟩
 ·show Reps G Fz (am ++ [p]) H ((st ++ _).map (·.1)) ((am ++ [p]).map V.ref) ((st ++ _).map (·.2)) _
  rw [List.map_append, List.map_append, List.map_append]
  exact Reps.snoc (Reps.ext E h3 id') (a2.ext E id') fun _ => rfl
 ·have := b2 q; have := a3 q
  show n2 q + nt q + (ns q + m q) <= ne q + nt q + ns q
  omega
end
section
variable {S : Sx} {e a b : Expr} {es : List Expr} {da db de di : Den} {das : DenL} {pos p : Pos} {ss : List Stmt} {tr : DenS}
@[simp] def dPub (i : Nat) (k : DenS) : DenS := fun env st => match env[i]? with
 | some (some (f, .con kd ds)) => k (env.set i (some (.z, .ref st.length))) (st ++ [(f, .con kd ds)])
 | _ => .stuck
theorem dss_pub {i : Nat} (hr : DSs S ss tr) : DSs S ss (dPub i tr) := fun W => by
 obtain ⟨t, p, q⟩ := hr W
 refine ⟨t, p, fun g env st T σ H D hT R h => ?_⟩
 unfold dPub at h
 split at h
 ·rename_i f kd ds e
  exact q _ _ _ _ _ _ _ hT (R.pub hT e) h
 ·exact h.elim
theorem reps_set {G : Sg} {Fz : Addr -> Prop} {am : List Addr} {H : Hp} {x : V} {d : D} (hx : Rep G Fz am H .z x d (fun _ => 0)) : ∀ {xs : List D} {acc : List V} (j : Nat), Reps G Fz am H (zs xs.length) acc xs (fun _ => 0) -> Reps G Fz am H (zs (xs.set j d).length) (acc.set j x) (xs.set j d) (fun _ => 0)
 | [], acc, j, r => by cases r; exact .nil fun _ => rfl
 | y :: xs, acc, j, r => by
  have e : zs (y :: xs).length = .z :: zs xs.length := List.replicate_succ
  rw [e] at r
  cases r with
  | cons r1 r2 h3 =>
   have z1 := r1.z0
   have z2 := Reps.z0 r2
   cases j with
   | zero =>
    show Reps G Fz am H (zs (d :: xs).length) _ _ _
    rw [show zs (d :: xs).length = .z :: zs xs.length from List.replicate_succ]
    exact .cons hx r2 fun q => by rw [z2]
   | succ j =>
    show Reps G Fz am H (zs (y :: xs.set j d).length) _ _ _
    rw [show zs (y :: xs.set j d).length = .z :: zs (xs.set j d).length from List.replicate_succ]
    exact .cons (r1.fp z1 (m := fun _ => 0)) (reps_set hx j (r2.fp z2)) fun q => rfl
@[simp] def dPutC (a i e : Den) : DenS := fun env st => match e env st with
 | .ok fe be xe st1 => bif !be || fe.isz then (match a env st1 with
  | .ok _ ba (.ref c) st2 => bif !ba then (match i env st2 with
   | .ok _ _ (.int k) st3 => (match st3[c]? with
    | some (.c .z, .con .lst xs) => (match ixN xs.length k with
     | some j => .nx env (st3.set c (.c .z, .con .lst (xs.set j xe)))
     | none => .stuck)
    | _ => .stuck)
   | .ok _ _ _ _ => .stuck
   | .exc c ds st1 => .exc c ds env st1
   | .stuck => .stuck) else .stuck
  | .ok _ _ _ _ => .stuck
  | .exc c ds st1 => .exc c ds env st1
  | .stuck => .stuck) else .stuck
 | .exc c ds st1 => .exc c ds env st1
 | .stuck => .stuck
theorem asgSub {o i : Expr} {p : Pos} {env : PySem.Env} (h : Vb i = true) : ∀ v, assign (.Subscript o i p) env v = (do
   let ov <- holding [v] (eval o env)
   let iv <- holding [v, ov] (eval i env)
   standAt p
   holding [v, ov, iv] (setItem ov iv v)
   release [v, ov, iv] []) := fun v => by
 cases i <;> first | rfl | cases h
theorem US {o i e : Expr} {do_ : Den} (ho : DE S o do_) (hi : DE S i di) (he : DE S e de) (hn : Vb i = true) (hc : Zax e = true) (hw : noSwap e = true) : DS S (.Assign [.Subscript o i p] e pos) (dPutC do_ di de) := fun W => by
 obtain ⟨to, po, qo⟩ := ho W
 obtain ⟨ti, pi, qi⟩ := hi W
 obtain ⟨te, pe, qe⟩ := he W
 refine ⟨_, fun X hX tk => by
  have hs : swapsWithSole [.Subscript o i p] e pos.line X.env = pure false := ZaE (t := some (.Subscript o i p)) (l := pos.line) (env := X.env) hc
  exact ps_asg (pe X hX tk) (pg_sub (po X hX tk) (pi X hX tk) set_list (asgSub hn)) hs (Zba hw), fun g env st T σ H D hT R h => ?_⟩
 refine qe g env st T σ H _ hT R ?_
 unfold dPutC at h
 cases e1 : de env st with
 | stuck => rw [e1] at h; exact h.elim
 | exc c ds st1 => rw [e1] at h; exact h σ
 | ok fe be xe st1 =>
 rw [e1] at h
 dsimp only at h
 obtain ⟨hb, h⟩ := bifT h id
 intro x H1 R1
 have R1' := (R1.unb hb).frz
 refine qo g env st1 _ σ H1 _ (WO hT) R1' ?_
 cases e2 : do_ env st1 with
 | stuck => rw [e2] at h; exact h.elim
 | exc c ds st2 => rw [e2] at h; exact h σ
 | ok fo bo xo st2 =>
 rw [e2] at h
 cases xo with
 | ref c =>
  dsimp only at h
  obtain ⟨hb2, h⟩ := bifT h id
  intro v H2 R2
  have hb2' : bo = false := by simpa using hb2
  subst hb2'
  refine qi g env st2 _ σ H2 _ (WO (WO hT)) R2 ?_
  cases e3 : di env st2 with
  | stuck => rw [e3] at h; exact h.elim
  | exc c ds st3 => rw [e3] at h; exact h σ
  | ok fi bi xi st3 =>
  rw [e3] at h
  cases xi with
  | int k =>
   dsimp only at h
   intro kv H3 R3
   have ek := R3.int
   have R4 := R3.drop
   split at h
   ·rename_i xs es
    split at h
    ·rename_i j ej
     obtain ⟨A, acc, a1, a2, a3, R5⟩ := Rl.wrc (xs' := xs.set j xe) (fV := fun acc => acc.set j x) R4 es fun Fz am acc r hx => reps_set hx j r
     exact ⟨A, acc, k, j, a1, ek, a2, by rw [a3]; exact ej, h _ _ R5⟩
    ·exact h.elim
   ·exact h.elim
  | _ => exact h.elim
 | _ => exact h.elim
theorem PE.or {X : Cx} {e : Expr} {t1 t2 : TE} (h1 : PE X e t1) (h2 : PE X e t2) : PE X e fun σ H Q => t1 σ H Q ∨ t2 σ H Q := ⟨fun pins s σ H Q I h => h.elim (h1.run pins s σ H Q I) (h2.run pins s σ H Q I)⟩
theorem PT.or {X : Cx} {e : Expr} {t1 t2 : TT} (h1 : PT X e t1) (h2 : PT X e t2) : PT X e fun σ H Q => t1 σ H Q ∨ t2 σ H Q := ⟨fun pins s σ H Q I h => h.elim (h1.run pins s σ H Q I) (h2.run pins s σ H Q I)⟩
theorem dOp_or {a b : Op} {as : DenL} {env : Env} {st : Zd} : dOp (orOp a b) as env st = dOp a as env st ∨ dOp (orOp a b) as env st = dOp b as env st := by
 unfold dOp
 cases as env st with
 | stuck => exact .inl rfl
 | exc c ds st1 => exact .inl rfl
 | ok ts st1 =>
  dsimp only
  cases flats ts with
  | false => exact .inl rfl
  | true =>
   dsimp only [orOp, cond_true]
   cases e : a (ts.map fun t => lk st1 t.2.2) with
   | some r => exact .inl rfl
   | none => exact .inr rfl
theorem ZaT {S : Sx} {e : Expr} {a b : Op} {as : DenL} (h1 : DE S e (dOp a as)) (h2 : DE S e (dOp b as)) : DE S e (dOp (orOp a b) as) := fun W => by
 obtain ⟨t1, p1, q1⟩ := h1 W
 obtain ⟨t2, p2, q2⟩ := h2 W
 refine ⟨_, fun X hX tk => PE.or (p1 X hX tk) (p2 X hX tk), fun g env st T σ H Q hT R h => ?_⟩
 rcases dOp_or (a := a) (b := b) (as := as) (env := env) (st := st) with e | e
 ·rw [e] at h; exact .inl (q1 g env st T σ H Q hT R h)
 ·rw [e] at h; exact .inr (q2 g env st T σ H Q hT R h)
theorem dt_or' {S : Sx} {e : Expr} {a b : Op} {as : DenL} (h1 : DT S e (dB (dOp a as))) (h2 : DT S e (dB (dOp b as))) : DT S e (dB (dOp (orOp a b) as)) := fun W => by
 obtain ⟨t1, p1, q1⟩ := h1 W
 obtain ⟨t2, p2, q2⟩ := h2 W
 refine ⟨_, fun X hX tk => PT.or (p1 X hX tk) (p2 X hX tk), fun g env st T σ H Q hT R h => ?_⟩
 have k : dB (dOp (orOp a b) as) env st = dB (dOp a as) env st ∨ dB (dOp (orOp a b) as) env st = dB (dOp b as) env st := by
  rcases dOp_or (a := a) (b := b) (as := as) (env := env) (st := st) with e | e
  ·exact .inl (by unfold dB; rw [e])
  ·exact .inr (by unfold dB; rw [e])
 rcases k with e | e
 ·rw [e] at h; exact .inl (q1 g env st T σ H Q hT R h)
 ·rw [e] at h; exact .inr (q2 g env st T σ H Q hT R h)
def keyOf : D -> Option Key
 | .int i => some (.inl i)
 | .str x => some (.inr x)
 | _ => none
@[simp] theorem keyOf_int {i : Int} : keyOf (.int i) = some (.inl i) := rfl
@[simp] theorem keyOf_str {i : Str} : keyOf (.str i) = some (.inr i) := rfl
def getK : List Key -> List D -> Key -> Option D
 | k :: ks, d :: ds, key => if k = key then some d else getK ks ds key
 | _, _, _ => none
section
variable {G : Sg} {Fz : Addr -> Prop} {am : List Addr} {H : Hp} {v : V}
theorem View.dik {ks : List Key} {ds : List D} (h : View G Fz am H v (.con (.dik ks) ds)) : ∃ p vs, v = .ref p ∧ Rd H p (.dK (ks.zip vs)) ∧ ks.length = vs.length ∧ Reps G Fz am H (zs ds.length) vs ds (fun _ => 0) := by
 obtain ⟨p, vs, e, ⟨o, r1, r2⟩, s⟩ := h
 obtain ⟨e2, e3⟩ := r2
 subst e2
 exact ⟨p, vs, e, r1, e3, s⟩
theorem View.key {d : D} {k : Key} (h : View G Fz am H v d) (e : keyOf d = some k) : v = kV k := by
 cases d with
 | int i => cases e; exact h.int
 | str i => cases e; exact h.str
 | _ => cases e
theorem getK_at : ∀ {ks : List Key} {ds : List D} {vs : List V} {k : Key} {d : D}, ks.length = vs.length -> Reps G Fz am H (zs ds.length) vs ds (fun _ => 0) -> getK ks ds k = some d -> ∃ x, valV (ks.zip vs) k = some x ∧ Rep G Fz am H .z x d (fun _ => 0)
 | [], ds, vs, k, d, _, _, e => by cases ds <;> cases e
 | k0 :: ks, [], vs, k, d, _, _, e => by cases e
 | k0 :: ks, d0 :: ds, [], k, d, hl, _, e => by simp at hl
 | k0 :: ks, d0 :: ds, v0 :: vs, k, d, hl, r, e => by
  rw [show zs (d0 :: ds).length = .z :: zs ds.length from List.replicate_succ] at r
  cases r with
  | cons r1 r2 h3 =>
   unfold getK at e
   rw [List.zip_cons_cons]
   unfold valV
   rw [List.find?_cons]
   by_cases c : k0 = k
   ·rw [if_pos c] at e
    cases e
    exact ⟨v0, by simp [c], r1.fp r1.z0⟩
   ·rw [if_neg c] at e
    obtain ⟨x, e1, e2⟩ := getK_at (by simpa using hl) (r2.fp (Reps.z0 r2)) e
    exact ⟨x, by simpa [c, valV] using e1, e2⟩
end
@[simp] def oIxK : Op := fun ds => match ds with
 | [.con (.dik ks) xs, k] => (keyOf k).bind fun key => (getK ks xs key).map fun d => (.z, d)
 | _ => none
def rDGet : R2 := fun x y H Q => ∃ a v, x = .ref a ∧ DGet H a y (some v) ∧ Q v H
theorem v_ixK {G : Sg} : VOp G (l2 rDGet) oIxK := fun Fz am H vs ds fr d Q h1 h2 h3 => by
 unfold oIxK at h2
 split at h2
 ·rename_i ks xs k
  obtain ⟨v, w, rfl, a, b⟩ := h1.two
  obtain ⟨key, e1, e2⟩ := Option.bind_eq_some_iff.mp h2
  obtain ⟨d', e3, e4⟩ := Option.map_eq_some_iff.mp e2
  cases e4
  obtain ⟨p, ys, rfl, rd, hl, s⟩ := a.dik
  obtain ⟨x, g1, g2⟩ := getK_at hl s e3
  exact ⟨p, x, rfl, .inl ⟨_, key, rd, b.key e1, g1.symm⟩, h3 x H _ (same_refl H) Vj g2⟩
 ·cases h2
@[simp] def oIxT : Op := fun ds => match ds with
 | [.str x, .int i] => bif x.length.ble 16777216 then (atI x.cps.toList i).map fun c => (.z, .str ⟨#[c]⟩) else none
 | _ => none
theorem v_ixT {G : Sg} : VOp G (l2 (rIx G.K)) oIxT := fun Fz am H vs ds fr d Q h1 h2 h3 => by
 unfold oIxT at h2
 split at h2
 ·rename_i x i
  obtain ⟨v, w, rfl, a, b⟩ := h1.two
  cases hk : x.length.ble 16777216 with
  | false => rw [hk] at h2; cases h2
  | true =>
  rw [hk] at h2
  obtain ⟨c, e1, e2⟩ := Option.map_eq_some_iff.mp h2
  cases e2
  exact .inr (.inr ⟨x, i, c, a.str, b.int, VU hk, e1, h3 _ H _ (same_refl H) Vj (.sc rfl fun _ => rfl)⟩)
 ·cases h2
@[simp] def oIx : Op := fun ds => orOp oIxS (orOp oIxK oIxT) ds
theorem unitsOk {X : Cx} (hX : Stx S X) : X.A.units + 64 < cLine := by have := hX.room.un; omega
theorem de_ixK (ha : DE S a da) (hb : DE S b db) (hm : Vb b = true) : DE S (.Subscript a b pos) (dOp oIxK (Zb da (Za db))) := fun W => by
 obtain ⟨ta, pa, qa⟩ := ha W
 obtain ⟨tb, pb, qb⟩ := hb W
 refine ⟨tOp rDGet ta tb, fun X hX tk => pe_dget (by have := unitsOk hX; omega) (pa X hX tk) (pb X hX tk) fun ov iv => (by cases b <;> first | rfl | cases hm), fun g env st T σ H Q hT R h => run2 v_ixK qa qb g env st T σ H Q hT R h⟩
@[simp] def oLenK : Op := oS1 fun a => match a with
 | .con (.dik ks) xs => some (.int ks.length)
 | .str x => bif x.length.ble 16777216 then some (.int x.length) else none
 | _ => none
theorem call_lenR {X : Cx} : CallR X (.builtin "len") (fun xs H Q => ∃ a kvs, xs = [V.ref a] ∧ Rd H a (.dK kvs) ∧ Q (.int kvs.length) H) := by
 intro pins s σ H xs us Q I r h
 obtain ⟨a, kvs, rfl, ha, q⟩ := h
 obtain ⟨u, rfl, ru⟩ := vals1 r
 cases ru
 exact d_len I ha fun t s' I' => ⟨.int kvs.length, H, I', ⟨t, rfl⟩, q⟩
theorem v_lenK {G : Sg} : VOp G (fun xs H Q => (∃ a kvs, xs = [V.ref a] ∧ Rd H a (.dK kvs) ∧ Q (.int kvs.length) H) ∨ (∃ z, xs = [.str z] ∧ z.length <= sizeLine ∧ Q (.int z.length) H)) oLenK := v_C1 fun Fz am H v a d Q h e q => by
 split at e
 ·cases e
  obtain ⟨p, vs, rfl, rd, hl, s⟩ := h.dik
  refine .inl ⟨p, _, rfl, rd, q _ ?_⟩
  show ((List.zip _ vs).length : Int) = _
  rw [List.length_zip, <- hl, Nat.min_self]
 ·obtain ⟨hk, e2⟩ := bifS e
  subst e2
  rw [h.str]
  exact .inr ⟨_, rfl, VU hk, q _ rfl⟩
 ·cases e
@[simp] def oLen : Op := fun ds => orOp oLenS oLenK ds
section
variable {X : Cx}
end
theorem ZI (ha : DE S a da) (hb : DE S b db) : DE S (.BinOp a .Add b pos) (dOp oAdd (Zb da (Za db))) :=
 ZaP (r := fun x y H Q => rI0 (fun i j => .int (i + j)) x y H Q ∨ ((∃ i j, x = .str i ∧ y = .str j ∧ i.length + j.length <= sizeLine ∧ Q (.str (i ++ j)) H) ∨ (rCat x y H Q ∨ rCatA S.G.K x y H Q)))
  (fun X hX => op_add.or (op_add_str.or (op_cat.or (hX.K ▸ op_catA)))) (VOp.or v_addI (VOp.or v_addS (VOp.or v_addL v_addT))) ha hb
theorem de_sub (ha : DE S a da) (hb : DE S b db) : DE S (.BinOp a .Sub b pos) (dOp oSub (Zb da (Za db))) :=
 ZaP (r := fun x y H Q => rI0 (fun i j => .int (i - j)) x y H Q ∨ rSubB x y H Q) (fun X hX => op_sub.or op_subB) (VOp.or v_subI v_subB) ha hb
theorem Uo (ha : DE S a da) (hb : DE S b db) : DE S (.BinOp a .Mult b pos) (dOp oMul (Zb da (Za db))) :=
 ZaP (r := fun x y H Q => rI CMulW (fun i j => .int (i * j)) x y H Q ∨ rRep x y H Q) (fun X hX => op_mulW.or op_rep) (VOp.or v_mulI v_mulL) ha hb
theorem de_fdiv (ha : DE S a da) (hb : DE S b db) : DE S (.BinOp a .FloorDiv b pos) (dOp oFdiv (Zb da (Za db))) := ZaP (fun X hX => op_fdivF) v_fdiv ha hb
theorem VP (ha : DE S a da) (hb : DE S b db) : DE S (.BinOp a .Mod b pos) (dOp oMod (Zb da (Za db))) := ZaP (fun X hX => op_modN) v_mod ha hb
theorem de_pow (ha : DE S a da) (hb : DE S b db) : DE S (.BinOp a .Pow b pos) (dOp oPow (Zb da (Za db))) := ZaP (fun X hX => op_pow) v_pow ha hb
theorem Zs (ha : DE S a da) (hb : DE S b db) (hm : Vb b = true) : DE S (.Subscript a b pos) (dOp oIx (Zb da (Za db))) := ZaT (de_ix (fun X hX => hX.K ▸ ix_seq) v_ix ha hb hm) (ZaT (de_ixK ha hb hm) (de_ix (fun X hX => hX.K ▸ ix_seq) v_ixT ha hb hm))
structure CmpI (S : Sx) (o : CmpOp) (op : Op) : Prop where
 ex : ∃ r : R2, (∀ X, Stx S X -> OpR X (compareOp o) r) ∧ VOp S.G (l2 r) op
theorem ci_lt : CmpI S .Lt oLt := ⟨_, fun X hX => op_lt, v_lt⟩
theorem ci_le : CmpI S .LtE oLe := ⟨_, fun X hX => op_le, v_le⟩
theorem ci_gt : CmpI S .Gt oGt := ⟨_, fun X hX => op_gt, v_gt⟩
theorem ci_ge : CmpI S .GtE oGe := ⟨_, fun X hX => op_ge, v_ge⟩
theorem Ws : CmpI S .Eq oEq := ⟨_, fun X hX => hX.K ▸ op_eqD (unitsOk hX), v_eq⟩
theorem ci_ne : CmpI S .NotEq oNe := ⟨_, fun X hX => hX.K ▸ op_neD (unitsOk hX), v_ne⟩
theorem Ue : CmpI S .Is oIsN := ⟨_, fun X hX => op_isN, v_isN⟩
theorem de_c {o : CmpOp} {op : Op} (ci : CmpI S o op) (ha : DE S a da) (hb : DE S b db) (hm : Wj b = true) : DE S (.Compare a [o] [b] pos) (dOp op (Zb da (Za db))) := by
 obtain ⟨r, h1, h2⟩ := ci.ex
 exact de_cmp h1 h2 ha hb hm
theorem dt_c {o : CmpOp} {op : Op} (ci : CmpI S o op) (ha : DE S a da) (hb : DE S b db) (hm : Wj b = true) : DT S (.Compare a [o] [b] pos) (dB (dOp op (Zb da (Za db)))) := by
 obtain ⟨r, h1, h2⟩ := ci.ex
 exact dt_cmp h1 h2 ha hb hm
theorem bi_len (hg : S.sc.names.lookup ("len" : Str) = some .globalImplicit) (hm : S.mg "len" = none) (ha : DE S a da) (hp : Zx [a] = true) : DE S (.Call (.Name "len" p) [a] [] pos) (dOp oLen (Za da)) :=
 ZaT (de_bi (id := "len") (fun X hX => hX.K ▸ call_len_seq) v_len hg hm (by rfl) (by decide) (by decide) (Zg ha (Zp hp _ (by simp))) hp)
  (de_bi (id := "len") (fun X hX => call_lenR.or call_len_str) v_lenK hg hm (by rfl) (by decide) (by decide) (Zg ha (Zp hp _ (by simp))) hp)
theorem bi_list (hg : S.sc.names.lookup ("list" : Str) = some .globalImplicit) (hm : S.mg "list" = none) (ha : DE S a da) (hp : Zx [a] = true) : DE S (.Call (.Name "list" p) [a] [] pos) (dOp oList (Za da)) :=
 de_ty (id := "list") (fun X hX => hX.K ▸ call_list_of) v_list hg hm (by rfl) (by decide) (by decide) (Zg ha (Zp hp _ (by simp))) hp
theorem WN (hg : S.sc.names.lookup ("tuple" : Str) = some .globalImplicit) (hm : S.mg "tuple" = none) (ha : DE S a da) (hp : Zx [a] = true) : DE S (.Call (.Name "tuple" p) [a] [] pos) (dOp WT (Za da)) :=
 de_ty (id := "tuple") (fun X hX => hX.K ▸ call_tuple_of) v_tuple hg hm (by rfl) (by decide) (by decide) (Zg ha (Zp hp _ (by simp))) hp
theorem bi_all (hg : S.sc.names.lookup ("all" : Str) = some .globalImplicit) (hm : S.mg "all" = none) (ha : DE S a da) (hp : Zx [a] = true) : DE S (.Call (.Name "all" p) [a] [] pos) (dOp oAll (Za da)) :=
 de_bi (id := "all") (fun X hX => hX.K ▸ cr_all hX.calm) v_all hg hm (by rfl) (by decide) (by decide) (Zg ha (Zp hp _ (by simp))) hp
theorem bi_min2 (hg : S.sc.names.lookup ("min" : Str) = some .globalImplicit) (hm : S.mg "min" = none) (ha : DE S a da) (hb : DE S b db) (hp : Zx [a, b] = true) : DE S (.Call (.Name "min" p) [a, b] [] pos) (dOp oMin2 (Zb da (Za db))) :=
 de_bi (id := "min") (fun X hX => call_min2 hX.calm) v_min2 hg hm (by rfl) (by decide) (by decide) (Zj ha (Zg hb (Zp hp _ (by simp))) (Zp hp _ (by simp))) hp
end
section
variable {S : Sx} {e a b c tg : Expr} {es : List Expr} {da db dc de di : Den} {das : DenL} {pos p : Pos} {ss : List Stmt} {tr : DenS}
def rSl (K : PySem.W.Frag) : V -> Option Int -> Option Int -> Hp -> VK -> Prop := fun x lo hi H Q => rSlL K x lo hi H Q ∨ rSlA K x lo hi H Q
theorem sl_seq {X : Cx} : SlR X (rSl X.K) := sl_list.or sl_tupA
def cutD (xs : List D) (lo hi : Option Int) : List D := (xs.drop (HT.sIx xs.length 0 lo)).take (HT.sIx xs.length xs.length hi - HT.sIx xs.length 0 lo)
theorem ZaR {G : Sg} {Fz : Addr -> Prop} {am : List Addr} {H : Hp} : ∀ {xs : List D} {vs : List V} (k : Nat), Reps G Fz am H (zs xs.length) vs xs (fun _ => 0) -> Reps G Fz am H (zs (xs.drop k).length) (vs.drop k) (xs.drop k) (fun _ => 0)
 | [], vs, k, r => by cases r; simpa using (show Reps G Fz am H (zs 0) [] [] (fun _ => 0) from .nil fun _ => rfl)
 | x :: xs, vs, 0, r => r
 | x :: xs, vs, k + 1, r => by
  have e : zs (x :: xs).length = .z :: zs xs.length := List.replicate_succ
  rw [e] at r
  cases r with
  | cons r1 r2 h3 => exact ZaR k (r2.fp (Reps.z0 r2))
theorem reps_take {G : Sg} {Fz : Addr -> Prop} {am : List Addr} {H : Hp} : ∀ {xs : List D} {vs : List V} (k : Nat), Reps G Fz am H (zs xs.length) vs xs (fun _ => 0) -> Reps G Fz am H (zs (xs.take k).length) (vs.take k) (xs.take k) (fun _ => 0)
 | [], vs, k, r => by cases r; simpa using (show Reps G Fz am H (zs 0) [] [] (fun _ => 0) from .nil fun _ => rfl)
 | x :: xs, vs, 0, r => by simpa using (show Reps G Fz am H (zs 0) [] [] (fun _ => 0) from .nil fun _ => rfl)
 | x :: xs, vs, k + 1, r => by
  have e : zs (x :: xs).length = .z :: zs xs.length := List.replicate_succ
  rw [e] at r
  cases r with
  | cons r1 r2 h3 =>
   show Reps G Fz am H (zs (x :: xs.take k).length) _ (x :: xs.take k) _
   rw [show zs (x :: xs.take k).length = .z :: zs (xs.take k).length from List.replicate_succ]
   exact .cons (r1.fp r1.z0 (m := fun _ => 0)) (reps_take k (r2.fp (Reps.z0 r2))) fun q => rfl
theorem reps_cut {G : Sg} {Fz : Addr -> Prop} {am : List Addr} {H : Hp} {xs : List D} {vs : List V} (lo hi : Option Int) (r : Reps G Fz am H (zs xs.length) vs xs (fun _ => 0)) : Reps G Fz am H (zs (cutD xs lo hi).length) (cutV vs lo hi) (cutD xs lo hi) (fun _ => 0) := by
 unfold cutV cutD
 rw [r.len.2]
 exact reps_take _ (ZaR _ r)
@[simp] def slD (lo hi : Option Int) : D -> Option (Fr × D)
 | .con .tup xs => some (.z, .con .tup (cutD xs lo hi))
 | .con k xs => bif k.sq then some (.c .z, .con .lst (cutD xs lo hi)) else none
 | _ => none
theorem sl_view {G : Sg} {Fz : Addr -> Prop} {am : List Addr} {H : Hp} {v : V} {a : D} {lo hi : Option Int} {f : Fr} {d : D} {Q : VK} (h : View G Fz am H v a) (e : slD lo hi a = some (f, d))
  (h3 : ∀ v H' n, Same H H' -> Newp H H' n -> Rep G Fz am H' f v d n -> Q v H') : rSl G.K v lo hi H Q := by
 have lst : ∀ {k : Kd} {xs : List D}, k.sq = true -> View G Fz am H v (.con k xs) -> f = .c .z -> d = .con .lst (cutD xs lo hi) -> rSl G.K v lo hi H Q := fun {k xs} hk h e1 e2 => by
  subst e1 e2
  obtain ⟨p, vs, rfl, r, s⟩ := h.sq hk
  exact .inl ⟨p, vs, rfl, r, VB (reps_cut lo hi s) h3⟩
 cases a with
 | con k xs =>
  cases k with
  | tup =>
   cases e
   obtain ⟨p, vs, rfl, r, s⟩ := h.tup
   refine .inr ⟨p, vs, rfl, r, fun w => ?_, fun _ => VI (reps_cut lo hi s) h3⟩
   have ec : cutD xs lo hi = xs := by
    unfold cutD
    rw [s.len.2] at w
    rw [w.1, w.2]
    simp
   rw [ec] at h3
   exact h3 _ H _ (same_refl H) Vj (.zz (k := .tup) r s fun _ => rfl)
  | lst => cases e; exact lst rfl h rfl rfl
  | frl => cases e; exact lst rfl h rfl rfl
  | _ => cases e
 | _ => cases e
@[simp] def oSlL : Op := fun ds => match ds with
 | [a, .int i] => slD (some i) none a
 | _ => none
@[simp] def oSlH : Op := fun ds => match ds with
 | [a, .int i] => slD none (some i) a
 | _ => none
theorem v_slL {G : Sg} : VOp G (l2 fun x y H Q => ∃ i, y = .int i ∧ rSl G.K x (some i) none H Q) oSlL := fun Fz am H vs ds fr d Q h1 h2 h3 => by
 unfold oSlL at h2
 split at h2
 ·obtain ⟨v, w, rfl, a, b⟩ := h1.two
  exact ⟨_, b.int, sl_view a h2 h3⟩
 ·cases h2
theorem v_slH {G : Sg} : VOp G (l2 fun x y H Q => ∃ i, y = .int i ∧ rSl G.K x none (some i) H Q) oSlH := fun Fz am H vs ds fr d Q h1 h2 h3 => by
 unfold oSlH at h2
 split at h2
 ·obtain ⟨v, w, rfl, a, b⟩ := h1.two
  exact ⟨_, b.int, sl_view a h2 h3⟩
 ·cases h2
theorem de_slL {p2 : Pos} (ha : DE S a da) (hb : DE S b db) : DE S (.Subscript a (.Slice (some b) none none p2) pos) (dOp oSlL (Zb da (Za db))) := fun W => by
 obtain ⟨ta, pa, qa⟩ := ha W
 obtain ⟨tb, pb, qb⟩ := hb W
 exact ⟨_, fun X hX tk => pe_slice (r := rSl S.G.K) (hX.K ▸ sl_seq) (pa X hX tk) (po_some (pb X hX tk)) po_none, fun g env st T σ H Q hT R h => run2 v_slL qa qb g env st T σ H Q hT R h⟩
theorem Zbo {p2 : Pos} (ha : DE S a da) (hb : DE S b db) : DE S (.Subscript a (.Slice none (some b) none p2) pos) (dOp oSlH (Zb da (Za db))) := fun W => by
 obtain ⟨ta, pa, qa⟩ := ha W
 obtain ⟨tb, pb, qb⟩ := hb W
 exact ⟨_, fun X hX tk => pe_slice (r := rSl S.G.K) (hX.K ▸ sl_seq) (pa X hX tk) po_none (po_some (pb X hX tk)), fun g env st T σ H Q hT R h => run2 v_slH qa qb g env st T σ H Q hT R h⟩
inductive Ty7
 | non | bl | int | str | tup | lst | dct
 deriving DecidableEq
def Ty7.nm : Ty7 -> String
 | .non => "NoneType" | .bl => "bool" | .int => "int" | .str => "str" | .tup => "tuple" | .lst => "list" | .dct => "dict"
@[simp] def Ty7.isa (t u : Ty7) : Bool := decide (t = u) || (decide (t = .bl) && decide (u = .int))
theorem kit1 {K : PySem.W.Frag} (t u : Ty7) : PySem.W.kitOne K (.type t.nm) (.type u.nm) = some (t.isa u) := by
 cases t <;> cases u <;> rfl
theorem kitN {K : PySem.W.Frag} (t : Ty7) : ∀ us : List Ty7, PySem.W.kitAny K (.type t.nm) (us.map fun u => .type u.nm) = some (us.any t.isa)
 | [] => rfl
 | u :: us => by
  show (match PySem.W.kitOne K (.type t.nm) (.type u.nm) with
   | some true => some true
   | some false => PySem.W.kitAny K (.type t.nm) (us.map fun (u : Ty7) => .type u.nm)
   | none => none) = _
  rw [kit1, kitN t us, List.any_cons]
  cases t.isa u <;> rfl
@[simp] def tyD : D -> Option Ty7
 | .non => some .non
 | .bl _ => some .bl
 | .int _ => some .int
 | .str _ => some .str
 | .con .tup _ => some .tup
 | .con .lst _ => some .lst
 | .con .frl _ => some .lst
 | .con (.dik _) _ => some .dct
 | _ => none
theorem tyx_of {G : Sg} {Fz : Addr -> Prop} {am : List Addr} {H : Hp} {v : V} {d : D} {t : Ty7} (h : View G Fz am H v d) (e : tyD d = some t) : TyX G.K H v (.type t.nm) := by
 cases d with
 | non => cases e; rw [h.non]; exact .base .non
 | bl b => cases e; rw [h.bl]; exact .base (.bl _)
 | int b => cases e; rw [h.int]; exact .base (.int _)
 | str b => cases e; rw [h.str]; exact .base (.str _)
 | fnv k j => cases e
 | ref k => cases e
 | con k ds =>
  have sq : ∀ {p : Addr} {vs : List V}, SqL G.K H p vs -> TyX G.K H (.ref p) (.type Ty7.lst.nm) := fun {p vs} r => by
   rcases r with (r | ⟨o, r⟩) | ⟨o, its, n, r, c, _⟩
   ·exact .base (.lst r)
   ·exact .base (.frz r)
   ·exact .kList r c
  cases k with
  | tup =>
   cases e
   obtain ⟨p, vs, rfl, r, s⟩ := h.tup
   rcases r with (r | ⟨o, r⟩) | ⟨o, its, n, r, c, _⟩
   ·exact .base (.tup r)
   ·exact .fTuple r
   ·exact .kTuple r c
  | lst =>
   cases e
   obtain ⟨p, vs, rfl, r, s⟩ := View.sq (k := .lst) rfl h
   exact sq r
  | frl =>
   cases e
   obtain ⟨p, vs, rfl, r, s⟩ := View.sq (k := .frl) rfl h
   exact sq r
  | dik ks =>
   cases e
   obtain ⟨p, vs, rfl, ⟨o, r1, r2⟩, s⟩ := h
   obtain ⟨r2, _⟩ := r2
   subst r2
   rcases r1 with r1 | ⟨o, r1⟩
   ·exact .base (.dK r1)
   ·exact .fDict r1
  | dit ks => cases e
  | ins c => cases e
def TyNs (S : Sx) (es : List Expr) (us : List Ty7) : Prop := ∀ X, Stx S X -> PA X es fun _ H Q => Q (us.map fun (u : Ty7) => V.ty u.nm) H
theorem tyns_nil : TyNs S [] [] := fun X hX => pa_nil
theorem Zbd {x : Str} {u : Ty7} {us : List Ty7} (hg : S.sc.names.lookup x = some .globalImplicit) (hm : S.mg x = none) (hb : bootBuiltins x = some (.type u.nm)) (hn : x ≠ "__name__") (hdb : (x == ("__debug__" : Str)) = false) (hr : TyNs S es us) : TyNs S (.Name x p :: es) (u :: us) := fun X hX =>
 pa_cons (pe_bltn (show X.env.scope.names.lookup x = some .globalImplicit by rw [hX.sc]; exact hg) (by rw [hX.mg]; exact hm) hb (v := .ty u.nm) rfl hn hdb) (hr X hX)
@[simp] def dIsi (us : List Ty7) (a : Den) : Den := fun env st => match a env st with
 | .ok f b d st1 => bif f.flat then (match tyD (lk st1 d) with
  | some t => .ok .z false (.bl (us.any t.isa)) st1
  | none => .stuck) else .stuck
 | .exc c ds st1 => .exc c ds st1
 | .stuck => .stuck
theorem clsv : ∀ us : List Ty7, Paired ClsV (us.map fun u => V.ty u.nm) (us.map fun u => Value.type u.nm)
 | [] => .nil
 | u :: us => .cons (.ty _) (clsv us)
theorem Rl.view1 {G : Sg} {g : Gd} {env : Env} {st : Zd} {T : List Tm} {σ : St} {H : Hp} {v : V} {f : Fr} {b : Bool} {d : D} (R : Rl G g env st (⟨v, f, d, b⟩ :: T) σ H) (hf : f.flat = true) : ∃ Fz am, View G Fz am H v (lk st d) := by
 obtain ⟨Fz, am, ne, nt, ns, h1, h2, h3, h4, h5⟩ := R
 have key : ∀ {n : Fp}, Rep G Fz am H f v d n -> View G Fz am H v (lk st d) := fun {n} r => by
  have h := Vws.lk h3 (vs := [v]) (ds := [d]) (.cons (r.view hf) .nil)
  cases h with
  | cons h _ => exact h
 cases h2 with
 | own k1 _ _ => exact ⟨_, _, key k1⟩
 | bor k1 _ _ => exact ⟨_, _, key k1⟩
theorem Vy {x : Str} {q : Pos} {u : Ty7} (hg : S.sc.names.lookup ("isinstance" : Str) = some .globalImplicit) (hm : S.mg "isinstance" = none) (ha : DE S a da) (hp : Zx [a] = true)
  (hg2 : S.sc.names.lookup x = some .globalImplicit) (hm2 : S.mg x = none) (hb : bootBuiltins x = some (.type u.nm)) (hn : x ≠ "__name__") (hdb : (x == ("__debug__" : Str)) = false) :
  DE S (.Call (.Name "isinstance" p) [a, .Name x q] [] pos) (dIsi [u] da) := fun W => by
 obtain ⟨ta, pa, qa⟩ := ha W
 refine ⟨_, fun X hX tk => pe_callB (r := rIsi S.G.K) (hX.K ▸ call_isi) (show X.env.scope.names.lookup ("isinstance" : Str) = some .globalImplicit by rw [hX.sc]; exact hg) (by rw [hX.mg]; exact hm) (by rfl)
  (pa_cons (pa X hX tk) (Zbd (p := q) hg2 hm2 hb hn hdb tyns_nil X hX) (Wg (Zp hp a (by simp)))) (by decide) (by decide) (Wg (Zp hp a (by simp))), fun g env st T σ H Q hT R h => qa g env st T σ H _ hT R ?_⟩
 unfold dIsi at h
 cases e1 : da env st with
 | stuck => rw [e1] at h; exact h.elim
 | exc c ds st1 => rw [e1] at h; exact h
 | ok f b d st1 =>
  rw [e1] at h
  obtain ⟨hf, h⟩ := bifT h id
  intro v H1 R1
  split at h
  ·rename_i t et
   obtain ⟨Fz, am, vw⟩ := R1.view1 hf
   exact ⟨v, .ty u.nm, .type t.nm, .type u.nm, [u].any t.isa, rfl, .ty _, tyx_of vw et, by rw [kit1]; simp, h _ H1 (Rl.scal R1.drop rfl)⟩
  ·exact h.elim
theorem de_isiT {es : List Expr} {k : Nat} {q : Pos} {us : List Ty7} (hg : S.sc.names.lookup ("isinstance" : Str) = some .globalImplicit) (hm : S.mg "isinstance" = none) (ha : DE S a da) (hp : Zx [a] = true)
  (hl : us.length.ble 1000 = true) (ht : TyNs S es us) : DE S (.Call (.Name "isinstance" p) [a, .Tuple es k q] [] pos) (dIsi us da) := fun W => by
 obtain ⟨ta, pa, qa⟩ := ha W
 refine ⟨_, fun X hX tk => pe_callB (r := rIsiT S.G.K) (hX.K ▸ call_isiT) (show X.env.scope.names.lookup ("isinstance" : Str) = some .globalImplicit by rw [hX.sc]; exact hg) (by rw [hX.mg]; exact hm) (by rfl)
  (pa_cons (pa X hX tk) (pa_cons (pe_tup (ht X hX)) pa_nil) (Wg (Zp hp a (by simp)))) (by decide) (by decide) (Wg (Zp hp a (by simp))), fun g env st T σ H Q hT R h => qa g env st T σ H _ hT R ?_⟩
 unfold dIsi at h
 cases e1 : da env st with
 | stuck => rw [e1] at h; exact h.elim
 | exc c ds st1 => rw [e1] at h; exact h
 | ok f b d st1 =>
  rw [e1] at h
  obtain ⟨hf, h⟩ := bifT h id
  intro v H1 R1
  split at h
  ·rename_i t et
   refine ⟨by simpa using Zbp hl, fun p hp => ?_⟩
   have R2 : Rl S.G g env st1 (⟨v, f, d, b⟩ :: T) σ (upd H1 p (.tup (us.map fun u => V.ty u.nm))) := by
    have R3 := RlB.new (v := .non) (f := .z) (d := .non) (n := fun _ => 0) (H' := upd H1 p (.tup (us.map fun u => V.ty u.nm))) R1 (Wy hp) Vj fun Fz am E k => .sc trivial fun _ => rfl
    exact R3.drop
   obtain ⟨Fz, am, vw⟩ := R2.view1 hf
   exact ⟨v, p, us.map fun u => V.ty u.nm, .type t.nm, us.map fun u => .type u.nm, us.any t.isa, rfl, upd_same, clsv us, tyx_of vw et, kitN t us, h _ _ (Rl.scal R2.drop rfl)⟩
  ·exact h.elim
theorem Rl.dup {G : Sg} {g : Gd} {env : Env} {st : Zd} {T : List Tm} {σ : St} {H : Hp} {v : V} {d : D} (R : Rl G g env st (⟨v, .z, d, false⟩ :: T) σ H) : Rl G g env st (⟨v, .z, d, false⟩ :: ⟨v, .z, d, false⟩ :: T) σ H := by
 obtain ⟨Fz, am, ne, nt, ns, h1, h2, h3, h4, h5⟩ := R
 cases h2 with
 | @own _ _ _ _ n1 n2 _ k1 k2 k3 => exact ⟨Fz, am, ne, nt, ns, h1, .own (k1.fp k1.z0 (m := fun _ => 0)) (.own k1 k2 k3) fun q => by simp, h3, h4, trivial⟩
@[simp] def Zbj (o o' : Op) (a b c : Den) : Den := fun env st => match a env st with
 | .ok fa ba xa st1 => bif !ba || fa.isz then (match b env st1 with
  | .ok fb bb xb st2 => bif fa.flat && fb.isz then (match o [lk st2 xa, lk st2 xb] with
   | some (.z, .bl true) => (match c env st2 with
    | .ok fc bc xc st3 => bif fc.flat then (match o' [lk st3 xb, lk st3 xc] with
     | some (f, d) => .ok f false d st3
     | none => .stuck) else .stuck
    | .exc c ds st1 => .exc c ds st1
    | .stuck => .stuck)
   | some (.z, .bl false) => .ok .z false (.bl false) st2
   | _ => .stuck) else .stuck
  | .exc c ds st1 => .exc c ds st1
  | .stuck => .stuck) else .stuck
 | .exc c ds st1 => .exc c ds st1
 | .stuck => .stuck
theorem chain_run {r r' : R2} {o o' : Op} {W : WX} {ta tb tc : TE} (hv : VOp S.G (l2 r) o) (hv' : VOp S.G (l2 r') o')
  (qa : ∀ g env st T σ H Q, Zy T -> Rl S.G g env st T σ H -> Wo S.G g env T σ W Q (da env st) -> ta σ H Q)
  (qb : ∀ g env st T σ H Q, Zy T -> Rl S.G g env st T σ H -> Wo S.G g env T σ W Q (db env st) -> tb σ H Q)
  (qc : ∀ g env st T σ H Q, Zy T -> Rl S.G g env st T σ H -> Wo S.G g env T σ W Q (dc env st) -> tc σ H Q)
  (g : Gd) (env : Env) (st : Zd) (T : List Tm) (σ : St) (H : Hp) (Q : VK) (hT : Zy T) (R : Rl S.G g env st T σ H) (h : Wo S.G g env T σ W Q (Zbj o o' da db dc env st)) : tChain r r' ta tb tc σ H Q := by
 refine qa g env st T σ H _ hT R ?_
 unfold Zbj at h
 cases e1 : da env st with
 | stuck => rw [e1] at h; exact h.elim
 | exc c ds st1 => rw [e1] at h; exact h
 | ok fa ba xa st1 =>
 rw [e1] at h
 dsimp only at h
 obtain ⟨hb, h⟩ := bifT h id
 intro v H1 R1
 refine qb g env st1 _ σ H1 _ (WO hT) (R1.unb hb) ?_
 cases e2 : db env st1 with
 | stuck => rw [e2] at h; exact h.elim
 | exc c ds st2 => rw [e2] at h; exact h
 | ok fb bb xb st2 =>
 rw [e2] at h
 dsimp only at h
 obtain ⟨hf, h'⟩ := bifT h id
 clear h
 have h := h'
 clear h'
 rw [Bool.and_eq_true] at hf
 have ez := Fr.Uu hf.2
 subst ez
 intro w H2 R2
 have R3 := (R2.unb (by simp [Fr.isz])).dup
 have R4 : Rl S.G g env st2 (mkT [v, w] [(fa, false, xa), (.z, false, xb)] ++ (⟨w, .z, xb, false⟩ :: T)) σ H2 := by
  have := RlB.mid (l := [⟨w, .z, xb, false⟩, ⟨w, .z, xb, false⟩]) R3
  obtain ⟨Fz, am, ne, nt, ns, h1, h2, h3, h4, h5⟩ := this
  exact ⟨Fz, am, ne, nt, ns, h1, h2, h3, h4, h5⟩
 have fl : flats [(fa, false, xa), (Fr.z, false, xb)] = true := by
  show (fa.flat && (Fr.z.flat && true)) = true
  rw [hf.1]
  rfl
 cases e3 : o [lk st2 xa, lk st2 xb] with
 | none => rw [e3] at h; exact h.elim
 | some x =>
  obtain ⟨f', d'⟩ := x
  rw [e3] at h
  refine Rl.op (vs := [v, w]) hv R4 rfl fl e3 fun z H3 R5 => ?_
  split at h
  ·rename_i es
   cases es
   refine ⟨true, R5.bl, ?_⟩
   rw [if_pos rfl]
   refine qc g env st2 _ σ H3 _ (WO hT) R5.drop ?_
   cases e4 : dc env st2 with
   | stuck => rw [e4] at h; exact h.elim
   | exc c ds st3 => rw [e4] at h; exact h
   | ok fc bc xc st3 =>
    rw [e4] at h
    dsimp only at h
    obtain ⟨hf2, h'⟩ := bifT h id
    clear h
    have h := h'
    clear h'
    intro u H4 R6
    have R7 : Rl S.G g env st3 (mkT [w, u] [(.z, false, xb), (fc, bc, xc)] ++ T) σ H4 := RlB.mid (l := [_]) R6
    cases e5 : o' [lk st3 xb, lk st3 xc] with
    | none => rw [e5] at h; exact h.elim
    | some y =>
     obtain ⟨f2, d2⟩ := y
     rw [e5] at h
     exact Rl.op (vs := [w, u]) hv' R7 rfl (by
      show (Fr.z.flat && (fc.flat && true)) = true
      rw [hf2]
      rfl) e5 h
  ·rename_i es
   cases es
   refine ⟨false, R5.bl, ?_⟩
   rw [if_neg (by decide)]
   exact h _ H3 (Rl.scal R5.drop.drop rfl)
  ·exact h.elim
theorem lm2 {o o' : CmpOp} (hb : Wj b = true) (hc : Wj c = true) : lastMarks [o, o'] [b, c] = false := marks (o := o') hc
theorem de_chain {o o' : CmpOp} {op op' : Op} (ci : CmpI S o op) (ci' : CmpI S o' op') (ha : DE S a da) (hb : DE S b db) (hc : DE S c dc) (nb : Wj b = true) (nc : Wj c = true) : DE S (.Compare a [o, o'] [b, c] pos) (Zbj op op' da db dc) := fun W => by
 obtain ⟨r, h1, h2⟩ := ci.ex
 obtain ⟨r', h1', h2'⟩ := ci'.ex
 obtain ⟨ta, pa, qa⟩ := ha W
 obtain ⟨tb, pb, qb⟩ := hb W
 obtain ⟨tc, pc, qc⟩ := hc W
 exact ⟨_, fun X hX tk => pe_chain (h1 X hX) (h1' X hX) (pa X hX tk) (pb X hX tk) (pc X hX tk) (lm2 nb nc), fun g env st T σ H Q hT R h => chain_run h2 h2' qa qb qc g env st T σ H Q hT R h⟩
theorem dt_chain {o o' : CmpOp} {op op' : Op} (ci : CmpI S o op) (ci' : CmpI S o' op') (ha : DE S a da) (hb : DE S b db) (hc : DE S c dc) (nb : Wj b = true) (nc : Wj c = true) : DT S (.Compare a [o, o'] [b, c] pos) (dB (Zbj op op' da db dc)) := fun W => by
 obtain ⟨r, h1, h2⟩ := ci.ex
 obtain ⟨r', h1', h2'⟩ := ci'.ex
 obtain ⟨ta, pa, qa⟩ := ha W
 obtain ⟨tb, pb, qb⟩ := hb W
 obtain ⟨tc, pc, qc⟩ := hc W
 exact ⟨_, fun X hX tk => pt_chain (h1 X hX) (h1' X hX) (pa X hX tk) (pb X hX tk) (pc X hX tk) (lm2 nb nc), fun g env st T σ H Q hT R h => chain_run h2 h2' qa qb qc g env st T σ H _ hT R (postB h)⟩
theorem reps_snoc {G : Sg} {Fz : Addr -> Prop} {am : List Addr} {H : Hp} {x : V} {d : D} {xs : List D} {acc : List V} (r : Reps G Fz am H (zs xs.length) acc xs (fun _ => 0)) (hx : Rep G Fz am H .z x d (fun _ => 0)) : Reps G Fz am H (zs (xs ++ [d]).length) (acc ++ [x]) (xs ++ [d]) (fun _ => 0) :=
 r.cat (.cons (n1 := fun _ => 0) (n2 := fun _ => 0) hx (.nil fun _ => rfl) fun _ => rfl)
def dApp (i : Nat) (a : Den) : DenS := fun env st => match env[i]? with
 | some (some (.c .z, .con .lst xs)) => (match a env st with
  | .ok f b d st1 => bif (!b || f.isz) && xs.length.ble 1000000 then .nx (env.set i (some (.c .z, .con .lst (xs ++ [d])))) st1 else .stuck
  | .exc c ds st1 => .exc c ds env st1
  | .stuck => .stuck)
 | _ => .stuck
theorem len7 {n : Nat} (h : n.ble 1000000 = true) : n < sizeLine := Nat.lt_of_le_of_lt (Nat.le_of_ble_eq_true h) (by decide)
theorem ds_app {i : Nat} {x : Str} {q apos : Pos} (hN : S.N[i]? = some x) (hv : Vis S.sc x) (hd : (x == ("__debug__" : Str)) = false) (hcd : (x == ("__classdict__" : Str)) = false) (hl : (apos.endLine == p.line) = true) (ha : DE S a da) (hp : Zx [a] = true) :
  DS S (.Expr (.Call (.Attribute (.Name x q) "append" apos) [a] [] p) pos) (dApp i da) := fun W => by
 obtain ⟨ta, pa, qa⟩ := ha W
 have hs := Zp hp a (by simp)
 have pk : ∀ X, Stx S X -> Takes X W -> PE X (.Call (.Attribute (.Name x q) "append" apos) [a] [] p) (tBM S.G.K "list" rAppend (tVar i) (tCons ta tNil)) := fun X hX tk => by
  have := pe_bm PySem.F.plainAttrs_list PySem.F.slot_list_append PySem.F.type_list_append mt_append (de_pv (p := q) hN hv hd hcd hX) (pa_cons (pa X hX tk) pa_nil (Wg hs)) (by rfl) (by rw [Wg hs]; rfl) hl (Wg hs)
  rw [hX.K] at this
  exact this
 refine ⟨_, fun X hX tk => ps_expr (pk X hX tk), fun g env st T σ H D hT R h => ?_⟩
 unfold dApp at h
 split at h
 ·rename_i xs ei
  have ei' := ei
  obtain ⟨v, ev, R0⟩ := R.pushb ei
  have hsq : ∃ A acc, v = .ref A ∧ SqL S.G.K H A acc := by
   obtain ⟨Fz, am, vw⟩ := R0.view1 rfl
   obtain ⟨A, acc, e1, e2, _⟩ := View.sq (k := .lst) rfl vw
   exact ⟨A, acc, e1, e2⟩
  obtain ⟨A, acc, rfl, sq⟩ := hsq
  refine ⟨_, ev, .inl ⟨rfl, _, sq⟩, ?_⟩
  refine qa g env st T σ H _ hT R ?_
  cases e1 : da env st with
  | stuck => rw [e1] at h; exact h.elim
  | exc c ds st1 => rw [e1] at h; exact h σ
  | ok f b d st1 =>
   rw [e1] at h
   obtain ⟨hc, h⟩ := bifT h id
   rw [Bool.and_eq_true] at hc
   intro x H1 R1
   obtain ⟨A', acc', a1, a2, a3, R2⟩ := Rl.wre (xs' := xs ++ [d]) (fV := fun acc => acc ++ [x]) (R1.unb hc.1).frz hT ei fun Fz am acc r hx => reps_snoc r hx
   rw [ev] at a1
   cases a1
   exact ⟨A, acc', x, rfl, rfl, a2, by rw [a3]; exact len7 hc.2, h _ _ R2⟩
 ·exact h.elim
theorem ds_unpT {es : List Expr} {k : Nat} {q : Pos} {p : Pat} (hg : DG S (.Tuple es k q) p) (ha : DE S e da) (hw : noSwap e = true) : DS S (.Assign [.Tuple es k q] e pos) (dUnp p da) := fun W => by
 obtain ⟨t, pt, q⟩ := ha W
 obtain ⟨t2, pt2, q2⟩ := hg
 refine ⟨_, fun X hX tk => ps_asg (pt X hX tk) (pt2 X hX) (by cases e <;> rfl) (Zba hw) (by rfl), fun g env st T σ H D hT R h => q g env st T σ H _ hT R ?_⟩
 unfold dUnp at h
 cases e : da env st with
 | stuck => rw [e] at h; exact h.elim
 | exc c ds st1 => rw [e] at h; exact h σ
 | ok f b d st1 =>
  rw [e] at h
  obtain ⟨hc, h⟩ := bifT h id
  cases e2 : ZS p f d env with
  | none => rw [e2] at h; exact h.elim
  | some env1 =>
   rw [e2] at h
   exact fun v H1 R1 => q2 g env st1 T σ H1 v f d env1 _ hT (R1.unb hc) e2 fun σ' H' _ R' => h σ' H' R'
end
@[reducible] def Sx.at (S : Sx) (N : List Str) (sc : Scope) (k : Nat) : Sx := ⟨S.P, S.w, S.mg, S.base, S.G, N, sc, k, true, S.lok, none, fun _ => false⟩
theorem Good.at {S : Sx} {x : Str} {n : Nat} {F : Fn} {dd : List D} {k : Nat} (h : Good S x n F dd k) {N : List Str} {sc : Scope} {j : Nat} : Good (S.at N sc j) x n F dd k := ⟨h.ex⟩
theorem Good.blk {S : Sx} {x : Str} {n : Nat} {F : Fn} {dd : List D} {k : Nat} (h : Good S x n F dd k) {sc : Scope} : Good (S.blk sc) x n F dd k := ⟨h.ex⟩
structure Kn (S : Sx) (x : Str) (st : Stmt) : Prop where
 ex : ∃ f fd, FunD S.G.K x x (defArgs st) (defBody st) (defScope st) [] [] f fd ∧ S.mg x = some (.ref f)
def Wk (x : Str) (st : Stmt) (ps : List Str) : Prop := ∀ (kV doc pm : Value) (an : Option Addr) (cdv ct : Value) (us : List Value), us.length = ps.length -> bindArgs (PySem.W.fnOf x x (defArgs st) (defBody st) (defScope st) .none kV doc pm an cdv ct) ⟨us, []⟩ = pure (ps.zip us)
theorem lez {a b : Nat} (h : Nat.ble a b = true := by rfl) : a <= b := Nat.le_of_ble_eq_true h
theorem fsM {N P : List Str} {sc : Scope} (a : sc.kind = .function := by rfl) (b : sc.isCoroutine = false := by rfl) (c : sc.isGenerator = false := by rfl) (d : N.Nodup := by decide +kernel) (e : N.take P.length = P := by rfl) (f : ∀ x ∈ P, sc.names.lookup x = some .local ∨ sc.names.lookup x = some .cell := by decide +kernel) (g : ∀ y ∈ sc.names, y.2 ≠ .free := by decide +kernel) : FnScope N P sc := ⟨a, b, c, d, e, f, g⟩
theorem bnq1 {x : Str} {st : Stmt} {p0 : Str} (h : ∀ (kV doc pm : Value) (an : Option Addr) (cdv ct u0 : Value), bindArgs (PySem.W.fnOf x x (defArgs st) (defBody st) (defScope st) .none kV doc pm an cdv ct) ⟨[u0], []⟩ = pure ([p0].zip [u0]) := by intros; rfl) : Wk x st [p0] := fun _ _ _ _ _ _ us hl => match us, hl with | [_], _ => h _ _ _ _ _ _ _
theorem bnq2 {x : Str} {st : Stmt} {p0 p1 : Str} (h : ∀ (kV doc pm : Value) (an : Option Addr) (cdv ct u0 u1 : Value), bindArgs (PySem.W.fnOf x x (defArgs st) (defBody st) (defScope st) .none kV doc pm an cdv ct) ⟨[u0, u1], []⟩ = pure ([p0, p1].zip [u0, u1]) := by intros; rfl) : Wk x st [p0, p1] := fun _ _ _ _ _ _ us hl => match us, hl with | [_, _], _ => h _ _ _ _ _ _ _ _
theorem bnq3 {x : Str} {st : Stmt} {p0 p1 p2 : Str} (h : ∀ (kV doc pm : Value) (an : Option Addr) (cdv ct u0 u1 u2 : Value), bindArgs (PySem.W.fnOf x x (defArgs st) (defBody st) (defScope st) .none kV doc pm an cdv ct) ⟨[u0, u1, u2], []⟩ = pure ([p0, p1, p2].zip [u0, u1, u2]) := by intros; rfl) : Wk x st [p0, p1, p2] := fun _ _ _ _ _ _ us hl => match us, hl with | [_, _, _], _ => h _ _ _ _ _ _ _ _ _
theorem bnq4 {x : Str} {st : Stmt} {p0 p1 p2 p3 : Str} (h : ∀ (kV doc pm : Value) (an : Option Addr) (cdv ct u0 u1 u2 u3 : Value), bindArgs (PySem.W.fnOf x x (defArgs st) (defBody st) (defScope st) .none kV doc pm an cdv ct) ⟨[u0, u1, u2, u3], []⟩ = pure ([p0, p1, p2, p3].zip [u0, u1, u2, u3]) := by intros; rfl) : Wk x st [p0, p1, p2, p3] := fun _ _ _ _ _ _ us hl => match us, hl with | [_, _, _, _], _ => h _ _ _ _ _ _ _ _ _ _
abbrev nl0 : List Str := ["_law_bag_here", "_law_many", "_law_cell", "_law_got", "_law_wider"]
abbrev nl1 : List Str := ["_law_bag_here", "_law_number"]
abbrev nl2 : List Str := ["_law_bag_here", "_law_some"]
abbrev nl3 : List Str := ["_law_bag_here", "_law_word_here", "_law_some", "_law_rows", "_law_many", "_law_k", "_law_at"]
abbrev nl4 : List Str := ["_law_deed", "_law_one_here", "_law_part"]
abbrev nl5 : List Str := ["_law_got", "_law_due", "_law_k"]
abbrev nl6 : List Str := ["_law_script", "_law_bag_here", "_law_step", "_law_deed", "_law_text", "_law_rows", "_law_some", "_law_k", "_law_one_here"]
abbrev nl7 : List Str := ["_law_script", "_law_salt", "_law_cell"]
abbrev nl8 : List Str := ["deed", "inner", "one"]
abbrev nl9 : List Str := ["deed", "word", "things", "choice", "one"]
abbrev nl10 : List Str := ["row", "parts", "found", "part", "one"]
abbrev nl11 : List Str := ["row", "word", "mark", "rest", "many"]
abbrev nl12 : List Str := ["row", "words", "word", "choices", "numbers", "sift"]
abbrev nl13 : List Str := ["rows", "at", "many", "deed", "found", "place"]
abbrev nl14 : List Str := ["text", "rows", "deed", "end"]
abbrev nl15 : List Str := ["word", "bare", "one"]
abbrev nl16 : List Str := ["words", "found", "word"]
theorem ZV {S : Sx} {x : Str} {st : Stmt} {N ps : List Str} {n k : Nat} {db : DenS} (h : Kn S x st) (Sc : FnScope N ps (defScope st)) (hb : DSs (S.at N (defScope st) k) (defBody st) db) (hbind : Wk x st ps) (hn : ps.length = n) : Good S x n (Ww N.length db) [] (k + 1) := by
 subst hn
 obtain ⟨f, fd, F, hm⟩ := h.ex
 exact ⟨f, fd, ps, [], [], ok_fn (S := S.at N (defScope st) k) F Sc hb rfl, hm, F.kp, F.bindsN hbind, .nil, fun Fz am H => .nil fun _ => rfl⟩
theorem good_stuck {S : Sx} {x : Str} {st : Stmt} {N ps : List Str} {n k : Nat} (h : Kn S x st) (Sc : FnScope N ps (defScope st)) (hbind : Wk x st ps) (hn : ps.length = n) : Good S x n (fun _ _ => .stuck) [] (k + 1) := by
 subst hn
 obtain ⟨f, fd, F, hm⟩ := h.ex
 refine ⟨f, fd, ps, [], [], ?_, hm, F.kp, F.bindsN hbind, .nil, fun Fz am H => .nil fun _ => rfl⟩
 refine F.ok Sc (fun vs H Q E h => h.1) fun cdv A outer s H vs Q E hr h => ?_
 obtain ⟨hl, Fz, am, as, st, na, ns, h1, h2, h3, h4⟩ := h
 exact h4.elim
def blkB (N : List Str) (sc scope : Scope) (own : List (Str × Nat)) : Bool :=
 decide (scope.kind = .function) && scope.names.all (fun y => decide (scope.names.lookup y.1 = some y.2)) && own.all (fun p => decide (N[p.2]? = some p.1)) &&
 scope.names.all (fun y => !decide (y.2 = .free) || (decide (sc.names.lookup y.1 = some .cell) || decide (sc.names.lookup y.1 = some .free))) &&
 scope.names.all (fun y => !(decide (y.2 = .local) || decide (y.2 = .cell)) || (decide (y.1 ∈ own.map (·.1)) || !decide (y.1 ∈ N)))
theorem Wn {N : List Str} {sc scope : Scope} {own : List (Str × Nat)} (h : blkB N sc scope own = true) : BlkOk N sc scope own := by
 unfold blkB at h
 simp only [Bool.and_eq_true, List.all_eq_true, decide_eq_true_eq] at h
 obtain ⟨⟨⟨⟨h1, h2⟩, h3⟩, h4⟩, h5⟩ := h
 refine ⟨h1, h2, h3, fun y hy e => ?_, fun y hy e => ?_⟩
 ·have := h4 y hy
  simpa [e] using this
 ·have := h5 y hy
  rcases e with e | e <;> simpa [e] using this
theorem law_sp {G : Sg} {F : Fn} {H : Hp} {a : Addr} {ns : List Int} {st : Zd} (hS : SqL G.K H a (ns.map V.int)) (hT : LamX.Tabs G.T H) (hL : ∀ j, G.lam j = none) (h : F [(.z, .con .frl (ns.map D.int))] [] = .ok .z false (.bl true) st) :
  SpF G 1 F [.ref a] H (fun v _ => v = .bl true) fun _ _ _ => False := by
 have its : ∀ {Fz : Addr -> Prop} {am : List Addr} (ns : List Int), Reps G Fz am H (zs (ns.map D.int).length) (ns.map V.int) (ns.map D.int) (fun _ => 0) := fun {Fz am} ns => by
  induction ns with
  | nil => exact .nil fun _ => rfl
  | cons n ns ih =>
   show Reps G Fz am H (zs ((ns.map D.int).length + 1)) (V.int n :: ns.map V.int) (D.int n :: ns.map D.int) _
   rw [show zs ((ns.map D.int).length + 1) = .z :: zs (ns.map D.int).length from List.replicate_succ]
   exact .cons (n1 := fun _ => 0) (n2 := fun _ => 0) (.sc rfl fun _ => rfl) ih fun _ => rfl
 have fin : ∀ g, PostF G g (fun v _ => v = .bl true) (fun _ _ _ => False) (F [(.z, .con .frl (ns.map D.int))] []) := fun g => by
  rw [h]
  exact ⟨rfl, fun v H' R => R.bl⟩
 have fin2 : ∀ Fz : Addr -> Prop, (∀ p, Fz p -> ∃ o, H p = some o ∧ VX o = true) -> Shr G Fz H a .frl (ns.map V.int) -> SpF G 1 F [.ref a] H (fun v _ => v = .bl true) fun _ _ _ => False := fun Fz hz sh => by
  refine ⟨rfl, Fz, [], [(.z, .con .frl (ns.map D.int))], [], fun _ => 0, fun _ => 0, ?_, .nil fun _ => rfl, ⟨fun p => by simp, fun p hp => absurd hp (Nat.lt_irrefl 0), fun p hp => absurd hp (Nat.lt_irrefl 0), hz, fun p o _ e _ => .inl e, fun p hp => absurd hp (Nat.lt_irrefl 0), fun _ z => z, fun _ z => .inl z, fun _ _ z => z, hT, ⟨fun p z => ⟨fun q => absurd q (Nat.lt_irrefl 0), hz p z⟩, fun p q => absurd q (Nat.lt_irrefl 0), fun j l e => by rw [hL] at e; cases e⟩, fun p o t e _ => ⟨o, e, t⟩⟩, fin _⟩
  exact .cons (n1 := fun _ => 0) (n2 := fun _ => 0) (.zz (k := .frl) sh (its ns) fun _ => rfl) (.nil fun _ => rfl) fun _ => rfl
 rcases hS with r | r
 ·exact fin2 (fun p => p = a) (fun p e => by
   subst e
   rcases r with r | ⟨o, r⟩
   ·exact ⟨_, r, rfl⟩
   ·exact ⟨_, r, rfl⟩) (.inl ⟨rfl, r⟩)
 ·exact fin2 (fun _ => False) (fun p e => e.elim) (.inr (.inr r))
section
variable {S : Sx} {e a b c tg : Expr} {es : List Expr} {da db dc de di : Den} {das : DenL} {pos p : Pos} {s : Stmt} {ss : List Stmt} {tr : DenS}
end
structure GV (S : Sx) (x : Str) (d : D) : Prop where
 ex : ∃ v u, S.mg x = some u ∧ RelV v u ∧ ∀ Fz am H, Rep S.G Fz am H .z v d (fun _ => 0)
theorem GV.at {S : Sx} {x : Str} {d : D} (h : GV S x d) {N : List Str} {sc : Scope} {k : Nat} : GV (S.at N sc k) x d := ⟨h.ex⟩
theorem GV.blk {S : Sx} {x : Str} {d : D} (h : GV S x d) {sc : Scope} : GV (S.blk sc) x d := ⟨h.ex⟩
theorem de_glo {S : Sx} {x : Str} {p : Pos} {d : D} (h : GV S x d) (hg : S.sc.names.lookup x = some .globalImplicit) (hd : (x == ("__debug__" : Str)) = false) : DE S (.Name x p) (dC d) := fun W => by
 obtain ⟨v, u, hm, r, rep⟩ := h.ex
 exact ⟨_, fun X hX tk => pe_glob (show X.env.scope.names.lookup x = some .globalImplicit by rw [hX.sc]; exact hg) (by rw [hX.mg]; exact hm) r hd, fun g env st T σ H Q hT R h => h _ H (R.pz fun Fz am ne nt _ _ => rep Fz am H)⟩
def kval (K : PySem.W.Frag) : Nat -> Value -> D -> Bool
 | 0, _, _ => false
 | _ + 1, .none, .non => true
 | _ + 1, .bool a, .bl b => a == b
 | _ + 1, .int i _, .int j => decide (i = j)
 | _ + 1, .str x _, .str y => decide (x = y)
 | n + 1, .ref a, .con .tup ds => match K.lookup a with
  | some ⟨.type "tuple", _, .seq its _, _⟩ => decide (its.size <= 1000) && decide (its.size = ds.length) && (its.toList.zip ds).all fun q => kval K n q.1 q.2
  | _ => false
 | n + 1, .ref a, .con .frl ds => match K.lookup a with
  | some ⟨.type "list", Option.none, .seq its _, _⟩ => decide (its.size <= 1000) && decide (its.size = ds.length) && (its.toList.zip ds).all fun q => kval K n q.1 q.2
  | _ => false
 | _, _, _ => false
section
variable {G : Sg} {Fz : Addr -> Prop} {am : List Addr} {H : Hp}
theorem kvals {n : Nat} (ih : ∀ u d, kval G.K n u d = true -> ∃ v, RelV v u ∧ ∀ Fz am H, Rep G Fz am H .z v d (fun _ => 0)) : ∀ (us : List Value) (ds : List D), us.length = ds.length -> ((us.zip ds).all fun q => kval G.K n q.1 q.2) = true ->
  ∃ vs, Vals vs us ∧ ∀ Fz am H, Reps G Fz am H (zs ds.length) vs ds (fun _ => 0)
 | [], [], _, _ => ⟨[], .nil, fun _ _ _ => .nil fun _ => rfl⟩
 | u :: us, d :: ds, hl, h => by
  rw [List.zip_cons_cons, List.all_cons, Bool.and_eq_true] at h
  obtain ⟨v, r, rep⟩ := ih u d h.1
  obtain ⟨vs, rs, reps⟩ := kvals ih us ds (by simpa using hl) h.2
  refine ⟨v :: vs, .cons r rs, fun Fz am H => ?_⟩
  rw [show zs (d :: ds).length = .z :: zs ds.length from List.replicate_succ]
  exact .cons (rep Fz am H) (reps Fz am H) fun q => rfl
theorem small1k {n : Nat} (h : n <= 1000) : n <= sizeLine := Nat.le_trans h (by decide)
theorem ZaH : ∀ (n : Nat) (u : Value) (d : D), kval G.K n u d = true -> ∃ v, RelV v u ∧ ∀ Fz am H, Rep G Fz am H .z v d (fun _ => 0)
 | 0, u, d, h => by cases h
 | n + 1, u, d, h => by
  have ih := ZaH n
  unfold kval at h
  split at h
  ·cases h
  ·exact ⟨.non, rfl, fun _ _ _ => .sc trivial fun _ => rfl⟩
  ·rename_i a b e1
   have := eq_of_beq h
   subst this
   exact ⟨.bl a, rfl, fun _ _ _ => .sc rfl fun _ => rfl⟩
  ·rename_i i t j e1
   have := of_decide_eq_true h
   subst this
   exact ⟨.int i, ⟨t, rfl⟩, fun _ _ _ => .sc rfl fun _ => rfl⟩
  ·rename_i i t j e1
   have := of_decide_eq_true h
   subst this
   exact ⟨.str i, ⟨t, rfl⟩, fun _ _ _ => .sc rfl fun _ => rfl⟩
  ·rename_i m a ds e1
   split at h
   ·rename_i dx its n0 sl el
    simp only [Bool.and_eq_true, decide_eq_true_eq] at h
    have em : n = m := Nat.succ.inj e1
    subst em
    obtain ⟨vs, rs, reps⟩ := kvals (ZaH _) its.toList ds (by simpa using h.1.2) h.2
    exact ⟨.ref a, rfl, fun Fz am H => .zz (k := .tup) (.inr ⟨_, its, n0, el, rfl, rfl, small1k h.1.1, rs⟩) (reps Fz am H) fun _ => rfl⟩
   ·cases h
  ·rename_i m a ds e1
   split at h
   ·rename_i its n0 sl el
    simp only [Bool.and_eq_true, decide_eq_true_eq] at h
    have em : n = m := Nat.succ.inj e1
    subst em
    obtain ⟨vs, rs, reps⟩ := kvals (ZaH _) its.toList ds (by simpa using h.1.2) h.2
    exact ⟨.ref a, rfl, fun Fz am H => .zz (k := .frl) (.inr (.inr ⟨_, its, n0, el, rfl, rfl, rfl, small1k h.1.1, rs⟩)) (reps Fz am H) fun _ => rfl⟩
   ·cases h
  ·cases h
end
def gval (K : PySem.W.Frag) (x : Str) (d : D) : Bool := match PySem.W.nsIn K mainGlobals x with
 | some (some u) => kval K 8 u d
 | _ => false
theorem gv_of {S : Sx} {h : Heap} (X : S.G.K.In h) (Gn : h.Ns mainGlobals S.mg) {x : Str} {d : D} (c : gval S.G.K x d = true) : GV S x d := by
 unfold gval at c
 split at c
 ·rename_i u e
  obtain ⟨v, r, rep⟩ := ZaH 8 u d c
  exact ⟨v, u, PySem.W.mg_of X Gn e, r, rep⟩
 ·cases c
def scV : D -> V
 | .bl b => .bl b
 | .int i => .int i
 | .str s => .str s
 | _ => .non
def isSc : D -> Bool
 | .non => true
 | .bl _ => true
 | .int _ => true
 | .str _ => true
 | _ => false
structure KnD (S : Sx) (x : Str) (st : Stmt) (dfl : List D) : Prop where
 ex : ∃ f fd, FunD S.G.K x x (defArgs st) (defBody st) (defScope st) (dfl.map scV) [] f fd ∧ S.mg x = some (.ref f)
end Hx
set_option maxHeartbeats 0
namespace Hx
open PySem PySem.Spec L2
theorem deV (i : Nat) {S : Sx} {x : Str} {p : Pos} (hN : S.N[i]? = some x := by rfl) (hv : Vis S.sc x := by exact .inl (by kernel_rfl)) (hd : (x == ("__debug__" : Str)) = false := by kernel_rfl) (hcd : (x == ("__classdict__" : Str)) = false := by kernel_rfl) : DE S (.Name x p) (Ze i) := ZG hN hv hd hcd
end Hx
namespace Hx
open PySem PySem.Spec L2
open PyProof.Rows hiding St
structure XCls (K : PySem.W.Frag) (C : Addr) : Prop where
 ex : ∃ (B newId initId : String) (bmB : List Value), ExcBaseFacts B newId initId bmB ∧ StoreFacts B bmB "object.__setattr__" "object" ∧ PySem.W.excInitIn K C bmB newId = true ∧ PySem.W.excOver K C bmB = true
 hd : PySem.W.hasDictIn K C = true
 sa : PySem.W.findIn K (.ref C) "__setattr__" = some (some (.builtin "object.__setattr__"))
 be : PySem.W.subIn K (.ref C) (.type "BaseException") = some true
 ty : PySem.W.typeIn K (.ref C) = some (.type "type")
 kp : PySem.W.keepIn K (.ref C) = true
abbrev baseV (B : String) : List Value := [.type B, .type "Exception", .type "BaseException", .type "object"]
def xbase (K : PySem.W.Frag) (C : Addr) (B n : String) : Bool := PySem.W.excInitIn K C (baseV B) n && PySem.W.excOver K C (baseV B)
def xclsB (K : PySem.W.Frag) (C : Addr) : Bool :=
 (xbase K C "ValueError" "ValueError.__new__" || (xbase K C "LookupError" "LookupError.__new__" || xbase K C "RuntimeError" "RuntimeError.__new__")) &&
 (PySem.W.hasDictIn K C && (decide (PySem.W.findIn K (.ref C) "__setattr__" = some (some (.builtin "object.__setattr__"))) && (decide (PySem.W.subIn K (.ref C) (.type "BaseException") = some true) && (decide (PySem.W.typeIn K (.ref C) = some (.type "type")) && PySem.W.keepIn K (.ref C)))))
theorem xcls_of {K : PySem.W.Frag} {C : Addr} (h : xclsB K C = true) : XCls K C := by
 unfold xclsB xbase at h
 simp only [Bool.and_eq_true, Bool.or_eq_true, decide_eq_true_eq] at h
 obtain ⟨h0, h1, h2, h3, h4, h5⟩ := h
 refine ⟨?_, h1, h2, h3, h4, h5⟩
 rcases h0 with ⟨a, b⟩ | ⟨a, b⟩ | ⟨a, b⟩
 ·exact ⟨_, _, _, _, F.excBase_ValueError, F.store_ValueError, a, b⟩
 ·exact ⟨_, _, _, _, F.excBase_LookupError, F.store_LookupError, a, b⟩
 ·exact ⟨_, _, _, _, F.excBase_RuntimeError, F.store_RuntimeError, a, b⟩
abbrev xrec (C t1 : Addr) (d : Option Addr) : Obj := { cls := .ref C, dict := d, data := .fields #[.ref t1, .none, .none, .none, .bool false, .none] }
section
variable {prog : Program} {w : World} {A : Around} {E : Value -> Shared -> Prop} {hp : Heap} {g : Array GenState} {dr : Drawn} {tk0 : Nat} {os : OsState}
open Builtin Builtin.ObjectAttr
theorem put_first {K : PySem.W.Frag} {C a t1 : Addr} {f : Str} {u : Value} {Q : Unit -> Shared -> Prop} (T : XCls K C) (X : K.In hp) (ho : hp.get? a = some (xrec C t1 none)) (ht : PySem.W.takerIn K C f = some none)
  (h : ∀ h' tk' dx, (∀ b o, b ≠ a -> hp.get? b = some o -> h'.get? b = some o) -> hp.objs.size <= dx -> dx ≠ a -> h'.get? a = some (xrec C t1 (some dx)) -> h'.Ns1 dx (fun y => if y = f then some u else none) -> Q () ⟨h', g, dr, tk', os⟩) :
  wpAny (model prog w) A (setAttr (.ref a) f u) Q E ⟨hp, g, dr, tk0, os⟩ := by
 obtain ⟨B, ni, ii, bmB, FB, SF, k1, k2⟩ := T.ex
 refine PySem.W.set_plain X (ox := xrec C t1 none) (od := none) ⟨ho, rfl, rfl, trivial⟩ T.sa ?_
 refine PySem.W.osa_openX (od := none) SF X ⟨ho, rfl, rfl, trivial⟩ k2 ht fun b => ?_
 obtain ⟨cd, hc, hd⟩ := PySem.W.any_some T.hd
 have hcls : PySem.W.Looks (model prog w) hp (classData C) cd := PySem.W.looks_clsIn X hc
 have nxs : a ≠ hp.objs.size := Nat.ne_of_lt (Heap.lt_size ho)
 obtain ⟨nm, bs, mro, ns, qn, hdd, sn, sb, ab, col, del⟩ := cd
 dsimp only at hd
 subst hd
 unfold storeInOwnDict ownDictForStores
 repeat (first | with_reducible refine PySem.HandSPX.store_in_new ?nd ?st | with_reducible refine wpAny_loadPart_at ho ?_ | with_reducible refine hcls.at ?_ | wp_step)
 case nd => exact ⟨_, #[], _, (Heap.get?_update_ne _ _ _ _ nxs.symm).trans (Heap.get?_push_at rfl rfl), rfl, fun e he => absurd he (by simp), fun _ => rfl⟩
 case st =>
  intro h' tk' hn' hs
  have ho1 : (hp.push { cls := .type "dict", data := .dict #[] }).get? a = some (xrec C t1 none) := Heap.get?_push_of_some _ ho
  refine h h' tk' hp.objs.size (fun b o hb hbo => ?_) (Nat.le_refl _) nxs.symm ?_ hn'
  ·exact (hs.2 b (Nat.ne_of_lt (Heap.lt_size hbo))).trans ((Heap.get?_update_ne _ _ _ _ hb).trans (Heap.get?_push_of_some _ hbo))
  ·exact (hs.2 a nxs).trans (Heap.get?_update_self _ ho1 rfl)
theorem put_next {K : PySem.W.Frag} {C a t1 dx : Addr} {f : Str} {u : Value} {Q : Unit -> Shared -> Prop} {m0 : Str -> Option Value} {nl : List Str} (T : XCls K C) (X : K.In hp) (ho : hp.get? a = some (xrec C t1 (some dx))) (hns : hp.Ns1 dx m0) (hw : Within m0 nl) (hz : nl.length <= 1000)
  (ht : PySem.W.takerIn K C f = some none) (h : ∀ h' tk', (∀ b o, b ≠ dx -> hp.get? b = some o -> h'.get? b = some o) -> h'.Ns1 dx (fun y => if y = f then some u else m0 y) -> Q () ⟨h', g, dr, tk', os⟩) :
  wpAny (model prog w) A (setAttr (.ref a) f u) Q E ⟨hp, g, dr, tk0, os⟩ := by
 obtain ⟨B, ni, ii, bmB, FB, SF, k1, k2⟩ := T.ex
 obtain ⟨oD, eD, pD, hoD, hdD, _⟩ := hns.count hw
 refine PySem.W.set_plain X (ox := xrec C t1 (some dx)) (od := some oD) ⟨ho, rfl, rfl, hoD⟩ T.sa ?_
 refine PySem.W.osa_openX (od := some oD) SF X ⟨ho, rfl, rfl, hoD⟩ k2 ht fun b => ?_
 obtain ⟨cd, hc, hd⟩ := PySem.W.any_some T.hd
 have hcls : PySem.W.Looks (model prog w) hp (classData C) cd := PySem.W.looks_clsIn X hc
 obtain ⟨nm, bs, mro, ns, qn, hdd, sn, sb, ab, col, del⟩ := cd
 dsimp only at hd
 subst hd
 unfold storeInOwnDict ownDictForStores
 repeat (first | with_reducible refine PySem.OEX.store_in_old hns hw hz ?st | with_reducible refine wpAny_loadPart_at ho ?_ | with_reducible refine hcls.at ?_ | wp_step)
 case st =>
  intro h' tk' hn' hs
  exact h h' tk' (fun b o hb hbo => (hs.2 b hb).trans hbo) hn'
end
section
variable {X : Cx} {pins : List (Addr × Obj)} {σ : St} {H : Hp} {s : Shared} {a C dx : Addr} {f : Str} {y : V} {u : Value} {fs : List (Str × V)} {Q : Unit -> Shared -> Prop} {E : Value -> Shared -> Prop} {A : Around}
theorem fld_new (T : XCls X.K C) (I : Inv X pins σ H s) (e : H a = some (exo a C none)) (ht : PySem.W.takerIn X.K C f = some none) (ry : RelV y u)
    (h : ∀ dx s', H dx = none -> dx ≠ a -> Inv X pins σ (upd (upd H dx (exd dx [(f, y)])) a (exo a C (some dx))) s' -> Q () s') : wpAny (model X.prog X.w) A (setAttr (.ref a) f u) Q E s := by
  obtain ⟨t1, ho⟩ := exo_at I.hok e
  obtain ⟨hp, g, d, t, os⟩ := s
  refine put_first T I.kIn ho ht fun h' tk' dx k dn dne hx hn => ?_
  have hnd : H dx = none := I.hok.fresh dn
  have lo : ∀ {b : Addr} {o : Obj}, hp.get? b = some o -> b ≠ dx := fun {b o} q => Nat.ne_of_lt (Nat.lt_of_lt_of_le (Heap.lt_size q) dn)
  have na : ∀ {b : Addr}, H b = none -> b ≠ a := fun {b} n z => by rw [z, e] at n; cases n
  have old : ∀ {b : Addr} {v : HO}, H b = some v -> v ≠ exo a C none -> upd (upd H dx (exd dx [(f, y)])) a (exo a C (some dx)) b = some v := fun {b v} q ne => by
    rw [upd_ne fun z => ne (by rw [z, e] at q; exact (Option.some.inj q).symm), upd_ne (ne_of_none q hnd)]; exact q
  have U : Un X.fs [] H (upd (upd H dx (exd dx [(f, y)])) a (exo a C (some dx))) hp h' :=
    ⟨fun b o q n _ _ => k b o (na n) q, fun b o q n _ _ => ⟨o.slots, k b o (na n) q⟩, fun b o q n _ => by rw [upd_ne (na n), upd_ne (lo q)]; exact n,
     fun b o q _ => if hb : b = a then ⟨_, hb ▸ hx⟩ else ⟨o, k b o hb q⟩, fun b xs q => old q fun z => exo_tup z.symm, fun b o v q => old q fun z => exo_frz z.symm, fun b ps q => ⟨#[], by rw [old q fun z => exo_tbl z.symm]; simp⟩⟩
  refine h dx _ hnd dne (I.un (t' := tk') U fun b o q => ?_)
  by_cases hb : b = a
  · subst hb; rw [upd_same] at q; cases q; exact exo_ok hx
  by_cases hd : b = dx
  · subst hd; rw [upd_ne hb, upd_same] at q; cases q; exact exd_ok hn (relO_put (fs := []) ry fun g => True.intro)
  rw [upd_ne hb, upd_ne hd] at q
  refine (I.hok b o q).stay (fun c v hc z => k c v (fun w => ?_) z) (fun c hc => old hc fun z => exo_own z.symm) fun c xs hc => old hc fun z => exo_tup z.symm
  rcases hc with hc | hc
  · exact hb (hc ▸ w)
  · rw [w, e] at hc; exact exo_own (Option.some.inj hc)
theorem fld_old (T : XCls X.K C) (I : Inv X pins σ H s) (e : H a = some (exo a C (some dx))) (ed : H dx = some (exd dx fs)) (hl : fs.length <= 900) (ht : PySem.W.takerIn X.K C f = some none) (ry : RelV y u)
  (h : ∀ s', Inv X pins σ (upd H dx (exd dx ((f, y) :: fs))) s' -> Q () s') : wpAny (model X.prog X.w) A (setAttr (.ref a) f u) Q E s := by
 obtain ⟨t1, ho⟩ := exo_at I.hok e
 obtain ⟨mA, hns, rel⟩ := exd_at I.hok ed
 have hw := within_of rel
 obtain ⟨hp, g, d, t, os⟩ := s
 refine put_next T I.kIn ho hns hw (by rw [List.length_map]; omega) ht fun h' tk' k hn => ?_
 have there : ∃ o, h'.get? dx = some o := by
  obtain ⟨o, _, _, e', _⟩ := hn
  exact ⟨o, e'⟩
 exact h _ (I.write (t' := tk') (x := dx) (e := dx) (o := exd dx ((f, y) :: fs)) (by rw [ed]; trivial) (.inl rfl) k there (exd_ok hn (relO_put ry rel)))
end
def tFld (K : PySem.W.Frag) (f : Str) (to te : TE) : TS := fun D σ H => te σ H fun y H1 => to σ H1 fun x H2 => ∃ a C : Addr, x = .ref a ∧ XCls K C ∧ PySem.W.takerIn K C f = some none ∧
 ((H2 a = some (exo a C none) ∧ ∀ dx, H2 dx = none -> dx ≠ a -> D.nx σ (upd (upd H2 dx (exd dx [(f, y)])) a (exo a C (some dx)))) ∨
  ∃ (dx : Addr) (fs : List (Str × V)), H2 a = some (exo a C (some dx)) ∧ H2 dx = some (exd dx fs) ∧ fs.length <= 900 ∧ D.nx σ (upd H2 dx (exd dx ((f, y) :: fs))))
section
variable {X : Cx} {o e : Expr} {es : List Expr} {to te : TE} {ta : TA} {f : Str} {p p' p1 p2 pos : Pos}
theorem ps_fld (ho : PE X o to) (he : PE X e te) (hs : swapsWith e (some (.Attribute o f p')) pos.line X.env = pure false := by rfl) : PS X (.Assign [.Attribute o f p'] e pos) (tFld X.K f to te) := by
 refine ⟨fun pins s σ H D I h => ?_⟩
 refine plainObj_wpAny_Assign_Attribute (thn (he.run pins s σ H _ I h) fun v s1 ⟨y, H1, I1, r1, q1⟩ => thn (ho.run pins s1 σ H1 _ I1 q1) fun u s2 ⟨x, H2, I2, r2, a, C, ex, T, ht, q⟩ => ?_) hs
 subst ex
 obtain rfl : u = Value.ref a := r2
 rcases q with ⟨ea, q⟩ | ⟨dx, fs, ea, ed, hl, q⟩
 ·exact fld_new T I2 ea ht r1 fun dx s' n ne J => ⟨σ, _, J, q dx n ne⟩
 ·exact fld_old T I2 ea ed hl ht r1 fun s' J => ⟨σ, _, J, q⟩
def mkX (C : Addr) (sp : Sp) (dvs : List V) (vs : List V) (H1 : Hp) (Q : XK) : Prop := vs.length <= 1000 ∧ ∀ a, H1 a = none -> sp (.ref a :: (vs ++ dvs)) (upd H1 a (exo a C none))
 (fun v H2 => v = .non ∧ ∃ (d : Addr) (fs : List (Str × V)), H2 a = some (exo a C (some d)) ∧ H2 d = some (exd d fs) ∧ H1 d = none ∧ Q (.ref C) (some d) (upd (del H2 a) d (.xd fs))) (fun _ _ _ => False)
theorem mk_run {CX : CXT} {C fI : Addr} {k : Nat} {fd : FuncData} {ps : List Str} {sp : Sp} {ds : List Value} {dvs : List V} {pins : List (Addr × Obj)} {σ : St} {s1 : Shared} {us : List Value} {vs : List V} {H1 : Hp} {Q : XK} (T : XCls X.K C)
  (iC : PySem.W.findIn X.K (.ref C) "__init__" = some (some (.ref fI))) (tI : PySem.W.typeIn X.K (.ref fI) = some (.type "function"))
  (F1 : FnOk X.prog X.w X.K X.mg X.base CX k fI fd ps sp) (hr : Room (k + 1) X.A) (hb : Binds X.K fd ps ds) (hd : Vals dvs ds) (hx : Passes CX X (fun _ _ _ => False)) (I1 : Inv X pins σ H1 s1) (r1 : Vals vs us) (q1 : mkX C sp dvs vs H1 Q) :
  wpAny (model X.prog X.w) X.A (call (.ref C) us) (MkP X pins σ Q) X.xe s1 := by
 obtain ⟨hz, q1⟩ := q1
 obtain ⟨B, ni, ii, bmB, FB, SF, k1, k2⟩ := T.ex
 obtain ⟨nm, N, qn, bs, bm, hdct, sn, sub, ab, col, dd, k0, k1', k2', k3, k5, hC, hT⟩ := PySem.W.excInit_of I1.kIn k1
 obtain ⟨hp, g, dr, tk, os⟩ := s1
 have hsz : hp.objs.size <= hp.objs.size + 1 := Nat.le_succ _
 have hn : H1 (hp.objs.size + 1) = none := I1.hok.fresh hsz
 have hq := q1 (hp.objs.size + 1) hn
 have kk : ∀ b o, hp.get? b = some o -> ((hp.push (PySem.W.kdv_tup us)).push (PySem.HandSPX.excO C hp.objs.size)).get? b = some o := fun b o e => Heap.get?_push_of_some _ (Heap.get?_push_of_some _ e)
 have hget : ((hp.push (PySem.W.kdv_tup us)).push (PySem.HandSPX.excO C hp.objs.size)).get? (hp.objs.size + 1) = some (PySem.HandSPX.excO C hp.objs.size) := by heap_get
 have I2 : Inv X pins σ (upd H1 (hp.objs.size + 1) (exo (hp.objs.size + 1) C none)) ⟨(hp.push (PySem.W.kdv_tup us)).push (PySem.HandSPX.excO C hp.objs.size), g, dr, tk, os⟩ :=
  Inv.laid (t' := tk) I1 kk hsz (exo_ok hget)
 have r2 : Vals (V.ref (hp.objs.size + 1) :: (vs ++ dvs)) (Value.ref (hp.objs.size + 1) :: (us ++ ds)) := .cons rfl (r1.append hd)
 have hl : (Value.ref (hp.objs.size + 1) :: us ++ ds).length = ps.length := (r2.length.symm.trans (F1.len _ _ _ _ hq))
 have hus : us.length <= sizeLine := by
  have := Paired.length r1
  have := sizeLine_eq
  omega
 refine wpAny_call (PySem.HandSPX.call_own FB hT hC (PySem.W.looks_findIn I1.kIn iC) (fun self => PySem.W.bind_fn I1.kIn self tI) hus ?_)
 refine codeAny_mono (F1.run _ X.stack _ _ ⟨Value.ref (hp.objs.size + 1) :: us, []⟩ (Value.ref (hp.objs.size + 1) :: (us ++ ds)) _ _ (fun _ _ _ => False) (hr.make C us []) (I2.env0.make C us []) (hb _ (Value.ref (hp.objs.size + 1) :: us) I2.kIn hl) r2 hq) fun r s' z => ?_
 cases r with
 | error er => exact hx pins σ _ _ er s' I2 z
 | ok fl =>
  cases fl with
  | ret u =>
   obtain ⟨v, H2, os2, bare2, un2, hok2, rv, ev, d, fs, ea, ed, hd1, q2⟩ := z
   subst ev
   obtain ⟨h2, g2, d2, t2, os'⟩ := s'
   exact ⟨rv, mk_end (raises_own T.be T.ty) I1 hsz kk un2 hok2 os2 bare2 ea ed hd1 q2⟩
  | next => exact z.elim
  | brk => exact z.elim
  | cont => exact z.elim
theorem pmk_x {CX : CXT} {x : Str} {C fI : Addr} {k : Nat} {fd : FuncData} {ps : List Str} {sp : Sp} {ds : List Value} {dvs : List V} (T : XCls X.K C) (iC : PySem.W.findIn X.K (.ref C) "__init__" = some (some (.ref fI))) (tI : PySem.W.typeIn X.K (.ref fI) = some (.type "function"))
  (F1 : FnOk X.prog X.w X.K X.mg X.base CX k fI fd ps sp) (hr : Room (k + 1) X.A) (hb : Binds X.K fd ps ds) (hd : Vals dvs ds) (hx : Passes CX X (fun _ _ _ => False)) (hg : Gl X x) (hm : X.mg x = some (.ref C)) (ha : PA X (e :: es) ta)
  (hdb : (x == ("__debug__" : Str)) = false) (he : starEach (e :: es) X.env = (false, eval e X.env) :: starEach es X.env) (hpl : (backTo pos (starEach es X.env)).any (·.1) = false) :
  PMk X (.Call (.Name x p) (e :: es) [] pos) (fun σ H Q => ta σ H fun vs H1 => mkX C sp dvs vs H1 Q) := by
 intro pins s σ H Q I h
 refine wpAny_Call_Name_kw (ld_glob I hg hm ?_ hdb)
 refine PySem.W.callWith_K (h₀ := X.base) I.ok.mod.kin T.kp (thn (ha.run pos pins s σ H _ I h) fun us s1 ⟨vs, H1, I1, r1, q1⟩ => ⟨I1.kIn, ?_⟩) he hpl
 exact mk_run T iC tI F1 hr hb hd hx I1 r1 q1
end
def CellO (c : Addr) (o : Obj) : HO := .ext fun h => h.get? c = some o
def pl (H : Hp) (cs : List (Addr × Obj)) : Hp := fun b => match cs.lookup b with
 | some o => some (CellO b o)
 | none => H b
def CsOk (h : Heap) (H : Hp) (cs : List (Addr × Obj)) : Prop := ∀ b o, cs.lookup b = some o -> h.get? b = some o ∧ H b = none
def Has (cs : List (Addr × Obj)) (H : Hp) : Prop := ∀ b o, cs.lookup b = some o -> H b = some (CellO b o)
section
variable {P : Program} {w : World} {H H' : Hp} {h h' B : Heap} {cs : List (Addr × Obj)} {fs : List Addr}
theorem pl_out {b : Addr} (e : cs.lookup b = none) : pl H cs b = H b := by unfold pl; rw [e]
theorem CsOk.out (k : CsOk h H cs) {b : Addr} {u : HO} (e : H b = some u) : cs.lookup b = none := by
 cases q : cs.lookup b with
 | none => rfl
 | some o => rw [(k b o q).2] at e; cases e
def Off (cs : List (Addr × Obj)) (H : Hp) : Prop := ∀ b o, cs.lookup b = some o -> H b = none
theorem CsOk.off {h : Heap} {H : Hp} (k : CsOk h H cs) : Off cs H := fun b o e => (k b o e).2
end
end Hx
namespace Hx
open PySem PySem.Spec L2 LamX
open PyProof.Rows hiding St
def CloO (f : Addr) (q : Str) (params : Arguments) (body : Expr) (scope : Scope) (cl : List (Str × Addr)) (c' : Addr) : HO :=
 .ext fun h => ∃ pm ctv, h.get? f = some (PySem.W.kla_obj "<lambda>" q params body scope cl pm c' ctv)
section
variable {X : Cx} {pins : List (Addr × Obj)} {σ : L2.St} {H : Hp} {s : Shared}
end
structure CloS (N ps : List Str) (scope : Scope) : Prop where
 kind : scope.kind = .function
 co : scope.isCoroutine = false
 gen : scope.isGenerator = false
 nd : N.Nodup
 cl0 : ∀ y ∈ scope.names, y.2 ≠ .cell
 par : ∀ y ∈ scope.names, y.2 = .local -> y.1 ∈ ps
 loc : ∀ y ∈ ps, scope.names.lookup y = some .local
 one : ∀ y ∈ scope.names, scope.names.lookup y.1 = some y.2
section
variable {P : Program} {w : World} {K : PySem.W.Frag} {mg : Str -> Option Value} {base : Heap} {N ps : List Str} {q : Str} {params : Arguments} {body : Expr} {scope : Scope} {f c' : Addr} {cl : List (Str × Addr)} {cs : List (Addr × Obj)} {k : Nat} {σ : L2.St}
end
@[reducible] def Sg.wl (G : Sg) (l : Nat -> Option LamD) : Sg := { G with lam := l }
section
variable {G : Sg} {g : Gd} {env : Env} {st st' : Zd} {T T' : List Tm} {σ : St} {H H' : Hp} {Fz : Addr -> Prop} {am : List Addr} {B B' : (Addr -> Prop) -> List Addr -> Prop}
mutual
theorem Rep.wl {f : Fr} {v : V} {d : D} {n : Fp} (l : Nat -> Option LamD) (r : Rep G Fz am H f v d n) : Rep (G.wl l) Fz am H f v d n :=
 match r with
 | .sc h1 h2 => .sc h1 h2
 | .rf h1 h2 => .rf h1 h2
 | .zz h1 h2 h3 => .zz h1 (Reps.wl l h2) h3
 | .tp h1 h2 => .tp h1 (Reps.wl l h2)
 | .cc h1 h2 h3 => .cc h1 (Reps.wl l h2) h3
 | .oo h1 h2 h3 => .oo h1 (Reps.wl l h2) h3
theorem Reps.wl {f : List Fr} {v : List V} {d : List D} {n : Fp} (l : Nat -> Option LamD) (r : Reps G Fz am H f v d n) : Reps (G.wl l) Fz am H f v d n :=
 match r with
 | .nil h => .nil h
 | .cons h1 h2 h3 => .cons (Rep.wl l h1) (Reps.wl l h2) h3
end
theorem EnvR.wl {n : Fp} (l : Nat -> Option LamD) (r : EnvR G Fz am H env σ n) : EnvR (G.wl l) Fz am H env σ n := by
 induction r with
 | nil h => exact .nil h
 | som h1 h2 h3 ih => exact .som (h1.wl l) ih h3
 | non h ih => exact .non ih
theorem TmR.wl {ne n : Fp} (l : Nat -> Option LamD) (r : TmR G Fz am H ne T n) : TmR (G.wl l) Fz am H ne T n := by
 induction r with
 | nil h => exact .nil h
 | own h1 h2 h3 ih => exact .own (h1.wl l) ih h3
 | bor h1 h2 h3 ih => exact .bor (h1.wl l) h2 ih
theorem StoR.wl {n : Fp} (l : Nat -> Option LamD) (r : StoR G Fz am H st n) : StoR (G.wl l) Fz am H st n := Reps.wl l r
theorem Rel0.wl {t : Fp} {l : Nat -> Option LamD} (r : Rel0 G g Fz am H t) (h : Home (G.wl l) g) : Rel0 (G.wl l) g Fz am H t :=
 ⟨r.n1, r.nz, r.th, r.zt, r.k, r.f, r.z0, r.z1, r.a, r.tb, h, r.kt⟩
theorem Home.off (h : Home G g) : Home G.off g := ⟨h.fz, h.a, fun j l e => by cases e⟩
theorem RlB.wl {l : Nat -> Option LamD} (r : RlB G g env st T σ H B) (h : Home (G.wl l) g) (hB : ∀ Fz am, B Fz am -> B' Fz am) : RlB (G.wl l) g env st T σ H B' := by
 obtain ⟨Fz, am, ne, nt, ns, h1, h2, h3, h4, h5⟩ := r
 exact ⟨Fz, am, ne, nt, ns, h1.wl l, h2.wl l, h3.wl l, h4.wl h, hB _ _ h5⟩
theorem ExcB.wl {c : Nat} {ds : List D} {cls : Value} {dx : Option Addr} (l : Nat -> Option LamD) (h : ExcB G H c ds cls dx Fz am) : ExcB (G.wl l) H c ds cls dx Fz am := by
 obtain ⟨hx, p, fs, vs, h1, h2, h3, h4, h5⟩ := h
 exact ⟨hx, p, fs, vs, h1, h2, h3, h4.wl l, h5⟩
theorem RlB.off (r : RlB G g env st T σ H B) (hB : ∀ Fz am, B Fz am -> B' Fz am) : RlB G.off g env st T σ H B' := by
 obtain ⟨Fz, am, ne, nt, ns, h1, h2, h3, h4, h5⟩ := r
 exact RlB.wl ⟨Fz, am, ne, nt, ns, h1, h2, h3, h4, h5⟩ h4.hm.off hB
theorem Rl.home (R : RlB G g env st T σ H B) : Home G g := by
 obtain ⟨Fz, am, ne, nt, ns, h1, h2, h3, h4, h5⟩ := R
 exact h4.hm
end
abbrev LamR := Nat -> Option (Addr × Nat × Fn)
def LamD.o (l : LamD) : Addr × Nat × Fn := (l.f, l.n, l.r)
def Sg.lr (G : Sg) : LamR := fun j => (G.lam j).map LamD.o
section
variable {X : Cx} {G : Sg} {x : Str} {p pos : Pos} {e : Expr} {es : List Expr} {ta : TA} {W : WX} {i : Nat}
end
section
variable {S : Sx} {e a b : Expr} {es : List Expr} {da db : Den} {das : DenL} {pos p : Pos}
theorem EnvR.at_ {G : Sg} {Fz : Addr -> Prop} {am : List Addr} {H : Hp} {env : Env} {σ : St} {n : Fp} (r : EnvR G Fz am H env σ n) {i : Nat} {f : Addr} {j : Nat} (e : env[i]? = some (some (.z, .fnv f j))) : σ[i]? = some (some (.ref f)) := by
 obtain ⟨v, m, e1, e2, e3⟩ := r.get e
 cases e2 with
 | sc h _ =>
  have : v = .ref f := by cases v <;> exact h
  rw [<- this]; exact e1
end
section
variable {G : Sg} {g : Gd} {env : Env} {st st' : Zd} {T T' : List Tm} {σ : St} {H H' : Hp} {Fz : Addr -> Prop} {am : List Addr} {tot : Fp} {B B' : (Addr -> Prop) -> List Addr -> Prop} {cs : List (Addr × Obj)}
theorem Has.out (k : Has cs H) {b : Addr} {o : HO} (e : H b = some o) (h : isExt o = false) : cs.lookup b = none := by
 cases q : cs.lookup b with
 | none => rfl
 | some o' => rw [k b o' q] at e; cases e; cases h
theorem Off.out (k : Off cs H) {b : Addr} {o : HO} (e : H b = some o) : cs.lookup b = none := by
 cases q : cs.lookup b with
 | none => rfl
 | some o' => rw [k b o' q] at e; cases e
theorem Off.same (k : Off cs H) : Same H (pl H cs) := fun b o e => by rw [pl_out (k.out e)]; exact e
end
@[reducible] def Sx.cl (S : Sx) (N : List Str) (sc : Scope) : Sx := ⟨S.P, S.w, S.mg, S.base, S.G.off, N, sc, 59, false, lams0 fun _ => rfl, none, fun _ => false⟩
section
variable {S : Sx} {ps cap : List Str} {params : Arguments} {body : Expr} {scope : Scope} {db : Den} {q : Str} {f c' : Addr} {cl : List (Str × Addr)} {cs : List (Addr × Obj)} {cv : List V} {cd : List D}
end
structure CapS (S : Sx) (scope : Scope) (cap : List Str) (ci : List Nat) : Prop where
 free : ∀ y ∈ scope.names, y.2 = .free -> y.1 ∈ cap ∧ (S.sc.names.lookup y.1 = some .cell ∨ S.sc.names.lookup y.1 = some .free)
 cp : ∀ y ∈ cap, scope.names.lookup y = some .free
 sl : ∀ (k i : Nat) (y : Str), cap[k]? = some y -> ci[k]? = some i -> S.N[i]? = some y
section
variable {S : Sx} {X : Cx} {k : Nat} {f : Addr} {fd : FuncData} {ps : List Str} {sp : Sp} {dvs : List V} {ds : List Value} {W : WX} {pins : List (Addr × Obj)} {σ : St} {H : Hp} {s : Shared} {Q : VK} {scope : Scope} {cap : List Str} {ci : List Nat}
variable {T : List (Addr × Str)} {x q : Str} {params : Arguments} {body a : Expr} {lpos p pos : Pos} {c P : Addr} {ta : TE}
end
section
variable {G : Sg} {g : Gd} {env : Env} {st st' : Zd} {T T' : List Tm} {σ : St} {H H' : Hp} {Fz : Addr -> Prop} {am : List Addr} {tot : Fp} {B B' : (Addr -> Prop) -> List Addr -> Prop} {cs : List (Addr × Obj)}
def KeepN (H H' : Hp) : Prop := ∀ b o, H b = some o -> Vf o = false -> H' b = some o
theorem KeepN.ext (k : KeepN H H') (zt : ∀ p, Fz p -> ∃ o, H p = some o ∧ VX o = true) : Ext Fz am H Fz am H' where
 fz := fun _ h => h
 cl := fun _ _ h => h
 rd := fun p u z h => by
  obtain ⟨o, e, po⟩ := zt p z
  rcases h with h | ⟨w, h⟩
  ·rw [h] at e; cases e
   exact .inl (k _ _ h (pl_nt po))
  ·exact .inr ⟨w, k _ _ h rfl⟩
 st := fun p u z h _ => by
  obtain ⟨o, e, po⟩ := zt p z
  rw [h] at e; cases e
  exact k _ _ h (pl_nt po)
 tp := fun p xs h => h.imp (fun e => k _ _ e rfl) fun ⟨o, e⟩ => ⟨o, k _ _ e rfl⟩
end
structure GoodL (S : Sx) (x : Str) (n : Nat) (F : LamR -> Fn) (k : Nat) : Prop where
 ex : ∃ f fd ps, (∀ l, LamsOk S.P S.w S.mg S.base (S.G.wl l) -> FnOk S.P S.w S.G.K S.mg S.base (L2.CX S.P S.w) k f fd ps (SpF (S.G.wl l) n (F (S.G.wl l).lr))) ∧ S.mg x = some (.ref f) ∧ PySem.W.keepIn S.G.K (.ref f) = true ∧ L2.Binds S.G.K fd ps []
section
variable {S : Sx} {ps cap : List Str} {ci : List Nat} {params : Arguments} {body : Expr} {scope : Scope} {db : Den} {n k : Nat} {F : LamR -> Fn}
end
@[reducible] def Sx.lamS (S : Sx) (l : Nat -> Option LamD) (ok : LamsOk S.P S.w S.mg S.base (S.G.wl l)) : Sx := ⟨S.P, S.w, S.mg, S.base, S.G.wl l, S.N, S.sc, S.k, S.fnA, ok, none, fun _ => false⟩
structure LamT (S : Sx) (ps cap : List Str) (ci : List Nat) (params : Arguments) (scope : Scope) (body : Expr) : Prop where
 cs : CloS (ps ++ cap) ps scope
 cp : CapS S scope cap ci
 ci : ci.length = cap.length
 dfl : ∀ env, defaultsOf params env = ([], [])
 bind : ∀ (q : Str) (cl : List (Str × Addr)) (pm cv ctv : Value) (us : List Value), us.length = ps.length -> bindArgs (PySem.W.kla_fn "<lambda>" q params body scope cl pm cv ctv) ⟨us, []⟩ = pure (ps.zip us)
section
variable {S : Sx} {ps cap : List Str} {ci : List Nat} {params : Arguments} {body a : Expr} {scope : Scope} {db da : Den} {n k : Nat} {F : LamR -> Fn} {x q : Str} {c P : Addr} {p lpos pos : Pos}
end
structure Mk0 (S : Sx) (x : Str) (c P : Addr) : Prop where
 code : ∀ f o fd, S.mg x = some (.ref f) -> S.G.K.lookup f = some o -> o.data = .func fd -> fd.code = .ref c
 tab : TabB S.base S.mg c P
 mem : (P, x ++ ".<locals>.<lambda>") ∈ S.G.T
 one : ∀ p ∈ S.G.T, p.1 = P -> p.2 = x ++ ".<locals>.<lambda>"
end Hx
namespace Hx
open PySem PySem.Spec L2
open PyProof.Rows hiding St
inductive TestX (X : Cx) : Expr -> List Value -> Prop
 | one {x : Str} {c : Value} {p : Pos} : Names X x c -> TestX X (.Name x p) [c]
 | two {x1 x2 : Str} {c1 c2 : Value} {p1 p2 p : Pos} {k : Nat} : Names X x1 c1 -> Names X x2 c2 -> TestX X (.Tuple [.Name x1 p1, .Name x2 p2] k p) [c1, c2]
 | three {x1 x2 x3 : Str} {c1 c2 c3 : Value} {p1 p2 p3 p : Pos} {k : Nat} : Names X x1 c1 -> Names X x2 c2 -> Names X x3 c3 -> TestX X (.Tuple [.Name x1 p1, .Name x2 p2, .Name x3 p3] k p) [c1, c2, c3]
abbrev ClauseX := List Value × Nat × (Addr -> Value -> Option Addr -> TS)
inductive ClsX (X : Cx) : List ExceptHandler -> List ClauseX -> Prop
 | nil : ClsX X [] []
 | cons {t : Expr} {cs : List Value} {i : Nat} {n : Str} {ts : Addr -> Value -> Option Addr -> TS} {b₀ : Stmt} {suite : List Stmt} {pos : Pos} {hds : List ExceptHandler} {l : List ClauseX} (ht : TestX X t cs) (hi : X.N[i]? = some n) (hl : X.env.kindOf n = some .local)
   (hsu : ∀ (a : Addr) (oe : Obj) (cls : Value) (d : Option Addr) (pn : List (Addr × Obj)), Zc cls d oe -> (∃ vs, oe.data = .fields vs) -> PSs (X.suite a ((a, oe) :: pn)) (b₀ :: suite) (ts a cls d)) (r : ClsX X hds l) :
   ClsX X (.ExceptHandler (some t) (some n) (b₀ :: suite) pos :: hds) ((cs, i, ts) :: l)
section
variable {X : Cx} {body : List Stmt} {h₀ : ExceptHandler} {hds : List ExceptHandler} {l : List ClauseX} {pos : Pos} {tb : WX -> TS} {Wout : WX}
end
abbrev HdD := List Nat × Nat × List Str
structure XF (K : PySem.W.Frag) (G : Sg) (up : Nat -> List Nat) (fld : Nat -> List Str) : Prop where
 exm : ∀ c ∈ G.xs, ∀ d ∈ G.xs, PySem.W.exmOne K (.ref (G.cls c)) (.ref (G.cls d)) = some ((up c).contains d)
 xf : ∀ c ∈ G.xs, XfC K (G.cls c)
 no : ∀ c ∈ G.xs, ∀ f ∈ fld c, PySem.W.findIn K (.ref (G.cls c)) f = some none
 fl : ∀ c ∈ G.xs, G.fld c = fld c
section
variable {X : Cx} {a : Addr} {oe : Obj} {cls : Value} {d : Option Addr} {pn : List (Addr × Obj)} {i : Nat} {n f : Str} {p pos : Pos}
inductive FldsX (n : Str) : List Expr -> List Str -> Prop
 | nil : FldsX n [] []
 | cons {p pos : Pos} {f : Str} {es : List Expr} {fs : List Str} : FldsX n es fs -> FldsX n (.Attribute (.Name n p) f pos :: es) (f :: fs)
end
section
variable {G : Sg} {K : PySem.W.Frag} {up : Nat -> List Nat} {fld : Nat -> List Str}
end
inductive HdsT (S : Sx) : List ExceptHandler -> List HdD -> Prop
 | nil : HdsT S [] []
 | cons {t : Expr} {cl : List Nat} {i : Nat} {n : Str} {es : List Expr} {fs : List Str} {x1 : Nat} {p1 p2 pos : Pos} {hds : List ExceptHandler} {l : List HdD} (ht : ∀ X, Stx S X -> TestX X t (cl.map fun d => Value.ref (S.G.cls d))) (hcl : ∀ d ∈ cl, d ∈ S.G.xs) (hN : S.N[i]? = some n) (hv : S.sc.names.lookup n = some .local)
   (hdb : (n == ("__debug__" : Str)) = false) (hcd : (n == ("__classdict__" : Str)) = false) (he : FldsX n es fs) (hb : ∀ (env : PySem.Env), env.scope = S.sc -> ∀ f ∈ fs, ∀ p, attributeBase (.Name n p) f env (eval (.Name n p) env) = eval (.Name n p) env) (r : HdsT S hds l) :
   HdsT S (.ExceptHandler (some t) (some n) [.Return (some (.Tuple es x1 p1)) p2] pos :: hds) ((cl, i, fs) :: l)
section
variable {S : Sx} {body : List Stmt} {h₀ : ExceptHandler} {hds : List ExceptHandler} {l : List HdD} {pos : Pos} {db : DenS} {up : Nat -> List Nat} {fld : Nat -> List Str}
end
def tRows (K : PySem.W.Frag) : List (Str × TE) -> TS
 | [] => tNext
 | (f, te) :: r => tSeq (tFld K f (tVar 0) te) (tRows K r)
inductive RowsX (X : Cx) : List Stmt -> List (Str × TE) -> Prop
 | nil : RowsX X [] []
 | cons {x f : Str} {p1 p2 pos : Pos} {e : Expr} {te : TE} {ss : List Stmt} {r : List (Str × TE)} (ho : PE X (.Name x p1) (tVar 0)) (he : PE X e te) (hs : swapsWith e (some (.Attribute (.Name x p1) f p2)) pos.line X.env = pure false) (hr : RowsX X ss r) :
   RowsX X (.Assign [.Attribute (.Name x p1) f p2] e pos :: ss) ((f, te) :: r)
theorem rows_pss {X : Cx} {ss : List Stmt} {r : List (Str × TE)} (h : RowsX X ss r) : PSs X ss (tRows X.K r) := by
 induction h with
 | nil => exact pss_nil
 | cons ho he hs hr ih => exact pss_cons (ps_fld ho he hs) ih
theorem upd_id {H : Hp} {a : Addr} {o : HO} (e : H a = some o) : upd H a o = H := by
 funext b
 by_cases h : b = a
 ·subst h; rw [upd_same, e]
 ·rw [upd_ne h]
theorem upd_upd {H : Hp} {a : Addr} {o u : HO} : upd (upd H a o) a u = upd H a u := by
 funext b
 by_cases h : b = a
 ·subst h; rw [upd_same, upd_same]
 ·rw [upd_ne h, upd_ne h, upd_ne h]
theorem rows_run {K : PySem.W.Frag} {C a dx : Addr} (T : XCls K C) {σ : St} (hσ : σ[0]? = some (some (.ref a))) {D : Ends} (hne : dx ≠ a) : ∀ {r : List (Str × TE)} {vs : List V} {fs : List (Str × V)} {H : Hp}, vs.length = r.length -> (∀ (i : Nat) f te v, r[i]? = some (f, te) -> vs[i]? = some v -> ∀ H Q, Q v H -> te σ H Q) ->
  (∀ x ∈ r, PySem.W.takerIn K C x.1 = some none) -> H a = some (exo a C (some dx)) -> H dx = some (exd dx fs) -> fs.length + r.length <= 900 -> D.nx σ (upd H dx (exd dx (((r.map (·.1)).zip vs).reverse ++ fs))) -> tRows K r D σ H
 | [], vs, fs, H, hl, hv, ht, ha, hd, hn, h => by
  have e : upd H dx (exd dx fs) = H := upd_id hd
  have h : D.nx σ (upd H dx (exd dx fs)) := h
  rw [e] at h
  exact h
 | (f, te) :: r, v :: vs, fs, H, hl, hv, ht, ha, hd, hn, h => by
  have hn : fs.length + (r.length + 1) <= 900 := hn
  show tFld K f (tVar 0) te _ σ H
  refine hv 0 f te v rfl rfl _ _ ⟨.ref a, hσ, a, C, rfl, T, ht _ List.mem_cons_self, .inr ⟨dx, fs, ha, hd, by omega, ?_⟩⟩
  refine rows_run T hσ hne (r := r) (vs := vs) (fs := (f, v) :: fs) (by simpa using hl) (fun i g te' w e1 e2 => hv (i + 1) g te' w (by simpa using e1) (by simpa using e2)) (fun x hx => ht x (List.mem_cons_of_mem _ hx)) (by rw [upd_ne hne.symm]; exact ha) upd_same (by simp; omega) ?_
  rw [upd_upd]
  have e : ((r.map (·.1)).zip vs).reverse ++ (f, v) :: fs = ((((f, te) :: r).map (·.1)).zip (v :: vs)).reverse ++ fs := by simp
  rw [e]
  exact h
def spX (C : Addr) (n : Nat) (fl : List Str) (val : List V -> List V) : Sp := fun vs H Q _ => ∃ a rest, vs = .ref a :: rest ∧ rest.length = n ∧ H a = some (exo a C none) ∧
 ∀ dx, H dx = none -> dx ≠ a -> Q .non (upd (upd (upd H dx (exd dx [])) a (exo a C (some dx))) dx (exd dx (fl.zip (val rest)).reverse))
theorem rows_first {K : PySem.W.Frag} {C a : Addr} (T : XCls K C) {σ : St} (hσ : σ[0]? = some (some (.ref a))) {D : Ends} {f : Str} {te : TE} {r : List (Str × TE)} {v : V} {vs : List V} {H : Hp} (hl : vs.length = r.length) (hv : ∀ (i : Nat) g te' w, ((f, te) :: r)[i]? = some (g, te') -> (v :: vs)[i]? = some w -> ∀ H Q, Q w H -> te' σ H Q)
  (ht : ∀ x ∈ (f, te) :: r, PySem.W.takerIn K C x.1 = some none) (ha : H a = some (exo a C none)) (hn : r.length <= 800)
  (h : ∀ dx, H dx = none -> dx ≠ a -> D.nx σ (upd (upd (upd H dx (exd dx [])) a (exo a C (some dx))) dx (exd dx ((((f, te) :: r).map (·.1)).zip (v :: vs)).reverse))) : tRows K ((f, te) :: r) D σ H := by
 show tFld K f (tVar 0) te _ σ H
 refine hv 0 f te v rfl rfl _ _ ⟨.ref a, hσ, a, C, rfl, T, ht _ List.mem_cons_self, .inl ⟨ha, fun dx n ne => ?_⟩⟩
 refine rows_run T hσ (dx := dx) ne (r := r) (vs := vs) (fs := [(f, v)]) hl (fun i g te' w e1 e2 => hv (i + 1) g te' w (by simpa using e1) (by simpa using e2)) (fun x hx => ht x (List.mem_cons_of_mem _ hx)) upd_same (by rw [upd_ne ne, upd_same]) (by simp; omega) ?_
 have e1 : upd (upd (upd H dx (exd dx [(f, v)])) a (exo a C (some dx))) dx (exd dx (((r.map (·.1)).zip vs).reverse ++ [(f, v)])) = upd (upd (upd H dx (exd dx [])) a (exo a C (some dx))) dx (exd dx ((((f, te) :: r).map (·.1)).zip (v :: vs)).reverse) := by
  have e2 : ((r.map (·.1)).zip vs).reverse ++ [(f, v)] = ((((f, te) :: r).map (·.1)).zip (v :: vs)).reverse := by simp
  rw [e2]
  funext b
  by_cases h1 : b = dx
  ·subst h1; rw [upd_same, upd_same]
  ·rw [upd_ne h1, upd_ne h1]
   by_cases h2 : b = a
   ·subst h2; rw [upd_same, upd_same]
   ·rw [upd_ne h2, upd_ne h2, upd_ne h1, upd_ne h1]
 rw [e1]
 exact h dx n ne
structure XR (S : Sx) (x : Str) (c n : Nat) (w : Str) : Prop where
 mem : c ∈ S.G.xs
 mg : S.mg x = some (.ref (S.G.cls c))
 cl : XCls S.G.K (S.G.cls c)
 nd : (S.G.fld c).Nodup
 len : (S.G.fld c).length = n + 1
 ini : ∃ fI fd ps, PySem.W.findIn S.G.K (.ref (S.G.cls c)) "__init__" = some (some (.ref fI)) ∧ PySem.W.typeIn S.G.K (.ref fI) = some (.type "function") ∧
  FnOk S.P S.w S.G.K S.mg S.base (L2.CX S.P S.w) 1 fI fd ps (spX (S.G.cls c) n (S.G.fld c) (fun r => .str w :: r)) ∧ L2.Binds S.G.K fd ps []
theorem zip_take : ∀ {fl : List Str} {vs : List V}, (fl.zip vs).map (·.1) = fl.take vs.length
 | [], vs => by simp
 | a :: fl, [] => by simp
 | a :: fl, b :: vs => by simp [zip_take (fl := fl) (vs := vs)]
theorem zip_rev_look {fl : List Str} {vs : List V} (nd : fl.Nodup) {i : Nat} {x : Str} {v : V} (h1 : fl[i]? = some x) (h2 : vs[i]? = some v) : ((fl.zip vs).reverse).lookup x = some v := by
 have uni : ∀ {l : List (Str × V)}, (l.map (·.1)).Nodup -> (x, v) ∈ l -> l.lookup x = some v := by
  intro l
  induction l with
  | nil => intro _ h; cases h
  | cons a l ih =>
   intro nd h
   obtain ⟨y, u⟩ := a
   rw [List.lookup_cons]
   rcases List.mem_cons.mp h with e | h
   ·cases e; rw [beq_self_eq_true]
   ·have nd' := List.nodup_cons.mp (show (y :: l.map (·.1)).Nodup from nd)
    have ne : (x == y) = false := by
     cases e : x == y with
     | false => rfl
     | true => exact absurd (eq_of_beq e ▸ List.mem_map.mpr ⟨(x, v), h, rfl⟩) nd'.1
    rw [ne]
    exact ih nd'.2 h
 refine uni ?_ (List.mem_reverse.mpr (List.mem_of_getElem? (i := i) (by rw [List.getElem?_zip_eq_some]; exact ⟨h1, h2⟩)))
 rw [List.map_reverse]
 refine (List.reverse_perm _).nodup_iff.mpr (List.Nodup.sublist ?_ nd)
 rw [zip_take]
 exact List.take_sublist _ _
@[simp] def Zbh (c : Nat) (w : Str) (as : DenL) : DenS := fun env st => match as env st with
 | .ok ts st1 => bif keeps ts && ts.length.ble 900 then .exc c (.str w :: ts.map fun t => t.2.2) env st1 else .stuck
 | .exc c' ds st1 => .exc c' ds env st1
 | .stuck => .stuck
section
variable {S : Sx} {x w : Str} {c n : Nat} {g : Gd} {env : Env} {st : Zd} {T : List Tm} {σ : St} {H : Hp} {W : WX} {vs : List V} {ts : List (Fr × Bool × D)}
theorem raise_post (R : XR S x c n w) (hn : ts.length = n) (hT : Zy T) (R0 : Rl S.G g env st (mkT vs ts ++ T) σ H) (hl : vs.length = ts.length) (hk : keeps ts = true) (hs : ts.length.ble 900 = true) {D : Ends}
  (h : Uh S.G g T W D (.exc c (.str w :: ts.map fun t => t.2.2) env st)) : mkX (S.G.cls c) (spX (S.G.cls c) n (S.G.fld c) (fun r => .str w :: r)) [] vs H fun cls d H' => W cls d σ H' := by
 refine ⟨by have := Nat.le_of_ble_eq_true hs; omega, fun a na => ?_⟩
 rw [List.append_nil]
 refine ⟨a, vs, rfl, by rw [hl, hn], upd_same, fun dx ndx hne => ⟨rfl, dx, ((S.G.fld c).zip (.str w :: vs)).reverse, by rw [upd_ne hne.symm, upd_same], upd_same, ?_, ?_⟩⟩
 ·rw [upd_ne hne] at ndx; exact ndx
 ·rw [upd_ne hne] at ndx
  have same : Same H (upd (del (upd (upd (upd (upd H a (exo a (S.G.cls c) none)) dx (exd dx [])) a (exo a (S.G.cls c) (some dx))) dx (exd dx ((S.G.fld c).zip (.str w :: vs)).reverse)) a) dx (.xd ((S.G.fld c).zip (.str w :: vs)).reverse)) := fun b o e => by
   have n1 : b ≠ dx := ne_of_none e ndx
   have n2 : b ≠ a := ne_of_none e na
   rw [upd_ne n1, del_ne n2, upd_ne n1, upd_ne n2, upd_ne n1, upd_ne n2]
   exact e
  obtain ⟨Fz, am, ne, nt, ns, h1, h2, h3, h4, h5⟩ := Rl.frzL R0 hl hk
  have E : Ext Fz am H Fz am (upd (del (upd (upd (upd (upd H a (exo a (S.G.cls c) none)) dx (exd dx [])) a (exo a (S.G.cls c) (some dx))) dx (exd dx ((S.G.fld c).zip (.str w :: vs)).reverse)) a) dx (.xd ((S.G.fld c).zip (.str w :: vs)).reverse)) := Ext.same same fun _ z => z
  refine h σ _ _ _ ⟨Fz, am, ne, fun _ => 0, ns, h1.ext E fun p o _ e => same _ _ e, .nil fun _ => rfl, Reps.ext E h3 fun p o _ e => same _ _ e, (h4.grow same (m := fun _ => 0) (fun p hp => absurd hp (Nat.lt_irrefl 0)) (t' := fun p => ne p + nt p + ns p) fun q => by simp).less fun q => by show ne q + 0 + ns q <= _; omega, R.mem, dx, _, .str w :: vs, rfl, rfl, upd_same, ?_, fun i y e1 v e2 => zip_rev_look R.nd e1 e2⟩
  show Reps S.G Fz am _ (zs ((ts.map fun t => t.2.2).length + 1)) _ _ _
  rw [show zs ((ts.map fun t => t.2.2).length + 1) = .z :: zs (ts.map fun t => t.2.2).length from List.replicate_succ, List.length_map]
  exact .cons (.sc (show Scal S.G (.str w) (.str w) from rfl) fun _ => rfl) (Reps.ext E h5 fun p o hp => absurd hp (Nat.lt_irrefl 0)) (n1 := fun _ => 0) (n2 := fun _ => 0) fun _ => rfl
end
section
variable {S : Sx} {x w : Str} {c n : Nat} {e : Expr} {es : List Expr} {das : DenL} {p pos pos2 : Pos}
theorem ZaI (R : XR S x c n w) (hk : 2 <= S.k) (hg : S.sc.names.lookup x = some .globalImplicit) (hdb : (x == ("__debug__" : Str)) = false) (ha : DA S (e :: es) das) (hp : Zx (e :: es) = true) (hlen : ∀ env st ts st1, das env st = .ok ts st1 -> ts.length = n) :
  DS S (.Raise (some (.Call (.Name x p) (e :: es) [] pos)) none pos2) (Zbh c w das) := fun W => by
 obtain ⟨fI, fd, ps, i1, i2, i3, i4⟩ := R.ini
 obtain ⟨ta, pa, qa⟩ := ha W
 have h1 := Zp hp
 refine ⟨_, fun X hX tk => ps_raise hX.calm tk (pmk_x (CX := L2.CX X.prog X.w) (k := 1) (sp := spX (S.G.cls c) n (S.G.fld c) (fun r => .str w :: r)) (by rw [hX.K]; exact R.cl) (by rw [hX.K]; exact i1) (by rw [hX.K]; exact i2) (by rw [hX.pr, hX.w, hX.mg, hX.base, hX.K]; exact i3) (hX.room.mono hk) (by rw [hX.K]; exact i4) .nil
  (passes_call tk fun _ _ _ _ z => z.elim) (show X.env.scope.names.lookup x = some .globalImplicit by rw [hX.sc]; exact hg) (by rw [hX.mg]; exact R.mg) (pa X hX tk) hdb (Wg (h1 e List.mem_cons_self)) (noStar fun y hy => h1 y (List.mem_cons_of_mem _ hy))), fun g env st T σ H D hT R0 h => ?_⟩
 refine qa g env st T σ H _ hT R0 ?_
 unfold Zbh at h
 cases e1 : das env st with
 | stuck => rw [e1] at h; exact h.elim
 | exc c' ds st1 => rw [e1] at h; exact h σ
 | ok ts st1 =>
  rw [e1] at h
  dsimp only at h
  cases hc : (keeps ts && ts.length.ble 900) with
  | false => rw [hc] at h; exact h.elim
  | true =>
   rw [hc] at h
   rw [Bool.and_eq_true] at hc
   exact fun vs H1 hl R1 => raise_post R (hlen env st ts st1 e1) hT R1 hl hc.1 hc.2 h
end
end Hx
namespace Hx
open PySem PySem.Spec L2
abbrev P2 (x y : Int) : D := .con .tup [.int x, .int y]
theorem eqD_int {i j : Int} : eqD (.int i) (.int j) = some (i == j) := by
 simp [eqD, D.py, SeqAt.shaped, PyData.canLay0, PyData.depth, PyData.eqv]
theorem eqD_bl {i j : Bool} : eqD (.bl i) (.bl j) = some (i == j) := by
 simp [eqD, D.py, SeqAt.shaped, PyData.canLay0, PyData.depth, PyData.eqv]
def Sm (n : Nat) (i : Int) : Prop := i.natAbs < 2 ^ n
theorem Sm.mono {n m : Nat} {i : Int} (h : Sm n i) (k : n <= m) : Sm m i := Nat.lt_of_lt_of_le h (Nat.pow_le_pow_right (by decide) k)
theorem Sm.mul {n m : Nat} {i j : Int} (h : Sm n i) (k : Sm m j) : Sm (n + m) (i * j) := by
 unfold Sm at *
 rw [Int.natAbs_mul, Nat.pow_add]
 exact Nat.mul_lt_mul'' h k
theorem Sm.add {n m : Nat} {i j : Int} (h : Sm n i) (k : Sm m j) : Sm (max n m + 1) (i + j) := by
 have h' := h.mono (Nat.le_max_left n m)
 have k' := k.mono (Nat.le_max_right n m)
 unfold Sm at *
 rw [Nat.pow_succ]
 omega
theorem Sm.sub {n m : Nat} {i j : Int} (h : Sm n i) (k : Sm m j) : Sm (max n m + 1) (i - j) := by
 have h' := h.mono (Nat.le_max_left n m)
 have k' := k.mono (Nat.le_max_right n m)
 unfold Sm at *
 rw [Nat.pow_succ]
 omega
theorem Sm.lg {n : Nat} {i : Int} (h : Sm n i) : i.natAbs.log2 <= n := Nat.lt_succ_iff.mp (PySem.Flt.log2_lt_of (Nat.succ_pos n) (h.mono (Nat.le_succ n)))
theorem Sm.ok {n m : Nat} {i j : Int} (h : Sm n i) (k : Sm m j) (a : n <= 400000) (b : m <= 400000) : Ud i j = true := by
 have x := h.lg
 have y := k.lg
 simp only [Ud, decide_eq_true_eq]
 omega
theorem divOk_of {n : Nat} {j : Int} (h : Sm n j) (h0 : j ≠ 0) (k : n <= 9000) (p : 0 < n) : divOk j = true := by
 have x : j.natAbs.log2 < n := PySem.Flt.log2_lt_of p h
 simp only [divOk, Bool.and_eq_true, decide_eq_true_eq]
 exact ⟨h0, by omega⟩
structure Bag (k : Nat) (st : Zd) (c : Nat) : Prop where
 ex : ∃ (xs : List Int) (i h s n : Int), st[c]? = some (.c .z, .con .lst [.con .lst (xs.map D.int), .int i, .int h, .int s, .int n]) ∧ 0 <= i ∧ 0 <= h ∧ 0 <= s ∧ s < 2147483647 ∧ 0 <= n ∧ n <= k
theorem Bag.mono {k j : Nat} {st : Zd} {c : Nat} (b : Bag k st c) (h : k <= j) : Bag j st c := by
 obtain ⟨xs, i, h', s, n, e, a1, a2, a3, a4, a5, a6⟩ := b.ex
 exact ⟨xs, i, h', s, n, e, a1, a2, a3, a4, a5, by omega⟩
structure Fro1 (c : Nat) (st st' : Zd) : Prop where
 len : st'.length = st.length
 at_ : ∀ j, j ≠ c -> st'[j]? = st[j]?
theorem Fro1.refl {c : Nat} {st : Zd} : Fro1 c st st := ⟨rfl, fun _ _ => rfl⟩
theorem Fro1.trans {c : Nat} {s1 s2 s3 : Zd} (a : Fro1 c s1 s2) (b : Fro1 c s2 s3) : Fro1 c s1 s3 := ⟨b.len.trans a.len, fun j h => (b.at_ j h).trans (a.at_ j h)⟩
theorem Fro1.set {c : Nat} {st : Zd} {x : Fr × D} : Fro1 c st (st.set c x) := ⟨List.length_set, fun j h => by rw [List.getElem?_set_ne (Ne.symm h)]⟩
theorem lk_bag {st : Zd} {c : Nat} {ds : List D} (e : st[c]? = some (.c .z, .con .lst ds)) : lk st (.ref c) = .con .lst ds := by
 simp [lk, e, Fr.flat, Fr.isz]
theorem get_set {st : Zd} {c : Nat} {x y : Fr × D} (e : st[c]? = some x) : (st.set c y)[c]? = some y := by
 have h := (List.getElem?_eq_some_iff.mp e).1
 rw [List.getElem?_set_self h]
theorem atI_map {xs : List Int} {i : Int} (h0 : 0 <= i) (h : i < xs.length) : ∃ x, atI (xs.map D.int) i = some (.int x) := by
 have hl : i.toNat < xs.length := by omega
 refine ⟨xs[i.toNat], ?_⟩
 simp [atI, ixN, h0, h, hl]
section
variable {i : Nat} {a b c e o : Den} {as : DenL} {t u : DenB} {s r : DenS} {env : Env} {st : Zd} {d d' : D} {ds : List D} {op op' : Op} {j k : Int}
@[simp] theorem eqD_int' {i j : Int} : eqD (.int i) (.int j) = some (decide (i = j)) := by rw [eqD_int]; congr 1
@[simp] theorem eqD_bl' {i j : Bool} : eqD (.bl i) (.bl j) = some (decide (i = j)) := by rw [eqD_bl]; cases i <;> cases j <;> rfl
@[simp] theorem isz_z : Fr.isz .z = true := rfl
@[simp] theorem isz_c {f : Fr} : Fr.isz (.c f) = false := rfl
@[simp] theorem isz_t {fs : List Fr} : Fr.isz (.t fs) = false := rfl
@[simp] theorem flat_z : Fr.flat .z = true := rfl
@[simp] theorem flat_cz : Fr.flat (.c .z) = true := rfl
@[simp] theorem seq_tup : Kd.seq .tup = true := rfl
@[simp] theorem seq_lst : Kd.seq .lst = true := rfl
@[simp] theorem seq_frl : Kd.seq .frl = true := rfl
@[simp] theorem sq_lst : Kd.sq .lst = true := rfl
@[simp] theorem sq_frl : Kd.sq .frl = true := rfl
@[simp] theorem ble_dec {x y : Nat} : Nat.ble x y = decide (x <= y) := by rw [Bool.eq_iff_iff]; simp [Nat.ble_eq]
@[simp] theorem lk_int : lk st (.int j) = .int j := rfl
@[simp] theorem lk_bl {x : Bool} : lk st (.bl x) = .bl x := rfl
@[simp] theorem lk_non : lk st .non = .non := rfl
@[simp] theorem lk_str {x : Str} : lk st (.str x) = .str x := rfl
@[simp] theorem lk_con {x : Kd} : lk st (.con x ds) = .con x ds := rfl
theorem lk_set {c : Nat} {f : Fr} (hl : c < st.length) (hf : f.flat = true) : lk (st.set c (f, d)) (.ref c) = d := by
 have e : (st.set c (f, d))[c]? = some (f, d) := List.getElem?_set_self hl
 unfold lk
 dsimp only
 rw [e]
 show (bif f.flat then d else .ref c) = d
 rw [hf]
 rfl
@[simp] theorem lk_setc {c : Nat} (hl : c < st.length) : lk (st.set c (.c .z, d)) (.ref c) = d := lk_set hl rfl
@[simp] theorem at0 {x : D} {xs : List D} : atI (x :: xs) 0 = some x := by simp [atI, ixN]
@[simp] theorem at1 {x y : D} {xs : List D} : atI (x :: y :: xs) 1 = some y := by
 have : (1 : Int) < (xs.length : Int) + 1 + 1 := by omega
 simp [atI, ixN, this]
@[simp] theorem at2 {x y z : D} {xs : List D} : atI (x :: y :: z :: xs) 2 = some z := by
 have : (2 : Int) < (xs.length : Int) + 1 + 1 + 1 := by omega
 simp [atI, ixN, this]
@[simp] theorem at3 {x y z w : D} {xs : List D} : atI (x :: y :: z :: w :: xs) 3 = some w := by
 have : (3 : Int) < (xs.length : Int) + 1 + 1 + 1 + 1 := by omega
 simp [atI, ixN, this]
@[simp] theorem at4 {x y z w v : D} {xs : List D} : atI (x :: y :: z :: w :: v :: xs) 4 = some v := by
 have : (4 : Int) < (xs.length : Int) + 1 + 1 + 1 + 1 + 1 := by omega
 simp [atI, ixN, this]
end
end Hx
namespace Hx
open PySem PySem.Spec L2
open PyProof.Rows hiding St
@[reducible] def S0 (P : Program) (w : World) (K : PySem.W.Frag) (mg : Str -> Option Value) (base : Heap) : Sx :=
 ⟨P, w, mg, base, ⟨K, fun _ => 0, fun _ => [], [], fun _ => none, []⟩, [], ⟨.function, [], false, false, []⟩, 0, true, lams0 fun _ => rfl, none, fun _ => false⟩
theorem WK {fa : List He.Fa} {fn : List He.DefD} {P : Program} {w : World} {K : PySem.W.Frag} {h : Heap} {mg : Str -> Option Value} {base : Heap} (c : He.SaysD fa fn K) (X : K.In h) (Gn : h.Ns mainGlobals mg) (i j : Nat) {x : Str} {st : Stmt} {d : He.DefD}
  (hd : fn[i]? = some d) (hf : fa[j]? = some (.glo x)) (e : d = ⟨(x, none), x, x, defArgs st, defBody st, defScope st, [], []⟩ := by rfl) : Kn (S0 P w K mg base) x st := by
 subst e
 obtain ⟨fd, F⟩ := c.def_ i hd
 exact ⟨_, fd, F, He.glo_ok X Gn (c.fact j hf)⟩
def ZaM (cs : List (Str × D)) (K : PySem.W.Frag) : Bool := cs.all fun q => gval K q.1 q.2
theorem Zcl {cs : List (Str × D)} {K : PySem.W.Frag} (h : ZaM cs K = true) (i : Nat) {x : Str} {d : D} (e : cs[i]? = some (x, d)) : gval K x d = true :=
 List.all_eq_true.mp h (x, d) (List.mem_of_getElem? e)
def dvOf : D -> He.Dv
 | .bl b => .bl b
 | .int i => .int i
 | .str s => .str s
 | _ => .non
theorem dv_v (K : PySem.W.Frag) : ∀ ds : List D, (ds.map dvOf).map (He.Dv.v K) = ds.map scV
 | [] => rfl
 | d :: ds => by
  rw [List.map_cons, List.map_cons, List.map_cons, dv_v K ds]
  cases d <;> rfl
def XNL : List Str := ["ShadeError", "Missing", "Crowded", "BadPlace", "BadLight", "BadSift", "BadBlock", "BadPiece", "BadMenu", "BadChoice", "BadSetting", "BadSort", "BadDeed", "BadView", "BadWish", "BadText", "Nought", "Unknown", "NoThing", "NoLook", "NothingLeft", "Full", "Looked", "TooMany", "House", "Stand", "Desk", "Planner", "Wisher"]
def XNM (c : Nat) : Str := XNL.getD c ""
@[simp] def XUP : Nat -> List Nat
 | 0 => [0] | 1 => [1] | 2 => [2] | 3 => [3, 0] | 4 => [4, 0] | 5 => [5, 0] | 6 => [6, 0] | 7 => [7, 0] | 8 => [8, 0] | 9 => [9, 0] | 10 => [10, 0] | 11 => [11, 0] | 12 => [12, 0] | 13 => [13, 0] | 14 => [14, 0] | 15 => [15, 0] | 16 => [16, 0] | 17 => [17, 0]
 | 18 => [18, 1] | 19 => [19, 1] | 20 => [20, 1] | 21 => [21, 2] | 22 => [22, 2] | 23 => [23, 2] | _ => []
@[simp] def XFL : Nat -> List Str
 | 15 => ["word", "row"] | 18 => ["word", "kind", "number"] | 19 => ["word", "number"] | 22 => ["word", "number"] | 24 => ["now", "past", "gone", "held"] | 25 => ["floor", "menus", "notes", "came"] | _ => ["word"]
def WA : Nat -> List Str -> List (Str × TE)
 | _, [] => []
 | k, f :: r => (f, tVar k) :: WA (k + 1) r
theorem ZbX : ∀ {fl : List Str} {k i : Nat} {f : Str} {te : TE}, (WA k fl)[i]? = some (f, te) -> te = tVar (k + i) ∧ fl[i]? = some f
 | g :: fl, k, 0, f, te, e => by
  have e : some (g, tVar k) = some (f, te) := e
  cases e
  exact ⟨rfl, rfl⟩
 | g :: fl, k, i + 1, f, te, e => by
  have e : (WA (k + 1) fl)[i]? = some (f, te) := by simpa [WA] using e
  obtain ⟨h1, h2⟩ := ZbX e
  exact ⟨by rw [h1]; congr 1; omega, by simpa using h2⟩
theorem Uv : ∀ {fl : List Str} {k : Nat}, (WA k fl).length = fl.length
 | [], _ => rfl
 | f :: fl, k => congrArg Nat.succ Uv
theorem Uy : ∀ {fl : List Str} {k : Nat}, (WA k fl).map (·.1) = fl
 | [], _ => rfl
 | f :: fl, k => congrArg (f :: ·) Uy
def xsB (xs rs : List Nat) (K : PySem.W.Frag) : Bool :=
 (xs.all fun c => xfB K (He.ga K (XNM c)) && (((XFL c).all fun f => decide (PySem.W.findIn K (.ref (He.ga K (XNM c))) f = some none)) && (xs.all fun d => decide (PySem.W.exmOne K (.ref (He.ga K (XNM c))) (.ref (He.ga K (XNM d))) = some ((XUP c).contains d))))) &&
 rs.all fun c => xs.contains c && (xclsB K (He.ga K (XNM c)) && (XFL c).all fun f => decide (PySem.W.takerIn K (He.ga K (XNM c)) f = some none))
def tabsB (own : List Str) (K : PySem.W.Frag) : Bool := own.all (fun x => (PySem.W.tabIn K x).isSome) &&
 (own.all fun x => match PySem.W.tabIn K x with
  | some (_, P) => (K.lookup P).isNone && own.all fun y => match PySem.W.tabIn K y with
   | some (_, P') => (x == y) || !(P == P')
   | none => false
  | none => false)
def tabsOf (own : List Str) (K : PySem.W.Frag) : List (Addr × Str) := own.filterMap fun x => (PySem.W.tabIn K x).map fun q => (q.2, x ++ ".<locals>.<lambda>")
@[reducible] def S1 (P : Program) (w : World) (K : PySem.W.Frag) (mg : Str -> Option Value) (base : Heap) (xs : List Nat) (own : List Str) : Sx :=
 ⟨P, w, mg, base, ⟨K, fun c => He.ga K (XNM c), XFL, tabsOf own K, fun _ => none, xs⟩, [], ⟨.function, [], false, false, []⟩, 0, true, lams0 fun _ => rfl, none, fun _ => false⟩
theorem xf_of {P : Program} {w : World} {K : PySem.W.Frag} {mg : Str -> Option Value} {base : Heap} {xs rs : List Nat} {own : List Str} (h : xsB xs rs K = true) : XF K (S1 P w K mg base xs own).G XUP XFL := by
 unfold xsB at h
 rw [Bool.and_eq_true] at h
 have h1 := List.all_eq_true.mp h.1
 refine ⟨fun c hc d hd => ?_, fun c hc => ?_, fun c hc f hf => ?_, fun c hc => rfl⟩
 all_goals
  have z := h1 c hc
  simp only [Bool.and_eq_true, List.all_eq_true, decide_eq_true_eq] at z
 ·exact z.2.2 d hd
 ·exact xfB_ok z.1
 ·exact z.2.1 f hf
section
variable {fa : List He.Fa} {fn : List He.DefD} {P : Program} {w : World} {K : PySem.W.Frag} {h : Heap} {mg : Str -> Option Value} {base : Heap} {xs rs : List Nat} {own : List Str}
theorem WJ {x : Str} {st : Stmt} (k : Kn (S0 P w K mg base) x st) : Kn (S1 P w K mg base xs own) x st := ⟨k.ex⟩
end
def noTab (q : Addr -> Option Obj) (l : List Addr) : List Addr := l.filter fun a => match q a with
 | some o => (match o.data with
  | .fields vs => !(vs.size == 0)
  | _ => true)
 | none => true
theorem tabs_at {own : List Str} {K : PySem.W.Frag} (h : tabsB own K = true) {x : Str} (hx : x ∈ own) : ∃ c P, PySem.W.tabIn K x = some (c, P) ∧ K.lookup P = none ∧ ∀ y ∈ own, ∀ c' P', PySem.W.tabIn K y = some (c', P') -> P' = P -> y = x := by
 unfold tabsB at h
 rw [Bool.and_eq_true] at h
 have h1 := List.all_eq_true.mp h.1 x hx
 have h2 := List.all_eq_true.mp h.2 x hx
 obtain ⟨⟨c, P⟩, e⟩ := Option.isSome_iff_exists.mp h1
 rw [e] at h2
 simp only [Bool.and_eq_true, List.all_eq_true] at h2
 refine ⟨c, P, e, by simpa using h2.1, fun y hy c' P' e' ep => ?_⟩
 have z := h2.2 y hy
 rw [e'] at z
 subst ep
 exact (by simpa using z : x = y).symm
theorem law_endT {l : PySem.W.OpenLaw} {n k : Nat} {q : Program} {loose : List Str} {XP : (Str -> Option Value) -> Heap -> Prop} {YP : World -> Heap -> Prop} {d : DefRec} {x : Str} (own : List Str)
  (hn : l.most = some n) (hn2 : n <= sizeLine) (hdf : d.params.defaults = []) (hr : Room k callerA) (hown : (own.all fun x => ((recsOf q).find? fun e => e.name == x).isSome) = true)
  (F : ∀ (w : World) (mg : Str -> Option Value) (fa : Addr) (h : Heap), YP w h -> h.Ns mainGlobals mg -> mg d.name = some (.ref fa) -> ∃ (K : PySem.W.Frag) (fd : FuncData) (sp : Sp), K.In h ∧ tabsB own K = true ∧
   (∀ (s : Shared) (u : Value), BindsTo s fd ⟨[u], []⟩ [(x, u)]) ∧ (∀ (H : Hp) (a : Addr) (ns : List Int), ns.length <= n -> LamX.Tabs (tabsOf own K) H -> SqL K H a (ns.map V.int) -> sp [.ref a] H (fun v _ => v = .bl true) fun _ _ _ => False) ∧
   ∀ base : Heap, K.In base -> base.Ns mainGlobals mg -> (∀ y c P, y ∈ own -> PySem.W.tabIn K y = some (c, P) -> LamX.TabB base mg c P) -> FnOk l.prog w K mg base (L2.CX l.prog w) k fa fd [x] sp) :
  PySem.W.WalkO q loose XP YP l.row.toRowW d [] (fun f vs => PySem.call f vs) := by
 refine Att.attach_callB hn hdf fun w s0 s1 mg mb fa o pm cd doc a vs ns Gw Y ho hd hcd hmg hobj hints hlen hbits hg => ?_
 obtain ⟨K, fd, sp, KX, ht, hb, hsp, hF⟩ := F w mg fa _ Y Gw.T.g hmg
 have tab : ∀ p ∈ own.filterMap (PySem.W.tabIn K), PySem.W.CodeHd s1.heap p.1 p.2 ∧ s1.heap.get? p.2 = some { cls := .none, data := .fields #[] } ∧ K.lookup p.2 = none := fun p hp => by
  obtain ⟨y, hy, e⟩ := List.mem_filterMap.mp hp
  obtain ⟨r, er⟩ := Option.isSome_iff_exists.mp (List.all_eq_true.mp hown y hy)
  obtain ⟨c, P, e2, hnone, _⟩ := tabs_at ht hy
  rw [e] at e2
  cases e2
  obtain ⟨z1, z2⟩ := PySem.W.tab_of Gw.T KX er e
  exact ⟨z1, z2, hnone⟩
 refine LamX.law_callTs (CX := L2.CX l.prog w) (sp := sp) (cs := own.filterMap (PySem.W.tabIn K)) KX Gw.T.g Gw.T.b Gw.T.builtins Gw.T.nolimit hg (fun p hp => (tab p hp).2.1) (fun p hp => (tab p hp).2.2) (fun p hp => (tab p hp).1) Gw.T.bmain hobj hints (Nat.le_trans hlen hn2) hr ?_ hb ?_ ?_
 ·exact fun base h1 h2 h3 => hF base h1 h2 fun y c P hy e => h3 (c, P) (List.mem_filterMap.mpr ⟨y, hy, e⟩)
 ·refine fun H hH hS => hsp H a ns hlen (fun p hp => ?_) hS
  obtain ⟨y, hy, e⟩ := List.mem_filterMap.mp hp
  obtain ⟨⟨c, P⟩, e1, e2⟩ := Option.map_eq_some_iff.mp e
  cases e2
  exact LamX.TabS.nil (hH (c, P) (List.mem_filterMap.mpr ⟨y, hy, e1⟩))
 ·intro H e s' z
  obtain ⟨_, _, _, _, _, _, _, _, _, _, _, _, z⟩ := z
  exact z
@[reducible] def Sx.c0 (S : Sx) : Sx := S.cl [] ⟨.function, [], false, false, []⟩
section
variable {S : Sx} {x w : Str} {n k c : Nat} {F : Fn} {dd : List D} {FL : LamR -> Fn} {N N' : List Str} {sc sc' : Scope} {j : Nat} {st : Stmt} {d : D} {ds : List D} {l : Nat -> Option LamD}
theorem Good.cl (h : Good S.c0 x n F dd k) : Good (S.cl N sc) x n F dd k := ⟨h.ex⟩
theorem GoodL.at (h : GoodL S x n FL k) : GoodL (S.at N sc j) x n FL k := ⟨h.ex⟩
theorem GoodL.blk (h : GoodL S x n FL k) : GoodL (S.blk sc) x n FL k := ⟨h.ex⟩
theorem XR.at (h : XR S x c n w) : XR (S.at N sc j) x c n w := ⟨h.mem, h.mg, h.cl, h.nd, h.len, h.ini⟩
theorem XR.c0 (h : XR S x c n w) : XR S.c0 x c n w := ⟨h.mem, h.mg, h.cl, h.nd, h.len, h.ini⟩
theorem XR.lamS {ok} (h : XR S x c n w) : XR (S.lamS l ok) x c n w := ⟨h.mem, h.mg, h.cl, h.nd, h.len, h.ini⟩
theorem Kn.c0 (h : Kn S x st) : Kn S.c0 x st := ⟨h.ex⟩
theorem Kn.lamS {ok} (h : Kn S x st) : Kn (S.lamS l ok) x st := ⟨h.ex⟩
theorem KnD.c0 (h : KnD S x st ds) : KnD S.c0 x st ds := ⟨h.ex⟩
theorem KnD.lamS {ok} (h : KnD S x st ds) : KnD (S.lamS l ok) x st ds := ⟨h.ex⟩
theorem GV.c0 (h : GV S x d) : GV S.c0 x d := by
 obtain ⟨v, u, h1, h2, h3⟩ := h.ex
 exact ⟨v, u, h1, h2, fun Fz am H => (h3 Fz am H).wl _⟩
theorem GV.lamS {ok} (h : GV S x d) : GV (S.lamS l ok) x d := by
 obtain ⟨v, u, h1, h2, h3⟩ := h.ex
 exact ⟨v, u, h1, h2, fun Fz am H => (h3 Fz am H).wl _⟩
theorem GV.cl (h : GV S.c0 x d) : GV (S.cl N sc) x d := ⟨h.ex⟩
theorem XF.lamS {K : PySem.W.Frag} {G : Sg} {up fld} (h : XF K G up fld) : XF K (G.wl l) up fld := ⟨h.exm, h.xf, h.no, h.fl⟩
theorem Mk0.lamS {ok} {a P : Addr} (h : Mk0 S x a P) : Mk0 (S.lamS l ok) x a P := ⟨h.code, h.tab, h.mem, h.one⟩
theorem Mk0.c0 {a P : Addr} (h : Mk0 S x a P) : Mk0 S.c0 x a P := ⟨h.code, h.tab, h.mem, h.one⟩
end
end Hx
namespace HT
open PySem PySem.Spec PyProof.Rows L2
section
variable {prog : Program} {w : World} {A : Around} {E : Value -> Shared -> Prop} {s : Shared}
end
end HT
namespace Hx
open PySem PySem.Spec L2
open PyProof.Rows hiding St
section
variable {X : Cx}
end
section
variable {S : Sx} {e a b c tg : Expr} {es : List Expr} {da db dc de di : Den} {das : DenL} {pos p : Pos} {ss : List Stmt} {tr : DenS}
end
end Hx
namespace HxZ
open PySem
open PySem.Sem (wp)
section
variable {prog : Program} {w : World} {A : Around} {E : Value -> Shared -> Prop} {s : Shared} {z TI TO i1 i2 : Addr} {fp1 fp2 : List Addr} {n1 n2 i : Nat} {P1 P2 : Nat -> Value -> Prop} {St1 St2 : Nat -> Heap -> Prop} {a1 a2 : Value} {b : Bool}
end
end HxZ
namespace PySem.F
end PySem.F
namespace HxZ
open PySem PySem.Spec L2 PyProof.Rows
set_option maxHeartbeats 2000000 in
section
variable {prog : Program} {w : World} {A : Around} {E : Value -> Shared -> Prop} {s : Shared}
end
inductive Src
 | lst (a : Addr) | tup (a : Addr) | str (x : Str)
def Src.ok (K : PySem.W.Frag) (n : Nat) : Src -> Hp -> Prop
 | .lst a, H => ∃ xs, SqL K H a xs ∧ xs.length = n
 | .tup a, H => ∃ xs, SqT K H a xs ∧ xs.length = n
 | .str x, _ => x.cps.size = n
def Src.un : Src -> List Addr
 | .lst a => [a]
 | .tup a => [a]
 | .str _ => []
def Src.st (t : Tok) : Src -> Addr -> Nat -> Heap -> Prop
 | .lst a, it, i, h => h.IsListIter it a i
 | .tup a, it, i, h => h.IsTupleIter it a i
 | .str x, it, i, h => h.IsStrIter it (strIterType x) x t i
def Src.v : Src -> V
 | .lst a => .ref a
 | .tup a => .ref a
 | .str x => .str x
section
variable {X : Cx} {pins : List (Addr × Obj)} {σ : L2.St} {H : Hp} {s : Shared}
end
end HxZ
namespace HxZ
open PySem PySem.Spec L2 PyProof.Rows
section
variable {X : Cx} {pins : List (Addr × Obj)} {σ : L2.St} {H : Hp} {s : Shared}
theorem ne' {a b : Nat} (h : a < b ∨ b < a) : a ≠ b := by omega
end
section
variable {X : Cx}
def tLk (td : TE) : TE := fun σ H Q => td σ H fun x H1 => ∃ d kvs, x = .ref d ∧ ((H1 d = some (.dK kvs) ∧ ∀ o, Q x (upd H1 d (.frz o (.dK kvs)))) ∨ ∃ o, H1 d = some (.frz o (.dK kvs)) ∧ Q x H1)
theorem pe_lk {e : Expr} {td : TE} (h : PE X e td) : PE X e (tLk td) := by
 refine ⟨fun pins s σ H Q I hw => ?_⟩
 refine thn (h.run pins s σ H _ I hw) fun v s1 ⟨x, H1, I1, r, d, kvs, ex, q⟩ => ?_
 rcases q with ⟨hd, q⟩ | ⟨o, hd, q⟩
 ·obtain ⟨od, I2⟩ := I1.lock hd trivial
  exact ⟨x, _, I2, r, q od⟩
 ·exact ⟨x, _, I1, r, q⟩
end
end HxZ
namespace Hx
open PySem PySem.Spec L2
open PyProof.Rows hiding St
def chars (x : Str) : List D := x.cps.toList.map fun c => D.str ⟨#[c]⟩
section
variable {G : Sg} {g : Gd} {env : Env} {st st' : Zd} {T T' : List Tm} {σ : St} {H H' : Hp} {Fz : Addr -> Prop} {am : List Addr}
theorem Shr.lst {p : Addr} {vs : List V} (h : Shr G Fz H p .lst vs) : SqL G.K H p vs := by
 obtain ⟨_, o, e1, e2⟩ := h
 have e2 : o = .lst vs := e2
 subst e2
 exact SqL.of e1
theorem Shr.frl {p : Addr} {vs : List V} (h : Shr G Fz H p .frl vs) : SqL G.K H p vs := by
 rcases h with ⟨_, h⟩ | (h | ⟨_, h⟩) | h
 ·exact .inl h
 ·cases h
 ·cases h
 ·exact .inr h
theorem Rl.two {v1 v2 : V} {d1 d2 : D} (R : Rl G g env st (⟨v1, .z, d1, false⟩ :: ⟨v2, .z, d2, false⟩ :: T) σ H) {P : Prop} (h : ∀ Fz am, Rep G Fz am H .z v1 d1 (fun _ => 0) -> Rep G Fz am H .z v2 d2 (fun _ => 0) -> P) : P := by
 obtain ⟨Fz, am, ne, nt, ns, h1, h2, h3, h4, h5⟩ := R
 cases h2 with
 | own k1 k2 k3 =>
  cases k2 with
  | own j1 j2 j3 => exact h Fz am (k1.fp k1.z0) (j1.fp j1.z0)
theorem Rl.oneD {v : V} {d : D} (R : Rl G g env st (⟨v, .z, d, false⟩ :: T) σ H) {P : Prop} (h : ∀ Fz am, Rep G Fz am H .z v d (fun _ => 0) -> P) : P := by
 obtain ⟨Fz, am, ne, nt, ns, h1, h2, h3, h4, h5⟩ := R
 cases h2 with
 | own k1 k2 k3 => exact h Fz am (k1.fp k1.z0)
theorem sqRep {k : Kd} {ds : List D} {a : Addr} {n : Fp} (hk : k.seq = true) (nt : k ≠ .tup) (r : Rep G Fz am H .z (.ref a) (.con k ds) n) : ∃ vs, SqL G.K H a vs ∧ Reps G Fz am H (zs ds.length) vs ds (fun _ => 0) := by
 cases r with
 | sc s _ => exact s.elim
 | zz x b c =>
  cases k with
  | lst => exact ⟨_, x.lst, b.toz⟩
  | frl => exact ⟨_, x.frl, b.toz⟩
  | tup => exact absurd rfl nt
  | _ => cases hk
end
section
variable {S : Sx} {e a b tg : Expr} {es elts : List Expr} {da db : Den} {das : DenL} {pos p tpos : Pos} {kk : Nat}
theorem frlOpen {G : Sg} {g : Gd} {env : Env} {st : Zd} {T : List Tm} {σ : St} {H : Hp} {k : Kd} {v : V} {ds : List D} (hk : k.seq = true) (nt : k ≠ .tup) (R : Rl G g env st (⟨v, .z, .con k ds, false⟩ :: T) σ H) : ∃ a vs, v = .ref a ∧ SqL G.K H a vs ∧ vs.length = ds.length :=
 R.oneD (P := _) fun Fz am r => by
  have hv : ∃ a, v = .ref a := by
   cases r with
   | sc s _ => cases v <;> exact s.elim
   | zz a b c => exact ⟨_, rfl⟩
  obtain ⟨a, rfl⟩ := hv
  obtain ⟨vs, e1, e2⟩ := sqRep hk nt r
  exact ⟨a, vs, rfl, e1, e2.len.2⟩
end
section
variable {G : Sg} {g : Gd} {env : Env} {st st' : Zd} {T T' : List Tm} {σ : St} {H H' : Hp} {Fz : Addr -> Prop} {am : List Addr} {p : Addr} {u : HO} {o : Obj} {t : Fp} {B B' : (Addr -> Prop) -> List Addr -> Prop}
theorem Ext.lock (e : H p = some u) (d : dkO u = true) : Ext Fz am H Fz am (upd H p (.frz o u)) := by
 have ne : ∀ q v, H q = some v -> dkO v = false -> q ≠ p := fun q v h n z => by
  subst z
  rw [e] at h; cases h
  rw [d] at n; cases n
 refine ⟨fun _ h => h, fun _ _ h => h, fun q v _ h => ?_, fun q v _ h n => by rw [upd_ne (ne q v h n)]; exact h, fun q xs h => ?_⟩
 ·by_cases c : q = p
  ·subst c
   rcases h with h | ⟨o', h⟩
   ·rw [e] at h; cases h
    exact .inr ⟨o, upd_same⟩
   ·exact absurd rfl (ne q _ h rfl)
  ·exact h.imp (fun h => by rw [upd_ne c]; exact h) fun ⟨o', h⟩ => ⟨o', by rw [upd_ne c]; exact h⟩
 ·exact h.imp (fun h => by rw [upd_ne (ne q _ h rfl)]; exact h) fun ⟨o', h⟩ => ⟨o', by rw [upd_ne (ne q _ h rfl)]; exact h⟩
theorem Rel0.lock (r : Rel0 G g Fz am H t) (z : Fz p) (e : H p = some u) (d : dkO u = true) : Rel0 G g Fz am (upd H p (.frz o u)) t := by
 have ne : ∀ q v, H q = some v -> dkO v = false -> q ≠ p := fun q v h n z => by
  subst z
  rw [e] at h; cases h
  rw [d] at n; cases n
 have no : ∀ q, 0 < t q -> q ≠ p := fun q hq c => r.nz q hq (by rw [c]; exact z)
 refine ⟨r.n1, r.nz, fun q hq => ?_, fun q hq => ?_, fun q w nt e0 na => ?_, r.f, r.z0, r.z1, r.a, fun x hx => ?_, r.hm, fun q w t e0 na => ?_⟩
 ·rw [upd_ne (no q hq)]; exact r.th q hq
 ·by_cases c : q = p
  ·subst c; exact ⟨_, upd_same, rfl⟩
  ·rw [upd_ne c]; exact r.zt q hq
 ·by_cases c : q = p
  ·subst c
   rcases r.k q w nt e0 na with h | ⟨_, dw, ob, h⟩
   ·rw [e] at h; cases h
    refine .inr ⟨?_, d, o, upd_same⟩
    rcases r.z1 q z with y | y | y
    ·exact y
    ·exact absurd y na
    ·rw [y] at e0; cases e0
   ·exact absurd rfl (ne q _ h rfl)
  ·exact (r.k q w nt e0 na).map fun v _ h => by rw [upd_ne c]; exact h
 ·obtain ⟨ps, a1, a2, a3⟩ := r.tb x hx
  refine ⟨ps, by rw [upd_ne (ne _ _ a1 rfl)]; exact a1, a2, fun p' cv z => ?_⟩
  obtain ⟨c, e1, e2⟩ := a3 p' cv z
  refine ⟨c, e1, ?_⟩
  rw [upd_ne (ne _ _ e2 (by unfold LamX.CodeO; rfl))]; exact e2
 ·obtain ⟨o', e1, t1⟩ := r.kt q w t e0 na
  refine ⟨o', ?_, t1⟩
  rw [upd_ne (ne _ _ e1 (by cases o' <;> first | rfl | cases t1))]; exact e1
theorem Rl.lock (R : RlB G g env st T σ H B) (hz : ∀ Fz am, B Fz am -> Fz p) (e : H p = some u) (d : dkO u = true) : RlB G g env st T σ (upd H p (.frz o u)) B := by
 obtain ⟨Fz, am, ne, nt, ns, h1, h2, h3, h4, h5⟩ := R
 have z := hz _ _ h5
 have E : Ext Fz am H Fz am (upd H p (.frz o u)) := Ext.lock e d
 have ow : ∀ q w, 0 < ne q + nt q + ns q -> H q = some w -> upd H p (.frz o u) q = some w := fun q w hq h => by
  rw [upd_ne fun c => h4.nz q hq (by rw [c]; exact z)]; exact h
 exact ⟨Fz, am, ne, nt, ns, h1.ext E fun q w hq h => ow q w (by omega) h, h2.ext E (fun q w hq h => ow q w (by omega) h) fun q w hq h => ow q w (by omega) h, Reps.ext E h3 fun q w hq h => ow q w (by omega) h, h4.lock z e d, h5⟩
def Uz (g : Gd) (p : Addr) (w : HO) : Gd := ⟨upd g.H0 p w, fun q => g.A0 q ∧ q ≠ p, fun q => g.F0 q ∨ q = p, g.am0⟩
theorem Rel0.Uz (r : Rel0 G g Fz am H t) (z : Fz p) (e : H p = some (.frz o u)) (du : dkO u = true) : Rel0 G (Uz g p (.frz o u)) Fz am H t ∧ Gle G (Hx.Uz g p (.frz o u)) g := by
 have c1 := r.z1 p z
 have nt0 : ∀ w, g.H0 p = some w -> Vf w = false := fun w hw => by
  by_cases a : g.A0 p
  ·obtain ⟨w', e', k⟩ := r.hm.a p a
   rw [hw] at e'; cases e'
   exact k.nt
  ·cases ht : Vf w with
   | false => rfl
   | true =>
    obtain ⟨o', e1, t1⟩ := r.kt p w ht hw a
    rw [e] at e1; cases e1; cases t1
 have c2 : ∀ w, g.H0 p = some w -> ¬ g.A0 p -> (w = u ∧ g.F0 p) ∨ w = .frz o u := fun w hw a => by
  rcases r.k p w (nt0 w hw) hw a with h | ⟨f, dw, ob, h⟩
  ·rw [e] at h; cases h; exact .inr rfl
  ·rw [e] at h; cases h; exact .inl ⟨rfl, f⟩
 have frz_of : ∀ v, Rd H p v -> v = u ∨ v = .frz o u := fun v h => by
  rcases h with h | ⟨o', h⟩
  ·rw [e] at h; cases h; exact .inr rfl
  ·rw [e] at h; cases h; exact .inl rfl
 have hm : Home G (Hx.Uz g p (.frz o u)) := by
  refine ⟨fun q hq => ?_, fun q hq => ?_, fun j l hl => ?_⟩
  ·by_cases c : q = p
   ·subst c
    exact ⟨fun z => z.2 rfl, _, upd_same, rfl⟩
   ·rcases hq with hq | hq
    ·obtain ⟨na, w, e1, e2⟩ := r.hm.fz q hq
     exact ⟨fun z => na z.1, w, by show upd g.H0 p _ q = _; rw [upd_ne c]; exact e1, e2⟩
    ·exact absurd hq c
  ·obtain ⟨w, e1, k⟩ := r.hm.a q hq.1
   exact ⟨w, by show upd g.H0 p _ q = _; rw [upd_ne hq.2]; exact e1, k⟩
  ·obtain ⟨h1, h2⟩ := r.hm.lam j l hl
   refine ⟨fun x hx => ?_, h2.ext ⟨fun q h => .inl h, fun _ _ h => h, fun q v f h => ?_, fun q v f h n => ?_, fun q xs h => ?_⟩ fun q w hq => absurd hq (Nat.lt_irrefl 0)⟩
   ·obtain ⟨a1, a3⟩ := h1 x hx
    refine ⟨a1, ?_⟩
    have c : x.1 ≠ p := fun c => by
     have na : ¬ g.A0 x.1 := fun q => by
      obtain ⟨w, e1, k⟩ := r.hm.a _ q
      rw [a3] at e1; cases e1
      exact ext_no a1 k
     have this := (r.k _ _ (ext_nt a1) a3 na).nd (ext_dk a1)
     rw [c, e] at this
     rw [<- Option.some.inj this] at a1
     cases a1
    show upd g.H0 p _ x.1 = _
    rw [upd_ne c]; exact a3
   ·by_cases c : q = p
    ·subst c
     rcases frz_of v (r.ext.rd q v f h) with rfl | rfl
     ·exact .inr ⟨o, upd_same⟩
     ·exact .inl upd_same
    ·exact h.imp (fun h => by show upd g.H0 p _ q = _; rw [upd_ne c]; exact h) fun ⟨o', h⟩ => ⟨o', by show upd g.H0 p _ q = _; rw [upd_ne c]; exact h⟩
   ·by_cases c : q = p
    ·subst c
     have := r.ext.st q v f h n
     rw [e] at this; cases this
     exact upd_same
    ·show upd g.H0 p _ q = _; rw [upd_ne c]; exact h
   ·have c : q ≠ p := fun c => by
     subst c
     rcases r.ext.tp q xs h with y | ⟨o', y⟩
     ·rw [e] at y; cases y
     ·rw [e] at y; cases y; cases du
    exact h.imp (fun h => by show upd g.H0 p _ q = _; rw [upd_ne c]; exact h) fun ⟨o', h⟩ => ⟨o', by show upd g.H0 p _ q = _; rw [upd_ne c]; exact h⟩
 refine ⟨⟨r.n1, r.nz, r.th, r.zt, fun q w nt e0 na => ?_, fun q hq => ?_, fun q hq => ?_, fun q hq => ?_, r.a, r.tb, hm, fun q w tw e0 na => ?_⟩, fun Fz' am' H' t' r' => ?_⟩
 ·by_cases c : q = p
  ·subst c
   have e0 : upd g.H0 q _ q = some w := e0
   rw [upd_same] at e0; cases e0
   exact .inl e
  ·have e0 : upd g.H0 p _ q = some w := e0
   rw [upd_ne c] at e0
   exact (r.k q w nt e0 fun y => na ⟨y, c⟩).imp id fun ⟨f, x⟩ => ⟨.inl f, x⟩
 ·have c : q ≠ p := fun c => r.nz q hq (by rw [c]; exact z)
  rcases r.f q hq with y | y
  ·exact .inl ⟨y, c⟩
  ·exact .inr (by show upd g.H0 p _ q = _; rw [upd_ne c]; exact y)
 ·rcases hq with y | y
  ·exact r.z0 q y
  ·rw [y]; exact z
 ·by_cases c : q = p
  ·exact .inl (.inr c)
  ·rcases r.z1 q hq with y | y | y
   ·exact .inl (.inl y)
   ·exact .inr (.inl ⟨y, c⟩)
   ·exact .inr (.inr (by show upd g.H0 p _ q = _; rw [upd_ne c]; exact y))
 ·by_cases c : q = p
  ·subst c
   have e0 : upd g.H0 q _ q = some w := e0
   rw [upd_same] at e0; cases e0; cases tw
  ·have e0 : upd g.H0 p _ q = some w := e0
   rw [upd_ne c] at e0
   exact r.kt q w tw e0 fun y => na ⟨y, c⟩
 ·have hp : H' p = some (.frz o u) := (r'.k p (.frz o u) rfl upd_same fun y => y.2 rfl).nd rfl
  refine ⟨r'.n1, r'.nz, r'.th, r'.zt, fun q w nt e0 na => ?_, fun q hq => ?_, fun q hq => r'.z0 q (.inl hq), fun q hq => ?_, r'.a, r'.tb, r.hm, fun q w tw e0 na => ?_⟩
  ·by_cases c : q = p
   ·subst c
    rcases c2 w e0 na with ⟨rfl, f⟩ | rfl
    ·exact .inr ⟨f, du, o, hp⟩
    ·exact .inl hp
   ·refine (r'.k q w nt (by show upd g.H0 p _ q = _; rw [upd_ne c]; exact e0) fun y => na y.1).imp id fun ⟨f, x⟩ => ⟨?_, x⟩
    rcases f with f | f
    ·exact f
    ·exact absurd f c
  ·rcases r'.f q hq with y | y
   ·exact .inl y.1
   ·have y : upd g.H0 p _ q = none := y
    by_cases c : q = p
    ·subst c; rw [upd_same] at y; cases y
    ·rw [upd_ne c] at y; exact .inr y
  ·by_cases c : q = p
   ·subst c; exact c1
   ·rcases r'.z1 q hq with y | y | y
    ·rcases y with y | y
     ·exact .inl y
     ·exact absurd y c
    ·exact .inr (.inl y.1)
    ·have y : upd g.H0 p _ q = none := y
     rw [upd_ne c] at y; exact .inr (.inr y)
  ·by_cases c : q = p
   ·subst c
    rw [nt0 w e0] at tw; cases tw
   ·exact r'.kt q w tw (by show upd g.H0 p _ q = _; rw [upd_ne c]; exact e0) fun y => na y.1
theorem Rl.locked {w : HO} (R : RlB G (Uz g p w) env st T σ H B) (nt : Vf w = false) (nd : dkO w = false) : H p = some w := by
 obtain ⟨Fz, am, ne, nt', ns, h1, h2, h3, h4, h5⟩ := R
 exact (h4.k p w nt upd_same fun y => y.2 rfl).nd nd
theorem Rl.toLock (R : RlB G g env st T σ H B) (hz : ∀ Fz am, B Fz am -> Fz p) (e : H p = some (.frz o u)) (du : dkO u = true) : RlB G (Uz g p (.frz o u)) env st T σ H B ∧ Gle G (Uz g p (.frz o u)) g := by
 obtain ⟨Fz, am, ne, nt', ns, h1, h2, h3, h4, h5⟩ := R
 obtain ⟨a, b⟩ := h4.Uz (hz _ _ h5) e du
 exact ⟨⟨Fz, am, ne, nt', ns, h1, h2, h3, a, h5⟩, b⟩
def keyD : Key -> D
 | .inl i => .int i
 | .inr x => .str x
@[simp] theorem keyD_l {i : Int} : keyD (.inl i) = .int i := rfl
@[simp] theorem keyD_r {x : Str} : keyD (.inr x) = .str x := rfl
theorem scal_key {k : Key} : Scal G (kV k) (keyD k) := by cases k <;> rfl
theorem Rep.dik {ks : List Key} {ds : List D} {v : V} {n : Fp} (r : Rep G Fz am H .z v (.con (.dik ks) ds) n) : ∃ p vs, v = .ref p ∧ Fz p ∧ Rd H p (.dK (ks.zip vs)) ∧ ks.length = vs.length ∧ Reps G Fz am H (zs ds.length) vs ds (fun _ => 0) := by
 cases r with
 | sc s _ => cases v <;> exact s.elim
 | zz a b c =>
  obtain ⟨z, o, e1, e2, e3⟩ := a
  subst e2
  exact ⟨_, _, rfl, z, e1, e3, b.toz⟩
theorem kvs_at {ks : List Key} {vs : List V} {i : Nat} {k : Key} {v : V} (e : (ks.zip vs)[i]? = some (k, v)) : ks[i]? = some k ∧ vs[i]? = some v := by
 rw [List.getElem?_zip_eq_some] at e
 exact e
section
variable {ks : List Key} {ds : List D} {vs : List V}
theorem it_keys (hl : ks.length = vs.length) : ItOk G (Uz g p (.frz o (.dK (ks.zip vs)))) (Itk p o (ks.zip vs)) [⟨.ref p, .z, .con (.dik ks) ds, false⟩] (ks.map keyD) where
 nb := fun x hx => by rw [List.mem_singleton.mp hx]
 go := fun i env st T σ H R hi => ⟨Rl.locked (B := fun _ _ => True) R rfl rfl, by rw [List.length_map] at hi; rw [List.length_zip]; omega⟩
 yld := fun i env st T σ H x H' d R y e => by
  obtain ⟨rfl, k, v, e1, rfl⟩ := y
  obtain ⟨a, b⟩ := kvs_at e1
  rw [List.getElem?_map, a] at e
  cases e
  exact R.scal scal_key
 stop := fun i env st T σ H R hi => ⟨Rl.locked (B := fun _ _ => True) R rfl rfl, by rw [List.length_map] at hi; rw [List.length_zip]; omega⟩
end
end
@[simp] def dKeysI (a : Den) : DenI := fun env st => match a env st with
 | .ok f b (.con (.dik ks) ds) st1 => bif !b || f.isz then .ok (ks.map keyD) st1 else .stuck
 | .ok _ _ _ _ => .stuck
 | .exc c ds st1 => .exc c ds st1
 | .stuck => .stuck
section
variable {S : Sx} {e a b tg : Expr} {es elts : List Expr} {da db : Den} {das : DenL} {pos p tpos apos cpos : Pos} {kk : Nat}
theorem lock_post {G : Sg} {g : Gd} {env : Env} {st1 : Zd} {T : List Tm} {σ : St} {H1 : Hp} {v : V} {f : Fr} {b : Bool} {ks : List Key} {ds : List D} {Q : Addr -> Obj -> List (Key × V) -> Hp -> Prop} (hc : (!b || f.isz) = true)
  (k : ∀ p o vs H2, ks.length = vs.length -> ds.length = vs.length -> H2 p = some (.frz o (.dK (ks.zip vs))) -> Gle G (Uz g p (.frz o (.dK (ks.zip vs)))) g -> Rl G (Uz g p (.frz o (.dK (ks.zip vs)))) env st1 ([⟨.ref p, .z, .con (.dik ks) ds, false⟩] ++ T) σ H2 -> Q p o (ks.zip vs) H2)
  (R1 : Rl G g env st1 (⟨v, f, .con (.dik ks) ds, b⟩ :: T) σ H1) : ∃ d kvs, v = .ref d ∧ ((H1 d = some (.dK kvs) ∧ ∀ o, Q d o kvs (upd H1 d (.frz o (.dK kvs)))) ∨ ∃ o, H1 d = some (.frz o (.dK kvs)) ∧ Q d o kvs H1) := by
 have R2 := (R1.unb hc).frz
 have main : ∃ d vs, v = .ref d ∧ ks.length = vs.length ∧ ds.length = vs.length ∧ RlB G g env st1 ([⟨v, .z, .con (.dik ks) ds, false⟩] ++ T) σ H1 (fun Fz am => Fz d) ∧ Rd H1 d (.dK (ks.zip vs)) := by
  obtain ⟨Fz, am, ne, nt, ns, h1, h2, h3, h4, h5⟩ := R2
  cases id h2 with
  | own k1 k2 k3 =>
   obtain ⟨d, vs, rfl, z, rd, hl, rs⟩ := k1.dik
   exact ⟨d, vs, rfl, hl, rs.len.2.symm, ⟨Fz, am, ne, nt, ns, h1, h2, h3, h4, z⟩, rd⟩
 obtain ⟨d, vs, rfl, hl, hd, R3, rd⟩ := main
 refine ⟨d, ks.zip vs, rfl, ?_⟩
 rcases rd with e | ⟨o, e⟩
 ·refine .inl ⟨e, fun o => ?_⟩
  have R4 := Rl.lock (o := o) R3 (fun _ _ z => z) e rfl
  obtain ⟨R5, b⟩ := Rl.toLock R4 (fun _ _ z => z) upd_same rfl
  exact k d o vs _ hl hd upd_same b R5.rl
 ·refine .inr ⟨o, e, ?_⟩
  obtain ⟨R5, b⟩ := Rl.toLock R3 (fun _ _ z => z) e rfl
  exact k d o vs _ hl hd e b R5.rl
theorem di_keys (ha : DE S a da) : DI S tg a (dKeysI da) := fun W => by
 obtain ⟨t, pt, q⟩ := ha W
 refine ⟨iKeys (HxZ.tLk t), fun X hX tk => pi_keys (HxZ.pe_lk (pt X hX tk)), fun g env st T σ H R0 hT R h => q g env st T σ H _ hT R ?_⟩
 unfold dKeysI at h
 cases e : da env st with
 | stuck => rw [e] at h; exact h.elim
 | exc c ds st1 => rw [e] at h; exact h
 | ok f b d st1 =>
  rw [e] at h
  cases d with
  | con k ds =>
   cases k with
   | dik ks =>
    obtain ⟨hc, h⟩ := bifT h id
    exact fun v H1 R1 => lock_post (Q := fun d o kvs H2 => ∃ d' o', V.ref d = .ref d' ∧ ((∃ kvs, H2 d' = some (.frz o' (.dK kvs)) ∧ R0 (Itk d' o' kvs) H2) ∨ ∃ kvs, H2 d' = some (.frz o' (.dT kvs)) ∧ R0 (Itkt d' o' kvs) H2)) hc (fun p o vs H2 hl hd e2 b R5 => ⟨p, o, rfl, .inl ⟨_, e2, h _ H2 _ _ b (it_keys hl) R5⟩⟩) R1 |>.imp fun d ⟨kvs, e, q⟩ => ⟨kvs, e, by subst e; exact q⟩
   | _ => exact h.elim
  | _ => exact h.elim
end
section
variable {G : Sg}
def inS (neg : Bool) : D -> D -> Option D
 | .str x, .str y => match x.cps with
  | ⟨[c]⟩ => some (.bl (if neg then !decide (c ∈ y.cps.toList) else decide (c ∈ y.cps.toList)))
  | _ => none
 | _, _ => none
@[simp] def oInS (neg : Bool) : Op := oS2 (inS neg)
theorem inS_some {neg : Bool} {a b d : D} (h : inS neg a b = some d) : ∃ c y, a = .str ⟨#[c]⟩ ∧ b = .str y ∧ d = .bl (if neg then !decide (c ∈ y.cps.toList) else decide (c ∈ y.cps.toList)) := by
 unfold inS at h
 split at h
 ·rename_i x y
  obtain ⟨x⟩ := x
  split at h
  ·rename_i c e
   cases h
   have e : x = ⟨[c]⟩ := e
   subst e
   exact ⟨c, y, rfl, rfl, rfl⟩
  ·cases h
 ·cases h
theorem v_inS (neg : Bool) : VOp G (l2 fun x y H Q => ∃ (c : Nat) (z : Str), x = .str ⟨#[c]⟩ ∧ y = .str z ∧ Q (.bl (if neg then !decide (c ∈ z.cps.toList) else decide (c ∈ z.cps.toList))) H) (oInS neg) := v_S2 fun Fz am H v w a b d Q h1 h2 e q => by
 obtain ⟨c, y, rfl, rfl, rfl⟩ := inS_some e
 rw [h1.str, h2.str]
 exact ⟨c, y, rfl, rfl, q _ rfl⟩
def memK (k : Key) (ks : List Key) : Bool := ks.any fun x => decide (x = k)
@[simp] def oInK (neg : Bool) : Op := oS2 fun a b => match b with
 | .con (.dik ks) _ => (keyOf a).map fun k => .bl (if neg then !memK k ks else memK k ks)
 | _ => none
theorem valV_in : ∀ {ks : List Key} {vs : List V} {k : Key}, ks.length = vs.length -> (valV (ks.zip vs) k).isSome = memK k ks
 | [], _, k, _ => by simp [valV, memK]
 | k0 :: ks, [], k, h => by simp at h
 | k0 :: ks, v0 :: vs, k, h => by
  rw [List.zip_cons_cons]
  unfold valV
  rw [List.find?_cons]
  have ih := valV_in (ks := ks) (vs := vs) (k := k) (by simpa using h)
  unfold valV at ih
  unfold memK at ih ⊢
  by_cases c : k0 = k
  ·simp [c]
  ·simp only [c, decide_false, Bool.false_eq_true, if_false, List.any_cons, Bool.false_or]
   exact ih
def rDIn (neg : Bool) : R2 := fun y x H Q => ∃ a o, x = .ref a ∧ DGet H a y o ∧ Q (.bl (if neg then !o.isSome else o.isSome)) H
theorem v_inK (neg : Bool) : VOp G (l2 (rDIn neg)) (oInK neg) := v_S2 fun Fz am H v w a b d Q h1 h2 e q => by
 split at e
 ·obtain ⟨k, e1, e2⟩ := Option.map_eq_some_iff.mp e
  subst e2
  obtain ⟨p, vs, rfl, rd, hl, s⟩ := h2.dik
  refine ⟨p, _, rfl, .inl ⟨_, k, rd, h1.key e1, rfl⟩, q _ ?_⟩
  rw [valV_in hl]
  exact rfl
 ·cases e
def inLD (a : D) (ds : List D) : Option Bool := match a.py, D.pys ds with
 | some x, some ys => bif SeqAt.shaped x && SeqAt.shaped (.list ys) then some (ys.any fun z => PyData.eqv z x) else none
 | _, _ => none
@[simp] def oInL (neg : Bool) : Op := oS2 fun a b => match b with
 | .con .lst ds => (inLD a ds).map fun c => .bl (if neg then !c else c)
 | .con .frl ds => (inLD a ds).map fun c => .bl (if neg then !c else c)
 | _ => none
def rInX (K : PySem.W.Frag) (neg : Bool) : R2 := fun x y H Q => ∃ d ds, Dp K H x d ∧ Dp K H y (.list ds) ∧ SeqAt.shaped d = true ∧ SeqAt.shaped (.list ds) = true ∧ Q (.bl (if neg then !(ds.any fun z => PyData.eqv z d) else ds.any fun z => PyData.eqv z d)) H
theorem inLD_some {a : D} {ds : List D} {c : Bool} (h : inLD a ds = some c) : ∃ x ys, a.py = some x ∧ D.pys ds = some ys ∧ SeqAt.shaped x = true ∧ SeqAt.shaped (.list ys) = true ∧ (ys.any fun z => PyData.eqv z x) = c := by
 unfold inLD at h
 split at h
 ·rename_i x ys e1 e2
  obtain ⟨c1, c2⟩ := bifS h
  rw [Bool.and_eq_true] at c1
  exact ⟨x, ys, e1, e2, c1.1, c1.2, c2⟩
 ·cases h
theorem v_inL (neg : Bool) : VOp G (l2 (rInX G.K neg)) (oInL neg) := v_S2 fun Fz am H v w a b d Q h1 h2 e q => by
 have main : ∀ {k : Kd} {ds : List D}, (k = .lst ∨ k = .frl) -> View G Fz am H w (.con k ds) -> (inLD a ds).map (fun c => D.bl (if neg then !c else c)) = some d -> rInX G.K neg v w H Q := fun {k ds} hk h2 e => by
  obtain ⟨c, e1, e2⟩ := Option.map_eq_some_iff.mp e
  subst e2
  obtain ⟨x, ys, a1, a2, a3, a4, a5⟩ := inLD_some e1
  refine ⟨x, ys, UJ h1 a1, UJ h2 ?_, a3, a4, q _ ?_⟩
  ·rcases hk with rfl | rfl <;> (unfold D.py; rw [a2]; rfl)
  ·rw [a5]; exact rfl
 split at e
 ·exact main (.inl rfl) h2 e
 ·exact main (.inr rfl) h2 e
 ·cases e
def flatD : D -> Bool
 | .non => true
 | .bl _ => true
 | .int _ => true
 | .str _ => true
 | _ => false
def eqF : D -> D -> Bool
 | .non, .non => true
 | .bl a, .bl b => a == b
 | .bl a, .int b => (if a then 1 else 0) == b
 | .int a, .bl b => a == (if b then 1 else 0)
 | .int a, .int b => a == b
 | .str a, .str b => a == b
 | _, _ => false
@[simp] def oInT (neg : Bool) : Op := oS2 fun a b => match b with
 | .con .tup ds => bif flatD a && ds.all flatD then some (.bl (if neg then !(ds.any fun y => eqF y a) else ds.any fun y => eqF y a)) else none
 | _ => none
section
variable {Fz : Addr -> Prop} {am : List Addr} {H : Hp}
theorem Rep.flat' {v : V} {d : D} {n : Fp} (r : Rep G Fz am H .z v d n) (h : flatD d = true) : flatV v = true ∧ Scal G v d := by
 cases r with
 | sc s _ => cases v <;> cases d <;> first | exact s.elim | exact ⟨rfl, s⟩ | cases h
 | rf => cases h
 | zz => cases h
theorem View.flat' {v : V} {d : D} (r : View G Fz am H v d) (h : flatD d = true) : flatV v = true ∧ Scal G v d := by
 cases d with
 | non => rw [r.non]; exact ⟨rfl, trivial⟩
 | bl b => rw [r.bl]; exact ⟨rfl, rfl⟩
 | int b => rw [r.int]; exact ⟨rfl, rfl⟩
 | str b => rw [r.str]; exact ⟨rfl, rfl⟩
 | _ => cases h
theorem eqV_eqF {v w : V} {a b : D} (h1 : Scal G v a) (h2 : Scal G w b) (fa : flatD a = true) (fb : flatD b = true) : eqV v w = eqF a b := by
 cases a <;> cases b <;> first | exact Bool.noConfusion fa | exact Bool.noConfusion fb | skip
 all_goals (cases v <;> first | exact h1.elim | skip)
 all_goals (cases w <;> first | exact h2.elim | skip)
 all_goals (try simp only [Scal] at h1)
 all_goals (try simp only [Scal] at h2)
 all_goals (try subst h1)
 all_goals (try subst h2)
 all_goals rfl
theorem any_eqF {w : V} {b : D} (h2 : Scal G w b) (fb : flatD b = true) : ∀ {ds : List D} {vs : List V}, Reps G Fz am H (zs ds.length) vs ds (fun _ => 0) -> ds.all flatD = true -> (vs.all flatV = true) ∧ (vs.any fun y => eqV y w) = ds.any fun y => eqF y b
 | [], vs, r, _ => by cases r; exact ⟨rfl, rfl⟩
 | d :: ds, vs, r, h => by
  rw [show zs (d :: ds).length = .z :: zs ds.length from List.replicate_succ] at r
  rw [List.all_cons, Bool.and_eq_true] at h
  cases r with
  | cons r1 r2 h3 =>
   obtain ⟨f1, s1⟩ := r1.flat' h.1
   obtain ⟨a1, a2⟩ := any_eqF h2 fb (r2.fp (Reps.z0 r2)) h.2
   exact ⟨by rw [List.all_cons, f1, a1]; rfl, by rw [List.any_cons, List.any_cons, a2, eqV_eqF s1 h2 h.1 fb]⟩
end
theorem v_inT (neg : Bool) : VOp G (l2 (rIn G.K neg)) (oInT neg) := v_S2 fun Fz am H v w a b d Q h1 h2 e q => by
 split at e
 ·rename_i ds
  obtain ⟨hk, e2⟩ := bifS e
  subst e2
  rw [Bool.and_eq_true] at hk
  obtain ⟨p, vs, rfl, r, s⟩ := h2.tup
  obtain ⟨f1, s1⟩ := h1.flat' hk.1
  obtain ⟨a1, a2⟩ := any_eqF s1 hk.1 s hk.2
  refine ⟨p, vs, rfl, .inr r, f1, a1, q _ ?_⟩
  show (if neg = true then !(vs.any fun y => eqV y v) else vs.any fun y => eqV y v) = _
  rw [a2]
 ·cases e
end
@[simp] def oIn : Op := fun ds => orOp (oInK false) (orOp (oInL false) (orOp (oInT false) (oInS false))) ds
section
variable {S : Sx} {e a b c tg : Expr} {es elts : List Expr} {da db dc : Den} {das : DenL} {pos p tpos apos cpos : Pos} {kk : Nat}
theorem un65 {X : Cx} (hX : Stx S X) : X.A.units + 65 < cLine := by have := hX.room.un; omega
theorem unD {X : Cx} (hX : Stx S X) : X.A.units + 1 < cLine := by have := hX.room.un; omega
theorem ci_inL : CmpI S .In (oInL false) := ⟨_, fun X hX => hX.K ▸ op_inD (un65 hX), v_inL false⟩
theorem ci_inT : CmpI S .In (oInT false) := ⟨_, fun X hX => hX.K ▸ op_in_seq, v_inT false⟩
theorem ci_inS : CmpI S .In (oInS false) := ⟨_, fun X hX => op_in_sign, v_inS false⟩
theorem de_inK (ha : DE S a da) (hb : DE S b db) (hm : Wj b = true) : DE S (.Compare a [.In] [b] pos) (dOp (oInK false) (Zb da (Za db))) := fun W => by
 obtain ⟨ta, pa, qa⟩ := ha W
 obtain ⟨tb, pb, qb⟩ := hb W
 exact ⟨tOp (rDIn false) ta tb, fun X hX tk => pe_cmp (pc_din (unD hX) (pa X hX tk) (pb X hX tk)) (marks hm), fun g env st T σ H Q hT R h => run2 (v_inK false) qa qb g env st T σ H Q hT R h⟩
theorem dt_inK (ha : DE S a da) (hb : DE S b db) (hm : Wj b = true) : DT S (.Compare a [.In] [b] pos) (dB (dOp (oInK false) (Zb da (Za db)))) := fun W => by
 obtain ⟨ta, pa, qa⟩ := ha W
 obtain ⟨tb, pb, qb⟩ := hb W
 exact ⟨tB (tOp (rDIn false) ta tb), fun X hX tk => pt_cmp (pc_din (unD hX) (pa X hX tk) (pb X hX tk)) (marks hm), fun g env st T σ H Q hT R h => run2 (v_inK false) qa qb g env st T σ H _ hT R (postB h)⟩
theorem de_in (ha : DE S a da) (hb : DE S b db) (hm : Wj b = true) : DE S (.Compare a [.In] [b] pos) (dOp oIn (Zb da (Za db))) := ZaT (de_inK ha hb hm) (ZaT (de_c ci_inL ha hb hm) (ZaT (de_c ci_inT ha hb hm) (de_c ci_inS ha hb hm)))
theorem dt_in (ha : DE S a da) (hb : DE S b db) (hm : Wj b = true) : DT S (.Compare a [.In] [b] pos) (dB (dOp oIn (Zb da (Za db)))) := dt_or' (dt_inK ha hb hm) (dt_or' (dt_c ci_inL ha hb hm) (dt_or' (dt_c ci_inT ha hb hm) (dt_c ci_inS ha hb hm)))
end
section
variable {G : Sg}
@[simp] def intsOf : List D -> Option (List Int)
 | [] => some []
 | .int b :: ds => (intsOf ds).map (b :: ·)
 | _ => none
@[simp] def strsOf : List D -> Option (List Str)
 | [] => some []
 | .str b :: ds => (strsOf ds).map (b :: ·)
 | _ => none
theorem scal_str {v : V} {b : Str} (h : Scal G v (.str b)) : v = .str b := by cases v <;> first | exact congrArg V.str h | exact h.elim
theorem strs_reps {Fz : Addr -> Prop} {am : List Addr} {H : Hp} : ∀ {ds : List D} {fs : List Fr} {vs : List V} {n : Fp} {bs : List Str}, Reps G Fz am H fs vs ds n -> strsOf ds = some bs -> vs = bs.map V.str
 | [], _, _, _, bs, r, h => by cases r; cases h; rfl
 | .str b :: ds, _, _, _, bs, r, h => by
  obtain ⟨bs', e1, e2⟩ := Option.map_eq_some_iff.mp h
  subst e2
  cases r with
  | cons r1 r2 _ =>
   rw [strs_reps r2 e1]
   cases r1 with
   | sc s _ => rw [scal_str s]; rfl
theorem Zbl {Fz : Addr -> Prop} {am : List Addr} {H : Hp} : ∀ (ns : List Str), Reps G Fz am H (zs (ns.map D.str).length) (ns.map V.str) (ns.map D.str) (fun _ => 0)
 | [] => .nil fun _ => rfl
 | n :: ns => by
  show Reps G Fz am H (zs ((ns.map D.str).length + 1)) (V.str n :: ns.map V.str) (D.str n :: ns.map D.str) _
  rw [show zs ((ns.map D.str).length + 1) = .z :: zs (ns.map D.str).length from List.replicate_succ]
  exact .cons (n1 := fun _ => 0) (n2 := fun _ => 0) (.sc rfl fun _ => rfl) (Zbl ns) fun _ => rfl
@[simp] def oSum : Op := oS1 fun a => match a with
 | .con k xs => bif k.sq then (intsOf xs).map fun bs => .int bs.sum else none
 | _ => none
def ZaS (i : Int) : Bool := decide (i.natAbs.log2 < 1920)
@[simp] def oStr : Op := oS1 fun a => match a with
 | .int i => bif ZaS i then some (.str (toString i)) else none
 | .str x => some (.str x)
 | _ => none
theorem v_str : VOp G (fun xs H Q => (∃ i, xs = [.int i] ∧ i.natAbs.log2 < 1920 ∧ Q (.str (toString i)) H) ∨ ∃ a, xs = [.str a] ∧ Q (.str a) H) oStr := v_C1 fun Fz am H v a d Q h e q => by
 split at e
 ·obtain ⟨hk, e2⟩ := bifS e
  subst e2
  rw [h.int]
  exact .inl ⟨_, rfl, of_decide_eq_true hk, q _ rfl⟩
 ·cases e
  rw [h.str]
  exact .inr ⟨_, rfl, q _ rfl⟩
 ·cases e
@[simp] def We (x : Str) : Op := oS1 fun b => match b with
 | .con k xs => bif k.seq then (strsOf xs).bind fun ys => bif ((ys.map (·.length)).sum + ys.length * x.length).ble 16777216 then some (.str (Txt.join x ys)) else none else none
 | _ => none
theorem v_join (s : Str) : VOp G (fun xs H Q => (fun x xs H Q => ∃ a p, ∃ ys : List Str, x = V.str a ∧ xs = [.ref p] ∧ (SqL G.K H p (ys.map V.str) ∨ SqT G.K H p (ys.map V.str)) ∧ (ys.map (·.length)).sum + ys.length * a.length <= 16777216 ∧ Q (.str (Txt.join a ys)) H) (.str s) xs H Q) (We s) := v_C1 fun Fz am H v a d Q h e q => by
 split at e
 ·rename_i k xs
  cases hk : k.seq with
  | false => rw [hk] at e; cases e
  | true =>
   rw [hk] at e
   obtain ⟨ys, e1, e2⟩ := Option.bind_eq_some_iff.mp e
   obtain ⟨c, e3⟩ := bifS e2
   subst e3
   obtain ⟨p, vs, rfl, r, s⟩ := h.seq hk
   have ev := strs_reps s e1
   subst ev
   exact ⟨_, p, ys, rfl, rfl, r, Nat.le_of_ble_eq_true c, q _ rfl⟩
 ·cases e
@[simp] def ZT (x : Str) : Op := fun ds => match ds with
 | [.str y] => bif !(y.length == 0) && x.length.ble 1000000 then some (.c .z, .con .lst ((Txt.split x y).map D.str)) else none
 | _ => none
theorem v_split (s : Str) : VOp G (fun xs H Q => (fun x xs H Q => ∃ a b, x = V.str a ∧ xs = [.str b] ∧ (b.length == 0) = false ∧ a.length + 2 <= sizeLine ∧ rNewStrs (Txt.split a b) H Q) (.str s) xs H Q) (ZT s) := fun Fz am H vs ds fr d Q h1 h2 h3 => by
 unfold ZT at h2
 split at h2
 ·obtain ⟨v, rfl, a⟩ := h1.one
  obtain ⟨hk, e⟩ := bifS h2
  cases e
  rw [Bool.and_eq_true] at hk
  rw [a.str]
  refine ⟨_, _, rfl, rfl, by simpa using hk.1, ?_, VB (Zbl _) h3⟩
  have := Nat.le_of_ble_eq_true hk.2
  have hs : 1000002 <= sizeLine := by decide
  omega
 ·cases h2
@[simp] def oPre (x : Str) : Op := oS1 fun b => match b with
 | .str y => bif x.length.ble 16777216 then some (.str (Txt.removeprefix x y)) else none
 | _ => none
theorem v_pre (s : Str) : VOp G (fun xs H Q => (fun x xs H Q => ∃ a b, x = V.str a ∧ xs = [.str b] ∧ a.length <= sizeLine ∧ Q (.str (Txt.removeprefix a b)) H) (.str s) xs H Q) (oPre s) := v_C1 fun Fz am H v a d Q h e q => by
 split at e
 ·obtain ⟨hk, e2⟩ := bifS e
  subst e2
  rw [h.str]
  exact ⟨_, _, rfl, rfl, VU hk, q _ rfl⟩
 ·cases e
@[simp] def oPart (x : Str) : Op := fun ds => match ds with
 | [.str y] => bif !(y.length == 0) && x.length.ble 1000000 then some (.z, .con .tup [.str (Txt.partition x y).1, .str (Txt.partition x y).2.1, .str (Txt.partition x y).2.2]) else none
 | _ => none
theorem v_part (s : Str) : VOp G (fun xs H Q => (fun x xs H Q => ∃ a b, x = V.str a ∧ xs = [.str b] ∧ (b.length == 0) = false ∧ a.length <= sizeLine ∧ ∀ p, H p = none -> Q (.ref p) (upd H p (.tup [.str (Txt.partition a b).1, .str (Txt.partition a b).2.1, .str (Txt.partition a b).2.2]))) (.str s) xs H Q) (oPart s) := fun Fz am H vs ds fr d Q h1 h2 h3 => by
 unfold oPart at h2
 split at h2
 ·obtain ⟨v, rfl, a⟩ := h1.one
  obtain ⟨hk, e⟩ := bifS h2
  cases e
  rw [Bool.and_eq_true] at hk
  rw [a.str]
  refine ⟨_, _, rfl, rfl, by simpa using hk.1, ?_, VI (vs := [.str _, .str _, .str _]) ?_ h3⟩
  ·have := Nat.le_of_ble_eq_true hk.2
   have hs : 1000002 <= sizeLine := by decide
   omega
  ·exact Zbl [_, _, _]
 ·cases h2
end
section
variable {S : Sx} {e a b c tg : Expr} {es elts : List Expr} {da db dc : Den} {das : DenL} {pos p tpos apos cpos : Pos} {kk : Nat} {x : Str}
theorem bi_str (hg : S.sc.names.lookup ("str" : Str) = some .globalImplicit) (hm : S.mg "str" = none) (ha : DE S a da) (hp : Zx [a] = true) : DE S (.Call (.Name "str" p) [a] [] pos) (dOp oStr (Za da)) :=
 de_ty (id := "str") (fun X hX => call_str_int.or SkE.call_str_str) v_str hg hm (by rfl) (by decide) (by decide) (Zg ha (Zp hp _ (by simp))) hp
@[simp] def dSM (op : Str -> Op) (a : Den) (as : DenL) : Den := fun env st => match a env st with
 | .ok _ _ (.str s) st1 => dOp (op s) as env st1
 | .ok _ _ _ _ => .stuck
 | .exc c ds st1 => .exc c ds st1
 | .stuck => .stuck
theorem Rl.str {G : Sg} {g : Gd} {env : Env} {st : Zd} {T : List Tm} {σ : St} {H : Hp} {v : V} {f : Fr} {b : Bool} {c : Str} (R : Rl G g env st (⟨v, f, .str c, b⟩ :: T) σ H) : v = .str c := by
 obtain ⟨Fz, am, ne, nt, ns, h1, h2, h3, h4, h5⟩ := R
 have key : ∀ {n : Fp}, Rep G Fz am H f v (.str c) n -> v = .str c := fun {n} r => by
  cases r with
  | sc h _ => cases v <;> first | exact congrArg V.str h | exact h.elim
 cases h2 with
 | own h _ _ => exact key h
 | bor h _ _ => exact key h
theorem de_sm1 {m : Str} {id : String} {r : V -> List V -> Hp -> VK -> Prop} {op : Str -> Op} (slot : PySem.Slot "str" m id) (hty : typeOf (.builtin id) = pure (.type "method_descriptor")) (hmt : ∀ X, Stx S X -> MtR X id r) (hv : ∀ s, VOp S.G (fun xs H Q => r (.str s) xs H Q) (op s))
  (ha : DE S a da) (hb : DE S b db) (hl : (apos.endLine == cpos.line) = true) (hbase : ∀ env, attributeBase a m env (eval a env) = eval a env) (hp : Zx [b] = true) :
  DE S (.Call (.Attribute a m apos) [b] [] cpos) (dSM op da (Za db)) := fun W => by
 obtain ⟨ta, pa, qa⟩ := ha W
 obtain ⟨tb, pb, qb⟩ := hb W
 have hs := Zp hp b (by simp)
 refine ⟨tBM S.G.K "str" r ta (tCons tb tNil), fun X hX tk => by
  rw [<- hX.K]
  exact pe_bm PySem.F.plainAttrs_str slot hty (hmt X hX) (pa X hX tk) (pa_cons (pb X hX tk) pa_nil (Wg hs)) (hbase _) (by rw [Wg hs]; rfl) hl (Wg hs) rfl, fun g env st T σ H Q hT R h => qa g env st T σ H _ hT R ?_⟩
 unfold dSM at h
 cases e1 : da env st with
 | stuck => rw [e1] at h; exact h.elim
 | exc c ds st1 => rw [e1] at h; exact h
 | ok f b0 d st1 =>
  rw [e1] at h
  cases d with
  | str s =>
   intro v H1 R1
   have ev := R1.str
   subst ev
   exact ⟨rfl, run1 (hv s) qb g env st1 T σ H1 Q hT R1.drop h⟩
  | _ => exact h.elim
theorem Vm (ha : DE S a da) (hb : DE S b db) (hl : (apos.endLine == cpos.line) = true) (hbase : ∀ env, attributeBase a "join" env (eval a env) = eval a env) (hp : Zx [b] = true) : DE S (.Call (.Attribute a "join" apos) [b] [] cpos) (dSM We da (Za db)) :=
 de_sm1 PySem.F.slot_str_join PySem.F.type_str_join (fun X hX => hX.K ▸ mt_join) v_join ha hb hl hbase hp
theorem ZaB (ha : DE S a da) (hb : DE S b db) (hl : (apos.endLine == cpos.line) = true) (hbase : ∀ env, attributeBase a "split" env (eval a env) = eval a env) (hp : Zx [b] = true) : DE S (.Call (.Attribute a "split" apos) [b] [] cpos) (dSM ZT da (Za db)) :=
 de_sm1 PySem.F.slot_str_split PySem.F.type_str_split (fun X hX => mt_split) v_split ha hb hl hbase hp
theorem de_part (ha : DE S a da) (hb : DE S b db) (hl : (apos.endLine == cpos.line) = true) (hbase : ∀ env, attributeBase a "partition" env (eval a env) = eval a env) (hp : Zx [b] = true) : DE S (.Call (.Attribute a "partition" apos) [b] [] cpos) (dSM oPart da (Za db)) :=
 de_sm1 PySem.F.slot_str_partition PySem.F.type_str_partition (fun X hX => mt_partition) v_part ha hb hl hbase hp
theorem de_pre (ha : DE S a da) (hb : DE S b db) (hl : (apos.endLine == cpos.line) = true) (hbase : ∀ env, attributeBase a "removeprefix" env (eval a env) = eval a env) (hp : Zx [b] = true) : DE S (.Call (.Attribute a "removeprefix" apos) [b] [] cpos) (dSM oPre da (Za db)) :=
 de_sm1 PySem.F.slot_str_removeprefix PySem.F.type_str_removeprefix (fun X hX => mt_removeprefix) v_pre ha hb hl hbase hp
@[simp] def oFmt : Op := oS1 fun a => match a with
 | .int i => bif ZaS i then some (.str (toString i)) else none
 | .str x => bif x.length.ble 16777216 then some (.str x) else none
 | _ => none
theorem v_fmt {G : Sg} : VOp G (fun xs H Q => (∃ y : Str, xs = [.str y] ∧ y.length <= sizeLine ∧ Q (.str y) H) ∨ ∃ i : Int, xs = [.int i] ∧ i.natAbs.log2 < 1920 ∧ Q (.str (toString i)) H) oFmt := v_C1 fun Fz am H v a d Q h e q => by
 split at e
 ·obtain ⟨hk, e2⟩ := bifS e
  subst e2
  rw [h.int]
  exact .inr ⟨_, rfl, of_decide_eq_true hk, q _ rfl⟩
 ·obtain ⟨hk, e2⟩ := bifS e
  subst e2
  rw [h.str]
  exact .inl ⟨_, rfl, VU hk, q _ rfl⟩
 ·cases e
theorem de_fmt (ha : DE S a da) : DE S (.FormattedValue a (-1) none pos) (dOp oFmt (Za da)) := fun W => by
 obtain ⟨ta, pa, qa⟩ := ha W
 refine ⟨_, fun X hX tk => pe_fmt (pa X hX tk), fun g env st T σ H Q hT R h => ?_⟩
 have k := run1 (r := fun xs H Q => (∃ y : Str, xs = [.str y] ∧ y.length <= sizeLine ∧ Q (.str y) H) ∨ ∃ i : Int, xs = [.int i] ∧ i.natAbs.log2 < 1920 ∧ Q (.str (toString i)) H) v_fmt qa g env st T σ H Q hT R h
 have e : (fun x H1 => (∃ y : Str, [x] = [V.str y] ∧ y.length <= sizeLine ∧ Q (.str y) H1) ∨ ∃ i : Int, [x] = [V.int i] ∧ i.natAbs.log2 < 1920 ∧ Q (.str (toString i)) H1) = fun x H1 => (∃ y : Str, x = V.str y ∧ y.length <= sizeLine ∧ Q (.str y) H1) ∨ ∃ i : Int, x = V.int i ∧ i.natAbs.log2 < 1920 ∧ Q (.str (toString i)) H1 := by
  funext x H1
  simp
 have k : ta σ H _ := k
 rw [e] at k
 exact k
@[simp] def dJs : List Den -> Str -> Den
 | [], acc, _, st => .ok .z false (.str acc) st
 | a :: as, acc, env, st => match a env st with
  | .ok _ _ (.str y) st1 => bif (acc ++ y).length.ble 16777216 then dJs as (acc ++ y) env st1 else .stuck
  | .ok _ _ _ _ => .stuck
  | .exc c ds st1 => .exc c ds st1
  | .stuck => .stuck
inductive DJ (S : Sx) : List Expr -> List Den -> Prop
 | nil : DJ S [] []
 | cons {e : Expr} {d : Den} {es : List Expr} {ds : List Den} (h : DE S e d) (r : DJ S es ds) : DJ S (e :: es) (d :: ds)
theorem dj_run {es : List Expr} {ds : List Den} (h : DJ S es ds) (W : WX) : ∃ ts : List TE, (∀ X, Stx S X -> Takes X W -> PJ X es ts) ∧
  ∀ acc g env st T σ H Q, Zy T -> Rl S.G g env st T σ H -> Wo S.G g env T σ W Q (dJs ds acc env st) -> tJs ts acc σ H fun out H1 => Q (.str out) H1 := by
 induction h with
 | nil => exact ⟨[], fun X hX tk => .nil, fun acc g env st T σ H Q hT R h => h _ H (R.scal rfl)⟩
 | cons h r ih =>
  obtain ⟨t, p, q⟩ := h W
  obtain ⟨ts, ps, qs⟩ := ih
  refine ⟨t :: ts, fun X hX tk => .cons (p X hX tk) (ps X hX tk), fun acc g env st T σ H Q hT R h => q g env st T σ H _ hT R ?_⟩
  unfold dJs at h
  rename_i d _ _ _
  cases e1 : d env st with
  | stuck => rw [e1] at h; exact h.elim
  | exc c ds st1 => rw [e1] at h; exact h
  | ok f b0 d st1 =>
   rw [e1] at h
   cases d with
   | str y =>
    obtain ⟨hc, h⟩ := bifT h id
    intro v H1 R1
    exact ⟨y, R1.str, VU hc, qs _ g env st1 T σ H1 Q hT R1.drop h⟩
   | _ => exact h.elim
theorem de_fs {v1 v2 : Expr} {rest : List Expr} {ds : List Den} (h : DJ S (v1 :: v2 :: rest) ds) : DE S (.JoinedStr (v1 :: v2 :: rest) pos) (dJs ds Str.empty) := fun W => by
 obtain ⟨ts, p, q⟩ := dj_run h W
 exact ⟨_, fun X hX tk => pe_joined (p X hX tk), fun g env st T σ H Q hT R h => q _ g env st T σ H Q hT R h⟩
end
@[simp] def dIv (a : Den) : DenI := fun env st => match a env st with
 | .ok f b (.con .lst ds) st1 => bif !b || f.isz then .ok ds st1 else .stuck
 | .ok f b (.con .tup ds) st1 => bif !b || f.isz then .ok ds st1 else .stuck
 | .ok f b (.con .frl ds) st1 => bif !b || f.isz then .ok ds st1 else .stuck
 | .ok f b (.con (.dik ks) ds) st1 => bif !b || f.isz then .ok (ks.map keyD) st1 else .stuck
 | .ok _ _ (.str x) st1 => .ok (chars x) st1
 | .ok _ _ _ _ => .stuck
 | .exc c ds st1 => .exc c ds st1
 | .stuck => .stuck
section
variable {G : Sg} {g : Gd} {env : Env} {st st' : Zd} {T T' : List Tm} {σ : St} {H H' : Hp}
theorem it_frl {a : Addr} {ds : List D} : ItOk G g (Itl G.K a) [⟨.ref a, .z, .con .frl ds, false⟩] ds where
 nb := fun x hx => by rw [List.mem_singleton.mp hx]
 go := fun i env st T σ H R hi => R.oneD (P := _) fun Fz am r => by
  obtain ⟨vs, e1, e2⟩ := sqRep rfl (by decide) r
  exact ⟨vs, _, e1, List.getElem?_eq_getElem (by rw [e2.len.2]; exact hi)⟩
 yld := fun i env st T σ H x H' d R y e => by
  obtain ⟨rfl, q⟩ := y
  exact R.pz fun Fz am ne nt' _ h2 => by
   cases h2 with
   | own k1 k2 k3 =>
    obtain ⟨vs, a1, a2⟩ := sqRep rfl (by decide) k1
    exact Um a2 (q vs a1) e
 stop := fun i env st T σ H R hi => R.oneD (P := _) fun Fz am r => by
  obtain ⟨vs, e1, e2⟩ := sqRep rfl (by decide) r
  exact ⟨vs, e1, by rw [e2.len.2]; omega⟩
theorem it_str {x : Str} : ItOk G g (Its x) [] (chars x) where
 nb := fun x hx => by cases hx
 go := fun i env st T σ H R hi => by
  show i < x.cps.size
  simpa [chars] using hi
 yld := fun i env st T σ H y H' d R hy e => by
  obtain ⟨rfl, c, e1, rfl⟩ := hy
  unfold chars at e
  rw [List.getElem?_map, Array.getElem?_toList, e1] at e
  cases e
  exact Rl.scal R rfl
 stop := fun i env st T σ H R hi => by
  show x.cps.size <= i
  rw [hi]
  simp [chars]
end
section
variable {S : Sx} {e a b tg it elt it1 tg1 : Expr} {ifs ifs1 : List Expr} {es elts : List Expr} {da db : Den} {das : DenL} {pos p' tpos apos cpos : Pos} {kk : Nat}
theorem Wq (ha : DE S a da) : DI S tg a (dIv da) := fun W => by
 obtain ⟨w1, p1, q1⟩ := di_val (tg := tg) ha W
 obtain ⟨w2, p2, q2⟩ := di_keys (tg := tg) ha W
 obtain ⟨t, p, q⟩ := ha W
 refine ⟨fun σ H R => w1 σ H R ∨ (w2 σ H R ∨ (iList S.G.K t σ H R ∨ iStr t σ H R)), fun X hX tk => PI.or (p1 X hX tk) (PI.or (p2 X hX tk) (PI.or (by rw [<- hX.K]; exact pi_list (p X hX tk)) (pi_str (p X hX tk)))), fun g env st T σ H R0 hT R h => ?_⟩
 unfold dIv at h
 cases e : da env st with
 | stuck => rw [e] at h; exact h.elim
 | exc c ds st1 => rw [e] at h; exact .inl (q1 g env st T σ H R0 hT R (by unfold dIvS; rw [e]; exact h))
 | ok f b d st1 =>
  rw [e] at h
  cases d with
  | con k ds =>
   cases k with
   | lst => exact .inl (q1 g env st T σ H R0 hT R (by unfold dIvS; rw [e]; exact h))
   | tup => exact .inl (q1 g env st T σ H R0 hT R (by unfold dIvS; rw [e]; exact h))
   | dik ks => exact .inr (.inl (q2 g env st T σ H R0 hT R (by unfold dKeysI; rw [e]; exact h)))
   | frl =>
    obtain ⟨hc, h⟩ := bifT h id
    refine .inr (.inr (.inl (q g env st T σ H _ hT R ?_)))
    rw [e]
    intro v H1 R1
    have R2 := (R1.unb hc).frz
    obtain ⟨a, vs, rfl, e1, e2⟩ := frlOpen rfl (by decide) R2
    exact ⟨a, rfl, ⟨vs, e1⟩, h _ H1 _ g .refl it_frl R2⟩
   | _ => exact h.elim
  | str x =>
   refine .inr (.inr (.inr (q g env st T σ H _ hT R ?_)))
   rw [e]
   intro v H1 R1
   exact ⟨x, R1.str, h _ H1 [] g .refl it_str R1.drop⟩
  | _ => exact h.elim
theorem Rl.dim {G : Sg} {g : Gd} {env : Env} {st : Zd} {l T : List Tm} {a : Tm} {σ : St} {H : Hp} (R : Rl G g env st (a :: (l ++ T)) σ H) : Rl G g env st (l ++ a :: T) σ H := by
 obtain ⟨Fz, am, ne, nt, ns, h1, h2, h3, h4, h5⟩ := R
 exact ⟨Fz, am, ne, nt, ns, h1, h2.dim, h3, h4, h5⟩
section
variable {di di1 : DenI} {p p1 : Pat} {c c1 : DenB} {el : Den} {scope : Scope} {own : List (Str × Nat)} {own1 : List Nat} {pos : Pos}
end
end
end Hx
namespace Hx
open PySem PySem.Spec L2
noncomputable section
@[simp] def Zdg : DenS :=
  ZO 1 (dOp oAdd (Zb (dC (.int 31)) (Za (dOp oLen (Za (dOp oSlH (Zb (Ze 0) (Za (dC (.int 63))))))))))
@[simp] def Zay : DenS :=
  ZO 1 (dOp oMod (Zb (dOp oAdd (Zb (dOp oAdd (Zb (dOp oMul (Zb (Ze 1) (Za (dC (.int 48271))))) (Za (dOp oMod (Zb (Ze 2) (Za (dC (.int 2147483629)))))))) (Za (dC (.int 7))))) (Za (dC (.int 2147483647)))))
def VT : DenS :=
  Zay
@[simp] def Zdk : DenS :=
  dFor (dIv (dOp oSlH (Zb (Ze 0) (Za (dC (.int 63)))))) (.nm 2) (VT) []
@[simp] def Zde : DenS :=
  dRet (dLst (Zb (dOp oList (Za (dOp oSlH (Zb (Ze 0) (Za (dC (.int 63))))))) (Zb (dC (.int 0)) (Zb (dC (.int 0)) (Zb (Ze 1) (Za (dC (.int 0))))))))
@[simp] def ZbJ : DenS :=
  dSeq (Zdg) (dSeq (Zdk) (Zde))
def Zaz : Fn := Ww 3 ZbJ
@[simp] def Vv : DenS :=
  ZO 2 (dOp oIx (Zb (dOp oIx (Zb (Ze 0) (Za (dC (.int 0))))) (Za (dOp oIx (Zb (Ze 0) (Za (dC (.int 1))))))))
@[simp] def Vz : DenS :=
  dPutC (Ze 0) (dC (.int 1)) (dOp oAdd (Zb (dOp oIx (Zb (Ze 0) (Za (dC (.int 1))))) (Za (dC (.int 1)))))
@[simp] def VG : DenS :=
  dPutC (Ze 0) (dC (.int 3)) (dOp oMod (Zb (dOp oAdd (Zb (dOp oAdd (Zb (dOp oMul (Zb (dOp oIx (Zb (Ze 0) (Za (dC (.int 3))))) (Za (dC (.int 40503))))) (Za (dOp oMod (Zb (Ze 2) (Za (dC (.int 2147483563)))))))) (Za (dC (.int 1))))) (Za (dC (.int 2147483629)))))
@[simp] def Vw : DenS :=
  dIfS (dB (dOp oGe (Zb (Ze 2) (Za (dOp oPow (Zb (dC (.int 10)) (Za (dC (.int 18))))))))) (dPutC (Ze 0) (dC (.int 2)) (Ze 2)) (VG)
@[simp] def Wu : DenS :=
  dIfS (dAndB (dB (dOp oEq (Zb (dOp oIx (Zb (Ze 0) (Za (dC (.int 2))))) (Za (dC (.int 0)))))) (dB (dOp oLt (Zb (dOp oIx (Zb (Ze 0) (Za (dC (.int 1))))) (Za (dOp oLen (Za (dOp oIx (Zb (Ze 0) (Za (dC (.int 0)))))))))))) (dSeq (Vv) (dSeq (Vz) (Vw))) (Wa)
@[simp] def Zae : DenS :=
  ZO 3 (dOp oMod (Zb (dOp oIx (Zb (Ze 0) (Za (dC (.int 2))))) (Za (Ze 1))))
@[simp] def UX : DenS :=
  dPutC (Ze 0) (dC (.int 2)) (dOp oFdiv (Zb (dOp oIx (Zb (Ze 0) (Za (dC (.int 2))))) (Za (Ze 1))))
@[simp] def Zar : DenS :=
  dIfS (dB (dOp oGt (Zb (dOp oIx (Zb (Ze 0) (Za (dC (.int 2))))) (Za (dC (.int 0)))))) (dSeq (Zae) (dSeq (UX) (ZJ (Ze 3)))) (Wa)
@[simp] def ZbM : DenS :=
  dPutC (Ze 0) (dC (.int 4)) (dOp oAdd (Zb (dOp oIx (Zb (Ze 0) (Za (dC (.int 4))))) (Za (dC (.int 1)))))
@[simp] def Zcr : DenS :=
  ZO 4 (dOp oAdd (Zb (dOp oMul (Zb (dOp oIx (Zb (Ze 0) (Za (dC (.int 3))))) (Za (dOp oIx (Zb (Ze 0) (Za (dC (.int 3)))))))) (Za (dOp oMul (Zb (dOp oMul (Zb (dC (.int 48271)) (Za (dOp oIx (Zb (Ze 0) (Za (dC (.int 4)))))))) (Za (dOp oAdd (Zb (dOp oMod (Zb (dOp oIx (Zb (Ze 0) (Za (dC (.int 3))))) (Za (dC (.int 8191))))) (Za (dC (.int 5)))))))))))
@[simp] def Zcx : DenS :=
  dPutC (Ze 0) (dC (.int 3)) (dOp oMod (Zb (dOp oAdd (Zb (dOp oAdd (Zb (Ze 4) (Za (dOp oMul (Zb (dOp oMul (Zb (dOp oIx (Zb (Ze 0) (Za (dC (.int 4))))) (Za (dOp oIx (Zb (Ze 0) (Za (dC (.int 4)))))))) (Za (dOp oIx (Zb (Ze 0) (Za (dC (.int 4))))))))))) (Za (dC (.int 12345))))) (Za (dC (.int 2147483629)))))
@[simp] def Zcg : DenS :=
  ZJ (dOp oMod (Zb (dOp oAdd (Zb (dOp oFdiv (Zb (dOp oIx (Zb (Ze 0) (Za (dC (.int 3))))) (Za (dC (.int 71))))) (Za (dOp oMul (Zb (dOp oMod (Zb (dOp oIx (Zb (Ze 0) (Za (dC (.int 3))))) (Za (dC (.int 7919))))) (Za (dC (.int 37)))))))) (Za (Ze 1))))
@[simp] def ZdW : DenS :=
  dSeq (Zcx) (Zcg)
@[simp] def Zeb : DenS :=
  dSeq (Zcr) (ZdW)
@[simp] def ZdS : DenS :=
  dSeq (ZbM) (Zeb)
@[simp] def Zef : DenS :=
  dSeq (Zar) (ZdS)
@[simp] def Ut : DenS :=
  dSeq (Wu) (Zef)
def ZX : Fn := Ww 5 Ut
@[simp] def Zaa (rec : Fn) : DenS :=
  ZJ (dAnd (dOp oIsN (Zb (Ze 1) (Za (dC .non)))) (dOp oIsN (Zb (Ze 0) (Za (dC .non)))))
@[simp] def WC (rec : Fn) : DenS :=
  dIfS (dOrB (dB (dOp oIsN (Zb (Ze 1) (Za (dC .non))))) (dB (dOp oIsN (Zb (Ze 0) (Za (dC .non)))))) (Zaa rec) (Wa)
@[simp] def UZ (rec : Fn) : DenS :=
  ZJ (dAnd (dIsi [.bl] (Ze 1)) (dAnd (dIsi [.bl] (Ze 0)) (dOp oEq (Zb (Ze 0) (Za (Ze 1))))))
@[simp] def WY (rec : Fn) : DenS :=
  dIfS (dOrB (dB (dIsi [.bl] (Ze 1))) (dB (dIsi [.bl] (Ze 0)))) (UZ rec) (Wa)
@[simp] def Vt (rec : Fn) : DenS :=
  ZJ (dAnd (dOp oEq (Zb (dIsi [.int] (Ze 0)) (Za (dIsi [.int] (Ze 1))))) (dOp oEq (Zb (Ze 0) (Za (Ze 1)))))
@[simp] def Vk (rec : Fn) : DenS :=
  dIfS (dB (dIsi [.int, .str] (Ze 1))) (Vt rec) (Wa)
@[simp] def Zak (rec : Fn) : DenS :=
  dIfS (dOrB (dB (dOp oNe (Zb (dIsi [.lst] (Ze 1)) (Za (dIsi [.lst] (Ze 0)))))) (dB (dOp oNe (Zb (dIsi [.tup] (Ze 1)) (Za (dIsi [.tup] (Ze 0))))))) (ZJ (dC (.bl false))) (Wa)
@[simp] def Zag (rec : Fn) : DenS :=
  ZJ (dAnd (dOp oEq (Zb (dOp oLen (Za (Ze 0))) (Za (dOp oLen (Za (Ze 1)))))) (dOp oAll (Za (dLc (UY (Za (dOp oLen (Za (Ze 1))))) [2] (.nm 2) (dYes) (Zq rec [] (Zb (dOp oIx (Zb (Ze 0) (Za (Ze 2)))) (Za (dOp oIx (Zb (Ze 1) (Za (Ze 2)))))))))))
@[simp] def ZdM (rec : Fn) : DenS :=
  dSeq (Zak rec) (Zag rec)
@[simp] def Zee (rec : Fn) : DenS :=
  dSeq (Vk rec) (ZdM rec)
@[simp] def ZdK (rec : Fn) : DenS :=
  dSeq (WY rec) (Zee rec)
@[simp] def WS (rec : Fn) : DenS :=
  dSeq (WC rec) (ZdK rec)
def ZN : Nat -> Fn
 | 0 => fun _ _ => .stuck
 | m + 1 => Ww 3 (WS (ZN m))
@[simp] def ZeH : DenS :=
  ZJ (dOp oIx (Zb (Ze 1) (Za (Zq ZX [] (Zb (Ze 0) (Za (dOp oLen (Za (Ze 1)))))))))
@[simp] def Zdx : DenS :=
  ZeH
def UO : Fn := Ww 2 Zdx
end
noncomputable section
end
noncomputable section
end
end Hx
namespace Hx
open PySem PySem.Spec L2 PySem.W PyProof.Rows
section
variable {prog : Program} {w : World} {A : Around} {E : Value -> Shared -> Prop} {s : Shared}
theorem star_items {T : String} {l : Addr} {items : Array Value} {n i : Nat} {Q : List Value -> Shared -> Prop} (hh : A.handled = none) (hi : i < n) (hn : n <= items.size + 1) (hz : items.size <= 16384)
  (hl : (T = "list" ∧ s.heap.IsList l items) ∨ (T = "tuple" ∧ IsTup s.heap l items))
  (h : ∀ (h' : Heap) (tk : Nat), (∀ b o, s.heap.get? b = some o -> h'.get? b = some o) -> Q (items.toList.take i ++ [.ref h'.objs.size] ++ (items.toList.drop i).drop (items.size + 1 - n)) { s with heap := h'.push { cls := .type "list", data := .seq ((items.toList.drop i).take (items.size + 1 - n)).toArray }, toks := tk }) :
  wpAny (model prog w) A (unpackItems (.ref l) n (some i)) Q E s := by
 have hfl : (items.toList.take i).length = i := by rw [List.length_take, Array.length_toList]; omega
 have hrl : (items.toList.drop i).length = items.size - i := by rw [List.length_drop, Array.length_toList]
 have hmid : (items.toList.drop i).length - (n - 1 - i) = items.size + 1 - n := by rw [hrl]; omega
 unfold unpackItems
 refine wpAny_bind ?_
 unfold notIterableAtAll
 rcases hl with ⟨_, hl⟩ | ⟨_, hl⟩
 ·have hlt : l ≠ s.heap.objs.size := by obtain ⟨o, ho, _⟩ := hl; exact Nat.ne_of_lt (Heap.lt_size ho)
  refine wpAny_bind (wpAny_specialOf hl.typeIs slot_list_iter.lookup ?_)
  refine wpAny_pure ?_
  simp only [Bool.false_eq_true, if_false]
  refine wpAny_bind (wpAny_holding (wpAny_pyIter_list hl ?_))
  refine wpAny_bind (wpAny_holding (kun_draw hlt i 0 _ _ ⟨_, Heap.get?_push_size _ rfl, rfl, rfl⟩ (hl.push _) (by omega) fun h₁ hit₁ hs₁ => ?_))
  have hl₁ : h₁.IsList l items := (hl.push _).extBut hs₁.extBut hlt
  rw [Nat.zero_add] at hit₁
  have hit₁' := hit₁
  obtain ⟨oi, hoi, _⟩ := hit₁'
  have hl₁' := hl₁
  obtain ⟨ol, hol, _⟩ := hl₁'
  rw [List.drop_zero, if_neg (show ¬ ((items.toList.take i).length < i) by rw [hfl]; omega)]
  refine wpAny_bind (wpAny_holding (kun_collect (s := { s with heap := h₁ }) (T := "list_iterator") (.inr (.inr (.inl rfl))) (Walks.list (A := A.in1) hh s.heap.objs.size l hlt items) (fun j u st => st.1.typeIs) (k := i) (by omega) ⟨hit₁, hl₁⟩ (Heap.lt_size hoi) (Heap.lt_size hol) (fun h₂ tk hk => ?_) (by rw [sizeLine_eq]; omega)))
  show wpAny _ _ (if (items.toList.drop i).length < n - 1 - i then _ else _) _ _ _
  rw [if_neg (by rw [hrl]; omega)]
  show wpAny _ _ (newList ((items.toList.drop i).take ((items.toList.drop i).length - (n - 1 - i))) >>= fun d => pure (items.toList.take i ++ [d] ++ (items.toList.drop i).drop ((items.toList.drop i).length - (n - 1 - i)))) _ _ _
  rw [hmid]
  have he : ∀ b o, s.heap.get? b = some o -> h₂.get? b = some o := fun b o e => hk b o (Nat.ne_of_lt (Heap.lt_size e)) (hs₁.extBut b o (Nat.ne_of_lt (Heap.lt_size e)) (Heap.get?_push_of_some _ e))
  exact wpAny_bind (wpAny_newList (s := { s with heap := h₂, toks := tk }) (wpAny_pure (h h₂ tk he)) (by rw [List.length_take, hrl, sizeLine_eq]; omega))
 ·have hlt : l ≠ s.heap.objs.size := by obtain ⟨o, ho, _⟩ := hl; exact Nat.ne_of_lt (Heap.lt_size ho)
  refine wpAny_bind (wpAny_specialOf hl.typeIs slot_tuple_iter.lookup ?_)
  refine wpAny_pure ?_
  simp only [Bool.false_eq_true, if_false]
  refine wpAny_bind (wpAny_holding (iter_tuple hl ?_))
  refine wpAny_bind (wpAny_holding (draw_tuple hlt i 0 _ _ ⟨_, Heap.get?_push_size _ rfl, rfl, rfl⟩ (hl.push _) (by omega) fun h₁ hit₁ hs₁ => ?_))
  have hl₁ : IsTup h₁ l items := (hl.push _).extBut hs₁.extBut hlt
  rw [Nat.zero_add] at hit₁
  have hit₁' := hit₁
  obtain ⟨oi, hoi, _⟩ := hit₁'
  have hl₁' := hl₁
  obtain ⟨ol, hol, _⟩ := hl₁'
  rw [List.drop_zero, if_neg (show ¬ ((items.toList.take i).length < i) by rw [hfl]; omega)]
  refine wpAny_bind (wpAny_holding (kun_collect (s := { s with heap := h₁ }) (T := "tuple_iterator") (.inr (.inr (.inr rfl))) (Walks.tuple (A := A.in1) hh s.heap.objs.size l hlt items) (fun j u st => st.1.typeIs) (k := i) (by omega) ⟨hit₁, hl₁⟩ (Heap.lt_size hoi) (Heap.lt_size hol) (fun h₂ tk hk => ?_) (by rw [sizeLine_eq]; omega)))
  show wpAny _ _ (if (items.toList.drop i).length < n - 1 - i then _ else _) _ _ _
  rw [if_neg (by rw [hrl]; omega)]
  show wpAny _ _ (newList ((items.toList.drop i).take ((items.toList.drop i).length - (n - 1 - i))) >>= fun d => pure (items.toList.take i ++ [d] ++ (items.toList.drop i).drop ((items.toList.drop i).length - (n - 1 - i)))) _ _ _
  rw [hmid]
  have he : ∀ b o, s.heap.get? b = some o -> h₂.get? b = some o := fun b o e => hk b o (Nat.ne_of_lt (Heap.lt_size e)) (hs₁.extBut b o (Nat.ne_of_lt (Heap.lt_size e)) (Heap.get?_push_of_some _ e))
  exact wpAny_bind (wpAny_newList (s := { s with heap := h₂, toks := tk }) (wpAny_pure (h h₂ tk he)) (by rw [List.length_take, hrl, sizeLine_eq]; omega))
end
def gStar (K : PySem.W.Frag) (n i : Nat) (t : TGs) : TG := fun v σ H Q => ∃ a xs, v = .ref a ∧ (SqL K H a xs ∨ SqT K H a xs) ∧ n <= xs.length + 1 ∧ xs.length <= 16384 ∧
 ∀ p, H p = none -> t (xs.take i ++ [.ref p] ++ (xs.drop i).drop (xs.length + 1 - n)) σ (upd H p (.lst ((xs.drop i).take (xs.length + 1 - n)))) Q
theorem vals_take {xs : List V} {us : List Value} (r : Vals xs us) (k : Nat) : Vals (xs.take k) (us.take k) := by
 induction r generalizing k with
 | nil => simp; exact .nil
 | cons h _ ih => cases k with
  | zero => exact .nil
  | succ k => exact .cons h (ih k)
theorem ZaU {xs : List V} {us : List Value} (r : Vals xs us) (k : Nat) : Vals (xs.drop k) (us.drop k) := by
 induction r generalizing k with
 | nil => simp; exact .nil
 | cons h t ih => cases k with
  | zero => exact .cons h t
  | succ k => exact ih k
theorem pg_star {X : Cx} {pos : Pos} {es : List Expr} {k : Nat} {t : TGs} {n i : Nat} (hc : X.calm = true) (h : PGs X es t) (hi : i < n)
  (hn : (assignEach es X.env).length = n) (hst : (assignEach es X.env).findIdx? (·.1) = some i) : PG X (.Tuple es k pos) (gStar X.K n i t) := by
 refine ⟨fun pins s σ H v u Q I r hw => ?_⟩
 obtain ⟨a, xs, e1, hq, h1, h2, hw⟩ := hw
 subst e1
 cases r
 have key : ∀ (T : String) (its : List Value), Vals xs its -> ((T = "list" ∧ s.heap.IsList a its.toArray) ∨ (T = "tuple" ∧ IsTup s.heap a its.toArray)) ->
   wpAny (model X.prog X.w) X.A (assign (.Tuple es k pos) X.env (.ref a)) (fun _ s' => ∃ σ' H', Inv X pins σ' H' s' ∧ Q σ' H') X.xe s := by
  intro T its rv hl
  have el := rv.length
  rw [PyProof.Rows.assign_Tuple]
  refine wpAny_bind (wpAny_standAt ?_)
  unfold unpack
  rw [hn, hst]
  refine wpAny_bind (wpAny_holding (star_items (T := T) (I.ok.hd hc) hi (by simp; omega) (by simp; omega) hl fun h' tk hk => ?_))
  have I1 : Inv X pins σ H { s with heap := h', toks := tk } := I.kept (t' := tk) hk
  have hf : H h'.objs.size = none := I1.hok.fresh (Nat.le_refl _)
  have rm : Vals ((xs.drop i).take (xs.length + 1 - n)) ((its.drop i).take (its.length + 1 - n)) := by rw [el]; exact vals_take (ZaU rv i) _
  have I2 : Inv X pins σ (upd H h'.objs.size (.lst ((xs.drop i).take (xs.length + 1 - n)))) { s with heap := h'.push { cls := .type "list", data := .seq ((its.drop i).take (its.length + 1 - n)).toArray }, toks := tk } :=
   I1.laid (t' := tk) (fun b u e => Heap.get?_push_of_some _ e) (Nat.le_refl _) ⟨by rw [List.length_take, List.length_drop, sizeLine_eq]; omega, _, 0, rm, Heap.get?_push_size _ rfl⟩
  have rr : Vals (xs.take i ++ [.ref h'.objs.size] ++ (xs.drop i).drop (xs.length + 1 - n)) (its.take i ++ [.ref h'.objs.size] ++ (its.drop i).drop (its.length + 1 - n)) := by
   rw [el]
   exact ((vals_take rv i).append (.cons (show RelV (.ref _) (.ref _) from rfl) .nil)).append (ZaU (ZaU rv i) _)
  simp only [List.size_toArray]
  exact h.run pins _ σ _ _ _ Q I2 rr (hw _ hf)
 rcases hq with hq | hq
 ·obtain ⟨its, rv, pl, hz⟩ := I.list hq
  refine key "list" its rv (.inl ⟨rfl, ?_⟩)
  obtain ⟨o, m, e, c, d, q⟩ := pl
  exact ⟨o, e, c, m, q⟩
 ·obtain ⟨its, rv, ht, hz⟩ := I.tuple hq
  exact key "tuple" its rv (.inr ⟨rfl, ht⟩)
def seqI : D -> Option (List D)
 | .con .lst ds => some ds
 | .con .tup ds => some ds
 | _ => none
def dUnpS (ps : List Pat) (i n : Nat) (a : Den) : DenS := fun env st => match a env st with
 | .ok f b d st1 => bif !b || f.isz then (match seqI d with
  | some ds => bif n.ble (ds.length + 1) && ds.length.ble 16384 then (match ZF ps (zs i ++ [.c .z] ++ zs (n - 1 - i)) (ds.take i ++ [.con .lst ((ds.drop i).take (ds.length + 1 - n))] ++ (ds.drop i).drop (ds.length + 1 - n)) env with
   | some env1 => .nx env1 st1
   | none => .stuck) else .stuck
  | none => .stuck) else .stuck
 | .exc c ds st1 => .exc c ds env st1
 | .stuck => .stuck
section
variable {S : Sx} {tg e : Expr} {tgs es : List Expr} {p : Pat} {ps : List Pat} {da : Den} {pos : Pos} {k i n : Nat}
theorem dgs_star {sp : Pos} (h1 : DG S tg p) (h2 : DGs S tgs ps) : DGs S (.Starred tg sp :: tgs) (p :: ps) := by
 obtain ⟨t, pt, q⟩ := h1
 obtain ⟨t2, pt2, q2⟩ := h2
 have pc : ∀ X, Stx S X -> PGs X (.Starred tg sp :: tgs) (gCons t t2) := fun X hX => ⟨fun pins s σ H vs us Q I r h => by
  obtain ⟨v, vr, e1, h⟩ := h
  subst e1
  cases r with
  | cons r rr =>
   show wpAny _ _ (assignInOrder (assign tg X.env :: (assignEach tgs X.env).map (·.2)) _) _ _ _
   exact assignInOrder_cons (thn ((pt X hX).run pins s σ H _ _ _ I r h) fun _ s1 ⟨σ1, H1, I1, q1⟩ => (pt2 X hX).run pins s1 σ1 H1 _ _ Q I1 rr q1)⟩
 refine ⟨_, pc, fun g env st T σ H vs fs ds env' Q hT hl R e h => ?_⟩
 cases fs with
 | nil => cases ds <;> simp [ZF] at e
 | cons f fs =>
  cases ds with
  | nil => simp [ZF] at e
  | cons d ds =>
   cases vs with
   | nil => simp at hl
   | cons v vs =>
    rw [ZF] at e
    obtain ⟨env1, e1, e2⟩ := Option.bind_eq_some_iff.mp e
    refine ⟨v, vs, rfl, q g env st (mkF vs fs ds ++ T) σ H v f d env1 _ (nb_app mkF_nb hT) R e1 fun σ' H' D' R' => ?_⟩
    exact q2 g env1 st T σ' H' vs fs ds env' Q hT (by simpa using hl) R' e2 fun σ2 H2 D2 R2 => h σ2 H2 (D'.app D2) R2
theorem reps_cut2 {G : Sg} {Fz : Addr -> Prop} {am : List Addr} {H : Hp} {vs : List V} {ds : List D} (r : Reps G Fz am H (zs ds.length) vs ds (fun _ => 0)) (k : Nat) :
  Reps G Fz am H (zs (ds.take k).length) (vs.take k) (ds.take k) (fun _ => 0) ∧ Reps G Fz am H (zs (ds.drop k).length) (vs.drop k) (ds.drop k) (fun _ => 0) := by
 refine ⟨?_, ZaR k r⟩
 induction ds generalizing vs k with
 | nil => cases r; simpa using (show Reps G Fz am H (zs 0) [] [] (fun _ => 0) from .nil fun _ => rfl)
 | cons d ds ih =>
  have e : zs (d :: ds).length = .z :: zs ds.length := List.replicate_succ
  rw [e] at r
  cases r with
  | cons r1 r2 h3 =>
   cases k with
   | zero => simpa using (show Reps G Fz am H (zs 0) [] [] (fun _ => 0) from .nil fun _ => rfl)
   | succ k =>
    have := ih (r2.fp (Reps.z0 r2)) k
    show Reps G Fz am H (zs ((ds.take k).length + 1)) _ _ _
    rw [show zs ((ds.take k).length + 1) = .z :: zs (ds.take k).length from List.replicate_succ]
    exact .cons (r1.fp r1.z0) this fun q => rfl
theorem ds_unpS {tpos : Pos} (hg : DGs S tgs ps) (ha : DE S e da) (hc : Zax e = true) (hw : noSwap e = true) (hi : i < n) (hl : tgs.length = n) (hst : ∀ env : PySem.Env, (assignEach tgs env).length = n ∧ (assignEach tgs env).findIdx? (·.1) = some i) : DS S (.Assign [.Tuple tgs k tpos] e pos) (dUnpS ps i n da) := fun W => by
 obtain ⟨t, pt, q⟩ := ha W
 obtain ⟨t2, pt2, q2⟩ := hg
 have pg : ∀ X, Stx S X -> PG X (.Tuple tgs k tpos) (gStar S.G.K n i t2) := fun X hX => by rw [<- hX.K]; exact pg_star hX.calm (pt2 X hX) hi (hst X.env).1 (hst X.env).2
 refine ⟨_, fun X hX tk => ps_asg (pt X hX tk) (pg X hX) (show swapsWith e (some (.Tuple tgs k tpos)) pos.line X.env = pure false from ZaE hc) (Zba hw) (by rw [assignNo (by intro x p z; cases z)]; rfl), fun g env st T σ H D hT R h => q g env st T σ H _ hT R ?_⟩
 unfold dUnpS at h
 cases e : da env st with
 | stuck => rw [e] at h; exact h.elim
 | exc c ds st1 => rw [e] at h; exact h σ
 | ok f b d st1 =>
  rw [e] at h
  obtain ⟨hc, h⟩ := bifT h id
  cases e2 : seqI d with
  | none => rw [e2] at h; exact h.elim
  | some ds =>
   rw [e2] at h
   obtain ⟨hc2, h⟩ := bifT h id
   rw [Bool.and_eq_true] at hc2
   have b1 := Nat.le_of_ble_eq_true hc2.1
   have b2 := Nat.le_of_ble_eq_true hc2.2
   cases e3 : ZF ps (zs i ++ [.c .z] ++ zs (n - 1 - i)) (ds.take i ++ [.con .lst ((ds.drop i).take (ds.length + 1 - n))] ++ (ds.drop i).drop (ds.length + 1 - n)) env with
   | none => rw [e3] at h; exact h.elim
   | some env1 =>
    rw [e3] at h
    intro v H1 R1
    have R2 := (R1.unb hc).frz
    have op : ∃ a vs, v = .ref a ∧ (SqL S.G.K H1 a vs ∨ SqT S.G.K H1 a vs) ∧ vs.length = ds.length ∧ Rl S.G g env st1 (mkF vs (zs ds.length) ds ++ T) σ H1 := by
     cases d with
     | con kd es =>
      cases kd with
      | tup =>
       cases e2
       obtain ⟨a, vs, fs, e1, e2, e3, e4, R1⟩ := R2.open
       rcases e4 with ⟨_, rfl⟩ | z
       ·exact ⟨a, vs, e1, .inr e2, e3, R1⟩
       ·cases z
      | lst =>
       cases e2
       obtain ⟨a, vs, f0, e1, e2, e3, e4, R1⟩ := R2.openL
       rcases e4 with ⟨_, rfl⟩ | z
       ·exact ⟨a, vs, e1, .inl e2, e3, R1⟩
       ·cases z
      | _ => cases e2
     | _ => cases e2
    obtain ⟨a, vs, e4, e5, e6, R3⟩ := op
    refine ⟨a, vs, e4, e5, by omega, by omega, fun p hp => ?_⟩
    -- the parts
    have hlen : (vs.take i ++ [V.ref p] ++ (vs.drop i).drop (vs.length + 1 - n)).length = (ds.take i ++ [Hx.D.con .lst ((ds.drop i).take (ds.length + 1 - n))] ++ (ds.drop i).drop (ds.length + 1 - n)).length := by
     simp [e6]
    refine q2 g env st1 T σ _ _ (zs i ++ [.c .z] ++ zs (n - 1 - i)) _ env1 _ hT hlen ?_ e3 fun σ' H' _ R' => h σ' H' R'
    obtain ⟨Fz, am, ne, nt, ns, h1, h2, h3, h4, h5⟩ := R3
    have hz : ∃ n2, TmR S.G Fz am H1 ne T n2 ∧ (∀ q, n2 q <= nt q) ∧ Reps S.G Fz am H1 (zs ds.length) vs ds (fun _ => 0) := by
     clear h3 h4 h5 hlen e3 hc2 b1 b2 e2 e5 hp h R1 R2
     have : ∀ {ds : List Hx.D} {vs : List V} {nt : Fp}, vs.length = ds.length -> TmR S.G Fz am H1 ne (mkF vs (zs ds.length) ds ++ T) nt -> ∃ n2, TmR S.G Fz am H1 ne T n2 ∧ (∀ q, n2 q <= nt q) ∧ Reps S.G Fz am H1 (zs ds.length) vs ds (fun _ => 0) := by
      intro ds
      induction ds with
      | nil =>
       intro vs nt hl r
       have : vs = [] := List.length_eq_zero_iff.mp hl
       subst this
       exact ⟨nt, r, fun q => Nat.le_refl _, .nil fun _ => rfl⟩
      | cons d ds ih =>
       intro vs nt hl r
       cases vs with
       | nil => simp at hl
       | cons v vs =>
        have e : zs (d :: ds).length = .z :: zs ds.length := List.replicate_succ
        rw [e] at r ⊢
        cases r with
        | @own _ _ _ _ n1 n2 _ k1 k2 k3 =>
         obtain ⟨m, a1, a2, a3⟩ := ih (by simpa using hl) k2
         exact ⟨m, a1, fun q => by have := a2 q; rw [k3]; omega, .cons (k1.fp k1.z0) a3 fun q => rfl⟩
     exact this e6 h2
    obtain ⟨n2, t1, t2, rp⟩ := hz
    have sm := Wy (o := .lst ((vs.drop i).take (vs.length + 1 - n))) hp
    have E : Ext Fz am H1 Fz am (upd H1 p (.lst ((vs.drop i).take (vs.length + 1 - n)))) := Ext.same sm fun _ h => h
    obtain ⟨r1, r2⟩ := reps_cut2 rp i
    obtain ⟨r3, r4⟩ := reps_cut2 r2 (ds.length + 1 - n)
    have x : ∀ {fs vs' ds'}, Reps S.G Fz am H1 fs vs' ds' (fun _ => 0) -> Reps S.G Fz am (upd H1 p (.lst ((vs.drop i).take (vs.length + 1 - n)))) fs vs' ds' (fun _ => 0) := fun r => Reps.ext E r fun q o hq => absurd hq (Nat.lt_irrefl 0)
    rw [e6] at x sm E ⊢
    have l1 : (ds.take i).length = i := by rw [List.length_take]; omega
    have l2 : ((ds.drop i).drop (ds.length + 1 - n)).length = n - 1 - i := by rw [List.length_drop, List.length_drop]; omega
    rw [l1] at r1
    rw [l2] at r4
    have rl := rep_lst E r3
    have all : Reps S.G Fz am (upd H1 p (.lst ((vs.drop i).take (ds.length + 1 - n)))) (zs i ++ [.c .z] ++ zs (n - 1 - i)) (vs.take i ++ [.ref p] ++ (vs.drop i).drop (ds.length + 1 - n)) (ds.take i ++ [.con .lst ((ds.drop i).take (ds.length + 1 - n))] ++ (ds.drop i).drop (ds.length + 1 - n)) (one1 p) := by
     have z1 := Reps.app (x r4) (.cons rl (.nil (n := fun _ => 0) fun _ => rfl) (n := one1 p) fun q => by simp)
     have z2 : Reps S.G Fz am (upd H1 p (.lst ((vs.drop i).take (ds.length + 1 - n)))) (zs i ++ ([.c .z] ++ zs (n - 1 - i))) (vs.take i ++ ([.ref p] ++ (vs.drop i).drop (ds.length + 1 - n))) (ds.take i ++ ([.con .lst ((ds.drop i).take (ds.length + 1 - n))] ++ (ds.drop i).drop (ds.length + 1 - n))) (one1 p) := by
      have : ∀ {fs' vs' ds' n'}, Reps S.G Fz am (upd H1 p (.lst ((vs.drop i).take (ds.length + 1 - n)))) fs' vs' ds' n' -> ∀ {m : Nat} {vs2 ds2}, Reps S.G Fz am (upd H1 p (.lst ((vs.drop i).take (ds.length + 1 - n)))) (zs m) vs2 ds2 (fun _ => 0) -> Reps S.G Fz am (upd H1 p (.lst ((vs.drop i).take (ds.length + 1 - n)))) (zs m ++ fs') (vs2 ++ vs') (ds2 ++ ds') n' := by
       intro fs' vs' ds' n' r' m
       induction m with
       | zero =>
        intro vs2 ds2 r
        cases r
        exact r'
       | succ m ih =>
        intro vs2 ds2 r
        have e : zs (m + 1) = .z :: zs m := List.replicate_succ
        rw [e] at r ⊢
        cases r with
        | cons k1 k2 k3 => exact .cons (k1.fp k1.z0) (ih (k2.fp (Reps.z0 k2))) fun q => by simp
      exact this z1 (x r1)
     simpa [List.append_assoc] using z2
    have nn : Newp H1 (upd H1 p (.lst ((vs.drop i).take (ds.length + 1 - n)))) (one1 p) := newp1 hp trivial
    refine ⟨Fz, am, ne, fun q => one1 p q + n2 q, ns, h1.ext E fun q o _ e => sm _ _ e, WW (t1.ext E (fun q o _ e => sm _ _ e) fun q o _ e => sm _ _ e) all fun _ => rfl, Reps.ext E h3 fun q o _ e => sm _ _ e, ?_, trivial⟩
    exact ((h4.less (t' := fun q => ne q + n2 q + ns q) fun q => by have := t2 q; show _ <= ne q + nt q + ns q; omega).grow sm nn fun q => by show ne q + (one1 p q + n2 q) + ns q = _; omega)
end
end Hx
namespace Hx
open PySem PySem.Spec L2
open PyProof.Rows hiding St
section
variable {G : Sg} {g : Gd} {env : Env} {st st' : Zd} {T T' : List Tm} {σ : St} {H H' : Hp} {Fz Fz' : Addr -> Prop} {am am' : List Addr} {t : Fp} {x : Addr} {o o' : HO} {B B' : (Addr -> Prop) -> List Addr -> Prop}
def Vr (g : Gd) (x : Addr) (o : HO) : Gd := ⟨upd g.H0 x o, fun q => g.A0 q ∧ q ≠ x, g.F0, g.am0⟩
def Free (g : Gd) (x : Addr) : Prop := g.A0 x ∨ g.H0 x = none
theorem Home.ne (h : Home G g) (hx : Free g x) {p : Addr} {u : HO} (e : g.H0 p = some u) (n : ¬ OwnK u) : p ≠ x := fun c => by
 subst c
 rcases hx with a | z
 ·obtain ⟨w, e1, k⟩ := h.a _ a
  rw [e] at e1; cases e1
  exact n k
 ·rw [z] at e; cases e
theorem Home.nF (h : Home G g) (hx : Free g x) : ¬ g.F0 x := fun f => by
 obtain ⟨na, w, e, _⟩ := h.fz x f
 rcases hx with a | z
 ·exact na a
 ·rw [z] at e; cases e
theorem Home.keep (h : Home G g) (hx : Free g x) : Home G (Vr g x o) := by
 refine ⟨fun p f => ?_, fun p a => ?_, fun j l e => ?_⟩
 ·obtain ⟨na, w, e, k⟩ := h.fz p f
  have c : p ≠ x := fun c => h.nF hx (c ▸ f)
  exact ⟨fun z => na z.1, w, by show upd g.H0 x o p = _; rw [upd_ne c]; exact e, k⟩
 ·obtain ⟨w, e, k⟩ := h.a p a.1
  exact ⟨w, by show upd g.H0 x o p = _; rw [upd_ne a.2]; exact e, k⟩
 ·obtain ⟨h1, h2⟩ := h.lam j l e
  refine ⟨fun y hy => ?_, h2.ext ⟨fun _ f => f, fun _ _ f => f, fun p u f r => ?_, fun p u f e _ => ?_, fun p xs r => ?_⟩ fun p u hp => absurd hp (Nat.lt_irrefl 0)⟩
  ·obtain ⟨a1, a2⟩ := h1 y hy
   exact ⟨a1, by show upd g.H0 x o y.1 = _; rw [upd_ne (h.ne hx a2 (ext_no a1))]; exact a2⟩
  ·have c : p ≠ x := fun c => h.nF hx (c ▸ f)
   exact r.imp (fun e => by show upd g.H0 x o p = _; rw [upd_ne c]; exact e) fun ⟨w, e⟩ => ⟨w, by show upd g.H0 x o p = _; rw [upd_ne c]; exact e⟩
  ·have c : p ≠ x := fun c => h.nF hx (c ▸ f)
   show upd g.H0 x o p = _
   rw [upd_ne c]; exact e
  ·exact r.imp (fun e => by show upd g.H0 x o p = _; rw [upd_ne (h.ne hx e fun k => k)]; exact e) fun ⟨w, e⟩ => ⟨w, by show upd g.H0 x o p = _; rw [upd_ne (h.ne hx e fun k => k)]; exact e⟩
theorem Rel0.keep (r : Rel0 G g Fz am H t) (hx : Free g x) (e : H x = some o) (t0 : t x = 0) (nz : ¬ Fz x) : Rel0 G (Vr g x o) Fz am H t := by
 refine ⟨r.n1, r.nz, r.th, r.zt, fun p w nt e0 na => ?_, fun p hp => ?_, r.z0, fun p z => ?_, r.a, r.tb, r.hm.keep hx, fun p w tt e0 na => ?_⟩
 ·by_cases c : p = x
  ·subst c
   have e0 : upd g.H0 p o p = some w := e0
   rw [upd_same] at e0; cases e0
   exact .inl e
  ·have e0 : upd g.H0 x o p = some w := e0
   rw [upd_ne c] at e0
   exact r.k p w nt e0 fun a => na ⟨a, c⟩
 ·have c : p ≠ x := fun c => by rw [c, t0] at hp; cases hp
  rcases r.f p hp with a | z
  ·exact .inl ⟨a, c⟩
  ·exact .inr (by show upd g.H0 x o p = _; rw [upd_ne c]; exact z)
 ·have c : p ≠ x := fun c => nz (c ▸ z)
  rcases r.z1 p z with f | a | y
  ·exact .inl f
  ·exact .inr (.inl ⟨a, c⟩)
  ·exact .inr (.inr (by show upd g.H0 x o p = _; rw [upd_ne c]; exact y))
 ·by_cases c : p = x
  ·subst c
   have e0 : upd g.H0 p o p = some w := e0
   rw [upd_same] at e0; cases e0
   exact ⟨_, e, tt⟩
  ·have e0 : upd g.H0 x o p = some w := e0
   rw [upd_ne c] at e0
   exact r.kt p w tt e0 fun a => na ⟨a, c⟩
theorem Rel0.unkeep (hm : Home G g) (hx : Free g x) (r : Rel0 G (Vr g x o) Fz am H t) : Rel0 G g Fz am H t := by
 refine ⟨r.n1, r.nz, r.th, r.zt, fun p w nt e0 na => ?_, fun p hp => ?_, r.z0, fun p z => ?_, r.a, r.tb, hm, fun p w tt e0 na => ?_⟩
 ·have c : p ≠ x := fun c => by
   subst c
   rcases hx with a | z
   ·exact na a
   ·rw [z] at e0; cases e0
  exact r.k p w nt (by show upd g.H0 x o p = _; rw [upd_ne c]; exact e0) fun a => na a.1
 ·rcases r.f p hp with a | z
  ·exact .inl a.1
  ·have z : upd g.H0 x o p = none := z
   by_cases c : p = x
   ·subst c; rw [upd_same] at z; cases z
   ·rw [upd_ne c] at z; exact .inr z
 ·rcases r.z1 p z with f | a | y
  ·exact .inl f
  ·exact .inr (.inl a.1)
  ·have y : upd g.H0 x o p = none := y
   by_cases c : p = x
   ·subst c; rw [upd_same] at y; cases y
   ·rw [upd_ne c] at y; exact .inr (.inr y)
 ·have c : p ≠ x := fun c => by
   subst c
   rcases hx with a | z
   ·exact na a
   ·rw [z] at e0; cases e0
  exact r.kt p w tt (by show upd g.H0 x o p = _; rw [upd_ne c]; exact e0) fun a => na a.1
theorem Rel0.kept (hm : Home G g) (hx : Free g x) (r : Rel0 G (Vr g x o) Fz am H t) (pl : Vf o = false) : H x = some o ∧ t x = 0 ∧ ¬ Fz x := by
 have na : ¬ (Vr g x o).A0 x := fun a => a.2 rfl
 have e : (Vr g x o).H0 x = some o := upd_same
 refine ⟨(r.k x o pl e na).nf (hm.nF hx), ?_, fun z => ?_⟩
 ·cases c : t x with
  | zero => rfl
  | succ k =>
   rcases r.f x (by omega) with a | z
   ·exact absurd a na
   ·rw [e] at z; cases z
 ·rcases r.z1 x z with f | a | y
  ·exact hm.nF hx f
  ·exact na a
  ·rw [e] at y; cases y
theorem Rel0.swap (hm : Home G g) (hx : Free g x) (r : Rel0 G (Vr g x o) Fz am H t) (pl : Vf o = false) (pe : VX o = true) (pl' : Vf o' = false) : Rel0 G (Vr g x o') Fz am (upd H x o') t := by
 obtain ⟨e, t0, nz⟩ := r.kept hm hx pl
 have no : ∀ {p : Addr}, 0 < t p -> p ≠ x := fun hp c => by rw [c, t0] at hp; cases hp
 have nf : ∀ {p : Addr}, Fz p -> p ≠ x := fun z c => nz (c ▸ z)
 have ne : ∀ q w, H q = some w -> VX w = false -> q ≠ x := fun q w h1 h2 c => by
  rw [c, e] at h1; cases h1
  rw [pe] at h2; cases h2
 refine ⟨r.n1, r.nz, fun p hp => by rw [upd_ne (no hp)]; exact r.th p hp, fun p z => by rw [upd_ne (nf z)]; exact r.zt p z, fun p w nt e0 na => ?_, fun p hp => ?_, r.z0, fun p z => ?_, r.a, fun y hy => ?_, hm.keep hx, fun p w tt e0 na => ?_⟩
 ·by_cases c : p = x
  ·subst c
   have e0 : upd g.H0 p o' p = some w := e0
   rw [upd_same] at e0; cases e0
   exact .inl upd_same
  ·have e0 : upd g.H0 x o' p = some w := e0
   rw [upd_ne c] at e0
   have := r.k p w nt (by show upd g.H0 x o p = _; rw [upd_ne c]; exact e0) na
   exact this.map fun u _ h => by rw [upd_ne c]; exact h
 ·rcases r.f p hp with a | z
  ·exact .inl a
  ·refine .inr ?_
   have z : upd g.H0 x o p = none := z
   rw [upd_ne (no hp)] at z
   show upd g.H0 x o' p = none
   rw [upd_ne (no hp)]; exact z
 ·rcases r.z1 p z with f | a | y
  ·exact .inl f
  ·exact .inr (.inl a)
  ·refine .inr (.inr ?_)
   have y : upd g.H0 x o p = none := y
   rw [upd_ne (nf z)] at y
   show upd g.H0 x o' p = none
   rw [upd_ne (nf z)]; exact y
 ·obtain ⟨ps, a1, a2, a3⟩ := r.tb y hy
  refine ⟨ps, by rw [upd_ne (ne _ _ a1 rfl)]; exact a1, a2, fun p' cv z => ?_⟩
  obtain ⟨c, e1, e2⟩ := a3 p' cv z
  refine ⟨c, e1, ?_⟩
  rw [upd_ne (ne _ _ e2 (by unfold LamX.CodeO; rfl))]; exact e2
 ·by_cases c : p = x
  ·subst c
   have e0 : upd g.H0 p o' p = some w := e0
   rw [upd_same] at e0; cases e0
   rw [pl'] at tt; cases tt
  ·have e0 : upd g.H0 x o' p = some w := e0
   rw [upd_ne c] at e0
   obtain ⟨u, e1, t1⟩ := r.kt p w tt (by show upd g.H0 x o p = _; rw [upd_ne c]; exact e0) na
   exact ⟨u, by rw [upd_ne c]; exact e1, t1⟩
theorem Ext.swap (nz : ¬ Fz x) (nt : ∀ xs, H x ≠ some (.tup xs)) (nf : ∀ w u, H x ≠ some (.frz w u)) : Ext Fz am H Fz am (upd H x o') := by
 refine ⟨fun _ z => z, fun _ _ z => z, fun p u f r => ?_, fun p u f e _ => ?_, fun p xs r => ?_⟩
 ·have c : p ≠ x := fun c => nz (c ▸ f)
  exact r.imp (fun e => by rw [upd_ne c]; exact e) fun ⟨w, e⟩ => ⟨w, by rw [upd_ne c]; exact e⟩
 ·rw [upd_ne fun (c : p = x) => nz (c ▸ f)]; exact e
 ·exact r.imp (fun e => by rw [upd_ne fun (c : p = x) => nt xs (c ▸ e)]; exact e) fun ⟨w, e⟩ => ⟨w, by rw [upd_ne fun (c : p = x) => nf w _ (c ▸ e)]; exact e⟩
theorem RlB.swap (hm : Home G g) (hx : Free g x) {C dx C' dx' : Addr} {fs fs' : List (Str × V)} (R : Rl G (Vr g x (.ins C dx fs)) env st T σ H) : H x = some (.ins C dx fs) ∧ Rl G (Vr g x (.ins C' dx' fs')) env st T σ (upd H x (.ins C' dx' fs')) := by
 obtain ⟨Fz, am, ne, nt, ns, h1, h2, h3, h4, h5⟩ := R
 obtain ⟨e, t0, nz⟩ := h4.kept hm hx rfl
 have t0 : ne x + nt x + ns x = 0 := t0
 have E : Ext Fz am H Fz am (upd H x (.ins C' dx' fs')) := Ext.swap nz (fun xs z => by rw [e] at z; cases z) fun w u z => by rw [e] at z; cases z
 have k : ∀ {n : Fp}, n x = 0 -> ∀ p u, 0 < n p -> H p = some u -> upd H x (.ins C' dx' fs') p = some u := fun hn p u hp q => by
  rw [upd_ne fun c => by rw [c, hn] at hp; cases hp]; exact q
 exact ⟨e, Fz, am, ne, nt, ns, h1.ext E (k (by omega)), h2.ext E (k (by omega)) (k (by omega)), Reps.ext E h3 (k (by omega)), h4.swap hm hx rfl rfl rfl, trivial⟩
theorem Rl.hmG (R : Rl G g env st T σ H) : Home G g := by
 obtain ⟨Fz, am, ne, nt, ns, h1, h2, h3, h4, h5⟩ := R
 exact h4.hm
theorem Rl.alloc' (R : Rl G g env st T σ H) (hx : H x = none) (o : HO) : Free g x ∧ Rl G (Vr g x o) env st T σ (upd H x o) := by
 obtain ⟨Fz, am, ne, nt, ns, h1, h2, h3, h4, h5⟩ := R
 have fr : Free g x := h4.new hx
 have s := Wy (o := o) hx
 have E : Ext Fz am H Fz am (upd H x o) := Ext.same s fun _ h => h
 have t0 : ne x + nt x + ns x = 0 := by
  cases c : ne x + nt x + ns x with
  | zero => rfl
  | succ k =>
   obtain ⟨u, e, _⟩ := h4.th x (by show 0 < ne x + nt x + ns x; omega)
   rw [hx] at e; cases e
 have nz : ¬ Fz x := fun z => by
  obtain ⟨u, e, _⟩ := h4.zt x z
  rw [hx] at e; cases e
 have h4' : Rel0 G g Fz am (upd H x o) fun p => ne p + nt p + ns p := h4.grow s (m := fun _ => 0) Vj fun q => by simp
 exact ⟨fr, Fz, am, ne, nt, ns, h1.ext E fun p u _ h => s _ _ h, h2.ext E (fun p u _ h => s _ _ h) fun p u _ h => s _ _ h, Reps.ext E h3 fun p u _ h => s _ _ h, h4'.keep fr upd_same t0 nz, trivial⟩
end
def insAt (c : Nat) (st : Zd) : D -> Option (List Fr × List D)
 | .con (.ins c') ds => if c' = c then some (zs ds.length, ds) else none
 | .ref j => match st[j]? with
  | some (.o fs, .con (.ins c') ds) => if c' = c then some (fs, ds) else none
  | some (.z, .con (.ins c') ds) => if c' = c then some (zs ds.length, ds) else none
  | _ => none
 | _ => none
section
variable {G : Sg} {g : Gd} {env : Env} {st : Zd} {T : List Tm} {σ : St} {H : Hp} {v : V} {d : D} {b : Bool} {c : Nat} {fs : List Fr} {ds : List D}
theorem zipF_look : ∀ {fl : List Str} {vs : List V} {i : Nat} {f : Str} {v : V}, fl.Nodup -> fl[i]? = some f -> vs[i]? = some v -> (fl.zip vs).lookup f = some v
 | [], vs, i, f, v, _, e, _ => by simp at e
 | f0 :: fl, [], i, f, v, _, _, e => by simp at e
 | f0 :: fl, v0 :: vs, i, f, v, nd, e1, e2 => by
  rw [List.zip_cons_cons, List.lookup_cons]
  cases i with
  | zero =>
   simp at e1 e2
   subst e1 e2
   simp
  | succ i =>
   have h := List.nodup_cons.mp nd
   have e1 : fl[i]? = some f := by simpa using e1
   have ne : (f == f0) = false := by
    rw [beq_eq_false_iff_ne]
    intro c; subst c
    exact h.1 (List.mem_of_getElem? e1)
   rw [ne]
   exact zipF_look h.2 e1 (by simpa using e2)
theorem ins_open {Fz : Addr -> Prop} {am : List Addr} {ns n : Fp} (h3 : StoR G Fz am H st ns) (r : Rep G Fz am H .z v d n) (e : insAt c st d = some (fs, ds)) :
  ∃ a dx vs m, v = .ref a ∧ H a = some (.ins (G.cls c) dx ((G.fld c).zip vs)) ∧ vs.length <= (G.fld c).length ∧ Reps G Fz am H fs vs ds m := by
 cases d with
 | con k ds0 =>
  cases k with
  | ins c' =>
   unfold insAt at e
   dsimp only at e
   split at e
   ·rename_i hc
    subst hc
    cases e
    cases r with
    | sc s _ => cases v <;> exact s.elim
    | zz a1 a2 a3 =>
     obtain ⟨_, o, b1, dx, b2, b3⟩ := a1
     subst b2
     exact ⟨_, dx, _, _, rfl, b1, b3, a2⟩
   ·cases e
  | _ => cases e
 | ref j =>
  unfold insAt at e
  dsimp only at e
  cases r with
  | sc s _ => cases v <;> exact s.elim
  | @rf i p n hp _ =>
   split at e
   ·rename_i fs' c' ds' es
    split at e
    ·rename_i hc
     subst hc
     cases e
     obtain ⟨p', m, e1, e2, _⟩ := h3.at es
     rw [hp] at e1; cases e1
     cases e2 with
     | oo a1 a2 a3 =>
      obtain ⟨_, o, b1, dx, b2, b3⟩ := a1
      subst b2
      exact ⟨_, dx, _, _, rfl, b1, b3, a2⟩
    ·cases e
   ·rename_i c' ds' es
    split at e
    ·rename_i hc
     subst hc
     cases e
     obtain ⟨p', m, e1, e2, _⟩ := h3.at es
     rw [hp] at e1; cases e1
     cases e2 with
     | sc s _ => exact s.elim
     | zz a1 a2 a3 =>
      obtain ⟨_, o, b1, dx, b2, b3⟩ := a1
      subst b2
      exact ⟨_, dx, _, _, rfl, b1, b3, a2⟩
    ·cases e
   ·cases e
 | _ => cases e
theorem Rl.fld {i : Nat} {x : D} {f : Str} (R : Rl G g env st (⟨v, .z, d, b⟩ :: T) σ H) (e : insAt c st d = some (fs, ds)) (e1 : fs[i]? = some .z) (e2 : ds[i]? = some x) (ef : (G.fld c)[i]? = some f) (nd : (G.fld c).Nodup) :
  ∃ a dx fl y, v = .ref a ∧ H a = some (.ins (G.cls c) dx fl) ∧ fl.lookup f = some y ∧ Rl G g env st (⟨y, .z, x, false⟩ :: T) σ H := by
 obtain ⟨Fz, am, ne, nt, ns, h1, h2, h3, h4, h5⟩ := R
 have key : ∃ n n2, Rep G Fz am H .z v d n ∧ TmR G Fz am H ne T n2 ∧ ∀ q, n2 q <= nt q := by
  cases h2 with
  | own k1 k2 k3 => exact ⟨_, _, k1, k2, fun q => by rw [k3]; omega⟩
  | bor k1 k2 k3 => exact ⟨_, _, k1, k3, fun q => Nat.le_refl _⟩
 obtain ⟨n, n2, k1, k2, k3⟩ := key
 obtain ⟨a, dx, vs, m, rfl, q1, q2, q3⟩ := ins_open h3 k1 e
 obtain ⟨y, m', y1, y2, _⟩ := q3.at e1 e2
 exact ⟨a, dx, _, y, rfl, q1, zipF_look nd ef y1, Fz, am, ne, n2, ns, h1, .own (y2.fp y2.z0) k2 (n1 := fun _ => 0) fun q => by simp, h3, h4.less fun q => by have := k3 q; show ne q + n2 q + ns q <= ne q + nt q + ns q; omega, trivial⟩
theorem Rl.ins (R : Rl G g env st (⟨v, .z, d, b⟩ :: T) σ H) (e : insAt c st d = some (fs, ds)) : ∃ a dx vs, v = .ref a ∧ H a = some (.ins (G.cls c) dx ((G.fld c).zip vs)) := by
 obtain ⟨Fz, am, ne, nt, ns, h1, h2, h3, h4, h5⟩ := R
 have key : ∃ n, Rep G Fz am H .z v d n := by
  cases h2 with
  | own k1 k2 k3 => exact ⟨_, k1⟩
  | bor k1 k2 k3 => exact ⟨_, k1⟩
 obtain ⟨n, k1⟩ := key
 obtain ⟨a, dx, vs, m, q0, q1, _⟩ := ins_open h3 k1 e
 exact ⟨a, dx, vs, q0, q1⟩
end
section
variable {S : Sx} {e a o : Expr} {es : List Expr} {da do_ : Den} {das : DenL} {pos p apos : Pos} {c i : Nat} {f : Str}
structure GoodM (S : Sx) (c : Nat) (m : Str) (n : Nat) (F : Fn) (dd : List D) (k : Nat) : Prop where
 ex : ∃ f fd ps ds dvs, FnOk S.P S.w S.G.K S.mg S.base (L2.CX S.P S.w) k f fd ps (SpF S.G n F) ∧ Meth S.G.K (S.G.cls c) m f ∧ Binds S.G.K fd ps ds ∧ Vals dvs ds ∧
  ∀ Fz am H, Reps S.G Fz am H (zs dd.length) dvs dd (fun _ => 0)
 cls : Cls S.G.K (S.G.cls c)
 nf : m ∉ S.G.fld c
end
def PostIn (G : Sg) (g : Gd) (x : Addr) (Q : VK) : Res -> Prop
 | .ok f b d st => b = false ∧ ∀ H', Rl G g [] st [⟨.ref x, f, d, false⟩] [] H' -> Q .non H'
 | _ => False
def SpI (G : Sg) (c n : Nat) (F : Fn) : Sp := fun vs H Q E => vs.length = n + 1 ∧ ∃ (x dx : Addr) (rest : List V) (Hd : Hp), vs = .ref x :: rest ∧ H = upd Hd x (.ins (G.cls c) dx []) ∧ Hd x = none ∧
 ∃ Fz am as st na ns, Reps G Fz am Hd (as.map (·.1)) rest (as.map (·.2)) na ∧ StoR G Fz am Hd st ns ∧ Rel0 G ⟨Hd, fun p => 0 < na p + ns p, Fz, am⟩ Fz am Hd (fun p => na p + ns p) ∧ PostIn G ⟨Hd, fun p => 0 < na p + ns p, Fz, am⟩ x Q (F as st)
section
variable {S : Sx} {e a o : Expr} {es : List Expr} {da do_ : Den} {das : DenL} {pos p apos : Pos} {c i : Nat} {f : Str} {body : List Stmt}
structure GoodI (S : Sx) (x : Str) (c n : Nat) (F : Fn) (dd : List D) (k : Nat) : Prop where
 ex : ∃ f fd ps ds dvs, FnOk S.P S.w S.G.K S.mg S.base (L2.CX S.P S.w) k f fd ps (SpI S.G c n F) ∧ Mk S.G.K (S.G.cls c) f ∧ S.mg x = some (.ref (S.G.cls c)) ∧ Binds S.G.K fd ps ds ∧ Vals dvs ds ∧
  ∀ Fz am H, Reps S.G Fz am H (zs dd.length) dvs dd (fun _ => 0)
end
section
variable {G : Sg} {g : Gd} {env : Env} {st st' : Zd} {T T' : List Tm} {σ : St} {H H' : Hp} {Fz Fz' : Addr -> Prop} {am am' : List Addr} {t : Fp} {c k j i : Nat}
end
section
variable {S : Sx} {e a b o : Expr} {es : List Expr} {da db do_ : Den} {das : DenL} {pos p apos : Pos} {c i j k : Nat} {f x : Str}
def DPu (S : Sx) (e : Expr) (den : Den) : Prop := ∀ W : WX, ∃ t : TE, (∀ X, Stx S X -> Takes X W -> PE X e t) ∧
 ∀ g env st T σ H (Q : VK) d, Zy T -> Rl S.G g env st T σ H -> den env st = .ok .z false d st -> (∀ v H', Same H H' -> Rl S.G g env st (⟨v, .z, d, false⟩ :: T) σ H' -> Q v H') -> t σ H Q
end
section
variable {S : Sx} {e a o : Expr} {es : List Expr} {da do_ : Den} {das dks : DenL} {kws : List Keyword} {nm : Option Str} {kp pos p apos : Pos}
end
abbrev Arr := List (Nat ⊕ D)
def pickV (vs : List V) : Nat ⊕ D -> V
 | .inl j => vs.getD j .non
 | .inr d => scV d
def okA : Nat ⊕ D -> Bool
 | .inl _ => true
 | .inr d => isSc d
structure GoodK (S : Sx) (n np : Nat) (ks : List Str) (arr : Arr) (F : Fn) (k : Nat) (f : Addr) : Prop where
 ex : ∃ fd ps g gV, FnOk S.P S.w S.G.K S.mg S.base (L2.CX S.P S.w) k f fd ps (SpF S.G n F) ∧ KBn S.G.K fd ps np ks g gV ∧ PySem.W.keepIn S.G.K (.ref f) = true ∧ (∀ vs zs' : List V, gV vs zs' = vs ++ arr.map (pickV zs'))
 ok : arr.all okA = true
 len : np + arr.length = n
section
variable {X : Cx} {CX : CXT} {k n : Nat} {f C : Addr} {fd : FuncData} {ps ks : List Str} {sp : Sp} {E : St -> XK} {x m : Str} {p pos apos : Pos} {e o : Expr} {es : List Expr} {kws : List Keyword} {t tk : TA} {te : TE} {g : List Value -> List Value -> List Value} {gV : List V -> List V -> List V}
end
section
variable {S : Sx} {e a o : Expr} {es : List Expr} {da do_ : Den} {das dks : DenL} {kws : List Keyword} {pos p apos : Pos} {x m : Str} {n np k c : Nat} {ks : List Str} {arr : Arr} {F : Fn} {f : Addr}
end
section
variable {G : Sg} {g : Gd} {env : Env} {st st' : Zd} {T T' : List Tm} {σ : St} {H H' : Hp} {Fz Fz' : Addr -> Prop} {am am' : List Addr} {t : Fp} {x p : Addr} {o o' : HO} {B : (Addr -> Prop) -> List Addr -> Prop}
theorem Rel0.addOwn (hm : Home G g) (hx : Free g x) (r : Rel0 G (Vr g x o) Fz am H t) (ow : OwnK o) : Rel0 G g Fz am H (fun q => t q + if q = x then 1 else 0) := by
 obtain ⟨e, t0, nz⟩ := r.kept hm hx ow.nt
 have h4' := r.unkeep hm hx
 refine ⟨fun p => ?_, fun p hp z => ?_, fun p hp => ?_, h4'.zt, h4'.k, fun p hp => ?_, h4'.z0, h4'.z1, h4'.a, h4'.tb, h4'.hm, h4'.kt⟩
 ·have := h4'.n1 p
  by_cases c : p = x
  ·subst c; simp; omega
  ·simp [c]; omega
 ·by_cases c : p = x
  ·exact nz (c ▸ z)
  ·have hp : 0 < t p + if p = x then 1 else 0 := hp
   rw [if_neg c] at hp
   exact h4'.nz p hp z
 ·by_cases c : p = x
  ·subst c; exact ⟨_, e, ow⟩
  ·have hp : 0 < t p + if p = x then 1 else 0 := hp
   rw [if_neg c] at hp
   exact h4'.th p hp
 ·by_cases c : p = x
  ·subst c; exact hx
  ·have hp : 0 < t p + if p = x then 1 else 0 := hp
   rw [if_neg c] at hp
   exact h4'.f p hp
theorem Rl.madeD {ks : List Key} {vs : List V} {ds : List D} (hm : Home G g) (hx : Free g p) (R : RlB G (Vr g p (.dK [])) env st T σ H fun Fz am => Reps G Fz am H (zs ds.length) vs ds (fun _ => 0)) (hl : ks.length = vs.length) :
  H p = some (.dK []) ∧ Rl G g env st (⟨.ref p, .c .z, .con (.dik ks) ds, false⟩ :: T) σ (upd H p (.dK (ks.zip vs))) := by
 obtain ⟨Fz, am, ne, nt, ns, h1, h2, h3, h4, h5⟩ := R
 obtain ⟨e, t0, nz⟩ := h4.kept hm hx rfl
 have t0 : ne p + nt p + ns p = 0 := t0
 have E : Ext Fz am H Fz am (upd H p (.dK (ks.zip vs))) := Ext.swap nz (fun xs z => by rw [e] at z; cases z) fun w u z => by rw [e] at z; cases z
 have r := (h4.swap (o' := .dK (ks.zip vs)) hm hx rfl rfl rfl).addOwn hm hx trivial
 refine ⟨e, Fz, am, ne, fun q => (if q = p then 1 else 0) + nt q, ns, h1.ext E (ZQ (by omega)), .own (n1 := fun q => if q = p then 1 else 0) (.cc (m := fun _ => 0) ⟨⟨by simp, by simp⟩, _, upd_same, rfl, hl⟩ (Reps.ext E h5 fun _ _ hp => absurd hp (Nat.lt_irrefl 0)) fun q => by simp) (h2.ext E (ZQ (by omega)) (ZQ (by omega))) fun q => rfl, Reps.ext E h3 (ZQ (by omega)), r.less fun q => ?_, trivial⟩
 show ne q + ((if q = p then 1 else 0) + nt q) + ns q <= _
 omega
end
section
variable {S : Sx} {e a o : Expr} {es : List Expr} {da do_ : Den} {das : DenL} {pos p : Pos} {keys : List (Option Expr)} {values : List Expr} {ks : List Str}
def DPr (S : Sx) (pos : Pos) (keys : List (Option Expr)) (values : List Expr) (ks : List Str) (den : DenL) : Prop := ∀ W : WX, ∃ trs : List (TE × TE), (∀ X, Stx S X -> Takes X W -> PPs X pos keys values trs) ∧
 ∀ g env st T σ H (Q : List (V × V) -> Hp -> Prop), Zy T -> Rl S.G g env st T σ H -> PostL S.G g env T σ W (fun vs H1 => vs.length = ks.length -> Q ((ks.map V.str).zip vs) H1) (den env st) -> tPairs trs σ H Q
theorem dpr_nil : DPr S pos [] [] [] dNil := fun W => ⟨[], fun X hX tk => pps_nil, fun g env st T σ H Q hT R h => h [] H rfl R rfl⟩
theorem dpr_cons {k : Str} {q : Pos} {u : Bool} (ha : DE S a da) (hr : DPr S pos keys values ks das) (hk : ∀ X, Stx S X -> PE X e (tC (.str k))) : DPr S pos (some e :: keys) (a :: values) (k :: ks) (Zb da das) := fun W => by
 obtain ⟨ta, pa, qa⟩ := ha W
 obtain ⟨tr, pr, qr⟩ := hr W
 refine ⟨(tC (.str k), ta) :: tr, fun X hX tk => pps_cons (hk X hX) (pa X hX tk) (pr X hX tk), fun g env st T σ H Q hT R h => ?_⟩
 show ta σ H _
 refine qa g env st T σ H _ hT R ?_
 unfold Zb at h
 cases e1 : da env st with
 | stuck => rw [e1] at h; exact h.elim
 | exc c ds st1 => rw [e1] at h; exact h
 | ok f b d st1 =>
  rw [e1] at h
  obtain ⟨hb, h⟩ := bifT h id
  intro v H1 R1
  refine qr g env st1 _ σ H1 _ (WO hT) (R1.unb hb) ?_
  cases e2 : das env st1 with
  | stuck => rw [e2] at h; exact h.elim
  | exc c ds st2 => rw [e2] at h; exact h
  | ok ts st2 =>
   rw [e2] at h
   dsimp only at h
   intro vs H2 hl R2 hlk
   exact h (v :: vs) H2 (by simp [hl]) R2.mid (by simp [hlk])
theorem Zbt : ∀ {kvs acc : List (Key × V)}, ((acc ++ kvs).map (·.1)).Nodup -> mergeK acc kvs = acc ++ kvs
 | [], acc, _ => by simp [mergeK]
 | q :: kvs, acc, h => by
  have hn : valV acc q.1 = none := by
   cases c : valV acc q.1 with
   | none => rfl
   | some v =>
    exfalso
    unfold valV at c
    obtain ⟨w, hw, _⟩ := Option.map_eq_some_iff.mp c
    have h1 := List.find?_some hw
    have h2 := List.mem_of_find?_eq_some hw
    have e : w.1 = q.1 := of_decide_eq_true h1
    rw [List.map_append, List.nodup_append] at h
    exact h.2.2 w.1 (List.mem_map.mpr ⟨w, h2, rfl⟩) q.1 (by simp) e
  show mergeK (putK acc q.1 q.2) kvs = _
  rw [putK_new q.2 hn, Zbt (by rw [List.append_assoc]; exact h), List.append_assoc]
  rfl
@[simp] def dDct (ks : List Str) (as : DenL) : Den := fun env st => match as env st with
 | .ok ts st1 => bif keeps ts && ts.length == ks.length then .ok (.c .z) false (.con (.dik (ks.map .inr)) (ts.map fun t => t.2.2)) st1 else .stuck
 | .exc c ds st1 => .exc c ds st1
 | .stuck => .stuck
theorem zip_map {ks : List Str} {vs : List V} : (ks.map V.str).zip vs = ((ks.map fun k => (Sum.inr k : Key)).zip vs).map fun kv => (kV kv.1, kv.2) := by
 induction ks generalizing vs with
 | nil => rfl
 | cons k ks ih => cases vs with
  | nil => rfl
  | cons v vs => simp only [List.map_cons, List.zip_cons_cons, ih]; rfl
theorem de_dct (h : ∀ pos, DPr S pos keys values ks das) (hall : keys.all (·.isSome) = true) (hl : keys.length = values.length) (h0 : keys ≠ []) (h15 : keys.length <= 15) (hk : keys.length = ks.length) (nd : ks.Nodup) : DE S (.Dict keys values pos) (dDct ks das) := fun W => by
 obtain ⟨trs, pt, q⟩ := h pos W
 refine ⟨tDisp trs, fun X hX tk => pe_disp (pt X hX tk) hall hl h0 h15, fun g env st T σ H Q hT R h => ?_⟩
 intro p hp
 obtain ⟨fr, R1⟩ := R.alloc' hp (.dK [])
 have hm := R.hmG
 refine q _ env st T σ _ _ hT R1 ?_
 unfold dDct at h
 cases e : das env st with
 | stuck => rw [e] at h; exact h.elim
 | exc c ds st1 =>
  rw [e] at h
  intro cls dx H' R2
  obtain ⟨Fz, am, ne, nt, ns, k1, k2, k3, k4, k5⟩ := R2
  exact h cls dx H' ⟨Fz, am, ne, nt, ns, k1, k2, k3, k4.unkeep hm fr, k5⟩
 | ok ts st1 =>
  rw [e] at h
  dsimp only at h
  cases hc : (keeps ts && ts.length == ks.length) with
  | false => rw [hc] at h; exact h.elim
  | true =>
  rw [hc] at h
  dsimp only [cond_true] at h
  rw [Bool.and_eq_true] at hc
  intro vs H2 hl2 R2 hlk
  have R3 := R2.frzL hl2 hc.1
  have nk : (((ks.map fun k => (Sum.inr k : Key)).zip vs).map (·.1)).Nodup := by
   rw [List.map_fst_zip (by rw [List.length_map]; omega)]
   exact List.Pairwise.map _ (fun a b h z => h (Sum.inr.inj z)) nd
  have R4 := Rl.madeD (ks := ks.map fun k => (Sum.inr k : Key)) (ds := ts.map fun t => t.2.2) hm fr (by simpa using R3) (by rw [List.length_map]; omega)
  refine ⟨R4.1, (ks.map fun k => (Sum.inr k : Key)).zip vs, zip_map, ?_, ?_⟩
  ·rw [List.length_zip, List.length_map]; omega
  ·rw [Zbt (acc := []) (by simpa using nk)]
   exact h _ _ R4.2
end
section
variable {G : Sg} {g : Gd} {env : Env} {st st' : Zd} {T T' : List Tm} {σ : St} {H H' : Hp} {Fz Fz' : Addr -> Prop} {am am' : List Addr}
end
section
variable {S : Sx} {e a b o : Expr} {es : List Expr} {da dk db do_ : Den} {das : DenL} {pos p q apos : Pos} {i : Nat} {x : Str}
end
def PuSt (da : Den) : Prop := ∀ env s f b d s1, da env s = .ok f b d s1 -> s1 = s ∧ f = .z ∧ b = false
theorem pst_c {d : D} : PuSt (dC d) := fun env s f b d' s1 e => by
 unfold dC at e; cases e; exact ⟨rfl, rfl, rfl⟩
structure DPz (S : Sx) (e : Expr) (den : Den) : Prop where
 p : DPu S e den
 s : PuSt den
section
variable {S : Sx} {e a b o : Expr} {es : List Expr} {da dk db do_ : Den} {das : DenL} {pos p q apos : Pos} {c i j k : Nat} {x f : Str}
end
end Hx
namespace Hx
open PySem PySem.Spec L2 LamX
open PyProof.Rows hiding St
section
variable {G : Sg} {g : Gd} {env : Env} {st st' : Zd} {T T' : List Tm} {σ : St} {H H' : Hp} {Fz Fz' : Addr -> Prop} {am am' : List Addr} {t : Fp} {x : Addr} {o o' : HO} {B B' : (Addr -> Prop) -> List Addr -> Prop}
def Kept (g : Gd) (x : Addr) (o : HO) : Prop := g.H0 x = some o ∧ ¬ g.A0 x
theorem Kept.ne (k : Kept g x o) {p : Addr} (f : Free g p) : x ≠ p := fun c => by
 subst c
 rcases f with a | z
 ·exact k.2 a
 ·rw [k.1] at z; cases z
theorem Kept.up (k : Kept g x o) {p : Addr} (f : Free g p) : Kept (Vr g p o') x o := ⟨by show upd g.H0 p o' x = _; rw [upd_ne (k.ne f)]; exact k.1, fun a => k.2 a.1⟩
structure Fin' (G : Sg) (g g' : Gd) : Prop where
 kept : ∀ x o, Kept g x o -> Kept g' x o
 back : ∀ env st T σ H B, RlB G g' env st T σ H B -> RlB G g env st T σ H B
theorem Fin'.refl : Fin' G g g := ⟨fun _ _ k => k, fun _ _ _ _ _ _ r => r⟩
theorem Fin'.trans {g1 g2 : Gd} (a : Fin' G g g1) (b : Fin' G g1 g2) : Fin' G g g2 := ⟨fun x o k => b.kept x o (a.kept x o k), fun _ _ _ _ _ _ r => a.back _ _ _ _ _ _ (b.back _ _ _ _ _ _ r)⟩
theorem Kept.at {ne : Addr -> Prop} (k : Kept g x o) (xo : isExt o = true) (R : RlB G g env st T σ H B) : H x = some o := by
 obtain ⟨Fz, am, ne, nt, ns, h1, h2, h3, h4, h5⟩ := R
 exact (h4.k x o (ext_nt xo) k.1 k.2).nd (ext_dk xo)
end
structure LI where
 cap : List Str
 ci : List Nat
 params : Arguments
 body : Expr
 scope : Scope
 pos : Pos
 db : Den
def LI.e (l : LI) : Expr := .Lambda l.params l.body l.scope l.pos
structure LI.Ok (S : Sx) (l : LI) : Prop where
 t : LamT S [] l.cap l.ci l.params l.scope l.body
 b : DE (S.cl ([] ++ l.cap) l.scope) l.body l.db
section
variable {S : Sx} {X : Cx} {l : LI} {c P : Addr} {q : Str}
end
def KpL (X : Cx) (q : Str) (ls : List LI) (fs cf : Nat -> Addr) (g : Gd) : Prop := ∀ k l, ls[k]? = some l -> Kept g (fs k) (CloO (fs k) q l.params l.body l.scope (cloFrom X.env.cells l.scope.names []) (cf k)) ∧ Kept g (cf k) (CodeO (cf k) q)
section
variable {S : Sx} {X : Cx} {k : Nat} {f : Addr} {fd : FuncData} {ps : List Str} {sp : Sp} {W : WX} {ls : List LI} {x : Str} {a : Expr} {ta : TE} {p pos : Pos}
end
def LI.r (l : LI) : List Nat × Den := (l.ci, l.db)
section
variable {S : Sx} {n k : Nat} {F : LamR -> Fn} {ls : List LI} {fs cf : Nat -> Addr} {X : Cx} {q : Str}
end
abbrev GP := Gd -> Env -> Prop
def HT (S : Sx) (X : Cx) (kp : GP) (e : Expr) (den : DenB) : Prop := ∀ W : WX, Takes X W -> ∃ t : TT, PT X e t ∧
 ∀ g env st T σ H Q, kp g env -> Zy T -> Rl S.G g env st T σ H -> PostB S.G g env T σ W Q (den env st) -> t σ H Q
section
variable {S : Sx} {X : Cx} {kp : GP} {a b : Expr} {es : List Expr} {da db : Den} {ta tr : DenB} {W : WX} {pos p py : Pos} {n k i : Nat} {F : LamR -> Fn} {ls : List LI} {x y q : Str}
end
section
variable {S : Sx} {X : Cx} {ss rest : List Stmt} {s : Stmt} {df dr : DenS} {W : WX} {pos p p1 lp apos : Pos} {n k i : Nat} {ls : List LI} {l l0 : LI} {x q : Str} {c P : Addr} {den : (Nat -> Addr) -> DenS}
theorem KpL.snoc {fs cf : Nat -> Addr} {g g' : Gd} {f c' : Addr} (kp : KpL X q ls fs cf g) (fb : Fin' S.G g g') (k1 : Kept g' f (CloO f q l.params l.body l.scope (cloFrom X.env.cells l.scope.names []) c')) (k2 : Kept g' c' (CodeO c' q)) :
  KpL X q (ls ++ [l]) (fun k => if k = ls.length then f else fs k) (fun k => if k = ls.length then c' else cf k) g' := fun k l' e => by
 dsimp only
 by_cases hk : k < ls.length
 ·rw [List.getElem?_append_left hk] at e
  rw [if_neg (Nat.ne_of_lt hk), if_neg (Nat.ne_of_lt hk)]
  exact ⟨fb.kept _ _ (kp k l' e).1, fb.kept _ _ (kp k l' e).2⟩
 ·rw [List.getElem?_append_right (Nat.le_of_not_lt hk)] at e
  have z : k - ls.length = 0 := by
   have := (List.getElem?_eq_some_iff.mp e).1
   simpa using this
  rw [z] at e
  cases e
  have e : k = ls.length := by omega
  rw [if_pos e, if_pos e]
  exact ⟨k1, k2⟩
end
end Hx
namespace Hx
open PySem PySem.Spec L2
open PyProof.Rows hiding St
section
variable {da : Den} {das : DenL}
end
structure KnK (S : Sx) (x : Str) (st : Stmt) (kws : List (Str × D)) : Prop where
 ex : ∃ f fd, FunD S.G.K x x (defArgs st) (defBody st) (defScope st) [] (kws.map fun q => (q.1, scV q.2)) f fd ∧ S.mg x = some (.ref f)
section
variable {S : Sx} {x : Str} {st : Stmt} {N ps ks : List Str} {kws : List (Str × D)} {n np k : Nat} {db : DenS}
theorem GoodK.at {arr : Arr} {F : Fn} {f : Addr} {N : List Str} {sc : Scope} {j : Nat} (h : GoodK S n np ks arr F k f) : GoodK (S.at N sc j) n np ks arr F k f := ⟨h.ex, h.ok, h.len⟩
theorem GoodK.blk {arr : Arr} {F : Fn} {f : Addr} {sc : Scope} (h : GoodK S n np ks arr F k f) : GoodK (S.blk sc) n np ks arr F k f := ⟨h.ex, h.ok, h.len⟩
theorem GoodK.cl {arr : Arr} {F : Fn} {f : Addr} {N : List Str} {sc : Scope} (h : GoodK S.c0 n np ks arr F k f) : GoodK (S.cl N sc) n np ks arr F k f := ⟨h.ex, h.ok, h.len⟩
theorem KnK.c0 (h : KnK S x st kws) : KnK S.c0 x st kws := ⟨h.ex⟩
theorem KnK.lamS {l : Nat -> Option LamD} {ok} (h : KnK S x st kws) : KnK (S.lamS l ok) x st kws := ⟨h.ex⟩
end
section
variable {S : Sx} {e a b tg it elt it1 tg1 : Expr} {ifs ifs1 : List Expr} {di di1 : DenI} {p p1 : Pat} {c c1 : DenB} {el : Den} {scope : Scope} {own : List (Str × Nat)} {own1 : List Nat} {pos : Pos} {i : Nat} {y : Str} {py spos : Pos}
end
end Hx
namespace Hx
open PySem PySem.Spec L2
noncomputable section
end
end Hx
namespace Hx
open PySem PySem.Spec L2
open PyProof.Rows hiding St
theorem Scal.sc {G : Sg} {v : V} {d : D} (h : isSc d = true) {Fz : Addr -> Prop} {am : List Addr} {H : Hp} {n : Fp} (r : Rep G Fz am H .z v d n) : Scal G v d := by
 cases r with
 | sc s _ => exact s
 | rf => cases h
 | zz => cases h
section
variable {S : Sx} {x y : Str} {p q pos : Pos} {k i : Nat} {F : Fn}
end
section
variable {S : Sx} {e a b c : Expr} {da db dc : Den} {pos p p2 cpos apos : Pos}
end
section
variable {X : Cx} {e : Expr} {te : TE} {p apos cpos pos : Pos}
end
section
variable {S : Sx} {e a b c : Expr} {da db dc : Den} {pos p p2 cpos apos : Pos}
end
def dSlB (a b c : Den) : Den := fun env st => match a env st with
 | .ok fa ba xa st1 => bif !ba || fa.isz then (match b env st1 with
  | .ok _ _ (.int i) st2 => (match c env st2 with
   | .ok _ _ (.int j) st3 => bif fa.flat then (match slD (some i) (some j) (lk st3 xa) with
    | some (f, d) => .ok f false d st3
    | none => .stuck) else .stuck
   | .ok _ _ _ _ => .stuck
   | .exc c ds st1 => .exc c ds st1
   | .stuck => .stuck)
  | .ok _ _ _ _ => .stuck
  | .exc c ds st1 => .exc c ds st1
  | .stuck => .stuck) else .stuck
 | .exc c ds st1 => .exc c ds st1
 | .stuck => .stuck
section
variable {S : Sx} {e a b c o : Expr} {da db dc : Den} {pos p q cpos apos : Pos} {i : Nat} {x : Str}
theorem de_slB {p2 : Pos} (ha : DE S a da) (hb : DE S b db) (hc : DE S c dc) : DE S (.Subscript a (.Slice (some b) (some c) none p2) pos) (dSlB da db dc) := fun W => by
 obtain ⟨ta, pa, qa⟩ := ha W
 obtain ⟨tb, pb, qb⟩ := hb W
 obtain ⟨tc, pc, qc⟩ := hc W
 refine ⟨_, fun X hX tk => pe_slice (r := rSl S.G.K) (hX.K ▸ sl_seq) (pa X hX tk) (po_some (pb X hX tk)) (po_some (pc X hX tk)), fun g env st T σ H Q hT R h => ?_⟩
 refine qa g env st T σ H _ hT R ?_
 unfold dSlB at h
 cases e1 : da env st with
 | stuck => rw [e1] at h; exact h.elim
 | exc c ds st1 => rw [e1] at h; exact h
 | ok f b0 d st1 =>
  rw [e1] at h
  dsimp only at h
  cases hz : (!b0 || f.isz) with
  | false => rw [hz] at h; exact h.elim
  | true =>
  rw [hz] at h
  dsimp only [cond_true] at h
  intro v H1 R1
  refine qb g env st1 _ σ H1 _ (WO hT) (R1.unb hz) ?_
  cases e2 : db env st1 with
  | stuck => rw [e2] at h; exact h.elim
  | exc c ds st2 => rw [e2] at h; exact h
  | ok f2 b2 d2 st2 =>
   rw [e2] at h
   cases d2 with
   | int i =>
    dsimp only at h
    intro w H2 R2
    refine ⟨i, R2.int, ?_⟩
    refine qc g env st2 _ σ H2 _ (WO hT) R2.drop ?_
    cases e3 : dc env st2 with
    | stuck => rw [e3] at h; exact h.elim
    | exc c ds st2 => rw [e3] at h; exact h
    | ok f3 b3 d3 st3 =>
     rw [e3] at h
     cases d3 with
     | int j =>
      dsimp only at h
      intro u H3 R3
      refine ⟨j, R3.int, ?_⟩
      cases hf : f.flat with
      | false => rw [hf] at h; exact h.elim
      | true =>
      rw [hf] at h
      dsimp only [cond_true] at h
      cases e4 : slD (some i) (some j) (lk st3 d) with
      | none => rw [e4] at h; exact h.elim
      | some r =>
       obtain ⟨f', d'⟩ := r
       rw [e4] at h
       have vop : VOp S.G (fun vs H Q => rSl S.G.K (vs.getD 0 .non) (some i) (some j) H Q) (fun ds => match ds with | [a] => slD (some i) (some j) a | _ => none) := fun Fz am H vs ds fr d Q h1 h2 h3 => by
        dsimp only at h2
        split at h2
        ·obtain ⟨v, rfl, a⟩ := h1.one
         exact sl_view a h2 h3
        ·cases h2
       exact Rl.op (vs := [v]) (ts := [(f, false, d)]) vop R3.drop rfl (by show (f.flat && true) = true; rw [hf]; rfl) (by show slD (some i) (some j) (lk st3 d) = _; exact e4) h
     | _ => exact h.elim
   | _ => exact h.elim
structure GT (S : Sx) (x : Str) : Prop where
 ex : ∃ a o, S.mg x = some (.ref a) ∧ S.G.K.lookup a = some o ∧ o.cls = .type "tuple" ∧ o.dict = none
theorem GT.at {S : Sx} {x : Str} {N : List Str} {sc : Scope} {k : Nat} (h : GT S x) : GT (S.at N sc k) x := ⟨h.ex⟩
theorem GT.blk {S : Sx} {x : Str} {sc : Scope} (h : GT S x) : GT (S.blk sc) x := ⟨h.ex⟩
theorem GT.c0 {S : Sx} {x : Str} (h : GT S x) : GT S.c0 x := ⟨h.ex⟩
theorem GT.cl {S : Sx} {x : Str} {N : List Str} {sc : Scope} (h : GT S.c0 x) : GT (S.cl N sc) x := ⟨h.ex⟩
theorem GT.lamS {S : Sx} {x : Str} {l : Nat -> Option LamD} {ok} (h : GT S x) : GT (S.lamS l ok) x := ⟨h.ex⟩
end
structure Tb (S : Sx) (x : Str) (kvs : List (Str × D)) : Prop where
 ex : ∃ a es n, S.mg x = some (.ref a) ∧ KDict S.G.K S.w a es n ∧ ∀ q ∈ kvs, ∃ u v, PySem.W.nsIn S.G.K a q.1 = some (some u) ∧ RelV v u ∧ ∀ Fz am H, Rep S.G Fz am H .z v q.2 (fun _ => 0)
theorem Tb.at {S : Sx} {x : Str} {kvs : List (Str × D)} {N : List Str} {sc : Scope} {k : Nat} (h : Tb S x kvs) : Tb (S.at N sc k) x kvs := ⟨h.ex⟩
theorem Tb.blk {S : Sx} {x : Str} {kvs : List (Str × D)} {sc : Scope} (h : Tb S x kvs) : Tb (S.blk sc) x kvs := ⟨h.ex⟩
theorem Tb.c0 {S : Sx} {x : Str} {kvs : List (Str × D)} (h : Tb S x kvs) : Tb S.c0 x kvs := by
 obtain ⟨a, es, n, h1, h2, h3⟩ := h.ex
 exact ⟨a, es, n, h1, h2, fun q hq => by
  obtain ⟨u, v, k1, k2, k3⟩ := h3 q hq
  exact ⟨u, v, k1, k2, fun Fz am H => (k3 Fz am H).wl _⟩⟩
theorem Tb.lamS {S : Sx} {x : Str} {kvs : List (Str × D)} {l : Nat -> Option LamD} {ok} (h : Tb S x kvs) : Tb (S.lamS l ok) x kvs := by
 obtain ⟨a, es, n, h1, h2, h3⟩ := h.ex
 exact ⟨a, es, n, h1, h2, fun q hq => by
  obtain ⟨u, v, k1, k2, k3⟩ := h3 q hq
  exact ⟨u, v, k1, k2, fun Fz am H => (k3 Fz am H).wl _⟩⟩
def tlook (kvs : List (Str × D)) (s : Str) : Option D := (kvs.find? fun q => decide (q.1 = s)).map (·.2)
theorem tlook_mem {kvs : List (Str × D)} {s : Str} {d : D} (h : tlook kvs s = some d) : (s, d) ∈ kvs := by
 obtain ⟨q, e1, e2⟩ := Option.map_eq_some_iff.mp h
 have m := List.mem_of_find?_eq_some e1
 have p := List.find?_some e1
 have p : q.1 = s := by simpa using p
 rw [<- p, <- e2]; exact m
@[simp] def dInTb (neg : Bool) (kvs : List (Str × D)) (a : Den) : Den := fun env st => match a env st with
 | .ok _ _ (.str s) st1 => (match tlook kvs s with
  | some _ => .ok .z false (.bl (!neg)) st1
  | none => .stuck)
 | .ok _ _ _ _ => .stuck
 | .exc c ds st1 => .exc c ds st1
 | .stuck => .stuck
@[simp] def dIxTb (kvs : List (Str × D)) (a : Den) : Den := fun env st => match a env st with
 | .ok _ _ (.str s) st1 => (match tlook kvs s with
  | some d => .ok .z false d st1
  | none => .stuck)
 | .ok _ _ _ _ => .stuck
 | .exc c ds st1 => .exc c ds st1
 | .stuck => .stuck
section
variable {S : Sx} {e a b c o : Expr} {es : List Expr} {da db dc : Den} {das : DenL} {pos p p2 q cpos apos : Pos} {i : Nat} {x : Str} {kvs : List (Str × D)}
theorem inTb_run {neg : Bool} {ta : TE} {W : WX} (h : Tb S x kvs) (qa : ∀ g env st T σ H Q, Zy T -> Rl S.G g env st T σ H -> Wo S.G g env T σ W Q (da env st) -> ta σ H Q) {ad : Addr} (hm : S.mg x = some (.ref ad)) (g : Gd) (env : Env) (st : Zd) (T : List Tm) (σ : St) (H : Hp) (Q : VK) (hT : Zy T) (R : Rl S.G g env st T σ H) (hh : Wo S.G g env T σ W Q (dInTb neg kvs da env st)) :
  ta σ H fun v H1 => ∃ (z : Str) (r : Option Value), v = .str z ∧ PySem.W.nsIn S.G.K ad z = some r ∧ Q (.bl (if neg then !r.isSome else r.isSome)) H1 := by
 obtain ⟨a', es, n, h1, h2, h3⟩ := h.ex
 rw [hm] at h1
 cases h1
 refine qa g env st T σ H _ hT R ?_
 unfold dInTb at hh
 cases e1 : da env st with
 | stuck => rw [e1] at hh; exact hh.elim
 | exc c ds st1 => rw [e1] at hh; exact hh
 | ok f b0 d st1 =>
  rw [e1] at hh
  cases d with
  | str s =>
   dsimp only at hh
   split at hh
   ·rename_i d ed
    obtain ⟨u, v, k1, _, _⟩ := h3 _ (tlook_mem ed)
    intro w H1 R1
    refine ⟨s, some u, R1.str, k1, ?_⟩
    have := hh (.bl (!neg)) H1 (Rl.scal R1.drop rfl)
    cases neg <;> exact this
   ·exact hh.elim
  | _ => exact hh.elim
theorem dt_ninTb (h : Tb S x kvs) (hg : S.sc.names.lookup x = some .globalImplicit) (hd : (x == ("__debug__" : Str)) = false) (ha : DE S a da) : DT S (.Compare a [.NotIn] [.Name x p] pos) (dB (dInTb true kvs da)) := fun W => by
 obtain ⟨ta, pa, qa⟩ := ha W
 obtain ⟨ad, es, n, h1, h2, h3⟩ := h.ex
 refine ⟨tTest (tOp (fun x y H Q => ∃ (z : Str) (r : Option Value), x = .str z ∧ y = .ref ad ∧ PySem.W.nsIn S.G.K ad z = some r ∧ Q (.bl (!r.isSome)) H) ta (tC (.ref ad))), fun X hX tk => ?_, fun g env st T σ H Q hT R hh => ?_⟩
 ·have := pt_cmpR (pos := pos) (op_notIn_kd (X := X) (by rw [hX.K, hX.w]; exact h2)) (pa X hX tk) (pe_glob (pos := p) (show X.env.scope.names.lookup x = some .globalImplicit by rw [hX.sc]; exact hg) (by rw [hX.mg]; exact h1) (show RelV (.ref ad) (.ref ad) from rfl) hd) (marks (o := .NotIn) (e := .Name x p) rfl)
  rw [hX.K] at this
  exact this
 ·have k := inTb_run h qa h1 g env st T σ H _ hT R (postB hh)
  have e : (fun v H1 => ∃ (z : Str) (r : Option Value), v = V.str z ∧ PySem.W.nsIn S.G.K ad z = some r ∧ (fun (x : V) (H1 : Hp) => ∃ c, x = V.bl c ∧ Q c H1) (V.bl (if true then !r.isSome else r.isSome)) H1) = fun v H1 => tC (.ref ad) σ H1 fun y H2 => ∃ (z : Str) (r : Option Value), v = .str z ∧ y = .ref ad ∧ PySem.W.nsIn S.G.K ad z = some r ∧ (fun (x : V) (H1 : Hp) => ∃ c, x = V.bl c ∧ Q c H1) (V.bl (!r.isSome)) H2 := by
   funext v H1
   simp [tC]
  have k : ta σ H _ := k
  rw [e] at k
  exact k
theorem de_ixTb (h : Tb S x kvs) (hg : S.sc.names.lookup x = some .globalImplicit) (hd : (x == ("__debug__" : Str)) = false) (ha : DE S a da) (hn : Vb a = true) : DE S (.Subscript (.Name x p) a pos) (dIxTb kvs da) := fun W => by
 obtain ⟨ta, pa, qa⟩ := ha W
 obtain ⟨ad, es, n, h1, h2, h3⟩ := h.ex
 refine ⟨tOp (rIxD S.G.K S.w) (tC (.ref ad)) ta, fun X hX tk => ?_, fun g env st T σ H Q hT R hh => ?_⟩
 ·have := pe_ix (pos := pos) (ix_kdict (X := X)) (pe_glob (pos := p) (show X.env.scope.names.lookup x = some .globalImplicit by rw [hX.sc]; exact hg) (by rw [hX.mg]; exact h1) (show RelV (.ref ad) (.ref ad) from rfl) hd) (pa X hX tk) (plainIx hn)
  rw [hX.K, hX.w] at this
  exact this
 ·show ta σ H _
  refine qa g env st T σ H _ hT R ?_
  unfold dIxTb at hh
  cases e1 : da env st with
  | stuck => rw [e1] at hh; exact hh.elim
  | exc c ds st1 => rw [e1] at hh; exact hh
  | ok f b0 d st1 =>
   rw [e1] at hh
   cases d with
   | str s =>
    dsimp only at hh
    split at hh
    ·rename_i d ed
     obtain ⟨u, v, k1, k2, k3⟩ := h3 _ (tlook_mem ed)
     intro w H1 R1
     exact ⟨ad, s, v, rfl, R1.str, ⟨es, n, u, h2.at_, h2.lit, k1, k2⟩, hh v H1 (Rl.pz R1.drop fun Fz am ne nt _ _ => k3 Fz am H1)⟩
    ·exact hh.elim
   | _ => exact hh.elim
end
structure TbF (S : Sx) (x : Str) (n k : Nat) (tab : List (Str × Fn)) : Prop where
 ex : ∃ a es m, S.mg x = some (.ref a) ∧ KDict S.G.K S.w a es m ∧ ∀ q ∈ tab, ∃ f fd ps, PySem.W.nsIn S.G.K a q.1 = some (some (.ref f)) ∧ FnOk S.P S.w S.G.K S.mg S.base (L2.CX S.P S.w) k f fd ps (SpF S.G n q.2) ∧ PySem.W.keepIn S.G.K (.ref f) = true ∧ Binds S.G.K fd ps []
structure TbN (S : Sx) (x : Str) (nms : List (Str × Str)) : Prop where
 ex : ∃ a es m, S.mg x = some (.ref a) ∧ KDict S.G.K S.w a es m ∧ ∀ q ∈ nms, ∃ f, PySem.W.nsIn S.G.K a q.1 = some (some (.ref f)) ∧ S.mg q.2 = some (.ref f)
theorem TbN.c0 {S : Sx} {x : Str} {nms : List (Str × Str)} (h : TbN S x nms) : TbN S.c0 x nms := ⟨h.ex⟩
theorem TbN.lamS {S : Sx} {x : Str} {nms : List (Str × Str)} {l : Nat -> Option LamD} {ok} (h : TbN S x nms) : TbN (S.lamS l ok) x nms := ⟨h.ex⟩
theorem TbF.at {S : Sx} {x : Str} {n k : Nat} {tab : List (Str × Fn)} {N : List Str} {sc : Scope} {j : Nat} (h : TbF S x n k tab) : TbF (S.at N sc j) x n k tab := ⟨h.ex⟩
section
variable {S : Sx} {e a : Expr} {es : List Expr} {da : Den} {das : DenL} {pos p p2 : Pos} {x : Str} {n k : Nat} {tab : List (Str × Fn)}
end
section
variable {S : Sx} {a b c : Expr} {da db dc : Den} {pos p p2 q : Pos} {i : Nat} {x : Str}
end
structure KC (S : Sx) (c : Nat) (fl : List Str) : Prop where
 cls : Cls S.G.K (S.G.cls c)
 fe : S.G.fld c = fl
 na : ∀ f ∈ fl, NoAttr S.G.K (S.G.cls c) f
 nd : fl.Nodup
 few : fl.length <= 20
section
variable {S : Sx} {c n k : Nat} {fl : List Str} {m q x : Str} {st : Stmt} {N ps : List Str} {sc : Scope} {j : Nat} {F : Fn} {dd : List D} {a : Addr} {l : Nat -> Option LamD}
theorem KC.at (h : KC S c fl) : KC (S.at N sc j) c fl := ⟨h.cls, h.fe, h.na, h.nd, h.few⟩
theorem KC.blk (h : KC S c fl) : KC (S.blk sc) c fl := ⟨h.cls, h.fe, h.na, h.nd, h.few⟩
theorem KC.c0 (h : KC S c fl) : KC S.c0 c fl := ⟨h.cls, h.fe, h.na, h.nd, h.few⟩
theorem KC.cl (h : KC S.c0 c fl) : KC (S.cl N sc) c fl := ⟨h.cls, h.fe, h.na, h.nd, h.few⟩
theorem KC.lamS {ok} (h : KC S c fl) : KC (S.lamS l ok) c fl := ⟨h.cls, h.fe, h.na, h.nd, h.few⟩
theorem KC.f (h : KC S c fl) {i : Nat} {f : Str} (e : fl[i]? = some f) : (S.G.fld c)[i]? = some f := by rw [h.fe]; exact e
theorem KC.nf (h : KC S c fl) (e : m ∉ fl) : m ∉ S.G.fld c := by rw [h.fe]; exact e
theorem GoodM.at (h : GoodM S c m n F dd k) : GoodM (S.at N sc j) c m n F dd k := ⟨h.ex, h.cls, h.nf⟩
theorem GoodM.blk (h : GoodM S c m n F dd k) : GoodM (S.blk sc) c m n F dd k := ⟨h.ex, h.cls, h.nf⟩
theorem GoodM.cl (h : GoodM S.c0 c m n F dd k) : GoodM (S.cl N sc) c m n F dd k := ⟨h.ex, h.cls, h.nf⟩
theorem GoodI.at (h : GoodI S x c n F dd k) : GoodI (S.at N sc j) x c n F dd k := ⟨h.ex⟩
theorem GoodI.blk (h : GoodI S x c n F dd k) : GoodI (S.blk sc) x c n F dd k := ⟨h.ex⟩
theorem GoodI.cl (h : GoodI S.c0 x c n F dd k) : GoodI (S.cl N sc) x c n F dd k := ⟨h.ex⟩
structure KnM (S : Sx) (c : Nat) (m q : Str) (st : Stmt) (kws : List (Str × D)) : Prop where
 ex : ∃ f fd, FunD S.G.K m q (defArgs st) (defBody st) (defScope st) [] (kws.map fun q => (q.1, scV q.2)) f fd ∧ Meth S.G.K (S.G.cls c) m f
theorem KnM.c0 {kws : List (Str × D)} (h : KnM S c m q st kws) : KnM S.c0 c m q st kws := ⟨h.ex⟩
theorem KnM.lamS {kws : List (Str × D)} {ok} (h : KnM S c m q st kws) : KnM (S.lamS l ok) c m q st kws := ⟨h.ex⟩
structure KnI (S : Sx) (x : Str) (c : Nat) (q : Str) (st : Stmt) : Prop where
 ex : ∃ f fd, FunD S.G.K "__init__" q (defArgs st) (defBody st) (defScope st) [] [] f fd ∧ Mk S.G.K (S.G.cls c) f ∧ S.mg x = some (.ref (S.G.cls c))
theorem KnI.c0 (h : KnI S x c q st) : KnI S.c0 x c q st := ⟨h.ex⟩
theorem KnI.lamS {ok} (h : KnI S x c q st) : KnI (S.lamS l ok) x c q st := ⟨h.ex⟩
end
section
variable {fa : List He.Fa} {fn : List He.DefD} {P : Program} {w : World} {K : PySem.W.Frag} {h : Heap} {mg : Str -> Option Value} {base : Heap} {xs : List Nat} {own : List Str}
end
theorem dpr_c {S : Sx} {e a : Expr} {keys : List (Option Expr)} {values : List Expr} {ks : List Str} {da : Den} {das : DenL} {pos : Pos} {k : Str} (ha : DE S a da) (hr : DPr S pos keys values ks das) (hk : ∀ X, Stx S X -> PE X e (tC (.str k))) : DPr S pos (some e :: keys) (a :: values) (k :: ks) (Zb da das) := dpr_cons (q := pos) (u := false) ha hr hk
section
variable {S : Sx} {a b c : Expr} {das : DenL} {pos : Pos}
end
abbrev AlY : Type := (He.AlD × Bool) × List (Option (List (Option (Str × Int))))
def tblA (K : PySem.W.Frag) (x : Str) : Addr := match PySem.W.nsIn K mainGlobals x with
 | some (some (.ref a)) => a
 | _ => 0
def lookY (fa : List He.Fa) (fn : List He.DefD) (ts : List (Str × List Str)) (ex : PySem.W.Frag -> Bool) (K : PySem.W.Frag) : AlY :=
 ((He.obsD fa fn K, ex K), ts.map fun t => He.dicW K (tblA K t.1))
def obsY (as : (Addr -> Option Obj) -> List Addr) (fa : List He.Fa) (fn : List He.DefD) (ts : List (Str × List Str)) (ex : PySem.W.Frag -> Bool) (g : Addr -> Option Obj) : AlY :=
 lookY fa fn ts ex (He.frG g (as g))
def SaysY (fa : List He.Fa) (fn : List He.DefD) (ts : List (Str × List Str)) (ex : PySem.W.Frag -> Bool) (w : World) (h : Heap) : Prop :=
 ∃ K : PySem.W.Frag, K.In h ∧ He.SaysD fa fn K ∧ ex K = true ∧ ∀ t ∈ ts, ∃ es n, KDict K w (tblA K t.1) es n
def hookY (as : (Addr -> Option Obj) -> List Addr) (fa : List He.Fa) (fn : List He.DefD) (ts : List (Str × List Str)) (ex : PySem.W.Frag -> Bool) : PySem.W.Hook where
 α := AlY
 obs := fun s => obsY as fa fn ts ex s.heap.get?
 val := fun w => ((He.valD fn, true), ts.map fun t => some (He.keysIn w.params t.2))
 says := SaysY fa fn ts ex
 of := fun w _ e => ⟨_, He.frG_in, congrArg (fun z : AlY => z.1.1) e, congrArg (fun z : AlY => z.1.2) e, fun t ht => by
  have e2 := congrArg (fun z : AlY => z.2) e
  obtain ⟨i, hi⟩ := List.getElem?_of_mem ht
  have e3 := congrArg (fun l : List (Option (List (Option (Str × Int)))) => l[i]?) e2
  simp only [obsY, lookY, List.getElem?_map, hi, Option.map_some] at e3
  exact He.dicW_ok (Option.some.inj e3)⟩
 keeps := fun _ _ _ ⟨K, hK, c⟩ k => ⟨K, PySem.W.Frag.In.keeps hK k, c⟩
theorem obsY_eq {as : (Addr -> Option Obj) -> List Addr} {fa : List He.Fa} {fn : List He.DefD} {ts : List (Str × List Str)} {ex : PySem.W.Frag -> Bool} {g : Addr -> Option Obj} {s : Shared} (h : ∀ a, g a = s.heap.get? a) : obsY as fa fn ts ex g = (hookY as fa fn ts ex).obs s := by
 have e : g = s.heap.get? := funext h
 rw [e]
 rfl
def tbB (x : Str) (kvs : List (Str × D)) (K : PySem.W.Frag) : Bool := (match PySem.W.nsIn K mainGlobals x with
 | some (some (.ref _)) => true
 | _ => false) && kvs.all fun q => match PySem.W.nsIn K (tblA K x) q.1 with
  | some (some u) => kval K 8 u q.2
  | _ => false
section
variable {P : Program} {w : World} {K : PySem.W.Frag} {h : Heap} {mg : Str -> Option Value} {base : Heap} {xs : List Nat} {own : List Str}
theorem ZeW (X : K.In h) (Gn : h.Ns mainGlobals mg) {x : Str} {kvs : List (Str × D)} (c : tbB x kvs K = true) (t : ∃ es n, KDict K w (tblA K x) es n) : Tb (S1 P w K mg base xs own) x kvs := by
 unfold tbB at c
 rw [Bool.and_eq_true] at c
 obtain ⟨c1, c2⟩ := c
 obtain ⟨es, n, t⟩ := t
 split at c1
 ·rename_i a e
  have ea : tblA K x = a := by unfold tblA; rw [e]
  refine ⟨a, es, n, PySem.W.mg_of X Gn e, ea ▸ t, fun q hq => ?_⟩
  have c3 := List.all_eq_true.mp c2 q hq
  rw [ea] at c3
  split at c3
  ·rename_i u e2
   obtain ⟨v, r, rep⟩ := ZaH (G := (S1 P w K mg base xs own).G) 8 u q.2 c3
   exact ⟨u, v, e2, r, rep⟩
  ·cases c3
 ·cases c1
end
section
variable {S : Sx} {a b c : Expr} {da db dc : Den} {pos p p2 q : Pos} {i : Nat} {x : Str}
end
section
variable {G : Sg} {g : Gd} {env : Env} {st : Zd} {T : List Tm} {σ : St} {H : Hp} {v : V}
end
section
variable {S : Sx} {e : Expr} {da : Den}
end
section
variable {G : Sg} {g : Gd} {env : Env} {st st' : Zd} {T T' : List Tm} {σ : St} {H H' : Hp} {Fz Fz' : Addr -> Prop} {am am' : List Addr}
end
section
variable {S : Sx} {e a b tg it kx vx : Expr} {es ifs : List Expr} {da db ek ev : Den} {das : DenL} {pos spos p : Pos} {di : DenI} {pt : Pat} {c : DenB} {scope : Scope} {own : List (Str × Nat)}
section
variable {X : Cx}
end
end
section
variable {S : Sx} {e a b o : Expr} {es : List Expr} {da dk db do_ : Den} {das : DenL} {pos p p2 q apos : Pos} {c i j k : Nat} {x f : Str}
end
section
variable {G : Sg} {g : Gd} {env : Env} {st st' : Zd} {T T' : List Tm} {σ : St} {H H' : Hp} {Fz Fz' : Addr -> Prop} {am am' : List Addr}
end
section
variable {S : Sx} {e a b o : Expr} {es : List Expr} {da dk db do_ : Den} {das : DenL} {pos p p2 q apos : Pos} {c i j k : Nat} {x f : Str}
end
section
variable {G : Sg} {g : Gd} {env : Env} {st st' : Zd} {T T' : List Tm} {σ : St} {H H' : Hp} {Fz Fz' : Addr -> Prop} {am am' : List Addr}
end
section
variable {S : Sx} {e a b o : Expr} {es : List Expr} {da db do_ : Den} {das : DenL} {pos p q q2 apos : Pos} {c i j k : Nat} {f x : Str}
end
section
variable {S : Sx} {l : Nat -> Option LamD} {c n k : Nat} {m q : Str} {st : Stmt} {N ps fl : List Str} {dfl dd : List D} {F : Fn}
structure KnMD (S : Sx) (c : Nat) (m q : Str) (st : Stmt) (dfl : List D) : Prop where
 ex : ∃ f fd, FunD S.G.K m q (defArgs st) (defBody st) (defScope st) (dfl.map scV) [] f fd ∧ Meth S.G.K (S.G.cls c) m f
theorem KnMD.c0 (h : KnMD S c m q st dfl) : KnMD S.c0 c m q st dfl := ⟨h.ex⟩
theorem KnMD.lamS {ok} (h : KnMD S c m q st dfl) : KnMD (S.lamS l ok) c m q st dfl := ⟨h.ex⟩
end
section
variable {fa : List He.Fa} {fn : List He.DefD} {P : Program} {w : World} {K : PySem.W.Frag} {mg : Str -> Option Value} {base : Heap} {xs : List Nat} {own : List Str}
end
def RlV (G : Sg) (g : Gd) (env : Env) (st : Zd) (T : List Tm) (σ : St) (H : Hp) (v : V) (x : D) : Prop :=
 ∃ Fz am ne nt ns, EnvR G Fz am H env σ ne ∧ TmR G Fz am H ne T nt ∧ StoR G Fz am H st ns ∧ Rel0 G g Fz am H (fun p => ne p + nt p + ns p) ∧ View G Fz am H v x
section
variable {G : Sg} {g : Gd} {env : Env} {st st' : Zd} {T T' : List Tm} {σ : St} {H H' : Hp} {Fz Fz' : Addr -> Prop} {am am' : List Addr}
theorem RlV.op {r : List V -> Hp -> VK -> Prop} {op : Op} {v : V} {x : D} {f : Fr} {d : D} {Q : VK} (hv : VOp G r op) (R : RlV G g env st T σ H v x) (e : op [x] = some (f, d)) (hq : ∀ v H', Rl G g env st (⟨v, f, d, false⟩ :: T) σ H' -> Q v H') : r [v] H Q := by
 obtain ⟨Fz, am, ne, nt, ns, h1, h2, h3, h4, h5⟩ := R
 refine hv Fz am H [v] [x] f d Q (.cons h5 .nil) e fun v H' n s nn rep => hq v H' ?_
 have E : Ext Fz am H Fz am H' := Ext.same s fun _ h => h
 exact ⟨Fz, am, ne, fun q => n q + nt q, ns, h1.ext E fun p o _ h => s _ _ h, .own rep (h2.ext E (fun p o _ h => s _ _ h) fun p o _ h => s _ _ h) fun _ => rfl, Reps.ext E h3 fun p o _ h => s _ _ h, h4.grow s nn fun q => by show ne q + (n q + nt q) + ns q = _; omega, trivial⟩
end
section
variable {S : Sx} {e a b o : Expr} {es : List Expr} {da db : Den} {pos p q q2 apos : Pos} {c i j k : Nat} {f x : Str} {dv : Env -> Zd -> Option D}
end
end Hx
namespace Hx
open PySem PySem.Spec L2 PySem.SeqAt
open PyProof.Rows hiding St
open AutoSeq1 (wpAny_loadPart')
open MeetsSeq MeetsSeq2 MeetsSeq3 SeqRoads2
section
variable {prog : Program} {w : World}
end
section
variable {X : Cx}
end
section
variable {S : Sx} {e : Expr} {pos p : Pos} {dv : Env -> Zd -> Option D}
end
end Hx
namespace SrtO
open PySem PySem.Spec PyProof.Rows PySem.Calls
section
variable {prog : Program} {w : World} {A : Around} {E : Value -> Shared -> Prop} {s : Shared}
def IsLead (h : Heap) (v : Value) (x : Int) : Prop := ∃ a o t r n, v = .ref a ∧ h.get? a = some o ∧ o.cls = .type "tuple" ∧ o.data = .seq (Value.int x t :: r).toArray n
theorem IsLead.keeps {h h' : Heap} {v : Value} {x : Int} (p : IsLead h v x) (k : ∀ b o, h.get? b = some o -> o.cls = .type "tuple" -> h'.get? b = some o) : IsLead h' v x := by
 obtain ⟨a, o, t, r, n, e, ho, hc, hd⟩ := p
 exact ⟨a, o, t, r, n, e, k _ _ ho hc, hc, hd⟩
end
end SrtO
namespace L2
open PySem PySem.Spec PyProof.Rows
section
variable {X : Cx}
open Classical in
end
end L2
namespace Hx
open PySem PySem.Spec L2
section
variable {α β : Type}
structure STO (lt : α -> α -> Bool) : Prop where
 asy : ∀ x y, lt x y = true -> lt y x = false
 ntr : ∀ x y z, lt x y = false -> lt y z = false -> lt x z = false
 con : ∀ x y, lt x y = false -> lt y x = false -> x = y
end
end Hx
namespace SrtO
open PySem PySem.Spec PyProof.Rows PySem.Calls Hx
section
variable {prog : Program} {w : World} {A : Around} {E : Value -> Shared -> Prop} {s : Shared}
inductive KeyIs : Value -> L2.Key -> Prop
 | int {i t} : KeyIs (.int i t) (.inl i)
 | str {x t} : KeyIs (.str x t) (.inr x)
inductive KeysAre : List Value -> List L2.Key -> Prop
 | nil : KeysAre [] []
 | cons {u us k ks} : KeyIs u k -> KeysAre us ks -> KeysAre (u :: us) (k :: ks)
theorem KeyIs.inj {u : Value} {k k' : L2.Key} (h : KeyIs u k) (h' : KeyIs u k') : k = k' := by cases h <;> cases h' <;> rfl
def IsLeadK (h : Heap) (v : Value) (ks : List L2.Key) : Prop := ∃ a o us r n, v = .ref a ∧ h.get? a = some o ∧ o.cls = .type "tuple" ∧ o.data = .seq (us ++ r).toArray n ∧ KeysAre us ks
theorem IsLeadK.keeps {h h' : Heap} {v : Value} {ks : List L2.Key} (p : IsLeadK h v ks) (k : ∀ b o, h.get? b = some o -> o.cls = .type "tuple" -> h'.get? b = some o) : IsLeadK h' v ks := by
 obtain ⟨a, o, us, r, n, e, ho, hc, hd, hk⟩ := p
 exact ⟨a, o, us, r, n, e, k _ _ ho hc, hc, hd, hk⟩
end
end SrtO
namespace L2
open PySem PySem.Spec PyProof.Rows Hx
section
variable {X : Cx}
open Classical in
end
end L2
namespace Hx
open PySem PySem.Spec L2
open PyProof.Rows hiding St
section
variable {α β : Type}
end
section
variable {G : Sg} {Fz : Addr -> Prop} {am : List Addr} {H : Hp}
end
section
variable {S : Sx} {e a b c : Expr} {da db dc : Den} {pos p p2 cpos apos : Pos}
end
end Hx
namespace SrtO
open PySem PySem.Spec PyProof.Rows PySem.Calls Hx
section
variable {prog : Program} {w : World} {A : Around} {E : Value -> Shared -> Prop} {s : Shared} {r d : Addr} {kvs : List (L2.Key × Value)} {ep : Nat}
open Classical in
end
end SrtO
namespace L2
open PySem PySem.Spec PyProof.Rows Hx LiI
section
variable {X : Cx} {e : Expr} {te : TE} {p apos cpos pos : Pos}
open Classical in
end
end L2
namespace Hx
open PySem PySem.Spec L2
open PyProof.Rows hiding St
section
variable {S : Sx} {e a b c : Expr} {da db dc : Den} {pos p p2 cpos apos : Pos}
end
end Hx
namespace L2
open PySem PySem.Spec PyProof.Rows PpSet
section
variable {X : Cx} {pins : List (Addr × Obj)} {σ : St} {H : Hp} {s : Shared} {E : Value -> Shared -> Prop}
end
end L2
namespace Hx
open PySem PySem.Spec L2
open PyProof.Rows hiding St
section
variable {G : Sg} {g g' : Gd} {env : Env} {st st' : Zd} {T T' : List Tm} {σ : St} {H H' : Hp} {Fz : Addr -> Prop} {am : List Addr} {t : Fp}
def fullG (H : Hp) (Fz : Addr -> Prop) (am : List Addr) (t : Fp) : Gd := ⟨H, fun q => 0 < t q, Fz, am⟩
theorem Rel0.full (r : Rel0 G g Fz am H t) : Rel0 G (fullG H Fz am t) Fz am H t ∧ Gle G (fullG H Fz am t) g := by
 have hm : Home G (fullG H Fz am t) := by
  refine ⟨fun p hp => ⟨fun q => r.nz p q hp, r.zt p hp⟩, fun p hp => r.th p hp, fun j l hl => ?_⟩
  obtain ⟨h1, h2⟩ := r.hm.lam j l hl
  refine ⟨fun e he => ?_, h2.ext r.ext fun _ _ hq => absurd hq (Nat.lt_irrefl 0)⟩
  obtain ⟨a1, a2⟩ := h1 e he
  have na : ¬ g.A0 e.1 := fun q => by
   obtain ⟨w, e1, k⟩ := r.hm.a _ q
   rw [a2] at e1; cases e1
   exact ext_no a1 k
  exact ⟨a1, (r.k _ _ (ext_nt a1) a2 na).nd (ext_dk a1)⟩
 have no0 : ∀ p, H p = none -> g.A0 p ∨ g.H0 p = none := fun p h => by
  cases e : g.H0 p with
  | none => exact .inr rfl
  | some o =>
   by_cases a : g.A0 p
   ·exact .inl a
   ·exfalso
    cases ht : Vf o with
    | false => obtain ⟨u, hu⟩ := (r.k p o ht e a).some; rw [h] at hu; cases hu
    | true => obtain ⟨u, hu, _⟩ := r.kt p o ht e a; rw [h] at hu; cases hu
 have notot : ∀ p o, g.H0 p = some o -> ¬ g.A0 p -> ¬ 0 < t p := fun p o e a q => by
  rcases r.f p q with y | y
  ·exact a y
  ·rw [e] at y; cases y
 refine ⟨⟨r.n1, r.nz, r.th, r.zt, fun p o _ e _ => .inl e, fun p hp => .inl hp, fun _ h => h, fun _ h => .inl h, fun _ _ h => h, r.tb, hm, fun p o tw e _ => ⟨o, e, tw⟩⟩, fun Fz' am' H' t' r' => ?_⟩
 refine ⟨r'.n1, r'.nz, r'.th, r'.zt, fun p o nt e a => ?_, fun p hp => ?_, fun p hp => r'.z0 p (r.z0 p hp), fun p hp => ?_, fun i p e => r'.a i p (r.a i p e), r'.tb, r.hm, fun p o tw e a => ?_⟩
 ·have n0 := notot p o e a
  rcases r.k p o nt e a with h | ⟨f, d, ob, h⟩
  ·rcases r'.k p o nt h n0 with k | ⟨f', d', ob', k⟩
   ·exact .inl k
   ·by_cases f0 : g.F0 p
    ·exact .inr ⟨f0, d', ob', k⟩
    ·rcases r.z1 p f' with y | y | y
     ·exact absurd y f0
     ·exact absurd y a
     ·rw [y] at e; cases e
  ·rcases r'.k p _ rfl h n0 with k | ⟨_, d', _⟩
   ·exact .inr ⟨f, d, ob, k⟩
   ·cases d'
 ·rcases r'.f p hp with y | y
  ·exact r.f p y
  ·exact no0 p y
 ·rcases r'.z1 p hp with y | y | y
  ·exact r.z1 p y
  ·exact (r.f p y).elim (fun a => .inr (.inl a)) fun a => .inr (.inr a)
  ·exact .inr (no0 p y)
 ·obtain ⟨o', e1, t1⟩ := r.kt p o tw e a
  have n0 := notot p o e a
  obtain ⟨o2, e2, t2⟩ := r'.kt p o' t1 e1 n0
  exact ⟨o2, e2, t2⟩
structure Stays (H H' : Hp) : Prop where
 ext : ∀ p o, H p = some o -> isExt o = true -> H' p = some o
 tup : ∀ p xs, Rd H p (.tup xs) -> Rd H' p (.tup xs)
theorem Stays.refl : Stays H H := ⟨fun _ _ h _ => h, fun _ _ h => h⟩
theorem Rl.full (R : Rl G g env st T σ H) : ∃ g2, Rl G g2 env st T σ H ∧ Gle G g2 g ∧ ∀ env' st' T' σ' H', Rl G g2 env' st' T' σ' H' -> Stays H H' := by
 obtain ⟨Fz, am, ne, nt, ns, h1, h2, h3, h4, h5⟩ := R
 obtain ⟨r, le⟩ := h4.full
 refine ⟨_, ⟨Fz, am, ne, nt, ns, h1, h2, h3, r, h5⟩, le, fun env' st' T' σ' H' ⟨Fz', am', ne', nt', ns', _, _, _, r', _⟩ => ⟨fun p o e x => ?_, fun p xs e => ?_⟩⟩
 ·exact (r'.k p o (ext_nt x) e fun q => by
   obtain ⟨w, e1, k⟩ := h4.th p q
   rw [e] at e1; cases e1
   exact ext_no x k).nd (ext_dk x)
 ·rcases e with e | ⟨o', e⟩
  ·have n0 : ¬ 0 < ne p + nt p + ns p := fun q => by
    obtain ⟨w, e1, k⟩ := h4.th p q
    rw [e] at e1; cases e1; exact k
   exact .inl ((r'.k p _ rfl e n0).nd rfl)
  ·have n0 : ¬ 0 < ne p + nt p + ns p := fun q => by
    obtain ⟨w, e1, k⟩ := h4.th p q
    rw [e] at e1; cases e1; exact k
   exact .inr ⟨o', (r'.k p _ rfl e n0).nd rfl⟩
end
structure Mem (r : List (List Int)) (L : List (Addr × List Int)) : Prop where
 nd : (L.map (·.2)).Nodup
 all : ∀ k ∈ r, k ∈ L.map (·.2)
 sub : ∀ p ∈ L, p.2 ∈ r
 len : L.length <= r.length
theorem Mem.nil : Mem [] [] := ⟨List.nodup_nil, fun _ h => absurd h (by simp), fun _ h => absurd h (by simp), Nat.le_refl _⟩
theorem Mem.snoc {r : List (List Int)} {L L' : List (Addr × List Int)} {t : Addr} {k : List Int} (m : Mem r L) (c1 : k ∈ L.map (·.2) -> L' = L) (c2 : k ∉ L.map (·.2) -> L'.Perm ((t, k) :: L)) : Mem (r ++ [k]) L' := by
 by_cases c : k ∈ L.map (·.2)
 ·rw [c1 c]
  refine ⟨m.nd, fun x hx => ?_, fun p hp => List.mem_append_left _ (m.sub p hp), by have := m.len; simp; omega⟩
  rcases List.mem_append.mp hx with h | h
  ·exact m.all x h
  ·rw [List.mem_singleton.mp h]; exact c
 ·have p := c2 c
  have p2 := p.map (·.2)
  rw [List.map_cons] at p2
  refine ⟨(p2.nodup_iff).mpr (List.nodup_cons.mpr ⟨c, m.nd⟩), fun x hx => p2.mem_iff.mpr ?_, fun q hq => ?_, by have := m.len; rw [p.length_eq]; simp; omega⟩
  ·rcases List.mem_append.mp hx with h | h
   ·exact List.mem_cons_of_mem _ (m.all x h)
   ·rw [List.mem_singleton.mp h]; exact List.mem_cons_self
  ·rcases List.mem_cons.mp (p.mem_iff.mp hq) with e | h
   ·rw [e]; simp
   ·exact List.mem_append_left _ (m.sub q h)
section
variable {S : Sx}
end
section
variable {S : Sx} {e a b tg it elt : Expr} {ifs : List Expr} {da db el : Den} {pos p q : Pos} {pt : Pat} {di : DenI} {c : DenB} {scope : Scope} {own : List (Str × Nat)}
end
end Hx
namespace Hx
open PySem PySem.Spec L2 PySem.SeqAt
open PyProof.Rows hiding St
section
variable {X : Cx}
end
section
variable {S : Sx}
end
end Hx
namespace Hx
open PySem PySem.Spec L2
open PyProof.Rows hiding St
section
variable {G : Sg} {Fz : Addr -> Prop} {am : List Addr} {H : Hp}
theorem lst_of {f : Fr} {ds : List D} {n : Fp} {v : V} (r : Rep G Fz am H (.c f) v (.con .lst ds) n) : ∃ A vs m, v = .ref A ∧ H A = some (.lst vs) ∧ Reps G Fz am H (List.replicate ds.length f) vs ds m ∧ ∀ q, n q = m q + if q = A then 1 else 0 := by
 cases r with
 | @cc p k vs _ _ _ m a1 a2 a3 =>
  obtain ⟨_, o, b1, b2⟩ := a1
  subst b2
  exact ⟨p, vs, m, rfl, b1, a2, a3⟩
theorem Rl.ixL {g : Gd} {env : Env} {st : Zd} {T : List Tm} {σ : St} {ds : List D} {d : D} {i : Nat} {j : Int} (R : Rl G g env st T σ H) (e : env[i]? = some (some (.c .z, .con .lst ds))) (hj : atI ds j = some d) :
  ∃ A vs y, σ[i]? = some (some (.ref A)) ∧ H A = some (.lst vs) ∧ atI vs j = some y ∧ Rl G g env st (⟨y, .z, d, false⟩ :: T) σ H := by
 obtain ⟨Fz, am, ne, nt, ns, h1, h2, h3, h4, h5⟩ := R
 obtain ⟨v, m, a1, a2, a3⟩ := h1.get e
 obtain ⟨A, vs, m1, rfl, q1, q3, q4⟩ := lst_of a2
 have q3' : Reps G Fz am H (zs ds.length) vs ds m1 := q3
 obtain ⟨y, b1, b2⟩ := reps_at (q3'.fp (Reps.z0 q3')) hj
 exact ⟨A, vs, y, a1, q1, b1, Fz, am, ne, nt, ns, h1, .own b2 h2 fun q => by simp, h3, h4, trivial⟩
end
section
variable {S : Sx} {a b c : Expr} {da db dc : Den} {pos p p2 q : Pos} {i : Nat} {x : Str}
def dIx1L (i : Nat) (k1 : Den) : Den := fun env st => match k1 env st with
 | .ok _ _ (.int j) _ => (match env[i]? with
  | some (some (.c .z, .con .lst ds)) => (match atI ds j with
   | some d => .ok .z false d st
   | none => .stuck)
  | _ => .stuck)
 | _ => .stuck
theorem de_ix1L {a1 : Expr} {d1 : Den} (hN : S.N[i]? = some x) (hv : Vis S.sc x) (hd : (x == ("__debug__" : Str)) = false) (hcd : (x == ("__classdict__" : Str)) = false) (h1 : DPz S a1 d1) (hm : Vb a1 = true) :
  DE S (.Subscript (.Name x q) a1 p) (dIx1L i d1) := fun W => by
 obtain ⟨t1, pp1, qq1⟩ := h1.p W
 refine ⟨tOp (rIxL S.G.K) (tVar i) t1, fun X hX tkk => pe_ix (hX.K ▸ ix_list) (de_pv hN hv hd hcd hX) (pp1 X hX tkk) (plainIx hm), fun g env st T σ H Q hT R h => ?_⟩
 unfold dIx1L at h
 split at h
 ·rename_i f1 b1 j s1 ea1
  obtain ⟨rfl, rfl, e1⟩ := h1.s _ _ _ _ _ _ ea1
  subst e1
  split at h
  ·rename_i ds ei
   split at h
   ·rename_i d ed
    obtain ⟨A, vs, y, z1, z2, z3, _⟩ := Rl.ixL R ei ed
    refine ⟨.ref A, z1, ?_⟩
    refine qq1 g env _ T σ H _ (.int j) hT R ea1 fun u1 H2 sm R2 => ?_
    obtain ⟨Fz, am, vw⟩ := R2.view1 rfl
    have hu := vw.int
    subst hu
    obtain ⟨A', vs', y', w1, w2, w3, R4⟩ := Rl.ixL R2.drop ei ed
    rw [z1] at w1
    cases w1
    rw [sm _ _ z2] at w2
    have w2 := Option.some.inj w2
    injection w2 with w2
    rw [<- w2, z3] at w3
    cases w3
    exact ⟨A, vs, j, y, rfl, rfl, .of (sm _ _ z2), z3, h _ _ R4⟩
   ·exact h.elim
  ·exact h.elim
 ·exact h.elim
end
section
variable {X : Cx}
end
section
variable {G : Sg} {Fz : Addr -> Prop} {am : List Addr} {H : Hp}
end
section
variable {S : Sx} {a : Expr} {da : Den} {p p2 q pos : Pos}
end
end Hx
namespace Hx
open PySem PySem.Spec L2 PySem.W
open PyProof.Rows hiding St
section
variable {prog : Program} {w : World} {A : Around} {E : Value -> Shared -> Prop} {s : Shared} {K : Frag} {C f x : Addr} {ox : Obj} {od : Option Obj}
end
section
variable {X : Cx} {CX : CXT} {k : Nat} {f C : Addr} {fd : FuncData} {ps : List Str} {sp : Sp} {dvs : List V} {ds : List Value} {p pos : Pos} {o : Expr} {ta : TE}
end
section
variable {S : Sx} {o : Expr} {do_ : Den} {c : Nat} {p pos : Pos}
end
end Hx
namespace Hx
open PySem PySem.Spec L2
noncomputable section
abbrev ZA : List (Str × D) := [("lamp", .int 6), ("unsure", .int 2), ("post", .int 5), ("pane", .int 6), ("move", .int 5), ("switch", .int 2), ("drop", .int 3), ("look", .int 6), ("strike", .int 2), ("settle", .int 3), ("many", .int 2)]
end
end Hx
namespace Hx
open PySem PySem.Spec L2
open PyProof.Rows hiding St
section
variable {S : Sx} {k v o e f : Expr} {dk dv do_ de df : Den} {pos apos : Pos}
end
section
variable {G : Sg} {Fz : Addr -> Prop} {am : List Addr} {H : Hp}
end
section
variable {S : Sx} {a : Expr} {da : Den} {p p2 q pos : Pos}
end
end Hx
namespace Hx
open PySem PySem.Spec L2
noncomputable section
end
end Hx
namespace Hx
open PySem PySem.Spec L2 LamX
open PyProof.Rows hiding St
section
variable {S : Sx} {X : Cx} {rest : List Stmt} {s s1 : Stmt} {d1 df dr : DenS} {a : Expr} {da : Den} {i k : Nat} {ls : List LI} {q : Str}
end
end Hx
namespace Hx
open PySem PySem.Spec L2
theorem eqD_str {x y : Str} (h : PyData.strOk x = true) (k : PyData.strOk y = true) : eqD (.str x) (.str y) = some (decide (x = y)) := by
 simp [eqD, D.py, SeqAt.shaped, PyData.canLay0, PyData.depth, PyData.eqv, h, k]
 rfl
class EqN (a b : Nat) : Prop where h : a = b
instance eqN {n : Nat} : EqN n n := ⟨rfl⟩
class LeN (a b : Nat) : Prop where h : a <= b
set_option synthInstance.checkSynthOrder false in
instance leN {n m k : Nat} [h : EqN m (k + n)] : LeN n m := ⟨by have := h.h; omega⟩
instance (priority := high) leNr {n : Nat} : LeN n n := ⟨Nat.le_refl n⟩
class Bd (n : outParam Nat) (i : Int) : Prop where lt : i.natAbs < 2 ^ n
class Le (n : Nat) (i : Int) : Prop where lt : i.natAbs < 2 ^ n
set_option synthInstance.checkSynthOrder false in
instance (priority := low) bdLe {n : Nat} {i : Int} [h : Le n i] : Bd n i := ⟨h.lt⟩
instance (priority := low) leBd {n m : Nat} {i : Int} [h : Bd m i] [k : LeN m n] : Le n i := ⟨Nat.lt_of_lt_of_le h.lt (Nat.pow_le_pow_right (by decide) k.h)⟩
theorem Bd.sm {n : Nat} {i : Int} (h : Bd n i) : Sm n i := h.lt
instance bdMul {n m : Nat} {i j : Int} [h : Bd n i] [k : Bd m j] : Bd (n + m) (i * j) := ⟨Sm.mul h.lt k.lt⟩
instance (priority := 900) bdAdd {n m : Nat} {i j : Int} [h : Bd n i] [k : Bd m j] : Bd (n + m + 1) (i + j) := ⟨Sm.mono (Sm.add h.lt k.lt) (by omega)⟩
instance (priority := 900) bdSub {n m : Nat} {i j : Int} [h : Bd n i] [k : Bd m j] : Bd (n + m + 1) (i - j) := ⟨Sm.mono (Sm.sub h.lt k.lt) (by omega)⟩
instance (priority := 1020) bdAddL {n m : Nat} {i j : Int} [h : Bd n i] [k : Bd m j] [l : LeN n m] : Bd (m + 1) (i + j) := ⟨Sm.mono (Sm.add h.lt k.lt) (by have := l.h; omega)⟩
instance (priority := 1020) bdSubL {n m : Nat} {i j : Int} [h : Bd n i] [k : Bd m j] [l : LeN n m] : Bd (m + 1) (i - j) := ⟨Sm.mono (Sm.sub h.lt k.lt) (by have := l.h; omega)⟩
instance (priority := 1010) bdAddR {n m : Nat} {i j : Int} [h : Bd n i] [k : Bd m j] [l : LeN m n] : Bd (n + 1) (i + j) := ⟨Sm.mono (Sm.add h.lt k.lt) (by have := l.h; omega)⟩
instance (priority := 1010) bdSubR {n m : Nat} {i j : Int} [h : Bd n i] [k : Bd m j] [l : LeN m n] : Bd (n + 1) (i - j) := ⟨Sm.mono (Sm.sub h.lt k.lt) (by have := l.h; omega)⟩
instance bdNeg {n : Nat} {i : Int} [h : Bd n i] : Bd n (-i) := ⟨by rw [Int.natAbs_neg]; exact h.lt⟩
instance (priority := high) bdL8 {k : Nat} [h : LeN k 255] : Bd 8 (no_index (OfNat.ofNat k : Int)) := ⟨Nat.lt_of_le_of_lt (show (OfNat.ofNat k : Int).natAbs <= 255 from h.h) (by decide)⟩
instance bdL32 {k : Nat} [h : LeN k 4294967295] : Bd 32 (no_index (OfNat.ofNat k : Int)) := ⟨Nat.lt_of_le_of_lt (show (OfNat.ofNat k : Int).natAbs <= 4294967295 from h.h) (by decide)⟩
instance (priority := low) bdL128 {k : Nat} [h : LeN k 340282366920938463463374607431768211455] : Bd 128 (no_index (OfNat.ofNat k : Int)) := ⟨Nat.lt_of_le_of_lt (show (OfNat.ofNat k : Int).natAbs <= 340282366920938463463374607431768211455 from h.h) (by decide)⟩
theorem fmod_abs {a b : Int} (h : b ≠ 0) : (a.fmod b).natAbs < b.natAbs := by
 rcases Int.lt_trichotomy b 0 with hb | hb | hb
 ·have e := Int.neg_fmod_neg a b
  have h1 := Int.fmod_nonneg_of_pos (-a) (show 0 < -b by omega)
  have h2 := Int.fmod_lt_of_pos (-a) (show 0 < -b by omega)
  omega
 ·exact absurd hb h
 ·have := Int.fmod_nonneg_of_pos a hb
  have := Int.fmod_lt_of_pos a hb
  omega
class Nz (i : Int) : Prop where h : i ≠ 0
instance nzL {k : Nat} [h : LeN 1 k] : Nz (no_index (OfNat.ofNat k : Int)) := ⟨by have := h.h; show ((k : Nat) : Int) ≠ 0; omega⟩
instance bdFmod {n : Nat} {i j : Int} [k : Bd n j] [z : Nz j] : Bd n (i.fmod j) := ⟨Nat.lt_trans (fmod_abs z.h) k.lt⟩
theorem fdiv_abs {a b : Int} : (a.fdiv b).natAbs <= a.natAbs := by
 by_cases hb : b = 0
 ·subst hb; simp
 have e := Int.mul_fdiv_add_fmod a b
 have hm := fmod_abs (a := a) hb
 rcases Int.lt_trichotomy b 0 with h | h | h
 ·have h1 : a.fmod b <= 0 := by
   have e := Int.neg_fmod_neg a b
   have h1 := Int.fmod_nonneg_of_pos (-a) (show 0 < -b by omega)
   omega
  by_cases q : a.fdiv b = 0
  ·omega
  ·rcases Int.lt_or_gt_of_ne q with q | q
   ·have : b * a.fdiv b >= -(a.fdiv b) := by
     have := Int.mul_le_mul_of_nonneg_left (show -b >= 1 by omega) (show 0 <= -(a.fdiv b) by omega)
     have e2 : -(a.fdiv b) * -b = b * a.fdiv b := by grind
     omega
    have h2 : b * a.fdiv b >= -b := by
     have := Int.mul_le_mul_of_nonneg_right (show -(a.fdiv b) >= 1 by omega) (show 0 <= -b by omega)
     have e2 : -(a.fdiv b) * -b = b * a.fdiv b := by grind
     omega
    -- b * q + r = a, r in (b, 0]
    rcases Int.lt_trichotomy (b * a.fdiv b + b) (-(a.fdiv b)) with z | z | z
    ·have : (a.fdiv b + 1) * (b + 1) < 1 + 0 := by
      have e3 : (a.fdiv b + 1) * (b + 1) = b * a.fdiv b + b + a.fdiv b + 1 := by grind
      omega
     have : 0 <= (a.fdiv b + 1) * (b + 1) := Int.mul_nonneg_of_nonpos_of_nonpos (by omega) (by omega)
     have : (a.fdiv b + 1) * (b + 1) = b * a.fdiv b + b + a.fdiv b + 1 := by grind
     omega
    ·omega
    ·omega
   ·have : b * a.fdiv b <= -(a.fdiv b) := by
     have := Int.mul_le_mul_of_nonneg_left (show -b >= 1 by omega) (show 0 <= a.fdiv b by omega)
     have e2 : a.fdiv b * -b = -(b * a.fdiv b) := by grind
     omega
    omega
 ·exact absurd h hb
 ·have h1 : 0 <= a.fmod b := Int.fmod_nonneg_of_pos a h
  by_cases q : a.fdiv b = 0
  ·omega
  ·rcases Int.lt_or_gt_of_ne q with q | q
   ·have h2 : b * a.fdiv b <= a.fdiv b := by
     have := Int.mul_le_mul_of_nonneg_left (show b >= 1 by omega) (show 0 <= -(a.fdiv b) by omega)
     have e2 : -(a.fdiv b) * b = -(b * a.fdiv b) := by grind
     omega
    have h3 : (a.fdiv b + 1) * (b - 1) <= 0 := Int.mul_nonpos_of_nonpos_of_nonneg (by omega) (by omega)
    have e3 : (a.fdiv b + 1) * (b - 1) = b * a.fdiv b + b - a.fdiv b - 1 := by grind
    omega
   ·have : b * a.fdiv b >= a.fdiv b := by
     have := Int.mul_le_mul_of_nonneg_left (show b >= 1 by omega) (show 0 <= a.fdiv b by omega)
     have e2 : a.fdiv b * b = b * a.fdiv b := by grind
     omega
    omega
instance bdFdiv {n : Nat} {i j : Int} [k : Bd n i] : Bd n (i.fdiv j) := ⟨Nat.lt_of_le_of_lt fdiv_abs k.lt⟩
instance (priority := 1020) bdIteL {n m : Nat} {i j : Int} {c : Prop} [Decidable c] [h : Bd n i] [k : Bd m j] [l : LeN n m] : Bd m (if c then i else j) := ⟨by
 split
 ·exact Nat.lt_of_lt_of_le h.lt (Nat.pow_le_pow_right (by decide) l.h)
 ·exact k.lt⟩
instance (priority := 1010) bdIteR {n m : Nat} {i j : Int} {c : Prop} [Decidable c] [h : Bd n i] [k : Bd m j] [l : LeN m n] : Bd n (if c then i else j) := ⟨by
 split
 ·exact h.lt
 ·exact Nat.lt_of_lt_of_le k.lt (Nat.pow_le_pow_right (by decide) l.h)⟩
instance bdIte {n m : Nat} {i j : Int} {c : Prop} [Decidable c] [h : Bd n i] [k : Bd m j] : Bd (n + m) (if c then i else j) := ⟨by
 split
 ·exact Nat.lt_of_lt_of_le h.lt (Nat.pow_le_pow_right (by decide) (by omega))
 ·exact Nat.lt_of_lt_of_le k.lt (Nat.pow_le_pow_right (by decide) (by omega))⟩
@[simp] theorem mulOk_bd {n m : Nat} {i j : Int} [h : Bd n i] [k : Bd m j] [z : LeN n 400000] [y : LeN m 400000] : Ud i j = true := Sm.ok h.sm k.sm z.h y.h
@[simp] theorem divOk_bd {n : Nat} {j : Int} [h : Bd n j] [z : LeN n 9000] [y : Nz j] : divOk j = true := by
 cases n with
 | zero => have := h.lt; have := y.h; omega
 | succ n => exact divOk_of h.sm y.h z.h (Nat.succ_pos n)
theorem Le.of {n : Nat} {i : Int} (a : Int) (h1 : -a <= i) (h2 : i <= a) (h : a.natAbs < 2 ^ n) : Le n i := ⟨by omega⟩
abbrev BgD (xs : List Int) (i h s n : Int) : D := .con .lst [.con .lst (xs.map D.int), .int i, .int h, .int s, .int n]
def Bg (st : Zd) (c : Nat) (xs : List Int) (i h s n : Int) : Prop := st[c]? = some (.c .z, BgD xs i h s n)
section
variable {st : Zd} {c : Nat} {xs : List Int} {i h s n x : Int}
theorem Bg.lk (e : Bg st c xs i h s n) : lk st (.ref c) = BgD xs i h s n := lk_bag e
theorem Bg.lt (e : Bg st c xs i h s n) : c < st.length := (List.getElem?_eq_some_iff.mp e).1
theorem Bg.put {xs' : List Int} {i' h' s' n' : Int} (e : Bg st c xs i h s n) : Bg (st.set c (.c .z, BgD xs' i' h' s' n')) c xs' i' h' s' n' := get_set e
theorem pull0 (e : Bg st c xs i h s n) (a1 : 0 <= i) (a2 : 0 <= h) (a3 : 0 <= s) (a4 : s < 2147483647) {many : Int} : ∃ i' h' s' st1 v, Wu [some (.z, .ref c), some (.z, .int many), none, none, none] st = .nx [some (.z, .ref c), some (.z, .int many), v, none, none] st1 ∧
  Bg st1 c xs i' h' s' n ∧ 0 <= i' ∧ 0 <= h' ∧ 0 <= s' ∧ s' < 2147483647 ∧ Fro1 c st st1 := by
 have e0 := e.lk
 have hl := e.lt
 by_cases hc : h = 0 ∧ i < xs.length
 ·obtain ⟨hc1, hc2⟩ := hc
  subst hc1
  obtain ⟨x, ex⟩ := atI_map a1 hc2
  by_cases hx : x >= 1000000000000000000
  ·refine ⟨i + 1, x, s, _, some (.z, .int x), ?_, e.put, by omega, by omega, a3, a4, Fro1.set⟩
   obtain ⟨hl', e⟩ := List.getElem?_eq_some_iff.mp e
   simp [Wu, Vv, Vz, Vw, e0, e, hc2, ex, ixN, powOk, hx, hl]
  ·have hm : 0 <= (s * 40503 + x.fmod 2147483563 + 1).fmod 2147483629 ∧ (s * 40503 + x.fmod 2147483563 + 1).fmod 2147483629 < 2147483629 := ⟨Int.fmod_nonneg_of_pos _ (by decide), Int.fmod_lt_of_pos _ (by decide)⟩
   refine ⟨i + 1, 0, (s * 40503 + x.fmod 2147483563 + 1).fmod 2147483629, _, some (.z, .int x), ?_, e.put, by omega, a2, hm.1, by omega, Fro1.set⟩
   have m1 : Ud s 40503 = true := Sm.ok (n := 40) (m := 20) (by unfold Sm; omega) (by unfold Sm; decide) (by decide) (by decide)
   obtain ⟨hl', e⟩ := List.getElem?_eq_some_iff.mp e
   simp [Wu, Vv, Vz, Vw, VG, e0, e, hc2, ex, ixN, powOk, hx, m1, hl]
 ·refine ⟨i, h, s, st, none, ?_, e, a1, a2, a3, a4, Fro1.refl⟩
  by_cases h0 : h = 0
  ·have : ¬ i < xs.length := fun z => hc ⟨h0, z⟩
   simp [Wu, e0, h0, this]
  ·simp [Wu, e0, h0]
theorem f_l_pull {k : Nat} {many : Int} (B : Bag k st c) (hk : k < 2 ^ 100) (hm : 0 < many) (hs : Sm 1000 many) :
  ∃ g st', ZX [(.z, .ref c), (.z, .int many)] st = .ok .z false (.int g) st' ∧ 0 <= g ∧ g < many ∧ Bag (k + 1) st' c ∧ Fro1 c st st' := by
 obtain ⟨xs, i, h, s, n, e, a1, a2, a3, a4, a5, a6⟩ := B.ex
 obtain ⟨i, h, s, st1, v, q, e, a1, a2, a3, a4, fr⟩ := pull0 (many := many) e a1 a2 a3 a4
 have e0 := e.lk
 have hl := e.lt
 have hne : many ≠ 0 := by omega
 by_cases h0 : h > 0
 ·have dk : divOk many = true := divOk_of hs hne (by decide) (by decide)
  refine ⟨h.fmod many, st1.set c (.c .z, BgD xs i (h.fdiv many) s n), ?_, Int.fmod_nonneg_of_pos _ hm, Int.fmod_lt_of_pos _ hm, ⟨xs, i, h.fdiv many, s, n, e.put, a1, ?_, a3, a4, a5, by omega⟩, fr.trans Fro1.set⟩
  ·obtain ⟨hl', e⟩ := List.getElem?_eq_some_iff.mp e
   simp [-Wu, ZX, Ut, q, Zar, Zae, UX, e0, e, h0, dk, hne, ixN, hl]
  ·rw [Int.fdiv_eq_ediv_of_nonneg _ (by omega)]
   exact Int.ediv_nonneg a2 (by omega)
 ·have hb : ∀ y : Int, 0 <= y.fmod 2147483629 ∧ y.fmod 2147483629 < 2147483629 := fun y => ⟨Int.fmod_nonneg_of_pos _ (by decide), Int.fmod_lt_of_pos _ (by decide)⟩
  have s1 : Sm 32 s := by unfold Sm; omega
  have s2 : Sm 101 n := by unfold Sm; omega
  have s3 : Sm 101 (n + 1) := by unfold Sm; omega
  have r1 : 0 <= s.fmod 8191 ∧ s.fmod 8191 < 8191 := ⟨Int.fmod_nonneg_of_pos _ (by decide), Int.fmod_lt_of_pos _ (by decide)⟩
  have s4 : Sm 20 (s.fmod 8191 + 5) := by unfold Sm; omega
  have m1 := s1.ok s1 (by decide) (by decide)
  have m2 : Ud 48271 (n + 1) = true := Sm.ok (n := 20) (by unfold Sm; decide) s3 (by decide) (by decide)
  have m3 : Ud (48271 * (n + 1)) (s.fmod 8191 + 5) = true := Sm.ok (n := 121) (Sm.mul (n := 20) (by unfold Sm; decide) s3) s4 (by decide) (by decide)
  have m4 : Ud (n + 1) (n + 1) = true := s3.ok s3 (by decide) (by decide)
  have m5 : Ud ((n + 1) * (n + 1)) (n + 1) = true := (s3.mul s3).ok s3 (by decide) (by decide)
  let z := s * s + 48271 * (n + 1) * (s.fmod 8191 + 5) + (n + 1) * (n + 1) * (n + 1) + 12345
  have hz := hb z
  have r2 : 0 <= (z.fmod 2147483629).fmod 7919 ∧ (z.fmod 2147483629).fmod 7919 < 7919 := ⟨Int.fmod_nonneg_of_pos _ (by decide), Int.fmod_lt_of_pos _ (by decide)⟩
  have m6 : Ud ((z.fmod 2147483629).fmod 7919) 37 = true := Sm.ok (n := 20) (m := 10) (by unfold Sm; omega) (by unfold Sm; decide) (by decide) (by decide)
  refine ⟨((z.fmod 2147483629).fdiv 71 + (z.fmod 2147483629).fmod 7919 * 37).fmod many, st1.set c (.c .z, BgD xs i h (z.fmod 2147483629) (n + 1)), ?_, Int.fmod_nonneg_of_pos _ hm, Int.fmod_lt_of_pos _ hm, ⟨xs, i, h, z.fmod 2147483629, n + 1, e.put, a1, a2, hz.1, by omega, by omega, by omega⟩, fr.trans Fro1.set⟩
  obtain ⟨hl', e⟩ := List.getElem?_eq_some_iff.mp e
  have d71 : divOk 71 = true := by decide
  simp [-Wu, ZX, Ut, q, Zar, ZbM, Zcr, Zcx, Zcg, e0, e, h0, hne, ixN, hl, m1, m2, m3, m4, m5, m6, d71, z]
end
theorem cut63 (ds : List D) : cutD ds none (some 63) = ds.take 63 := by
 unfold cutD HT.sIx
 simp
theorem bag_loop {d0 : D} {st : Zd} : ∀ (ys : List Int) (s : Int) (v : Option (Fr × D)), 0 <= s -> s < 2147483647 -> ∃ s' v', Ve (.nm 2) VT [] (ys.map D.int) [some (.z, d0), some (.z, .int s), v] st = .nx [some (.z, d0), some (.z, .int s'), v'] st ∧ 0 <= s' ∧ s' < 2147483647
 | [], s, v, h0, h1 => ⟨s, v, rfl, h0, h1⟩
 | y :: ys, s, v, h0, h1 => by
  have hm : ∀ z : Int, 0 <= z.fmod 2147483647 ∧ z.fmod 2147483647 < 2147483647 := fun z => ⟨Int.fmod_nonneg_of_pos _ (by decide), Int.fmod_lt_of_pos _ (by decide)⟩
  have m1 : Ud s 48271 = true := Sm.ok (n := 40) (m := 20) (by unfold Sm; omega) (by unfold Sm; decide) (by decide) (by decide)
  obtain ⟨s', v', e, a, b⟩ := bag_loop (d0 := d0) (st := st) ys ((s * 48271 + y.fmod 2147483629 + 7).fmod 2147483647) (some (.z, .int y)) (hm _).1 (hm _).2
  refine ⟨s', v', ?_, a, b⟩
  have hb : VT [some (.z, d0), some (.z, .int s), some (.z, .int y)] st = .nx [some (.z, d0), some (.z, .int ((s * 48271 + y.fmod 2147483629 + 7).fmod 2147483647)), some (.z, .int y)] st := by
   simp [VT, Zay, m1]
  simp [Ve, hb, e, killE]
theorem f_l_bag (ns : List Int) (hl : ns.length <= 63) {st : Zd} : ∃ s, Zaz [(.z, .con .frl (ns.map D.int))] st = .ok (.c .z) false (BgD ns 0 0 s 0) st ∧ 0 <= s ∧ s < 2147483647 := by
 have ht : (ns.map D.int).take 63 = ns.map D.int := List.take_of_length_le (by simpa using hl)
 obtain ⟨s', v', e, a, b⟩ := bag_loop (d0 := .con .frl (ns.map D.int)) (st := st) ns (31 + ns.length) none (by omega) (by omega)
 refine ⟨s', ?_, a, b⟩
 simp [Zaz, ZbJ, Zdg, Zdk, Zde, cut63, ht, dFor, e]
def Plain : Nat -> D -> Prop
 | 0, _ => False
 | _ + 1, .non => True
 | _ + 1, .bl _ => True
 | _ + 1, .int _ => True
 | _ + 1, .str s => PyData.strOk s = true
 | m + 1, .con .tup ds => ds.length <= 1000 ∧ ∀ d ∈ ds, Plain m d
 | m + 1, .con .lst ds => ds.length <= 1000 ∧ ∀ d ∈ ds, Plain m d
 | _, _ => False
theorem same_loop {rec : Fn} {k1 k2 : Kd} {ds : List D} {st : Zd} (h1 : k1.seq = true) (h2 : k2.seq = true) (hr : ∀ d ∈ ds, rec [(.z, d), (.z, d)] st = .ok .z false (.bl true) st) : ∀ (is : List Nat) (acc : List D), (∀ i ∈ is, i < ds.length) ->
  lcGo (.nm 2) dYes (Zq rec [] (Zb (dOp oIx (Zb (Ze 0) (Za (Ze 2)))) (Za (dOp oIx (Zb (Ze 1) (Za (Ze 2))))))) (is.map fun (i : Nat) => D.int (0 + (i : Int))) [some (.z, .con k1 ds), some (.z, .con k2 ds), none] st acc = .ok (.c .z) false (.con .lst (acc ++ is.map fun _ => .bl true)) st
 | [], acc, _ => by simp [lcGo]
 | i :: is, acc, hi => by
  have hlt : i < ds.length := hi i (by simp)
  have ha : atI ds (i : Int) = some ds[i] := atI_nat (List.getElem?_eq_getElem hlt)
  have := same_loop h1 h2 hr is (acc ++ [.bl true]) fun j hj => hi j (by simp [hj])
  rw [List.map_cons, lcGo]
  have hrr := hr ds[i] (List.getElem_mem hlt)
  simp [dYes, ha, hrr, h1, h2] at this ⊢
  exact this
theorem bools_true (l : List Nat) : bools (l.map fun _ => D.bl true) = some (l.map fun _ => true) := by
 induction l with
 | nil => rfl
 | cons a l ih => show (bools (l.map fun _ => D.bl true)).map (true :: ·) = _; rw [ih]; rfl
theorem Zck : ∀ (m : Nat) (d : D) (st : Zd), Plain m d -> ZN m [(.z, d), (.z, d)] st = .ok .z false (.bl true) st
 | 0, d, st, h => by cases d <;> exact h.elim
 | m + 1, d, st, h => by
  cases d with
  | non => simp [ZN, WS, WC, Zaa]
  | bl b => simp [ZN, WS, WC, WY, UZ]
  | int i => simp [ZN, WS, WC, WY, Vk, Vt]
  | str s =>
   have e := eqD_str (show PyData.strOk s = true from h) (show PyData.strOk s = true from h)
   simp [ZN, WS, WC, WY, Vk, Vt, e]
  | fnv s j => exact h.elim
  | ref s => exact h.elim
  | con k ds =>
   have hl : ds.length <= 1000 ∧ ∀ d ∈ ds, Plain m d := by cases k <;> first | exact h | exact h.elim
   have hk : k = .tup ∨ k = .lst := by cases k <;> first | exact .inl rfl | exact .inr rfl | exact h.elim
   have L := same_loop (rec := ZN m) (k1 := k) (k2 := k) (ds := ds) (st := st) (by rcases hk with rfl | rfl <;> rfl) (by rcases hk with rfl | rfl <;> rfl) (fun d hd => Zck m d st (hl.2 d hd)) (List.range ds.length) [] fun i hi => List.mem_range.mp hi
   have s62 : Wd (ds.length : Int) = true := by simp [Wd]; omega
   have rg : Zo 0 (ds.length : Int) = (List.range ds.length).map fun (i : Nat) => D.int (0 + (i : Int)) := by simp [Zo]
   have hb := bools_true (List.range ds.length)
   have hlen : (ds.length <= 16777215) := by omega
   rcases hk with rfl | rfl
   ·simp at L hlen
    simp [ZN, WS, WC, WY, Vk, Zak, Zag, dLc, s62, rg, Zw, hlen, L, hb]
   ·simp at L hlen
    simp [ZN, WS, WC, WY, Vk, Zak, Zag, dLc, s62, rg, Zw, hlen, L, hb]
def Wl : Nat -> D -> Bool
 | 0, _ => false
 | _ + 1, .non => true
 | _ + 1, .bl _ => true
 | _ + 1, .int _ => true
 | _ + 1, .str s => PyData.strOk s
 | m + 1, .con .tup ds => decide (ds.length <= 1000) && ds.all (Wl m)
 | m + 1, .con .lst ds => decide (ds.length <= 1000) && ds.all (Wl m)
 | _, _ => false
theorem plain_of : ∀ (m : Nat) (d : D), Wl m d = true -> Plain m d
 | 0, d, h => by cases d <;> cases h
 | m + 1, .non, h => trivial
 | m + 1, .bl _, h => trivial
 | m + 1, .int _, h => trivial
 | m + 1, .str _, h => h
 | m + 1, .fnv _ _, h => by cases h
 | m + 1, .ref _, h => by cases h
 | m + 1, .con k ds, h => by
  have key : (decide (ds.length <= 1000) && ds.all (Wl m)) = true -> ds.length <= 1000 ∧ ∀ d ∈ ds, Plain m d := fun h => by
   rw [Bool.and_eq_true, decide_eq_true_eq, List.all_eq_true] at h
   exact ⟨h.1, fun d hd => plain_of m d (h.2 d hd)⟩
  cases k with
  | tup => exact key h
  | lst => exact key h
  | _ => cases h
theorem same8 {d : D} {st : Zd} (h : Wl 8 d = true) : ZN 8 [(.z, d), (.z, d)] st = .ok .z false (.bl true) st := Zck 8 d st (plain_of 8 d h)
end Hx
namespace Hx
open PySem PySem.Spec L2
open PyProof.Rows hiding St
section
variable {S : Sx} {x y : Str} {p q pos : Pos} {k i : Nat} {F : Fn} {e : Expr} {db : Den}
end
section
variable {S : Sx} {pos p2 : Pos}
theorem dpz_neg {n : Int} {j2} : DPz S (.UnaryOp .USub (.Constant (.int n) j2 p2) pos) (dC (.int (-n))) := ⟨fun W => by
 refine ⟨_, fun X hX tk => pe_un un_neg pe_int, fun g env st T σ H Q d hT R e h => ?_⟩
 unfold dC at e; cases e
 exact ⟨_, rfl, h _ H (Same.refl H) (Rl.scal R rfl)⟩, pst_c⟩
end
def oIntS : Op := oS1 fun a => match a with
 | .str x => (PySem.intText? x).bind fun n => bif x.length.ble 640 then some (.int n) else none
 | _ => none
theorem v_intS {G : Sg} : VOp G (fun xs H Q => ∃ a n, xs = [.str a] ∧ PySem.intText? a = some n ∧ a.length <= 640 ∧ Q (.int n) H) oIntS := v_C1 fun Fz am H v a d Q h e q => by
 split at e
 ·rename_i x
  obtain ⟨n, e1, e2⟩ := Option.bind_eq_some_iff.mp e
  obtain ⟨hk, e2⟩ := bifS e2
  cases e2
  rw [h.str]
  exact ⟨_, n, rfl, e1, Nat.le_of_ble_eq_true hk, q _ rfl⟩
 ·cases e
section
variable {S : Sx} {a : Expr} {da : Den} {pos p : Pos}
theorem bi_intS (hg : S.sc.names.lookup ("int" : Str) = some .globalImplicit) (hm : S.mg "int" = none) (ha : DE S a da) (hp : Zx [a] = true) : DE S (.Call (.Name "int" p) [a] [] pos) (dOp oIntS (Za da)) :=
 de_ty (id := "int") (fun X hX => call_int_str) v_intS hg hm (by rfl) (by decide) (by decide) (Zg ha (Zp hp _ (by simp))) hp
end
end Hx
namespace Hx
open PySem PySem.Spec L2
noncomputable section
@[simp] def ZcT : DenS :=
  dIfS (dOrB (dNotB (dB (Zbj oLe oLe (dC (.int 1)) (dOp oLen (Za (Ze 1))) (dC (.int 9))))) (dNotB (dB (dOp oAll (Za (dLc (dIv (Ze 1)) [2] (.nm 2) (dYes) (dOp oIn (Zb (Ze 2) (Za (dC (.str "0123456789"))))))))))) (ZJ (dC .non)) (Wa)
@[simp] def ZcA : DenS :=
  dIfS (dAndB (dB (dOp oEq (Zb (dOp oIx (Zb (Ze 1) (Za (dC (.int 0))))) (Za (dC (.str "0")))))) (dB (dOp oNe (Zb (Ze 0) (Za (dC (.str "0"))))))) (ZJ (dC .non)) (Wa)
@[simp] def Zca : DenS :=
  ZJ (dOp oIntS (Za (Ze 0)))
@[simp] def Zco : DenS :=
  dSeq (ZcA) (Zca)
@[simp] def ZbU : DenS :=
  dSeq (ZcT) (Zco)
@[simp] def UI : DenS :=
  dSeq (ZO 1 (dSM oPre (Ze 0) (Za (dC (.str "-"))))) (ZbU)
def ZL : Fn := Ww 3 UI
@[simp] def Zcd : DenS :=
  ZO 1 (dLc (dIv (Ze 0)) [2] (.nm 2) (dYes) (Zq ZL [] (Za (Ze 2))))
@[simp] def Zcb : DenS :=
  ZJ (dIf (dB (dOp oIn (Zb (dC .non) (Za (Ze 1))))) (dC .non) (dOp WT (Za (Ze 1))))
@[simp] def Ua : DenS :=
  dSeq (Zcd) (Zcb)
def ZH : Fn := Ww 3 Ua
@[simp] def ZbA : DenS :=
  ZJ (dJs [dC (.str "many "), dOp oFmt (Za (dOp oLen (Za (dOp oIx (Zb (Ze 2) (Za (dC (.int 0))))))))] Str.empty)
@[simp] def Zdw : DenS :=
  dIfS (dB (dOp oEq (Zb (Ze 1) (Za (dC (.str "many")))))) (ZbA) (Wa)
@[simp] def ZbB : DenS :=
  ZJ (dOp oAdd (Zb (dC (.str "unsure ")) (Za (dSM We (dC (.str " / ")) (Za (dLc (dIv (dOp oIx (Zb (Ze 2) (Za (dC (.int 0)))))) [3] (.nm 3) (dYes) (dSM We (dC (.str " ")) (Za (dLc (dIv (Ze 3)) [4] (.nm 4) (dYes) (dOp oStr (Za (Ze 4))))))))))))
@[simp] def Zdp : DenS :=
  dIfS (dB (dOp oEq (Zb (Ze 1) (Za (dC (.str "unsure")))))) (ZbB) (Wa)
@[simp] def ZdA : DenS :=
  ZJ (dSM We (dC (.str " ")) (Za (dOp oAdd (Zb (dLst (Za (Ze 1))) (Za (dLc (dIv (Ze 2)) [4] (.nm 4) (dYes) (dIf (dB (dOp oEq (Zb (Ze 4) (Za (dC (.str "")))))) (dC (.str "-")) (dOp oStr (Za (Ze 4))))))))))
@[simp] def ZcC : DenS :=
  dSeq (Zdp) (ZdA)
@[simp] def Zao : DenS :=
  dSeq (dUnpS [.nm 1, .nm 2] 1 2 (Ze 0)) (dFrz 2 (dSeq (Zdw) (ZcC)))
def ZY : Fn := Ww 5 Zao
@[simp] def ZcM : DenS :=
  ZO 1 (dIf (dB (dOp oEq (Zb (dOp oIx (Zb (Ze 0) (Za (dC (.int 0))))) (Za (dC (.str "many")))))) (dOp oIx (Zb (Ze 0) (Za (dC (.int 1))))) (dTup (dNil)))
@[simp] def Zcz : DenS :=
  ZJ (dOp oAdd (Zb (dLst (Za (Zq ZY [] (Za (Ze 0))))) (Za (dLc (dIv (Ze 1)) [2] (.nm 2) (dYes) (Zq ZY [] (Za (Ze 2)))))))
@[simp] def UH : DenS :=
  dSeq (ZcM) (Zcz)
def Vq : Fn := Ww 3 UH
@[simp] def ZcO : DenS :=
  ZJ (dSM We (dC (.str "\n")) (Za (Zq Vq [] (Za (Ze 0)))))
@[simp] def UC : DenS :=
  ZcO
def Wv : Fn := Ww 1 UC
@[simp] def Zci : DenS :=
  ZO 1 (dSM ZT (dSM oPre (Ze 0) (Za (dC (.str "unsure ")))) (Za (dC (.str " / "))))
@[simp] def Zcq : DenS :=
  ZO 2 (dLc (dIv (Ze 1)) [3] (.nm 3) (dYes) (Zq ZH [] (Za (dSM ZT (Ze 3) (Za (dC (.str " ")))))))
@[simp] def Zcy : DenS :=
  dIfS (dOrB (dB (dOp oIn (Zb (dC .non) (Za (Ze 2))))) (dNotB (dB (dOp oAll (Za (dLc (dIv (Ze 2)) [4] (.nm 4) (dYes) (dOp oEq (Zb (dOp oLen (Za (Ze 4))) (Za (dC (.int 5))))))))))) (ZJ (dC .non)) (Wa)
@[simp] def Zbz : DenS :=
  ZJ (dOp WT (Za (Ze 2)))
@[simp] def ZbI : DenS :=
  dSeq (Zcy) (Zbz)
@[simp] def ZbH : DenS :=
  dSeq (Zcq) (ZbI)
@[simp] def Uc : DenS :=
  dSeq (Zci) (ZbH)
def Wx : Fn := Ww 5 Uc
@[simp] def ZcY : DenS :=
  ZJ (dIf (dB (dOp oIsN (Zb (Ze 3) (Za (dC .non))))) (dC .non) (dTup (Zb (dC (.str "unsure")) (Za (Ze 3)))))
@[simp] def Zey : DenS :=
  dIfS (dAndB (dB (dOp oEq (Zb (Ze 2) (Za (dC (.str "unsure")))))) (dB (dOp oGt (Zb (dOp oLen (Za (Ze 1))) (Za (dC (.int 1))))))) (dSeq (ZO 3 (Zq Wx [] (Za (Ze 0)))) (ZcY)) (Wa)
@[simp] def Zet : DenS :=
  dIfS (dOrB (dB (dInTb true ZA (Ze 2))) (dOrB (dB (dOp oIn (Zb (Ze 2) (Za (dTup (Zb (dC (.str "many")) (Za (dC (.str "unsure"))))))))) (dB (dOp oNe (Zb (dOp oLen (Za (Ze 1))) (Za (dIxTb ZA (Ze 2)))))))) (ZJ (dC .non)) (Wa)
@[simp] def ZcQ : DenS :=
  ZO 4 (Zq ZH [] (Za (dOp oSlL (Zb (Ze 1) (Za (dC (.int 2)))))))
@[simp] def ZcF : DenS :=
  ZJ (dIf (dOrB (dB (dOp oIsN (Zb (Ze 4) (Za (dC .non))))) (dB (dOp oEq (Zb (dOp oIx (Zb (Ze 1) (Za (dC (.int 1))))) (Za (dC (.str ""))))))) (dC .non) (dOp oAdd (Zb (dTup (Zb (Ze 2) (Za (dOp oIx (Zb (Ze 1) (Za (dC (.int 1)))))))) (Za (Ze 4)))))
@[simp] def Zem : DenS :=
  dIfS (dB (dOp oIn (Zb (Ze 2) (Za (dTup (Zb (dC (.str "move")) (Za (dC (.str "drop"))))))))) (dSeq (ZcQ) (ZcF)) (Wa)
@[simp] def ZcW : DenS :=
  ZO 4 (Zq ZH [] (Za (dSlB (Ze 1) (dC (.int 1)) (dC (.int 5)))))
@[simp] def ZcE : DenS :=
  ZO 5 (dIf (dB (dOp oEq (Zb (dOp oIx (Zb (Ze 1) (Za (dC (.int 5))))) (Za (dC (.str "-")))))) (dC (.str "")) (dOp oIx (Zb (Ze 1) (Za (dC (.int 5))))))
@[simp] def ZcZ : DenS :=
  ZJ (dIf (dOrB (dB (dOp oIsN (Zb (Ze 4) (Za (dC .non))))) (dB (dOp oEq (Zb (dOp oIx (Zb (Ze 1) (Za (dC (.int 5))))) (Za (dC (.str ""))))))) (dC .non) (dOp oAdd (Zb (dOp oAdd (Zb (dTup (Za (dC (.str "pane")))) (Za (Ze 4)))) (Za (dTup (Za (Ze 5)))))))
@[simp] def Zep : DenS :=
  dIfS (dB (dOp oEq (Zb (Ze 2) (Za (dC (.str "pane")))))) (dSeq (ZcW) (dSeq (ZcE) (ZcZ))) (Wa)
@[simp] def Zes : DenS :=
  ZO 4 (Zq ZH [] (Za (dOp oSlL (Zb (Ze 1) (Za (dC (.int 1)))))))
@[simp] def Zex : DenS :=
  ZJ (dIf (dB (dOp oIsN (Zb (Ze 4) (Za (dC .non))))) (dC .non) (dOp oAdd (Zb (dTup (Za (Ze 2))) (Za (Ze 4)))))
@[simp] def ZdP : DenS :=
  dSeq (Zes) (Zex)
@[simp] def Zec : DenS :=
  dSeq (Zep) (ZdP)
@[simp] def ZdO : DenS :=
  dSeq (Zem) (Zec)
@[simp] def ZdG : DenS :=
  dSeq (Zet) (ZdO)
@[simp] def ZdL : DenS :=
  dSeq (Zey) (ZdG)
@[simp] def ZdX : DenS :=
  dSeq (ZO 2 (dOp oIx (Zb (Ze 1) (Za (dC (.int 0)))))) (ZdL)
@[simp] def ZbZ : DenS :=
  dSeq (ZO 1 (dSM ZT (Ze 0) (Za (dC (.str " "))))) (ZdX)
def ZM : Fn := Ww 6 ZbZ
@[simp] def ZdR : DenS :=
  dUnp (.tp [.nm 1, .nm 2, .nm 3]) (dSM oPart (Ze 0) (Za (dC (.str " "))))
@[simp] def ZdI : DenS :=
  ZJ (dIf (dOrB (dB (dOp oNe (Zb (Ze 1) (Za (dC (.str "many")))))) (dOrB (dB (dOp oIsN (Zb (Ze 4) (Za (dC .non))))) (dB (dOp oLt (Zb (Ze 4) (Za (dC (.int 0)))))))) (dC .non) (Ze 4))
@[simp] def ZaY : DenS :=
  dSeq (ZdR) (dSeq (ZO 4 (Zq ZL [] (Za (Ze 3)))) (ZdI))
def WI : Fn := Ww 5 ZaY
@[simp] def ZdV : DenS :=
  ZO 2 (Zq WI [] (Za (dOp oIx (Zb (Ze 0) (Za (Ze 1))))))
@[simp] def Zcp : DenS :=
  ZO 3 (Zq ZM [] (Za (dOp oIx (Zb (Ze 0) (Za (Ze 1))))))
@[simp] def Zct : DenS :=
  dIfS (dB (dOp oIsN (Zb (Ze 3) (Za (dC .non))))) (Zbh 15 "badtext" (Za (Ze 1))) (Wa)
@[simp] def Zcu : DenS :=
  ZJ (dTup (Zb (Ze 3) (Za (dOp oAdd (Zb (Ze 1) (Za (dC (.int 1))))))))
@[simp] def ZdN : DenS :=
  dIfS (dB (dOp oIsN (Zb (Ze 2) (Za (dC .non))))) (dSeq (Zcp) (dSeq (Zct) (Zcu))) (Wa)
@[simp] def Zcw : DenS :=
  dApp 4 (Zq ZM [] (Za (dOp oIx (Zb (Ze 0) (Za (Ze 5))))))
@[simp] def Zcj : DenS :=
  dIfS (dB (dOp oIsN (Zb (dIx1L 4 (dC (.int (-1)))) (Za (dC .non))))) (Zbh 15 "badtext" (Za (Ze 5))) (Wa)
def Wm : DenS :=
  dSeq (Zcw) (Zcj)
@[simp] def ZdQ : DenS :=
  dFor (dRng2 (Zb (dOp oAdd (Zb (Ze 1) (Za (dC (.int 1))))) (Za (dOp oMin2 (Zb (dOp oAdd (Zb (dOp oAdd (Zb (Ze 1) (Za (dC (.int 1))))) (Za (Ze 2)))) (Za (dOp oLen (Za (Ze 0))))))))) (.nm 5) (Wm) []
@[simp] def Zea : DenS :=
  dIfS (dB (dOp oLt (Zb (dOp oLen (Za (Ze 4))) (Za (Ze 2))))) (Zbh 15 "badtext" (Za (dOp oLen (Za (Ze 0))))) (Wa)
@[simp] def ZdT : DenS :=
  ZJ (dTup (Zb (dTup (Zb (dC (.str "many")) (Za (dOp WT (Za (Ze 4)))))) (Za (dOp oAdd (Zb (dOp oAdd (Zb (Ze 1) (Za (dC (.int 1))))) (Za (Ze 2)))))))
@[simp] def Zdn : DenS :=
  dFrz 4 (dSeq (Zea) (ZdT))
@[simp] def Zdl : DenS :=
  dSeq (ZdQ) (Zdn)
@[simp] def Zds : DenS :=
  dSeq (dSet 4 (dLst (dNil))) (Zdl)
@[simp] def ZdE : DenS :=
  dSeq (ZdN) (Zds)
@[simp] def Zbm : DenS :=
  dSeq (ZdV) (ZdE)
def WH : Fn := Ww 6 Zbm
@[simp] def ZcI : DenS :=
  dUnp (.tp [.nm 2, .nm 3]) (Zq WH [] (Zb (Ze 1) (Za (dC (.int 0)))))
@[simp] def ZcS : DenS :=
  dIfS (dB (dOp oLt (Zb (Ze 3) (Za (dOp oLen (Za (Ze 1))))))) (Zbh 15 "badtext" (Za (Ze 3))) (Wa)
@[simp] def Zch : DenS :=
  ZJ (Ze 2)
@[simp] def Zce : DenS :=
  dSeq (ZcS) (Zch)
@[simp] def ZbK : DenS :=
  dSeq (ZcI) (Zce)
@[simp] def Uk : DenS :=
  dSeq (ZO 1 (dSM ZT (Ze 0) (Za (dC (.str "\n"))))) (ZbK)
def WL : Fn := Ww 4 Uk
@[simp] def Vs : DenS :=
  ZO 1 (dOp oIx (Zb (dLst (Zb (Zq ZX [] (Zb (Ze 0) (Za (dC (.int 10))))) (Zb (Zq ZX [] (Zb (Ze 0) (Za (dOp oPow (Zb (dC (.int 10)) (Za (dC (.int 9)))))))) (Zb (dOp oSub (Zb (dOp oPow (Zb (dC (.int 10)) (Za (dC (.int 9))))) (Za (dC (.int 1))))) (Za (dC (.int 0))))))) (Za (Zq ZX [] (Zb (Ze 0) (Za (dC (.int 4))))))))
@[simp] def Vo : DenS :=
  ZJ (dOp oIx (Zb (dLst (Zb (Ze 1) (Za (dOp oSub (Zb (dC (.int 0)) (Za (Ze 1))))))) (Za (Zq ZX [] (Zb (Ze 0) (Za (dC (.int 2))))))))
@[simp] def Wz : DenS :=
  dSeq (Vs) (Vo)
def Zl : Fn := Ww 2 Wz
@[simp] def Zez : DenS :=
  ZJ (Zq UO [] (Zb (Ze 0) (Za (dLst (Zb (dC (.str "lamp")) (Zb (dC (.str "post")) (Zb (dC (.str "pane")) (Zb (dC (.str "x")) (Zb (dC (.str "Lamp")) (Zb (dC (.str "9")) (Zb (dC (.str "/")) (Zb (dC (.str "many")) (Za (dC (.str "~!")))))))))))))))
@[simp] def ZbL : DenS :=
  Zez
def ZaF : Fn := Ww 1 ZbL
@[simp] def ZbG : DenS :=
  ZO 1 (dLst (Zb (dC (.str "lamp")) (Zb (dC (.str "unsure")) (Zb (dC (.str "post")) (Zb (dC (.str "pane")) (Zb (dC (.str "move")) (Zb (dC (.str "switch")) (Zb (dC (.str "drop")) (Zb (dC (.str "look")) (Zb (dC (.str "strike")) (Za (dC (.str "settle")))))))))))))
@[simp] def ZbE : DenS :=
  ZO 1 (dOp oIx (Zb (Ze 1) (Za (Zq ZX [] (Zb (Ze 0) (Za (dC (.int 10))))))))
@[simp] def Zbv : DenS :=
  ZO 2 (dLc (UY (Za (dC (.int 5)))) [5] (.nm 5) (dYes) (Zq Zl [] (Za (Ze 0))))
@[simp] def Zam : DenS :=
  ZO 3 (dLc (UY (Za (dOp oAdd (Zb (dC (.int 1)) (Za (Zq ZX [] (Zb (Ze 0) (Za (dC (.int 8)))))))))) [5] (.nm 5) (dYes) (dOp WT (Za (dLc (UY (Za (dC (.int 5)))) [6] (.nm 6) (dYes) (Zq Zl [] (Za (Ze 0)))))))
@[simp] def Zaq : DenS :=
  ZJ (dTup (Zb (Ze 1) (Za (dOp WT (Za (Ze 3))))))
@[simp] def Zbu : DenS :=
  dIfS (dB (dOp oEq (Zb (Ze 1) (Za (dC (.str "unsure")))))) (dSeq (Zam) (Zaq)) (Wa)
@[simp] def Zap : DenS :=
  ZJ (dOp oAdd (Zb (dOp oAdd (Zb (dTup (Za (Ze 1))) (Za (dOp WT (Za (dOp oSlH (Zb (Ze 2) (Za (dC (.int 4)))))))))) (Za (dTup (Za (Zq UO [] (Zb (Ze 0) (Za (dLst (Zb (dC (.str "")) (Zb (dC (.str "r")) (Zb (dC (.str "rgb")) (Zb (dC (.str "gr")) (Za (dC (.str "zz"))))))))))))))))
@[simp] def ZbD : DenS :=
  dIfS (dB (dOp oEq (Zb (Ze 1) (Za (dC (.str "pane")))))) (Zap) (Wa)
@[simp] def Zan : DenS :=
  ZJ (dOp oAdd (Zb (dTup (Zb (Ze 1) (Za (Zq ZaF [] (Za (Ze 0)))))) (Za (dOp WT (Za (dOp oSlH (Zb (Ze 2) (Za (dIf (dB (dOp oEq (Zb (Ze 1) (Za (dC (.str "move")))))) (dC (.int 3)) (dC (.int 1)))))))))))
@[simp] def ZbC : DenS :=
  dIfS (dB (dOp oIn (Zb (Ze 1) (Za (dTup (Zb (dC (.str "move")) (Za (dC (.str "drop"))))))))) (Zan) (Wa)
@[simp] def Zby : DenS :=
  ZO 4 (dDct ["lamp", "post", "switch", "look", "strike", "settle"] (Zb (dC (.int 5)) (Zb (dC (.int 4)) (Zb (dC (.int 1)) (Zb (dC (.int 5)) (Zb (dC (.int 1)) (Zb (dC (.int 2)) (dNil))))))))
@[simp] def Zbw : DenS :=
  ZJ (dOp oAdd (Zb (dTup (Za (Ze 1))) (Za (dOp WT (Za (dOp oSlH (Zb (Ze 2) (Za (dOp oIx (Zb (Ze 4) (Za (Ze 1))))))))))))
@[simp] def ZaX : DenS :=
  dSeq (Zby) (Zbw)
@[simp] def Zbi : DenS :=
  dSeq (ZbC) (ZaX)
@[simp] def ZaZ : DenS :=
  dSeq (ZbD) (Zbi)
@[simp] def Zbk : DenS :=
  dSeq (Zbu) (ZaZ)
@[simp] def Zbb : DenS :=
  dSeq (Zbv) (Zbk)
@[simp] def ZaW : DenS :=
  dSeq (ZbE) (Zbb)
@[simp] def VA : DenS :=
  dSeq (ZbG) (ZaW)
def Zk : Fn := Ww 7 VA
@[simp] def ZaJ : DenS :=
  ZJ (dOp oAdd (Zb (dC (.str "unsure ")) (Za (dSM We (dC (.str " / ")) (Za (dLc (dIv (dOp oIx (Zb (Ze 0) (Za (dC (.int 1)))))) [1] (.nm 1) (dYes) (dSM We (dC (.str " ")) (Za (dLc (dIv (Ze 1)) [2] (.nm 2) (dYes) (dOp oStr (Za (Ze 2))))))))))))
@[simp] def ZbY : DenS :=
  dIfS (dB (dOp oEq (Zb (dOp oIx (Zb (Ze 0) (Za (dC (.int 0))))) (Za (dC (.str "unsure")))))) (ZaJ) (Wa)
@[simp] def ZbO : DenS :=
  ZJ (dSM We (dC (.str " ")) (Za (dLc (dIv (Ze 0)) [2] (.nm 2) (dYes) (dIf (dB (dOp oNe (Zb (Ze 2) (Za (dC (.str "")))))) (dOp oStr (Za (Ze 2))) (dC (.str "-"))))))
@[simp] def VN : DenS :=
  dSeq (ZbY) (ZbO)
def ZP : Fn := Ww 3 VN
@[simp] def ZaD : DenS :=
  ZJ (Zbj oLe oLe (dC (.int 2)) (dOp oLen (Za (dOp oIx (Zb (Ze 0) (Za (dC (.int 1))))))) (dC (.int 6)))
@[simp] def Zcf : DenS :=
  dIfS (dB (dOp oEq (Zb (dOp oIx (Zb (Ze 0) (Za (dC (.int 0))))) (Za (dC (.str "unsure")))))) (ZaD) (Wa)
@[simp] def Zat : DenS :=
  ZJ (dOp oIn (Zb (dOp oIx (Zb (Ze 0) (Za (dC (.int 1))))) (Za (dTup (Zb (dC (.str "lamp")) (Zb (dC (.str "post")) (Za (dC (.str "pane")))))))))
@[simp] def ZbS : DenS :=
  dIfS (dB (dOp oIn (Zb (dOp oIx (Zb (Ze 0) (Za (dC (.int 0))))) (Za (dTup (Zb (dC (.str "move")) (Za (dC (.str "drop"))))))))) (Zat) (Wa)
@[simp] def Zcs : DenS :=
  ZJ (dOr (dOp oNe (Zb (dOp oIx (Zb (Ze 0) (Za (dC (.int 0))))) (Za (dC (.str "pane"))))) (dOp oIn (Zb (dOp oIx (Zb (Ze 0) (Za (dC (.int 5))))) (Za (dTup (Zb (dC (.str "")) (Zb (dC (.str "r")) (Zb (dC (.str "g")) (Zb (dC (.str "b")) (Zb (dC (.str "rg")) (Zb (dC (.str "rb")) (Zb (dC (.str "gb")) (Za (dC (.str "rgb")))))))))))))))
@[simp] def VQ : DenS :=
  dSeq (Zcf) (dSeq (ZbS) (Zcs))
def Zz : Fn := Ww 1 VQ
end
end Hx
namespace L53
open PySem PySem.Spec L2 Hx
open PyProof.Rows hiding St
noncomputable section
def top (i : Nat) : Stmt := PySem.Challenge.pw_hueshade_k53_deeds_as_texts.main.body.getD i (.Pass ⟨0, 0, 0, 0⟩)
@[simp] def ZcP : DenS :=
  ZO 5 (dLc (UY (Za (Zq ZX [] (Zb (Ze 1) (Za (dC (.int 6))))))) [7] (.nm 7) (dYes) (Zq Zk [] (Za (Ze 1))))
@[simp] def ZcH : DenS :=
  ZO 3 (dTup (Zb (dC (.str "many")) (Za (dOp WT (Za (Ze 5))))))
@[simp] def ZcD : DenS :=
  ZO 4 (dSM We (dC (.str "\n")) (Za (dOp oAdd (Zb (dLst (Za (dOp oAdd (Zb (dC (.str "many ")) (Za (dOp oStr (Za (dOp oLen (Za (Ze 5)))))))))) (Za (dLc (dIv (Ze 5)) [8] (.nm 8) (dYes) (Zq ZP [] (Za (Ze 8)))))))))
@[simp] def Zei : DenS :=
  dIfS (dB (dOp oEq (Zb (Zq ZX [] (Zb (Ze 1) (Za (dC (.int 4))))) (Za (dC (.int 0)))))) (dSeq (ZcP) (dSeq (ZcH) (ZcD))) (Wa)
@[simp] def Zeu : DenS :=
  dIfS (dNotB (dB (Zq (ZN 8) [] (Zb (Zq WL [] (Za (Ze 4))) (Za (Ze 3)))))) (ZJ (dC (.bl false))) (Wa)
@[simp] def Zel : DenS :=
  ZO 6 (dIf (dB (dOp oEq (Zb (dOp oIx (Zb (Ze 3) (Za (dC (.int 0))))) (Za (dC (.str "many")))))) (dOp oList (Za (dOp oIx (Zb (Ze 3) (Za (dC (.int 1))))))) (dLst (Za (Ze 3))))
@[simp] def Zew : DenS :=
  dIfS (dAndB (dB (dOp oAll (Za (dLc (dIv (Ze 6)) [8] (.nm 8) (dYes) (Zq Zz [] (Za (Ze 8))))))) (dNotB (dB (Zq (ZN 8) [] (Zb (Zq Wv [] (Za (Ze 3))) (Za (Ze 4))))))) (ZJ (dC (.bl false))) (Wa)
@[simp] def Zed : DenS :=
  dSeq (Zel) (Zew)
@[simp] def Vc : DenS :=
  dSeq (Zeu) (Zed)
@[simp] def Zeg : DenS :=
  dSeq (Zei) (Vc)
@[simp] def ZdZ : DenS :=
  dSeq (ZO 4 (Zq ZP [] (Za (Ze 3)))) (Zeg)
def Uw : DenS :=
  dSeq (ZO 3 (Zq Zk [] (Za (Ze 1)))) (ZdZ)
@[simp] def ZeS : DenS :=
  ZJ (Zq (ZN 8) [] (Zb (Zq WL [] (Za (dC (.str "pane 0 0 1 1 -")))) (Za (dTup (Zb (dC (.str "pane")) (Zb (dC (.int 0)) (Zb (dC (.int 0)) (Zb (dC (.int 1)) (Zb (dC (.int 1)) (Za (dC (.str ""))))))))))))
@[simp] def ZeT : DenS :=
  dSeq (dSet 1 (Zq Zaz [] (Za (Ze 0)))) (dPub 1 (dSeq (dFor (UY (Za (dC (.int 8)))) (.nm 2) (Uw) []) (ZeS)))
def ZeA : Fn := Ww 9 ZeT
structure Env (S : Sx) : Prop where
 b_all : S.mg "all" = none
 b_bool : S.mg "bool" = none
 b_int : S.mg "int" = none
 b_isinstance : S.mg "isinstance" = none
 b_len : S.mg "len" = none
 b_list : S.mg "list" = none
 b_min : S.mg "min" = none
 b_range : S.mg "range" = none
 b_str : S.mg "str" = none
 b_tuple : S.mg "tuple" = none
 c_MOST_FIGURES : GV S "MOST_FIGURES" (.int 9)
 c_FIGURES : GV S "FIGURES" (.str "0123456789")
 ZA : Tb S "LENGTHS" ZA
 k_number_in : Kn S "number_in" (top 7)
 k_numbers_in : Kn S "numbers_in" (top 8)
 k_row_text : Kn S "row_text" (top 9)
 k_deed_rows : Kn S "deed_rows" (top 10)
 k_deed_text : Kn S "deed_text" (top 11)
 k_choices_in : Kn S "choices_in" (top 12)
 k_row_in : Kn S "row_in" (top 13)
 k_many_in : Kn S "many_in" (top 14)
 k_deed_in : Kn S "deed_in" (top 15)
 k_read_deed : Kn S "read_deed" (top 16)
 k_l_bag : Kn S "_law_bag" (top 18)
 k_l_pull : Kn S "_law_pull" (top 19)
 k_l_one : Kn S "_law_one" (top 20)
 k_l_same : Kn S "_law_same" (top 21)
 k_l_wide_number : Kn S "_law_wide_number" (top 22)
 k_l_word : Kn S "_law_word" (top 23)
 k_l_wide_deed : Kn S "_law_wide_deed" (top 24)
 k_l_row_text : Kn S "_law_row_text" (top 25)
 k_l_is_plain : Kn S "_law_is_plain" (top 26)
 k_law : Kn S "law" (top 27)
 m_BadText : S.mg "BadText" = some (.ref (S.G.cls 15))
 x_BadText : XR S "BadText" 15 1 "badtext"
 xs : ∀ d ∈ ([15] : List Nat), d ∈ S.G.xs
 xf : XF S.G.K S.G XUP XFL
theorem Env.lamS {S : Sx} (E : Env S) (l : Nat -> Option LamD) (ok : LamsOk S.P S.w S.mg S.base (S.G.wl l)) : Env (S.lamS l ok) where
 b_all := E.b_all
 b_bool := E.b_bool
 b_int := E.b_int
 b_isinstance := E.b_isinstance
 b_len := E.b_len
 b_list := E.b_list
 b_min := E.b_min
 b_range := E.b_range
 b_str := E.b_str
 b_tuple := E.b_tuple
 c_MOST_FIGURES := E.c_MOST_FIGURES.lamS
 c_FIGURES := E.c_FIGURES.lamS
 ZA := E.ZA.lamS
 k_number_in := E.k_number_in.lamS
 k_numbers_in := E.k_numbers_in.lamS
 k_row_text := E.k_row_text.lamS
 k_deed_rows := E.k_deed_rows.lamS
 k_deed_text := E.k_deed_text.lamS
 k_choices_in := E.k_choices_in.lamS
 k_row_in := E.k_row_in.lamS
 k_many_in := E.k_many_in.lamS
 k_deed_in := E.k_deed_in.lamS
 k_read_deed := E.k_read_deed.lamS
 k_l_bag := E.k_l_bag.lamS
 k_l_pull := E.k_l_pull.lamS
 k_l_one := E.k_l_one.lamS
 k_l_same := E.k_l_same.lamS
 k_l_wide_number := E.k_l_wide_number.lamS
 k_l_word := E.k_l_word.lamS
 k_l_wide_deed := E.k_l_wide_deed.lamS
 k_l_row_text := E.k_l_row_text.lamS
 k_l_is_plain := E.k_l_is_plain.lamS
 k_law := E.k_law.lamS
 m_BadText := E.m_BadText
 x_BadText := E.x_BadText.lamS
 xs := E.xs
 xf := XF.lamS E.xf
theorem Env.c0 {S : Sx} (E : Env S) : Env S.c0 where
 b_all := E.b_all
 b_bool := E.b_bool
 b_int := E.b_int
 b_isinstance := E.b_isinstance
 b_len := E.b_len
 b_list := E.b_list
 b_min := E.b_min
 b_range := E.b_range
 b_str := E.b_str
 b_tuple := E.b_tuple
 c_MOST_FIGURES := E.c_MOST_FIGURES.c0
 c_FIGURES := E.c_FIGURES.c0
 ZA := E.ZA.c0
 k_number_in := E.k_number_in.c0
 k_numbers_in := E.k_numbers_in.c0
 k_row_text := E.k_row_text.c0
 k_deed_rows := E.k_deed_rows.c0
 k_deed_text := E.k_deed_text.c0
 k_choices_in := E.k_choices_in.c0
 k_row_in := E.k_row_in.c0
 k_many_in := E.k_many_in.c0
 k_deed_in := E.k_deed_in.c0
 k_read_deed := E.k_read_deed.c0
 k_l_bag := E.k_l_bag.c0
 k_l_pull := E.k_l_pull.c0
 k_l_one := E.k_l_one.c0
 k_l_same := E.k_l_same.c0
 k_l_wide_number := E.k_l_wide_number.c0
 k_l_word := E.k_l_word.c0
 k_l_wide_deed := E.k_l_wide_deed.c0
 k_l_row_text := E.k_l_row_text.c0
 k_l_is_plain := E.k_l_is_plain.c0
 k_law := E.k_law.c0
 m_BadText := E.m_BadText
 x_BadText := E.x_BadText.c0
 xs := E.xs
 xf := XF.lamS (l := fun _ => none) E.xf
section
variable {S : Sx}
theorem Zdt : FnScope nl15 ["word"] (defScope (top 7)) := fsM
theorem Zdm : Wk "number_in" (top 7) ["word"] := bnq1
theorem ZdC (E : Env S) : DSs (S.at nl15 (defScope (top 7)) 0) (defBody (top 7)) UI := by
 exact (Zh (ZD (i := 1) rfl (.inl (by kernel_rfl)) (.inl rfl) (de_pre (deV 0) Zi rfl (fun _ => rfl) rfl) rfl)
  (Zh (Wb (dt_w (UG (dt_not (dt_chain ci_le ci_le Zf (bi_len (by kernel_rfl) E.b_len (deV 1) rfl) (de_glo E.c_MOST_FIGURES.at (by kernel_rfl) (by kernel_rfl)) rfl rfl)) (Ub (dt_not (Ux (bi_all (by kernel_rfl) E.b_all (VE (own := [("one", 2)]) (Wq (deV 1)) (Wi (i := 2) rfl (.inl (by kernel_rfl)) (.inr (by kernel_rfl))) ZZ (de_in (deV 2) (de_glo E.c_FIGURES.at.blk (by kernel_rfl) (by kernel_rfl)) rfl) (Wn (by kernel_rfl)) (by decide +kernel) rfl) rfl) rfl))))) (Zn (Zr ZW)) ZC)
  (Zh (Wb (dt_w (dw_and (dt_c Ws (Zs (deV 1) Zf rfl) Zi rfl) (dw_and1 (dt_c ci_ne (deV 0) Zi rfl)))) (Zn (Zr ZW)) ZC)
  (Zn (Zr (bi_intS (by kernel_rfl) E.b_int (deV 0) rfl))))))
theorem WG (E : Env S) : Good S "number_in" 1 ZL [] 1 := ZV (N := nl15) (ps := ["word"]) (k := 0) (db := UI) E.k_number_in Zdt (ZdC E) Zdm rfl
theorem ZcV : FnScope nl16 ["words"] (defScope (top 8)) := fsM
theorem Zdb : Wk "numbers_in" (top 8) ["words"] := bnq1
theorem ZcN (E : Env S) : DSs (S.at nl16 (defScope (top 8)) 1) (defBody (top 8)) Ua := by
 have WG := WG E
 exact (Zh (VM (own := [("word", 2)]) (Wq (deV 0)) (Wi (i := 2) rfl (.inl (by kernel_rfl)) (.inr (by kernel_rfl))) ZZ (Zt WG.at.blk lez (by kernel_rfl) (by kernel_rfl) (Zg (deV 2) nofun) rfl rfl Zm) (Wn (by kernel_rfl)) (by decide +kernel) rfl (i := 1) rfl (by kernel_rfl) (by kernel_rfl) (by kernel_rfl) (by kernel_rfl))
  (Zn (Zr (Ug (dt_in ZW (deV 1) rfl) ZW (WN (by kernel_rfl) E.b_tuple (deV 1) rfl)))))
theorem Wf (E : Env S) : Good S "numbers_in" 1 ZH [] 2 := ZV (N := nl16) (ps := ["words"]) (k := 1) (db := Ua) E.k_numbers_in ZcV (ZcN E) Zdb rfl
theorem ZdY : FnScope nl9 ["deed"] (defScope (top 9)) := fsM
theorem ZdU : Wk "row_text" (top 9) ["deed"] := bnq1
theorem Zeh (E : Env S) : DSs (S.at nl9 (defScope (top 9)) 0) (defBody (top 9)) Zao := by
 exact (Zh (ds_unpS (VH (Wi (i := 1) rfl (.inl (by kernel_rfl)) (.inl rfl)) (dgs_star (Wi (i := 2) rfl (.inl (by kernel_rfl)) (.inl rfl)) dgs_nil) nofun) (deV 0) rfl rfl (by decide) rfl (fun _ => ⟨rfl, rfl⟩))
  (dss_frz (i := 2) (Zh (Wb (dt_c Ws (deV 1) Zi rfl) (Zn (Zr (de_fs (.cons Zi (.cons (de_fmt (bi_len (by kernel_rfl) E.b_len (Zs (deV 2) Zf rfl) rfl)) .nil))))) ZC)
  (Zh (Wb (dt_c Ws (deV 1) Zi rfl) (Zn (Zr (ZI Zi (Vm Zi (VE (own := [("choice", 3)]) (Wq (Zs (deV 2) Zf rfl)) (Wi (i := 3) rfl (.inl (by kernel_rfl)) (.inr (by kernel_rfl))) ZZ (Vm Zi (VE (own := [("one", 4)]) (Wq (deV 3)) (Wi (i := 4) rfl (.inl (by kernel_rfl)) (.inr (by kernel_rfl))) ZZ (bi_str (by kernel_rfl) E.b_str (deV 4) rfl) (Wn (by kernel_rfl)) (by decide +kernel) rfl) rfl (fun _ => rfl) rfl) (Wn (by kernel_rfl)) (by decide +kernel) rfl) rfl (fun _ => rfl) rfl)))) ZC)
  (Zn (Zr (Vm Zi (ZI (Vh (Zg (deV 1) nofun)) (VE (own := [("one", 4)]) (Wq (deV 2)) (Wi (i := 4) rfl (.inl (by kernel_rfl)) (.inr (by kernel_rfl))) ZZ (Ug (dt_c Ws (deV 4) Zi rfl) Zi (bi_str (by kernel_rfl) E.b_str (deV 4) rfl)) (Wn (by kernel_rfl)) (by decide +kernel) rfl)) rfl (fun _ => rfl) rfl)))))))
theorem VO (E : Env S) : Good S "row_text" 1 ZY [] 1 := ZV (N := nl9) (ps := ["deed"]) (k := 0) (db := Zao) E.k_row_text ZdY (Zeh E) ZdU rfl
theorem ZdD : FnScope nl8 ["deed"] (defScope (top 10)) := fsM
theorem Zdr : Wk "deed_rows" (top 10) ["deed"] := bnq1
theorem ZdF (E : Env S) : DSs (S.at nl8 (defScope (top 10)) 1) (defBody (top 10)) UH := by
 have VO := VO E
 exact (Zh (ZD (i := 1) rfl (.inl (by kernel_rfl)) (.inl rfl) (Ug (dt_c Ws (Zs (deV 0) Zf rfl) Zi rfl) (Zs (deV 0) Zf rfl) (Wc da_nil)) rfl)
  (Zn (Zr (ZI (Vh (Zg (Zt VO.at lez (by kernel_rfl) (by kernel_rfl) (Zg (deV 0) nofun) rfl rfl Zm) nofun)) (VE (own := [("one", 2)]) (Wq (deV 1)) (Wi (i := 2) rfl (.inl (by kernel_rfl)) (.inr (by kernel_rfl))) ZZ (Zt VO.at.blk lez (by kernel_rfl) (by kernel_rfl) (Zg (deV 2) nofun) rfl rfl Zm) (Wn (by kernel_rfl)) (by decide +kernel) rfl)))))
theorem Us (E : Env S) : Good S "deed_rows" 1 Vq [] 2 := ZV (N := nl8) (ps := ["deed"]) (k := 1) (db := UH) E.k_deed_rows ZdD (ZdF E) Zdr rfl
theorem Zdq : FnScope ["deed"] ["deed"] (defScope (top 11)) := fsM
theorem Zdy : Wk "deed_text" (top 11) ["deed"] := bnq1
theorem Zdz (E : Env S) : DSs (S.at ["deed"] (defScope (top 11)) 2) (defBody (top 11)) UC := by
 have Us := Us E
 exact (Zn (Zr (Vm Zi (Zt Us.at lez (by kernel_rfl) (by kernel_rfl) (Zg (deV 0) nofun) rfl rfl Zm) rfl (fun _ => rfl) rfl)))
theorem Uj (E : Env S) : Good S "deed_text" 1 Wv [] 3 := ZV (N := ["deed"]) (ps := ["deed"]) (k := 2) (db := UC) E.k_deed_text Zdq (Zdz E) Zdy rfl
theorem ZcG : FnScope nl10 ["row"] (defScope (top 12)) := fsM
theorem Zda : Wk "choices_in" (top 12) ["row"] := bnq1
theorem ZcR (E : Env S) : DSs (S.at nl10 (defScope (top 12)) 2) (defBody (top 12)) Uc := by
 have Wf := Wf E
 exact (Zh (ZD (i := 1) rfl (.inl (by kernel_rfl)) (.inl rfl) (ZaB (de_pre (deV 0) Zi rfl (fun _ => rfl) rfl) Zi rfl (fun _ => rfl) rfl) rfl)
  (Zh (VM (own := [("part", 3)]) (Wq (deV 1)) (Wi (i := 3) rfl (.inl (by kernel_rfl)) (.inr (by kernel_rfl))) ZZ (Zt Wf.at.blk lez (by kernel_rfl) (by kernel_rfl) (Zg (ZaB (deV 3) Zi rfl (fun _ => rfl) rfl) nofun) rfl rfl Zm) (Wn (by kernel_rfl)) (by decide +kernel) rfl (i := 2) rfl (by kernel_rfl) (by kernel_rfl) (by kernel_rfl) (by kernel_rfl))
  (Zh (Wb (dt_w (UG (dt_in ZW (deV 2) rfl) (Ub (dt_not (Ux (bi_all (by kernel_rfl) E.b_all (VE (own := [("one", 4)]) (Wq (deV 2)) (Wi (i := 4) rfl (.inl (by kernel_rfl)) (.inr (by kernel_rfl))) ZZ (de_c Ws (bi_len (by kernel_rfl) E.b_len (deV 4) rfl) Zf rfl) (Wn (by kernel_rfl)) (by decide +kernel) rfl) rfl) rfl))))) (Zn (Zr ZW)) ZC)
  (Zn (Zr (WN (by kernel_rfl) E.b_tuple (deV 2) rfl))))))
theorem VR (E : Env S) : Good S "choices_in" 1 Wx [] 3 := ZV (N := nl10) (ps := ["row"]) (k := 2) (db := Uc) E.k_choices_in ZcG (ZcR E) Zda rfl
theorem ZeL : FnScope nl12 ["row"] (defScope (top 13)) := fsM
theorem ZeJ : Wk "row_in" (top 13) ["row"] := bnq1
theorem ZeE (E : Env S) : DSs (S.at nl12 (defScope (top 13)) 3) (defBody (top 13)) ZbZ := by
 have VR := VR E
 have Wf := Wf E
 exact (Zh (ZD (i := 1) rfl (.inl (by kernel_rfl)) (.inl rfl) (ZaB (deV 0) Zi rfl (fun _ => rfl) rfl) rfl)
  (Zh (ZD (i := 2) rfl (.inl (by kernel_rfl)) (.inl rfl) (Zs (deV 1) Zf rfl) rfl)
  (Zh (Wb (dt_w (dw_and (dt_c Ws (deV 2) Zi rfl) (dw_and1 (dt_c ci_gt (bi_len (by kernel_rfl) E.b_len (deV 1) rfl) Zf rfl)))) (Zh (ZD (i := 3) rfl (.inl (by kernel_rfl)) (.inl rfl) (Zt VR.at lez (by kernel_rfl) (by kernel_rfl) (Zg (deV 0) nofun) rfl rfl Zm) rfl)
  (Zn (Zr (Ug (dt_c Ue (deV 3) ZW rfl) ZW (Wc (Zj Zi (Zg (deV 3) nofun) nofun)))))) ZC)
  (Zh (Wb (dt_w (UG (dt_ninTb E.ZA.at (by kernel_rfl) (by kernel_rfl) (deV 2)) (UG (dt_in (deV 2) (Wc (Zj Zi (Zg Zi nofun) nofun)) rfl) (Ub (dt_c ci_ne (bi_len (by kernel_rfl) E.b_len (deV 1) rfl) (de_ixTb E.ZA.at (by kernel_rfl) (by kernel_rfl) (deV 2) rfl) rfl))))) (Zn (Zr ZW)) ZC)
  (Zh (Wb (dt_in (deV 2) (Wc (Zj Zi (Zg Zi nofun) nofun)) rfl) (Zh (ZD (i := 4) rfl (.inl (by kernel_rfl)) (.inl rfl) (Zt Wf.at lez (by kernel_rfl) (by kernel_rfl) (Zg (de_slL (deV 1) Zf) nofun) rfl rfl Zm) rfl)
  (Zn (Zr (Ug (dt_w (UG (dt_c Ue (deV 4) ZW rfl) (Ub (dt_c Ws (Zs (deV 1) Zf rfl) Zi rfl)))) ZW (ZI (Wc (Zj (deV 2) (Zg (Zs (deV 1) Zf rfl) nofun) nofun)) (deV 4)))))) ZC)
  (Zh (Wb (dt_c Ws (deV 2) Zi rfl) (Zh (ZD (i := 4) rfl (.inl (by kernel_rfl)) (.inl rfl) (Zt Wf.at lez (by kernel_rfl) (by kernel_rfl) (Zg (de_slB (deV 1) Zf Zf) nofun) rfl rfl Zm) rfl)
  (Zh (ZD (i := 5) rfl (.inl (by kernel_rfl)) (.inl rfl) (Ug (dt_c Ws (Zs (deV 1) Zf rfl) Zi rfl) Zi (Zs (deV 1) Zf rfl)) rfl)
  (Zn (Zr (Ug (dt_w (UG (dt_c Ue (deV 4) ZW rfl) (Ub (dt_c Ws (Zs (deV 1) Zf rfl) Zi rfl)))) ZW (ZI (ZI (Wc (Zg Zi nofun)) (deV 4)) (Wc (Zg (deV 5) nofun)))))))) ZC)
  (Zh (ZD (i := 4) rfl (.inl (by kernel_rfl)) (.inl rfl) (Zt Wf.at lez (by kernel_rfl) (by kernel_rfl) (Zg (de_slL (deV 1) Zf) nofun) rfl rfl Zm) rfl)
  (Zn (Zr (Ug (dt_c Ue (deV 4) ZW rfl) ZW (ZI (Wc (Zg (deV 2) nofun)) (deV 4))))))))))))
theorem ZaL (E : Env S) : Good S "row_in" 1 ZM [] 4 := ZV (N := nl12) (ps := ["row"]) (k := 3) (db := ZbZ) E.k_row_in ZeL (ZeE E) ZeJ rfl
theorem Zen : FnScope nl11 ["row"] (defScope (top 14)) := fsM
theorem Zej : Wk "many_in" (top 14) ["row"] := bnq1
theorem Zeo (E : Env S) : DSs (S.at nl11 (defScope (top 14)) 1) (defBody (top 14)) ZaY := by
 have WG := WG E
 exact (Zh (ds_unpT (dg_tup (VH (Wi (i := 1) rfl (.inl (by kernel_rfl)) (.inl rfl)) (VH (Wi (i := 2) rfl (.inl (by kernel_rfl)) (.inl rfl)) (VH (Wi (i := 3) rfl (.inl (by kernel_rfl)) (.inl rfl)) dgs_nil nofun) nofun) nofun) rfl rfl) (de_part (deV 0) Zi rfl (fun _ => rfl) rfl) rfl)
  (Zh (ZD (i := 4) rfl (.inl (by kernel_rfl)) (.inl rfl) (Zt WG.at lez (by kernel_rfl) (by kernel_rfl) (Zg (deV 3) nofun) rfl rfl Zm) rfl)
  (Zn (Zr (Ug (dt_w (UG (dt_c ci_ne (deV 1) Zi rfl) (UG (dt_c Ue (deV 4) ZW rfl) (Ub (dt_c ci_lt (deV 4) Zf rfl))))) ZW (deV 4))))))
theorem ZaQ (E : Env S) : Good S "many_in" 1 WI [] 2 := ZV (N := nl11) (ps := ["row"]) (k := 1) (db := ZaY) E.k_many_in Zen (Zeo E) Zej rfl
theorem Zer : FnScope nl13 ["rows", "at"] (defScope (top 15)) := fsM
theorem Zek : Wk "deed_in" (top 15) ["rows", "at"] := bnq2
theorem Zev (E : Env S) : DSs (S.at nl13 (defScope (top 15)) 4) (defBody (top 15)) Zbm := by
 have ZaQ := ZaQ E
 have ZaL := ZaL E
 exact (Zh (ZD (i := 2) rfl (.inl (by kernel_rfl)) (.inl rfl) (Zt ZaQ.at lez (by kernel_rfl) (by kernel_rfl) (Zg (Zs (deV 0) (deV 1) rfl) nofun) rfl rfl Zm) rfl)
  (Zh (Wb (dt_c Ue (deV 2) ZW rfl) (Zh (ZD (i := 3) rfl (.inl (by kernel_rfl)) (.inl rfl) (Zt ZaL.at lez (by kernel_rfl) (by kernel_rfl) (Zg (Zs (deV 0) (deV 1) rfl) nofun) rfl rfl Zm) rfl)
  (Zh (Wb (dt_c Ue (deV 3) ZW rfl) (Zn (ZaI E.x_BadText.at lez (by kernel_rfl) (by kernel_rfl) (Zg (deV 1) nofun) rfl Zm)) ZC)
  (Zn (Zr (Wc (Zj (deV 3) (Zg (ZI (deV 1) Zf) nofun) nofun)))))) ZC)
  (Zh (ds_set (i := 4) rfl (.inl (by kernel_rfl)) (.inl rfl) (Vh da_nil) rfl)
  (Zh (ds_for (di_rng2 (Zj (ZI (deV 1) Zf) (Zg (bi_min2 (by kernel_rfl) E.b_min (ZI (ZI (deV 1) Zf) (deV 2)) (bi_len (by kernel_rfl) E.b_len (deV 0) rfl) rfl) nofun) nofun) nofun nofun (by kernel_rfl) E.b_range) (Wi (i := 5) rfl (.inl (by kernel_rfl)) (.inl rfl)) (Zh (ds_app (i := 4) rfl (.inl (by kernel_rfl)) (by kernel_rfl) (by kernel_rfl) (by kernel_rfl) (Zt ZaL.at lez (by kernel_rfl) (by kernel_rfl) (Zg (Zs (deV 0) (deV 5) rfl) nofun) rfl rfl Zm) rfl)
  (Zn (Wb (dt_c Ue (de_ix1L (i := 4) rfl (.inl (by kernel_rfl)) (by kernel_rfl) (by kernel_rfl) dpz_neg rfl) ZW rfl) (Zn (ZaI E.x_BadText.at lez (by kernel_rfl) (by kernel_rfl) (Zg (deV 5) nofun) rfl Zm)) ZC))) rfl)
  (dss_frz (i := 4) (Zh (Wb (dt_c ci_lt (bi_len (by kernel_rfl) E.b_len (deV 4) rfl) (deV 2) rfl) (Zn (ZaI E.x_BadText.at lez (by kernel_rfl) (by kernel_rfl) (Zg (bi_len (by kernel_rfl) E.b_len (deV 0) rfl) nofun) rfl Zm)) ZC)
  (Zn (Zr (Wc (Zj (Wc (Zj Zi (Zg (WN (by kernel_rfl) E.b_tuple (deV 4) rfl) nofun) nofun)) (Zg (ZI (ZI (deV 1) Zf) (deV 2)) nofun) nofun))))))))))
theorem Zbg (E : Env S) : Good S "deed_in" 2 WH [] 5 := ZV (N := nl13) (ps := ["rows", "at"]) (k := 4) (db := Zbm) E.k_deed_in Zer (Zev E) Zek rfl
theorem Zdo : FnScope nl14 ["text"] (defScope (top 16)) := fsM
theorem ZdB : Wk "read_deed" (top 16) ["text"] := bnq1
theorem Zdv (E : Env S) : DSs (S.at nl14 (defScope (top 16)) 5) (defBody (top 16)) Uk := by
 have Zbg := Zbg E
 exact (Zh (ZD (i := 1) rfl (.inl (by kernel_rfl)) (.inl rfl) (ZaB (deV 0) Zi rfl (fun _ => rfl) rfl) rfl)
  (Zh (ds_unpT (dg_tup (VH (Wi (i := 2) rfl (.inl (by kernel_rfl)) (.inl rfl)) (VH (Wi (i := 3) rfl (.inl (by kernel_rfl)) (.inl rfl)) dgs_nil nofun) nofun) rfl rfl) (Zt Zbg.at lez (by kernel_rfl) (by kernel_rfl) (Zj (deV 1) (Zg Zf nofun) nofun) rfl rfl (ZU Zm)) rfl)
  (Zh (Wb (dt_c ci_lt (deV 3) (bi_len (by kernel_rfl) E.b_len (deV 1) rfl) rfl) (Zn (ZaI E.x_BadText.at lez (by kernel_rfl) (by kernel_rfl) (Zg (deV 3) nofun) rfl Zm)) ZC)
  (Zn (Zr (deV 2))))))
theorem Vn (E : Env S) : Good S "read_deed" 1 WL [] 6 := ZV (N := nl14) (ps := ["text"]) (k := 5) (db := Uk) E.k_read_deed Zdo (Zdv E) ZdB rfl
theorem ZeM : FnScope nl7 ["_law_script"] (defScope (top 18)) := fsM
theorem ZeQ : Wk "_law_bag" (top 18) ["_law_script"] := bnq1
theorem ZeN (E : Env S) : DSs (S.at nl7 (defScope (top 18)) 0) (defBody (top 18)) ZbJ := by
 exact (Zh (ZD (i := 1) rfl (.inl (by kernel_rfl)) (.inl rfl) (ZI Zf (bi_len (by kernel_rfl) E.b_len (Zbo (deV 0) Zf) rfl)) rfl)
  (Zh (ds_for (Wq (Zbo (deV 0) Zf)) (Wi (i := 2) rfl (.inl (by kernel_rfl)) (.inl rfl)) (Zn (ZD (i := 1) rfl (.inl (by kernel_rfl)) (.inl rfl) (VP (ZI (ZI (Uo (deV 1) Zf) (VP (deV 2) Zf)) Zf) Zf) rfl)) rfl)
  (Zn (ds_ret (Vh (Zj (bi_list (by kernel_rfl) E.b_list (Zbo (deV 0) Zf) rfl) (Zj Zf (Zj Zf (Zj (deV 1) (Zg Zf nofun) nofun) nofun) nofun) nofun))))))
theorem Zdu (E : Env S) : Good S "_law_bag" 1 Zaz [] 1 := ZV (N := nl7) (ps := ["_law_script"]) (k := 0) (db := ZbJ) E.k_l_bag ZeM (ZeN E) ZeQ rfl
theorem ZeK : FnScope nl0 ["_law_bag_here", "_law_many"] (defScope (top 19)) := fsM
theorem ZeG : Wk "_law_pull" (top 19) ["_law_bag_here", "_law_many"] := bnq2
theorem ZeB (E : Env S) : DSs (S.at nl0 (defScope (top 19)) 0) (defBody (top 19)) Ut := by
 exact (Zh (Wb (dt_w (dw_and (dt_c Ws (Zs (deV 0) Zf rfl) Zf rfl) (dw_and1 (dt_c ci_lt (Zs (deV 0) Zf rfl) (bi_len (by kernel_rfl) E.b_len (Zs (deV 0) Zf rfl) rfl) rfl)))) (Zh (ZD (i := 2) rfl (.inl (by kernel_rfl)) (.inl rfl) (Zs (Zs (deV 0) Zf rfl) (Zs (deV 0) Zf rfl) rfl) rfl)
  (Zh (US (deV 0) Zf (ZI (Zs (deV 0) Zf rfl) Zf) rfl rfl rfl)
  (Zn (Wb (dt_c ci_ge (deV 2) (de_pow Zf Zf) rfl) (Zn (US (deV 0) Zf (deV 2) rfl rfl rfl)) (Zn (US (deV 0) Zf (VP (ZI (ZI (Uo (Zs (deV 0) Zf rfl) Zf) (VP (deV 2) Zf)) Zf) Zf) rfl rfl rfl)))))) ZC)
  (Zh (Wb (dt_c ci_gt (Zs (deV 0) Zf rfl) Zf rfl) (Zh (ZD (i := 3) rfl (.inl (by kernel_rfl)) (.inl rfl) (VP (Zs (deV 0) Zf rfl) (deV 1)) rfl)
  (Zh (US (deV 0) Zf (de_fdiv (Zs (deV 0) Zf rfl) (deV 1)) rfl rfl rfl)
  (Zn (Zr (deV 3))))) ZC)
  (Zh (US (deV 0) Zf (ZI (Zs (deV 0) Zf rfl) Zf) rfl rfl rfl)
  (Zh (ZD (i := 4) rfl (.inl (by kernel_rfl)) (.inl rfl) (ZI (Uo (Zs (deV 0) Zf rfl) (Zs (deV 0) Zf rfl)) (Uo (Uo Zf (Zs (deV 0) Zf rfl)) (ZI (VP (Zs (deV 0) Zf rfl) Zf) Zf))) rfl)
  (Zh (US (deV 0) Zf (VP (ZI (ZI (deV 4) (Uo (Uo (Zs (deV 0) Zf rfl) (Zs (deV 0) Zf rfl)) (Zs (deV 0) Zf rfl))) Zf) Zf) rfl rfl rfl)
  (Zn (Zr (VP (ZI (de_fdiv (Zs (deV 0) Zf rfl) Zf) (Uo (VP (Zs (deV 0) Zf rfl) Zf) Zf)) (deV 1)))))))))
theorem ZR (E : Env S) : Good S "_law_pull" 2 ZX [] 1 := ZV (N := nl0) (ps := ["_law_bag_here", "_law_many"]) (k := 0) (db := Ut) E.k_l_pull ZeK (ZeB E) ZeG rfl
theorem ZeP : FnScope nl2 ["_law_bag_here", "_law_some"] (defScope (top 20)) := fsM
theorem ZeR : Wk "_law_one" (top 20) ["_law_bag_here", "_law_some"] := bnq2
theorem ZeO (E : Env S) : DSs (S.at nl2 (defScope (top 20)) 1) (defBody (top 20)) Zdx := by
 have ZR := ZR E
 exact (Zn (Zr (Zs (deV 1) (Zt ZR.at lez (by kernel_rfl) (by kernel_rfl) (Zj (deV 0) (Zg (bi_len (by kernel_rfl) E.b_len (deV 1) rfl) nofun) nofun) rfl rfl (ZU Zm)) rfl)))
theorem UK (E : Env S) : Good S "_law_one" 2 UO [] 2 := ZV (N := nl2) (ps := ["_law_bag_here", "_law_some"]) (k := 1) (db := Zdx) E.k_l_one ZeP (ZeO E) ZeR rfl
theorem Zdf : FnScope nl5 ["_law_got", "_law_due"] (defScope (top 21)) := fsM
theorem Zdh : Wk "_law_same" (top 21) ["_law_got", "_law_due"] := bnq2
theorem ZeD (E : Env S) (m : Nat) (g_rec : Good S "_law_same" 2 (ZN m) [] (1 + m)) : DSs (S.at nl5 (defScope (top 21)) (1 + m)) (defBody (top 21)) (WS (ZN m)) := by
 exact (Zh (Wb (dt_w (UG (dt_c Ue (ZG (i := 1) rfl (.inr (.inl (by kernel_rfl))) (by kernel_rfl) (by kernel_rfl)) ZW rfl) (Ub (dt_c Ue (ZG (i := 0) rfl (.inr (.inl (by kernel_rfl))) (by kernel_rfl) (by kernel_rfl)) ZW rfl)))) (Zn (Zr (de_and (de_c Ue (ZG (i := 1) rfl (.inr (.inl (by kernel_rfl))) (by kernel_rfl) (by kernel_rfl)) ZW rfl) (de_one (de_c Ue (ZG (i := 0) rfl (.inr (.inl (by kernel_rfl))) (by kernel_rfl) (by kernel_rfl)) ZW rfl))))) ZC)
  (Zh (Wb (dt_w (UG (Ux (Vy (by kernel_rfl) E.b_isinstance (ZG (i := 1) rfl (.inr (.inl (by kernel_rfl))) (by kernel_rfl) (by kernel_rfl)) rfl (by kernel_rfl) E.b_bool (by rfl) (by decide) (by kernel_rfl)) rfl) (Ub (Ux (Vy (by kernel_rfl) E.b_isinstance (ZG (i := 0) rfl (.inr (.inl (by kernel_rfl))) (by kernel_rfl) (by kernel_rfl)) rfl (by kernel_rfl) E.b_bool (by rfl) (by decide) (by kernel_rfl)) rfl)))) (Zn (Zr (de_and (Vy (by kernel_rfl) E.b_isinstance (ZG (i := 1) rfl (.inr (.inl (by kernel_rfl))) (by kernel_rfl) (by kernel_rfl)) rfl (by kernel_rfl) E.b_bool (by rfl) (by decide) (by kernel_rfl)) (de_and (Vy (by kernel_rfl) E.b_isinstance (ZG (i := 0) rfl (.inr (.inl (by kernel_rfl))) (by kernel_rfl) (by kernel_rfl)) rfl (by kernel_rfl) E.b_bool (by rfl) (by decide) (by kernel_rfl)) (de_one (de_c Ws (ZG (i := 0) rfl (.inr (.inl (by kernel_rfl))) (by kernel_rfl) (by kernel_rfl)) (ZG (i := 1) rfl (.inr (.inl (by kernel_rfl))) (by kernel_rfl) (by kernel_rfl)) rfl)))))) ZC)
  (Zh (Wb (Ux (de_isiT (by kernel_rfl) E.b_isinstance (ZG (i := 1) rfl (.inr (.inl (by kernel_rfl))) (by kernel_rfl) (by kernel_rfl)) rfl rfl (Zbd (by kernel_rfl) E.b_int (by rfl) (by decide) (by kernel_rfl) (Zbd (by kernel_rfl) E.b_str (by rfl) (by decide) (by kernel_rfl) tyns_nil))) rfl) (Zn (Zr (de_and (de_c Ws (Vy (by kernel_rfl) E.b_isinstance (ZG (i := 0) rfl (.inr (.inl (by kernel_rfl))) (by kernel_rfl) (by kernel_rfl)) rfl (by kernel_rfl) E.b_int (by rfl) (by decide) (by kernel_rfl)) (Vy (by kernel_rfl) E.b_isinstance (ZG (i := 1) rfl (.inr (.inl (by kernel_rfl))) (by kernel_rfl) (by kernel_rfl)) rfl (by kernel_rfl) E.b_int (by rfl) (by decide) (by kernel_rfl)) rfl) (de_one (de_c Ws (ZG (i := 0) rfl (.inr (.inl (by kernel_rfl))) (by kernel_rfl) (by kernel_rfl)) (ZG (i := 1) rfl (.inr (.inl (by kernel_rfl))) (by kernel_rfl) (by kernel_rfl)) rfl))))) ZC)
  (Zh (Wb (dt_w (UG (dt_c ci_ne (Vy (by kernel_rfl) E.b_isinstance (ZG (i := 1) rfl (.inr (.inl (by kernel_rfl))) (by kernel_rfl) (by kernel_rfl)) rfl (by kernel_rfl) E.b_list (by rfl) (by decide) (by kernel_rfl)) (Vy (by kernel_rfl) E.b_isinstance (ZG (i := 0) rfl (.inr (.inl (by kernel_rfl))) (by kernel_rfl) (by kernel_rfl)) rfl (by kernel_rfl) E.b_list (by rfl) (by decide) (by kernel_rfl)) rfl) (Ub (dt_c ci_ne (Vy (by kernel_rfl) E.b_isinstance (ZG (i := 1) rfl (.inr (.inl (by kernel_rfl))) (by kernel_rfl) (by kernel_rfl)) rfl (by kernel_rfl) E.b_tuple (by rfl) (by decide) (by kernel_rfl)) (Vy (by kernel_rfl) E.b_isinstance (ZG (i := 0) rfl (.inr (.inl (by kernel_rfl))) (by kernel_rfl) (by kernel_rfl)) rfl (by kernel_rfl) E.b_tuple (by rfl) (by decide) (by kernel_rfl)) rfl)))) (Zn (Zr de_bl)) ZC)
  (Zn (Zr (de_and (de_c Ws (bi_len (by kernel_rfl) E.b_len (ZG (i := 0) rfl (.inr (.inl (by kernel_rfl))) (by kernel_rfl) (by kernel_rfl)) rfl) (bi_len (by kernel_rfl) E.b_len (ZG (i := 1) rfl (.inr (.inl (by kernel_rfl))) (by kernel_rfl) (by kernel_rfl)) rfl) rfl) (de_one (bi_all (by kernel_rfl) E.b_all (VE (own := [("_law_k", 2)]) (UQ (Zg (bi_len (by kernel_rfl) E.b_len (ZG (i := 1) rfl (.inr (.inl (by kernel_rfl))) (by kernel_rfl) (by kernel_rfl)) rfl) nofun) nofun (by kernel_rfl) E.b_range) (Wi (i := 2) rfl (.inl (by kernel_rfl)) (.inr (by kernel_rfl))) ZZ (Zt g_rec.at.blk (Nat.le_refl _) (by kernel_rfl) (by kernel_rfl) (Zj (Zs (ZG (i := 0) rfl (.inr (.inl (by kernel_rfl))) (by kernel_rfl) (by kernel_rfl)) (deV 2) rfl) (Zg (Zs (ZG (i := 1) rfl (.inr (.inl (by kernel_rfl))) (by kernel_rfl) (by kernel_rfl)) (deV 2) rfl) nofun) nofun) rfl rfl (ZU Zm)) (Wn (by kernel_rfl)) (by decide +kernel) rfl) rfl)))))))))
theorem VC (E : Env S) : ∀ m, Good S "_law_same" 2 (ZN m) [] (1 + m)
 | 0 => good_stuck (N := nl5) (ps := ["_law_got", "_law_due"]) (k := 0) E.k_l_same Zdf Zdh rfl
 | m + 1 => ZV (N := nl5) (ps := ["_law_got", "_law_due"]) (k := 1 + m) (db := WS (ZN m)) E.k_l_same Zdf (ZeD E m (VC E m)) Zdh rfl
theorem ZaO : FnScope nl1 ["_law_bag_here"] (defScope (top 22)) := fsM
theorem Zbf : Wk "_law_wide_number" (top 22) ["_law_bag_here"] := bnq1
theorem Zbc (E : Env S) : DSs (S.at nl1 (defScope (top 22)) 1) (defBody (top 22)) Wz := by
 have ZR := ZR E
 exact (Zh (ZD (i := 1) rfl (.inl (by kernel_rfl)) (.inl rfl) (Zs (Vh (Zj (Zt ZR.at lez (by kernel_rfl) (by kernel_rfl) (Zj (deV 0) (Zg Zf nofun) nofun) rfl rfl (ZU Zm)) (Zj (Zt ZR.at lez (by kernel_rfl) (by kernel_rfl) (Zj (deV 0) (Zg (de_pow Zf Zf) nofun) nofun) rfl rfl (ZU Zm)) (Zj (de_sub (de_pow Zf Zf) Zf) (Zg Zf nofun) nofun) nofun) nofun)) (Zt ZR.at lez (by kernel_rfl) (by kernel_rfl) (Zj (deV 0) (Zg Zf nofun) nofun) rfl rfl (ZU Zm)) rfl) rfl)
  (Zn (Zr (Zs (Vh (Zj (deV 1) (Zg (de_sub Zf (deV 1)) nofun) nofun)) (Zt ZR.at lez (by kernel_rfl) (by kernel_rfl) (Zj (deV 0) (Zg Zf nofun) nofun) rfl rfl (ZU Zm)) rfl))))
theorem WB (E : Env S) : Good S "_law_wide_number" 1 Zl [] 2 := ZV (N := nl1) (ps := ["_law_bag_here"]) (k := 1) (db := Wz) E.k_l_wide_number ZaO (Zbc E) Zbf rfl
theorem ZeF : FnScope ["_law_bag_here"] ["_law_bag_here"] (defScope (top 23)) := fsM
theorem ZeC : Wk "_law_word" (top 23) ["_law_bag_here"] := bnq1
theorem ZeI (E : Env S) : DSs (S.at ["_law_bag_here"] (defScope (top 23)) 2) (defBody (top 23)) ZbL := by
 have UK := UK E
 exact (Zn (Zr (Zt UK.at lez (by kernel_rfl) (by kernel_rfl) (Zj (deV 0) (Zg (Vh (Zj Zi (Zj Zi (Zj Zi (Zj Zi (Zj Zi (Zj Zi (Zj Zi (Zj Zi (Zg Zi nofun) nofun) nofun) nofun) nofun) nofun) nofun) nofun) nofun)) nofun) nofun) rfl rfl (ZU Zm))))
theorem Zcm (E : Env S) : Good S "_law_word" 1 ZaF [] 3 := ZV (N := ["_law_bag_here"]) (ps := ["_law_bag_here"]) (k := 2) (db := ZbL) E.k_l_word ZeF (ZeI E) ZeC rfl
theorem ZbW : FnScope nl3 ["_law_bag_here"] (defScope (top 24)) := fsM
theorem ZbP : Wk "_law_wide_deed" (top 24) ["_law_bag_here"] := bnq1
theorem Zcv (E : Env S) : DSs (S.at nl3 (defScope (top 24)) 3) (defBody (top 24)) VA := by
 have ZR := ZR E
 have WB := WB E
 have UK := UK E
 have Zcm := Zcm E
 exact (Zh (ZD (i := 1) rfl (.inl (by kernel_rfl)) (.inl rfl) (Vh (Zj Zi (Zj Zi (Zj Zi (Zj Zi (Zj Zi (Zj Zi (Zj Zi (Zj Zi (Zj Zi (Zg Zi nofun) nofun) nofun) nofun) nofun) nofun) nofun) nofun) nofun) nofun)) rfl)
  (Zh (ZD (i := 1) rfl (.inl (by kernel_rfl)) (.inl rfl) (Zs (deV 1) (Zt ZR.at lez (by kernel_rfl) (by kernel_rfl) (Zj (ZG (i := 0) rfl (.inr (.inl (by kernel_rfl))) (by kernel_rfl) (by kernel_rfl)) (Zg Zf nofun) nofun) rfl rfl (ZU Zm)) rfl) rfl)
  (Zh (VM (S := S.at nl3 (defScope (top 24)) 3) (own := [("_law_k", 5)]) (UQ (Zg Zf nofun) nofun (by kernel_rfl) E.b_range) (Wi (i := 5) rfl (.inl (by kernel_rfl)) (.inr (by kernel_rfl))) ZZ (Zt WB.at.blk lez (by kernel_rfl) (by kernel_rfl) (Zg (ZG (i := 0) rfl (.inr (.inl (by kernel_rfl))) (by kernel_rfl) (by kernel_rfl)) nofun) rfl rfl Zm) (Wn (by kernel_rfl)) (by decide +kernel) rfl (i := 2) rfl (by kernel_rfl) (by kernel_rfl) (by kernel_rfl) (by kernel_rfl))
  (Zh (Wb (dt_c Ws (deV 1) Zi rfl) (Zh (VM (S := S.at nl3 (defScope (top 24)) 3) (own := [("_law_k", 5)]) (UQ (Zg (ZI Zf (Zt ZR.at lez (by kernel_rfl) (by kernel_rfl) (Zj (ZG (i := 0) rfl (.inr (.inl (by kernel_rfl))) (by kernel_rfl) (by kernel_rfl)) (Zg Zf nofun) nofun) rfl rfl (ZU Zm))) nofun) nofun (by kernel_rfl) E.b_range) (Wi (i := 5) rfl (.inl (by kernel_rfl)) (.inr (by kernel_rfl))) ZZ (WN (by kernel_rfl) E.b_tuple (VE (own := [("_law_at", 6)]) (UQ (Zg Zf nofun) nofun (by kernel_rfl) E.b_range) (Wi (i := 6) rfl (.inl (by kernel_rfl)) (.inr (by kernel_rfl))) ZZ (Zt WB.at.blk.blk lez (by kernel_rfl) (by kernel_rfl) (Zg (ZG (i := 0) rfl (.inr (.inl (by kernel_rfl))) (by kernel_rfl) (by kernel_rfl)) nofun) rfl rfl Zm) (Wn (by kernel_rfl)) (by decide +kernel) rfl) rfl) (Wn (by kernel_rfl)) (by decide +kernel) rfl (i := 3) rfl (by kernel_rfl) (by kernel_rfl) (by kernel_rfl) (by kernel_rfl))
  (Zn (Zr (Wc (Zj (deV 1) (Zg (WN (by kernel_rfl) E.b_tuple (deV 3) rfl) nofun) nofun))))) ZC)
  (Zh (Wb (dt_c Ws (deV 1) Zi rfl) (Zn (Zr (ZI (ZI (Wc (Zg (deV 1) nofun)) (WN (by kernel_rfl) E.b_tuple (Zbo (deV 2) Zf) rfl)) (Wc (Zg (Zt UK.at lez (by kernel_rfl) (by kernel_rfl) (Zj (ZG (i := 0) rfl (.inr (.inl (by kernel_rfl))) (by kernel_rfl) (by kernel_rfl)) (Zg (Vh (Zj Zi (Zj Zi (Zj Zi (Zj Zi (Zg Zi nofun) nofun) nofun) nofun) nofun)) nofun) nofun) rfl rfl (ZU Zm)) nofun))))) ZC)
  (Zh (Wb (dt_in (deV 1) (Wc (Zj Zi (Zg Zi nofun) nofun)) rfl) (Zn (Zr (ZI (Wc (Zj (deV 1) (Zg (Zt Zcm.at lez (by kernel_rfl) (by kernel_rfl) (Zg (ZG (i := 0) rfl (.inr (.inl (by kernel_rfl))) (by kernel_rfl) (by kernel_rfl)) nofun) rfl rfl Zm) nofun) nofun)) (WN (by kernel_rfl) E.b_tuple (Zbo (deV 2) (Ug (dt_c Ws (deV 1) Zi rfl) Zf Zf)) rfl)))) ZC)
  (Zh (ZD (i := 4) rfl (.inl (by kernel_rfl)) (.inl rfl) (de_dct (fun _ => (dpr_c Zf (dpr_c Zf (dpr_c Zf (dpr_c Zf (dpr_c Zf (dpr_c Zf dpr_nil (fun _ _ => pe_str)) (fun _ _ => pe_str)) (fun _ _ => pe_str)) (fun _ _ => pe_str)) (fun _ _ => pe_str)) (fun _ _ => pe_str))) rfl rfl (by simp) (by decide) rfl (by decide +kernel)) rfl)
  (Zn (Zr (ZI (Wc (Zg (deV 1) nofun)) (WN (by kernel_rfl) E.b_tuple (Zbo (deV 2) (Zs (deV 4) (deV 1) rfl)) rfl)))))))))))
theorem WZ (E : Env S) : Good S "_law_wide_deed" 1 Zk [] 4 := ZV (N := nl3) (ps := ["_law_bag_here"]) (k := 3) (db := VA) E.k_l_wide_deed ZbW (Zcv E) ZbP rfl
theorem ZcK : FnScope nl4 ["_law_deed"] (defScope (top 25)) := fsM
theorem ZcJ : Wk "_law_row_text" (top 25) ["_law_deed"] := bnq1
theorem ZcB (E : Env S) : DSs (S.at nl4 (defScope (top 25)) 0) (defBody (top 25)) VN := by
 exact (Zh (Wb (dt_c Ws (Zs (deV 0) Zf rfl) Zi rfl) (Zn (Zr (ZI Zi (Vm Zi (VE (own := [("_law_one_here", 1)]) (Wq (Zs (deV 0) Zf rfl)) (Wi (i := 1) rfl (.inl (by kernel_rfl)) (.inr (by kernel_rfl))) ZZ (Vm Zi (VE (own := [("_law_part", 2)]) (Wq (deV 1)) (Wi (i := 2) rfl (.inl (by kernel_rfl)) (.inr (by kernel_rfl))) ZZ (bi_str (by kernel_rfl) E.b_str (deV 2) rfl) (Wn (by kernel_rfl)) (by decide +kernel) rfl) rfl (fun _ => rfl) rfl) (Wn (by kernel_rfl)) (by decide +kernel) rfl) rfl (fun _ => rfl) rfl)))) ZC)
  (Zn (Zr (Vm Zi (VE (own := [("_law_part", 2)]) (Wq (deV 0)) (Wi (i := 2) rfl (.inl (by kernel_rfl)) (.inr (by kernel_rfl))) ZZ (Ug (dt_c ci_ne (deV 2) Zi rfl) (bi_str (by kernel_rfl) E.b_str (deV 2) rfl) Zi) (Wn (by kernel_rfl)) (by decide +kernel) rfl) rfl (fun _ => rfl) rfl))))
theorem Vg (E : Env S) : Good S "_law_row_text" 1 ZP [] 1 := ZV (N := nl4) (ps := ["_law_deed"]) (k := 0) (db := VN) E.k_l_row_text ZcK (ZcB E) ZcJ rfl
theorem ZcL : FnScope ["_law_deed"] ["_law_deed"] (defScope (top 26)) := fsM
theorem ZcX : Wk "_law_is_plain" (top 26) ["_law_deed"] := bnq1
theorem ZcU (E : Env S) : DSs (S.at ["_law_deed"] (defScope (top 26)) 0) (defBody (top 26)) VQ := by
 exact (Zh (Wb (dt_c Ws (Zs (deV 0) Zf rfl) Zi rfl) (Zn (Zr (de_chain ci_le ci_le Zf (bi_len (by kernel_rfl) E.b_len (Zs (deV 0) Zf rfl) rfl) Zf rfl rfl))) ZC)
  (Zh (Wb (dt_in (Zs (deV 0) Zf rfl) (Wc (Zj Zi (Zg Zi nofun) nofun)) rfl) (Zn (Zr (de_in (Zs (deV 0) Zf rfl) (Wc (Zj Zi (Zj Zi (Zg Zi nofun) nofun) nofun)) rfl))) ZC)
  (Zn (Zr (de_or (de_c ci_ne (Zs (deV 0) Zf rfl) Zi rfl) (de_one (de_in (Zs (deV 0) Zf rfl) (Wc (Zj Zi (Zj Zi (Zj Zi (Zj Zi (Zj Zi (Zj Zi (Zj Zi (Zg Zi nofun) nofun) nofun) nofun) nofun) nofun) nofun) nofun)) rfl)))))))
theorem VZ (E : Env S) : Good S "_law_is_plain" 1 Zz [] 1 := ZV (N := ["_law_deed"]) (ps := ["_law_deed"]) (k := 0) (db := VQ) E.k_l_is_plain ZcL (ZcU E) ZcX rfl
theorem ZeV : FnScope nl6 ["_law_script"] (defScope (top 27)) := fsM
theorem ZeU : Wk "law" (top 27) ["_law_script"] := bnq1
theorem ds_law (E : Env S) : DSs (S.at nl6 (defScope (top 27)) 9) (defBody (top 27)) ZeT := by
 have Zdu := Zdu E
 have WZ := WZ E
 have Vg := Vg E
 have ZR := ZR E
 have Vn := Vn E
 have VC := VC E 8
 have VZ := VZ E
 have Uj := Uj E
 exact (Zh (ds_set (i := 1) rfl (.inr (by kernel_rfl)) (.inl rfl) (Zt Zdu.at lez (by kernel_rfl) (by kernel_rfl) (Zg (deV 0) nofun) rfl rfl Zm) rfl)
  (dss_pub (i := 1) (Zh (ds_for (UQ (Zg Zf nofun) nofun (by kernel_rfl) E.b_range) (Wi (i := 2) rfl (.inl (by kernel_rfl)) (.inl rfl)) (Zh (ZD (i := 3) rfl (.inl (by kernel_rfl)) (.inl rfl) (Zt WZ.at lez (by kernel_rfl) (by kernel_rfl) (Zg (ZG (i := 1) rfl (.inr (.inl (by kernel_rfl))) (by kernel_rfl) (by kernel_rfl)) nofun) rfl rfl Zm) rfl)
  (Zh (ZD (i := 4) rfl (.inl (by kernel_rfl)) (.inl rfl) (Zt Vg.at lez (by kernel_rfl) (by kernel_rfl) (Zg (deV 3) nofun) rfl rfl Zm) rfl)
  (Zh (Wb (dt_c Ws (Zt ZR.at lez (by kernel_rfl) (by kernel_rfl) (Zj (ZG (i := 1) rfl (.inr (.inl (by kernel_rfl))) (by kernel_rfl) (by kernel_rfl)) (Zg Zf nofun) nofun) rfl rfl (ZU Zm)) Zf rfl) (Zh (VM (S := S.at nl6 (defScope (top 27)) 9) (own := [("_law_k", 7)]) (UQ (Zg (Zt ZR.at lez (by kernel_rfl) (by kernel_rfl) (Zj (ZG (i := 1) rfl (.inr (.inl (by kernel_rfl))) (by kernel_rfl) (by kernel_rfl)) (Zg Zf nofun) nofun) rfl rfl (ZU Zm)) nofun) nofun (by kernel_rfl) E.b_range) (Wi (i := 7) rfl (.inl (by kernel_rfl)) (.inr (by kernel_rfl))) ZZ (Zt WZ.at.blk lez (by kernel_rfl) (by kernel_rfl) (Zg (ZG (i := 1) rfl (.inr (.inl (by kernel_rfl))) (by kernel_rfl) (by kernel_rfl)) nofun) rfl rfl Zm) (Wn (by kernel_rfl)) (by decide +kernel) rfl (i := 5) rfl (by kernel_rfl) (by kernel_rfl) (by kernel_rfl) (by kernel_rfl))
  (Zh (ZD (i := 3) rfl (.inl (by kernel_rfl)) (.inl rfl) (Wc (Zj Zi (Zg (WN (by kernel_rfl) E.b_tuple (deV 5) rfl) nofun) nofun)) rfl)
  (Zn (ZD (i := 4) rfl (.inl (by kernel_rfl)) (.inl rfl) (Vm Zi (ZI (Vh (Zg (ZI Zi (bi_str (by kernel_rfl) E.b_str (bi_len (by kernel_rfl) E.b_len (deV 5) rfl) rfl)) nofun)) (VE (own := [("_law_one_here", 8)]) (Wq (deV 5)) (Wi (i := 8) rfl (.inl (by kernel_rfl)) (.inr (by kernel_rfl))) ZZ (Zt Vg.at.blk lez (by kernel_rfl) (by kernel_rfl) (Zg (deV 8) nofun) rfl rfl Zm) (Wn (by kernel_rfl)) (by decide +kernel) rfl)) rfl (fun _ => rfl) rfl) rfl)))) ZC)
  (Zh (Wb (dt_not (Ux (Zt VC.at lez (by kernel_rfl) (by kernel_rfl) (Zj (Zt Vn.at lez (by kernel_rfl) (by kernel_rfl) (Zg (deV 4) nofun) rfl rfl Zm) (Zg (deV 3) nofun) nofun) rfl rfl (ZU Zm)) rfl)) (Zn (Zr de_bl)) ZC)
  (Zh (ZD (i := 6) rfl (.inl (by kernel_rfl)) (.inl rfl) (Ug (dt_c Ws (Zs (deV 3) Zf rfl) Zi rfl) (bi_list (by kernel_rfl) E.b_list (Zs (deV 3) Zf rfl) rfl) (Vh (Zg (deV 3) nofun))) rfl)
  (Zn (Wb (dt_w (dw_and (Ux (bi_all (by kernel_rfl) E.b_all (VE (own := [("_law_one_here", 8)]) (Wq (deV 6)) (Wi (i := 8) rfl (.inl (by kernel_rfl)) (.inr (by kernel_rfl))) ZZ (Zt VZ.at.blk lez (by kernel_rfl) (by kernel_rfl) (Zg (deV 8) nofun) rfl rfl Zm) (Wn (by kernel_rfl)) (by decide +kernel) rfl) rfl) rfl) (dw_and1 (dt_not (Ux (Zt VC.at lez (by kernel_rfl) (by kernel_rfl) (Zj (Zt Uj.at lez (by kernel_rfl) (by kernel_rfl) (Zg (deV 3) nofun) rfl rfl Zm) (Zg (deV 4) nofun) nofun) rfl rfl (ZU Zm)) rfl))))) (Zn (Zr de_bl)) ZC))))))) rfl)
  (Zn (Zr (Zt VC.at lez (by kernel_rfl) (by kernel_rfl) (Zj (Zt Vn.at lez (by kernel_rfl) (by kernel_rfl) (Zg Zi nofun) rfl rfl Zm) (Zg (Wc (Zj Zi (Zj Zf (Zj Zf (Zj Zf (Zj Zf (Zg Zi nofun) nofun) nofun) nofun) nofun) nofun)) nofun) nofun) rfl rfl (ZU Zm)))))))
end
end
end L53
namespace Hx
open PySem PySem.W PySem.Calls HandSHeadRun
def segQ (st : SharedT -> Thread -> Option (SharedT × Thread)) (n0 : Nat) (ann : Option Value) (b : Nat) : Nat -> SharedT -> Thread -> Option (Flow × SharedT × Code × Pos)
 | 0, _, _ => none
 | m + 1, s, t => match endAt b t with
  | some f => some (f, s, t.code, t.pos)
  | none => match stepOk n0 ann t with
   | false => none
   | true => match st s t with
    | some (s', t') => frS s' fun s' => segQ st n0 ann b m s' t'
    | none => none
theorem segQ_ok {tb : String -> Option Builtin} {p : Program} {w : World} {n0 : Nat} {ann : Option Value} {b : Nat} {f : Flow} {c : Code} {q : Pos} : ∀ {m : Nat} {s s' : SharedT} {t : Thread}, segQ (stepT (denote tb) p w) n0 ann b m s t = some (f, s', c, q) ->
  segRun tb p w n0 ann b m s.abs t = some (f, s'.abs, c, q)
 | 0, _, _, _, h => by cases h
 | m + 1, s, s', t, h => by
  have h1 : (match endAt b t with
   | some f => some (f, s, t.code, t.pos)
   | none => match stepOk n0 ann t with
    | false => none
    | true => match stepT (denote tb) p w s t with
     | some (s', t') => frS s' fun s' => segQ (stepT (denote tb) p w) n0 ann b m s' t'
     | none => none) = some (f, s', c, q) := h
  unfold segRun
  cases he : endAt b t with
  | some g =>
   rw [he] at h1
   cases h1
   rfl
  | none =>
   rw [he] at h1
   cases hk : stepOk n0 ann t with
   | false =>
    rw [hk] at h1
    cases h1
   | true =>
    rw [hk] at h1
    dsimp only at h1 ⊢
    cases hs : stepT (denote tb) p w s t with
    | none =>
     rw [hs] at h1
     cases h1
    | some r =>
     obtain ⟨s2, t2⟩ := r
     rw [hs] at h1
     dsimp only at h1
     rw [frS_eq] at h1
     rw [stepT_spec hs]
     exact segQ_ok h1
section
variable {p : Program} {w : World} {n0 : Nat} {ann : Option Value} {env : PySem.Env} {q : Pos}
theorem segQ_eq {b n : Nat} {s : SharedT} {t : Thread} : segQ (stepT (denote treeTable) p w) n0 ann b n s t = segQ (stepQ (denQ tabQ) p w) n0 ann b n s t := by
 rw [stepQ_eq, denQ_eq, tabQ_eq]
theorem seg_piece {n N : Nat} {s s' : SharedT} {r : Shared} {l rest : List Stmt} {c : Code} {pos p' : Pos} (h : segQ (stepQ (denQ tabQ) p w) n0 ann 1 n s (piecesOf l env c pos [topFrame q]) = some (.next, s', c, p'))
  (k : topRun treeTable p w n0 ann N s'.abs (restOf rest env c p' [topFrame q]) = some r) : topRun treeTable p w n0 ann (n + N) s.abs (restOf (l ++ rest) env c pos [topFrame q]) = some r :=
 piece_app (segQ_ok (segQ_eq.trans h)) k
theorem seg_block {n N : Nat} {s s' : SharedT} {r : Shared} {b : List Stmt} {c : Code} {pos p' : Pos} (h : segQ (stepQ (denQ tabQ) p w) n0 ann 1 n s (blockOf b env c pos [topFrame q]) = some (.next, s', c, p'))
  (k : topRun treeTable p w n0 ann N s'.abs (restOf b env c p' [topFrame q]) = some r) : topRun treeTable p w n0 ann (n + N) s.abs ⟨denote treeTable (.body b env), c, pos, [topFrame q]⟩ = some r :=
 piece_block (segQ_ok (segQ_eq.trans h)) k
end
noncomputable def cutT (n : Nat) (t : BT) : BT := BT.rec (motive := fun _ => Nat -> BT) (fun _ => .nil) (fun v _ _ il ir n => match n with
 | 0 => .nil
 | m + 1 => .node v (il ((m + 1) / 2)) (ir (m / 2))) t n
theorem left_seg {p q : Program} {loose : List Str} {Xt : Shared -> Bool} {α : Type} {Yf : Shared -> α} {Ya : World -> α} {M : Nat} {T : Params -> BT} {n : Nat} {life : Life} {d : Drawn} {k : Nat} {m0 : Nat} {ann : Option Value}
  (e : opening p = plainProg p.main.scope.names) (f : ∀ s, fenceModules? p s = some s)
  (size : ∀ w : World, ((boot_heap w.params).isNs mainGlobals && (Array.mk [] : Array GenState).size == 0, (boot_heap w.params).objs.size, (boot_heap w.params).nsMap mainGlobals "__annotations__") = (true, m0, ann))
  (run : ∀ (w : World) (os : OsState), topRun treeTable p w m0 ann M ⟨boot_heap w.params, Array.mk [], boot_drawn, boot_toks, os⟩ (topStub p) = some (SharedT.abs ⟨T w.params, n, life, Array.mk [], d, k, os⟩))
  (h1 : ∀ (w : World) (os : OsState), looksF p (boot_heap w.params) (SharedT.abs ⟨T w.params, n, life, Array.mk [], d, k, os⟩) = true)
  (h2 : ∀ (w : World) (os : OsState), seenQ q loose (importedModules p.main.body) Xt (SharedT.abs ⟨T w.params, n, life, Array.mk [], d, k, os⟩) = openGood q loose)
  (h3 : ∀ (w : World) (os : OsState), Yf (SharedT.abs ⟨T w.params, n, life, Array.mk [], d, k, os⟩) = Ya w) : LeftO p q loose Xt Yf Ya (M + 600) true :=
 LeftO.of_pieces (H₀ := boot_heap) (H₁ := fun P => absHeap (T P) n life) (gs₀ := Array.mk []) (gs₁ := Array.mk []) (d₀ := boot_drawn) (d₁ := d) (k₀ := boot_toks) (k₁ := k) (m₀ := m0) (ann := ann) (M := M)
  (boot_open e (Nat.ble_eq_true_of_le (by omega)) f) size run (Nat.ble_eq_true_of_le (by omega))
  fun w => funext fun os => Prod.ext (h1 w os) (Prod.ext ((seenQ_eq _ _ _ _ _).trans (h2 w os)) (h3 w os))
theorem head_seg {r : OpenRow} {q : Program} {H : Hook} {N : Nat} {loose : List PySem.Str} {d : DefRec} {kwd : List (PySem.Str × PySem.Expr)} (left : LeftO r.prog q loose (fun s => xlAt q [] s && recOk r.toRowW.records s) H.obs H.val N true)
  (hdef : defOf q r.name = some (d, kwd)) (hp : r.prog.theDef r.name = some (d.params, d.body, d.scope)) (hk : kwWritten? d.params.kwonlyargs d.params.kw_defaults = some kwd)
  (hwr : (!r.writes || r.records.isEmpty) = true) (k1 : r.wellSaid = true) (ok : (chainsOk q && opensWell r.prog && (frees r.toRowW && r.within.isEmpty)) = true) (hb : r.prog.bare) (hw : r.toRowW.promised)
  (call : WalkO q loose (XL q []) H.says r.toRowW d kwd fun f vs => PySem.call f vs) : r.Holds :=
 holds_open left H.of H.keeps (fun s z => xl_of s (Bool.and_eq_true_iff.mp z).1) XL.keeps hdef hp hk (fun s z => recFacts_of (Bool.and_eq_true_iff.mp z).2) hwr k1 ok hb hw call
end Hx
namespace L53.Tp
open PySem PySem.W PySem.Calls PyProof.Rows L2 Hx
noncomputable section
def tp (i : Nat) : Stmt := PySem.Challenge.pw_hueshade_k53_deeds_as_texts.main.body.getD i (.Pass ⟨0, 0, 0, 0⟩)
def v3 (P : Params) (a0 : Str) (a1 : Nat) (a2 : Nat) : Obj := ⟨(.type "dict"), none, (.dict (Array.mk (List.take a2 [⟨(PyData.keyHash P "__name__"), (.str "__name__" 165), (.str a0 a1)⟩, ⟨(PyData.keyHash P "__doc__"), (.str "__doc__" 166), .none⟩, ⟨(PyData.keyHash P "__package__"), (.str "__package__" 167), .none⟩, ⟨(PyData.keyHash P "__loader__"), (.str "__loader__" 168), (.builtin "__main__.__loader__#opaque")⟩, ⟨(PyData.keyHash P "__spec__"), (.str "__spec__" 169), .none⟩, ⟨(PyData.keyHash P "__annotations__"), (.str "__annotations__" 170), (.ref 6)⟩, ⟨(PyData.keyHash P "__builtins__"), (.str "__builtins__" 171), (.ref 4)⟩, ⟨(PyData.keyHash P "__file__"), (.str "__file__" 173), (.str "/claim/cut.py" 172)⟩, ⟨(PyData.keyHash P "__cached__"), (.str "__cached__" 174), .none⟩, ⟨(PyData.keyHash P "ShadeError"), (.str "ShadeError" 206), (.ref 24)⟩, ⟨(PyData.keyHash P "BadText"), (.str "BadText" 233), (.ref 45)⟩, ⟨(PyData.keyHash P "LENGTHS"), (.str "LENGTHS" 267), (.ref 48)⟩, ⟨(PyData.keyHash P "FIGURES"), (.str "FIGURES" 271), (.str "0123456789" 270)⟩, ⟨(PyData.keyHash P "MOST_FIGURES"), (.str "MOST_FIGURES" 273), (.int 9 272)⟩, ⟨(PyData.keyHash P "number_in"), (.str "number_in" 279), (.ref 53)⟩, ⟨(PyData.keyHash P "numbers_in"), (.str "numbers_in" 285), (.ref 58)⟩, ⟨(PyData.keyHash P "row_text"), (.str "row_text" 291), (.ref 63)⟩, ⟨(PyData.keyHash P "deed_rows"), (.str "deed_rows" 297), (.ref 68)⟩, ⟨(PyData.keyHash P "deed_text"), (.str "deed_text" 304), (.ref 75)⟩, ⟨(PyData.keyHash P "choices_in"), (.str "choices_in" 310), (.ref 80)⟩, ⟨(PyData.keyHash P "row_in"), (.str "row_in" 322), (.ref 87)⟩, ⟨(PyData.keyHash P "many_in"), (.str "many_in" 333), (.ref 94)⟩, ⟨(PyData.keyHash P "deed_in"), (.str "deed_in" 345), (.ref 101)⟩, ⟨(PyData.keyHash P "read_deed"), (.str "read_deed" 355), (.ref 108)⟩, ⟨(PyData.keyHash P "_law_bag"), (.str "_law_bag" 366), (.ref 115)⟩, ⟨(PyData.keyHash P "_law_pull"), (.str "_law_pull" 377), (.ref 122)⟩, ⟨(PyData.keyHash P "_law_one"), (.str "_law_one" 385), (.ref 129)⟩, ⟨(PyData.keyHash P "_law_same"), (.str "_law_same" 391), (.ref 134)⟩, ⟨(PyData.keyHash P "_law_wide_number"), (.str "_law_wide_number" 399), (.ref 141)⟩, ⟨(PyData.keyHash P "_law_word"), (.str "_law_word" 406), (.ref 148)⟩, ⟨(PyData.keyHash P "_law_wide_deed"), (.str "_law_wide_deed" 412), (.ref 153)⟩, ⟨(PyData.keyHash P "_law_row_text"), (.str "_law_row_text" 418), (.ref 158)⟩, ⟨(PyData.keyHash P "_law_is_plain"), (.str "_law_is_plain" 425), (.ref 165)⟩, ⟨(PyData.keyHash P "law"), (.str "law" 431), (.ref 170)⟩])) a2), Array.mk []⟩
def v12 (P : Params) (a0 : Nat) : Obj := ⟨.none, none, (.fields (Array.mk (List.take a0 [(.int 2 0), (.int 0 0), (.ref 20), (.int 4 0), (.int 0 0), (.ref 33), (.int 13 0), (.int 0 0), (.ref 52), (.int 20 0), (.int 0 0), (.ref 57), (.int 23 0), (.int 0 0), (.ref 62), (.int 30 0), (.int 0 0), (.ref 67), (.int 33 0), (.int 0 0), (.ref 74), (.int 35 0), (.int 0 0), (.ref 79), (.int 41 0), (.int 0 0), (.ref 86), (.int 58 0), (.int 0 0), (.ref 93), (.int 62 0), (.int 0 0), (.ref 100), (.int 77 0), (.int 0 0), (.ref 107), (.int 84 0), (.int 0 0), (.ref 114), (.int 89 0), (.int 0 0), (.ref 121), (.int 105 0), (.int 0 0), (.ref 128), (.int 107 0), (.int 0 0), (.ref 133), (.int 117 0), (.int 0 0), (.ref 140), (.int 120 0), (.int 0 0), (.ref 147), (.int 122 0), (.int 0 0), (.ref 152), (.int 135 0), (.int 0 0), (.ref 157), (.int 139 0), (.int 0 0), (.ref 164), (.int 145 0), (.int 0 0), (.ref 169)]))), Array.mk []⟩
def k0 : Obj := ⟨(.type "tuple"), none, (.seq (Array.mk []) 0), Array.mk []⟩
def k1 (x0 : Str) (x1 : Int) (x2 : Int) (x3 : Nat) (x4 : Nat) : Obj := ⟨(.type "code"), none, (.fields (Array.mk [(.str x0 x4), (.str x0 (Nat.add x4 1)), (.str "/claim/cut.py" (Nat.add x4 2)), (.int x1 0), (.int 0 0), (.int 0 0), (.int 0 0), (.int 0 0), (.ref x3), (.bool false), (.int 181 0), (.ref (Nat.add x3 1)), .none, .none, .none, .none, (.int x2 0), (.int x1 0), (.str "/claim/cut.py" (Nat.add x4 4))])), Array.mk []⟩
def k2 (x0 : Str) (x1 : Nat) (x2 : Nat) (x3 : Nat) : Obj := ⟨(.type "frame"), none, .plain, Array.mk [(some (.ref x2)), (some (.ref 3)), (some (.ref x1)), none, (some (.str x0 x3)), none, (some (.ref 0))]⟩
def k3 : Obj := ⟨(.type "builtin_function_or_method"), none, (.fields (Array.mk [(.builtin "type.__prepare__"), (.type "type")])), Array.mk []⟩
def k4 : Obj := ⟨.none, none, (.fields (Array.mk [])), Array.mk []⟩
def k5 (P : Params) (x0 : Int) (x1 : Str) (x2 : Str) (x3 : Nat) (x4 : Nat) (x5 : Nat) (x6 : Nat) (x7 : Nat) : Obj := ⟨(.type "dict"), none, (.dict (Array.mk [⟨(PyData.keyHash P "__module__"), (.str "__module__" (Nat.add x5 171)), (.str "hueshade.errors" 187)⟩, ⟨(PyData.keyHash P "__firstlineno__"), (.str "__firstlineno__" (Nat.add x5 175)), (.int x0 (Nat.add x5 174))⟩, ⟨(PyData.keyHash P x1), (.str x1 x6), (.ref x4)⟩, ⟨(PyData.keyHash P x2), (.str x2 x7), (.ref x5)⟩, ⟨(PyData.keyHash P "__doc__"), (.str "__doc__" (Nat.add x7 1)), .none⟩]) x3), Array.mk []⟩
def k6 (x0 : Nat) : Obj := ⟨(.type "super"), none, (.fields (Array.mk [(.ref x0), (.ref x0), (.ref x0)])), Array.mk []⟩
def k7 (x0 : Nat) : Obj := ⟨(.type "builtin_function_or_method"), none, (.fields (Array.mk [(.builtin "object.__init_subclass__"), (.ref x0)])), Array.mk []⟩
def k8 (x0 : Str) (x1 : Str) (x2 : Nat) : Obj := ⟨(.type "tuple"), none, (.seq (Array.mk [(.str x0 x2), (.str x1 (Nat.add x2 1))]) 0), Array.mk []⟩
def k9 (x0 : Str) (x1 : Str) (x2 : Stmt) : Obj := ⟨.none, none, (.func ⟨x0, x1, defArgs x2, .stmts (defBody x2), defScope x2, 0, [], .none, .none, .none, .none, none, .none, .none, 0⟩), Array.mk []⟩
def k10 (x0 : Str) (x1 : Str) (x2 : Int) (x3 : Int) (x4 : Int) (x5 : Nat) (x6 : Nat) (x7 : Nat) : Obj := ⟨(.type "code"), none, (.fields (Array.mk [(.str x0 x6), (.str x1 (Nat.add x6 1)), (.str "/claim/cut.py" (Nat.add x6 2)), (.int x2 0), (.int x3 0), (.int 0 0), (.int 0 0), (.int 3 0), (.ref x5), (.bool true), (.int 181 0), (.ref (Nat.add x5 1)), .none, (.ref (Nat.add x5 2)), (.ref (Nat.add x5 3)), (.ref (Nat.add x5 4)), (.int x4 0), (.int x2 0), (.str "/claim/cut.py" x7)])), Array.mk []⟩
def k11 (x0 : Str) (x1 : Int) (x2 : Int) (x3 : Int) (x4 : Nat) (x5 : Nat) : Obj := ⟨(.type "code"), none, (.fields (Array.mk [(.str x0 x5), (.str x0 (Nat.add x5 1)), (.str "/claim/cut.py" (Nat.add x5 2)), (.int x1 0), (.int x2 0), (.int 0 0), (.int 0 0), (.int 3 0), (.ref x4), (.bool true), (.int 181 0), (.ref (Nat.add x4 1)), .none, .none, .none, (.ref (Nat.add x4 2)), (.int x3 0), (.int x1 0), (.str "/claim/cut.py" (Nat.add x5 4))])), Array.mk []⟩
def k12 (x0 : Str) (x1 : Stmt) (x2 : Str) (x3 : Nat) (x4 : Nat) : Obj := ⟨(.type "function"), none, (.func ⟨x0, x0, defArgs x1, .stmts (defBody x1), defScope x1, 3, [], .none, .none, .none, (.str x2 x4), none, (.ref x3), .none, 0⟩), Array.mk []⟩
def k13 (x0 : Str) (x1 : Nat) : Obj := ⟨(.type "tuple"), none, (.seq (Array.mk [(.str x0 x1)]) 0), Array.mk []⟩
def k14 (x0 : Str) (x1 : Str) (x2 : Str) (x3 : Str) (x4 : Str) (x5 : Str) (x6 : Nat) : Obj := ⟨(.type "tuple"), none, (.seq (Array.mk [(.str x0 x6), (.str x1 (Nat.add x6 1)), (.str x2 (Nat.add x6 2)), (.str x3 (Nat.add x6 3)), (.str x4 (Nat.add x6 4)), (.str x5 (Nat.add x6 5))]) 0), Array.mk []⟩
def k15 (x0 : Str) (x1 : Str) (x2 : Str) (x3 : Str) (x4 : Str) (x5 : Nat) : Obj := ⟨(.type "tuple"), none, (.seq (Array.mk [(.str x0 x5), (.str x1 (Nat.add x5 1)), (.str x2 (Nat.add x5 2)), (.str x3 (Nat.add x5 3)), (.str x4 (Nat.add x5 4))]) 0), Array.mk []⟩
def t0 (P : Params) : BT := (.node (boot_o_7 P) (.node (⟨(.type "tuple"), none, (.seq (Array.mk [(.type "ValueError")]) 0), Array.mk []⟩ : Obj) (.node (k0) (.node (k12 "row_text" (tp 9) "hueshade.texts" 62 268) (.node (k9 "_law_one" "_law_one" (tp 20)) .nil .nil) .nil) (.node (k0) (.node (k0) .nil .nil) .nil)) (.node (k7 45) (.node (k11 "choices_in" 35 1 308 76 305) (.node (k4) .nil .nil) .nil) (.node (⟨(.type "tuple"), none, (.seq (Array.mk [(.str "_law_script" 361), (.str "_law_salt" 362), (.str "_law_cell" 363)]) 0), Array.mk []⟩ : Obj) .nil .nil))) (.node (k5 P 2 "__static_attributes__" "__weakref__" 3 22 25 201 203) (.node (k0) (.node (k13 "deed" 301) (.node (k0) .nil .nil) .nil) (.node (k4) (.node (k4) .nil .nil) .nil)) (.node (k4) (.node (k12 "row_in" (tp 13) "hueshade.texts" 86 268) (.node (k9 "_law_wide_deed" "_law_wide_deed" (tp 24)) .nil .nil) .nil) (.node (k0) .nil .nil))))
def t1 (P : Params) : BT := (.node (k0) (.node (k4) (.node (⟨(.type "tuple"), none, (.seq (Array.mk [(.int 0 219)]) 0), Array.mk []⟩ : Obj) (.node (k11 "deed_rows" 30 1 295 64 292) (.node (k4) .nil .nil) .nil) (.node (k9 "deed_in" "deed_in" (tp 15)) (.node (k9 "_law_is_plain" "_law_is_plain" (tp 26)) .nil .nil) .nil)) (.node (k9 "number_in" "number_in" (tp 7)) (.node (k14 "row" "words" "word" "choices" "numbers" "sift" 314) (.node (k10 "_law_word" "_law_word" 120 1 404 142 400 405) .nil .nil) .nil) (.node (k12 "_law_bag" (tp 18) "law_hueshade_k53_deeds_as_texts" 114 356) .nil .nil))) (.node (k7 24) (.node (k8 "row" "word" 228) (.node (k12 "deed_text" (tp 11) "hueshade.texts" 74 268) (.node (k9 "_law_wide_number" "_law_wide_number" (tp 22)) .nil .nil) .nil) (.node (k10 "read_deed" "read_deed" 77 1 353 102 346 354) .nil .nil)) (.node (k0) (.node (k0) (.node (k4) .nil .nil) .nil) (.node (k0) .nil .nil))))
def t2 (P : Params) (b3 : Obj) : BT := (.node b3 (t0 P) (t1 P))
def t3 (P : Params) : BT := (.node (boot_o_9 P) (.node (⟨(.type "dict"), none, (.dict (Array.mk [⟨(PyData.keyHash P "__module__"), (.str "__module__" 196), (.str "hueshade.errors" 187)⟩, ⟨(PyData.keyHash P "__qualname__"), (.str "__qualname__" 198), (.str "ShadeError" 197)⟩, ⟨(PyData.keyHash P "__firstlineno__"), (.str "__firstlineno__" 200), (.int 2 199)⟩, ⟨(PyData.keyHash P "__static_attributes__"), (.str "__static_attributes__" 201), (.ref 22)⟩]) 4), Array.mk []⟩ : Obj) (.node (k1 "BadText" 4 212 31 209) (.node (k4) (.node (k12 "_law_one" (tp 20) "law_hueshade_k53_deeds_as_texts" 128 356) .nil .nil) .nil) (.node (k14 "rows" "at" "many" "deed" "found" "place" 337) (.node (k13 "_law_deed" 422) .nil .nil) .nil)) (.node (k0) (.node (k0) (.node (k0) .nil .nil) .nil) (.node (k9 "_law_bag" "_law_bag" (tp 18)) .nil .nil))) (.node (⟨(.type "getset_descriptor"), none, (.fields (Array.mk [(.str "__weakref__" 202), (.ref 24), (.builtin "ExceptionGroup.__weakref__"), .none])), Array.mk []⟩ : Obj) (.node (k10 "__init__" "BadText.__init__" 6 2 225 36 220 226) (.node (k9 "deed_text" "deed_text" (tp 11)) (.node (k8 "_law_bag_here" "_law_number" 395) .nil .nil) .nil) (.node (k0) (.node (k11 "law" 145 1 429 166 426) .nil .nil) .nil)) (.node (k11 "numbers_in" 20 1 283 54 280) (.node (k4) (.node (k12 "_law_wide_deed" (tp 24) "law_hueshade_k53_deeds_as_texts" 152 356) .nil .nil) .nil) (.node (k10 "_law_pull" "_law_pull" 89 2 375 116 367 376) .nil .nil))))
def t4 (P : Params) : BT := (.node (k1 "<module>" 1 185 11 182) (.node (k2 "hueshade.errors" 17 20 187) (.node (k4) (.node (k0) (.node (k11 "_law_same" 107 2 389 130 386) .nil .nil) .nil) (.node (k12 "deed_in" (tp 15) "hueshade.texts" 100 268) (.node (k12 "_law_is_plain" (tp 26) "law_hueshade_k53_deeds_as_texts" 164 356) .nil .nil) .nil)) (.node (k12 "number_in" (tp 7) "hueshade.texts" 52 268) (.node (k9 "row_in" "row_in" (tp 13)) (.node (k0) .nil .nil) .nil) (.node (k4) .nil .nil))) (.node (k3) (.node (⟨(.type "type"), none, (.cls ⟨"BadText", [(.ref 24)], [(.ref 45), (.ref 24), (.type "ValueError"), (.type "Exception"), (.type "BaseException"), (.type "object")], 44, "BadText", true, [], [], false, none, false⟩), Array.mk [(some (.ref 28)), none, (some (.str "BadText" 207)), (some (.str "BadText" 215)), (some (.builtin "ValueError.__new__")), (some (.bool true))]⟩ : Obj) (.node (k4) (.node (k12 "_law_wide_number" (tp 22) "law_hueshade_k53_deeds_as_texts" 140 356) .nil .nil) .nil) (.node (k0) .nil .nil)) (.node (k9 "row_text" "row_text" (tp 9)) (.node (k10 "many_in" "many_in" 58 1 331 88 323 332) (.node (k11 "_law_row_text" 135 1 416 154 413) .nil .nil) .nil) (.node (k8 "_law_bag_here" "_law_some" 381) .nil .nil))))
def t5 (P : Params) : BT := (.node (boot_o_5 P) (t3 P) (t4 P))
def t6 (P : Params) (b3 : Obj) : BT := (.node (boot_o_1 P) (t2 P b3) (t5 P))
def t7 (P : Params) : BT := (.node (boot_o_8 P) (.node (k3) (.node (⟨.none, none, (.fields (Array.mk [(.int 6 0), (.int 4 0), (.ref 41)])), Array.mk []⟩ : Obj) (.node (k0) (.node (k10 "_law_one" "_law_one" 105 2 383 123 378 384) .nil .nil) .nil) (.node (k4) (.node (k4) .nil .nil) .nil)) (.node (⟨(.type "dict"), none, (.dict (Array.mk [⟨(PyData.keyHash P "lamp"), (.str "lamp" 234), (.int 6 235)⟩, ⟨(PyData.keyHash P "unsure"), (.str "unsure" 236), (.int 2 237)⟩, ⟨(PyData.keyHash P "post"), (.str "post" 238), (.int 5 239)⟩, ⟨(PyData.keyHash P "pane"), (.str "pane" 240), (.int 6 241)⟩, ⟨(PyData.keyHash P "move"), (.str "move" 242), (.int 5 243)⟩, ⟨(PyData.keyHash P "switch"), (.str "switch" 244), (.int 2 245)⟩, ⟨(PyData.keyHash P "drop"), (.str "drop" 246), (.int 3 247)⟩, ⟨(PyData.keyHash P "look"), (.str "look" 248), (.int 6 249)⟩, ⟨(PyData.keyHash P "strike"), (.str "strike" 250), (.int 2 251)⟩, ⟨(PyData.keyHash P "settle"), (.str "settle" 252), (.int 3 253)⟩, ⟨(PyData.keyHash P "many"), (.str "many" 254), (.int 2 255)⟩]) 11), Array.mk []⟩ : Obj) (.node (k12 "choices_in" (tp 12) "hueshade.texts" 79 268) (.node (k13 "_law_bag_here" 403) .nil .nil) .nil) (.node (k0) .nil .nil))) (.node (⟨(.type "type"), none, (.cls ⟨"ShadeError", [(.type "ValueError")], [(.ref 24), (.type "ValueError"), (.type "Exception"), (.type "BaseException"), (.type "object")], 23, "ShadeError", true, [], [(.ref 45)], false, none, false⟩), Array.mk [(some (.ref 15)), none, (some (.str "ShadeError" 189)), (some (.str "ShadeError" 197)), (some (.builtin "ValueError.__new__")), (some (.bool true))]⟩ : Obj) (.node (k9 "__init__" "BadText.__init__" (inClass (tp 2) 0)) (.node (k0) (.node (k4) .nil .nil) .nil) (.node (⟨(.type "tuple"), none, (.seq (Array.mk [(.str "text" 349), (.str "rows" 350), (.str "deed" 351), (.str "end" 352)]) 0), Array.mk []⟩ : Obj) (.node (k9 "law" "law" (tp 27)) .nil .nil) .nil)) (.node (k9 "numbers_in" "numbers_in" (tp 8)) (.node (k0) (.node (k11 "_law_wide_deed" 122 1 410 149 407) .nil .nil) .nil) (.node (k9 "_law_pull" "_law_pull" (tp 19)) .nil .nil))))
def t8 (P : Params) (b12 : Obj) : BT := (.node b12 (.node (k1 "ShadeError" 2 194 18 191) (.node (k0) (.node (k12 "deed_rows" (tp 10) "hueshade.texts" 67 268) (.node (k9 "_law_same" "_law_same" (tp 21)) .nil .nil) .nil) (.node (k10 "deed_in" "deed_in" 62 2 343 95 334 344) (.node (k10 "_law_is_plain" "_law_is_plain" 139 1 423 159 419 424) .nil .nil) .nil)) (.node (k11 "number_in" 13 1 277 49 274) (.node (k0) (.node (k12 "_law_word" (tp 23) "law_hueshade_k53_deeds_as_texts" 147 356) .nil .nil) .nil) (.node (k0) .nil .nil))) (.node (⟨(.type "tuple"), none, (.seq (Array.mk [(.ref 24)]) 0), Array.mk []⟩ : Obj) (.node (k5 P 4 "__init__" "__static_attributes__" 2 42 43 227 230) (.node (k0) (.node (k10 "_law_wide_number" "_law_wide_number" 117 1 397 135 392 398) .nil .nil) .nil) (.node (k12 "read_deed" (tp 16) "hueshade.texts" 107 268) .nil .nil)) (.node (k4) (.node (k9 "many_in" "many_in" (tp 14)) (.node (k9 "_law_row_text" "_law_row_text" (tp 25)) .nil .nil) .nil) (.node (k4) .nil .nil))))
def t9 (P : Params) (b12 : Obj) : BT := (.node (boot_o_4 P) (t7 P) (t8 P b12))
def t10 (P : Params) : BT := (.node (boot_o_10 P) (.node (k0) (.node (k2 "hueshade.errors" 30 33 187) (.node (k9 "deed_rows" "deed_rows" (tp 10)) (.node (k0) .nil .nil) .nil) (.node (k0) (.node (k0) .nil .nil) .nil)) (.node (k4) (.node (k4) (.node (k9 "_law_word" "_law_word" (tp 23)) .nil .nil) .nil) (.node (k10 "_law_bag" "_law_bag" 84 1 364 109 358 365) .nil .nil))) (.node (k6 24) (.node (⟨(.type "function"), none, (.func ⟨"__init__", "BadText.__init__", defArgs (inClass (tp 2) 0), .stmts (defBody (inClass (tp 2) 0)), defScope (inClass (tp 2) 0), 3, [], (.ref 35), .none, .none, (.str "hueshade.errors" 187), none, (.ref 41), .none, 0⟩), Array.mk []⟩ : Obj) (.node (k10 "deed_text" "deed_text" 33 1 302 69 298 303) (.node (k0) .nil .nil) .nil) (.node (k9 "read_deed" "read_deed" (tp 16)) (.node (k12 "law" (tp 27) "law_hueshade_k53_deeds_as_texts" 169 356) .nil .nil) .nil)) (.node (k12 "numbers_in" (tp 8) "hueshade.texts" 57 268) (.node (k15 "row" "word" "mark" "rest" "many" 326) (.node (k0) .nil .nil) .nil) (.node (k12 "_law_pull" (tp 19) "law_hueshade_k53_deeds_as_texts" 121 356) .nil .nil))))
def t11 (P : Params) : BT := (.node (k2 "__main__" 3 13 164) (.node (k0) (.node (k8 "self" "row" 223) (.node (k4) (.node (k12 "_law_same" (tp 21) "law_hueshade_k53_deeds_as_texts" 133 356) .nil .nil) .nil) (.node (k0) (.node (k0) .nil .nil) .nil)) (.node (k0) (.node (k10 "row_in" "row_in" 41 1 320 81 311 321) (.node (k4) .nil .nil) .nil) (.node (k15 "_law_bag_here" "_law_many" "_law_cell" "_law_got" "_law_wider" 370) .nil .nil))) (.node (⟨(.type "dict"), none, (.dict (Array.mk [⟨(PyData.keyHash P "__module__"), (.str "__module__" 214), (.str "hueshade.errors" 187)⟩, ⟨(PyData.keyHash P "__qualname__"), (.str "__qualname__" 216), (.str "BadText" 215)⟩, ⟨(PyData.keyHash P "__firstlineno__"), (.str "__firstlineno__" 218), (.int 4 217)⟩, ⟨(PyData.keyHash P "__init__"), (.str "__init__" 227), (.ref 42)⟩, ⟨(PyData.keyHash P "__static_attributes__"), (.str "__static_attributes__" 230), (.ref 43)⟩]) 5), Array.mk []⟩ : Obj) (.node (k6 45) (.node (k9 "choices_in" "choices_in" (tp 12)) (.node (k0) .nil .nil) .nil) (.node (k4) .nil .nil)) (.node (k11 "row_text" 23 1 289 59 286) (.node (k12 "many_in" (tp 14) "hueshade.texts" 93 268) (.node (k12 "_law_row_text" (tp 25) "law_hueshade_k53_deeds_as_texts" 157 356) .nil .nil) .nil) (.node (k0) .nil .nil))))
def t12 (P : Params) : BT := (.node (boot_o_6 P) (t10 P) (t11 P))
def t13 (P : Params) (b12 : Obj) : BT := (.node (boot_o_2 P) (t9 P b12) (t12 P))
def t14 (P : Params) (b3 : Obj) (b12 : Obj) : BT := (.node (boot_o_0 P) (t6 P b3) (t13 P b12))
def fin (P : Params) : BT := t14 P (v3 P "law_hueshade_k53_deeds_as_texts" 356 34) (v12 P 66)
def env : PySem.Env := { scope := PySem.Challenge.pw_hueshade_k53_deeds_as_texts.main.scope, locals := mainNs, globals := mainNs, cells := [], code := .ref 13, frame := some 14 }
def bd : List Stmt := behindTheImports PySem.Challenge.pw_hueshade_k53_deeds_as_texts
def cc : Code := .body bd env
def hq : Pos := ⟨0, 0, 0, 0⟩
def an : Option Value := some (.ref 6)
def s0 (P : Params) (os : OsState) : SharedT := ⟨(cutT 15 (t14 P (v3 P "__main__" 164 9) (v12 P 0))), 15, {}, Array.mk [], {}, 187, os⟩
def s1 (P : Params) (os : OsState) : SharedT := ⟨(cutT 76 (t14 P (v3 P "hueshade.texts" 268 19) (v12 P 21))), 76, {}, Array.mk [], {}, 305, os⟩
def s2 (P : Params) (os : OsState) : SharedT := ⟨fin P, 171, {}, Array.mk [], {}, 432, os⟩
def g0 : List Stmt := (bd.drop 0).take 12
def g1 : List Stmt := (bd.drop 12).take 16
def p0 : Pos := ⟨0, 0, 0, 0⟩
def p1 : Pos := ⟨33, 0, 34, 37⟩
def p2 : Pos := ⟨145, 0, 159, 75⟩
theorem pre (w : World) (os : OsState) : topGo treeTable PySem.Challenge.pw_hueshade_k53_deeds_as_texts w 11 an 12 ⟨boot_heap w.params, Array.mk [], boot_drawn, boot_toks, os⟩ (topStub PySem.Challenge.pw_hueshade_k53_deeds_as_texts) = some ((s0 w.params os).abs, ⟨denote treeTable cc, cc, ⟨0, 0, 0, 0⟩, [topFrame hq]⟩) := by kernel_rfl
theorem blk (w : World) (os : OsState) : segQ (HandSHeadRun.stepQ (HandSHeadRun.denQ HandSHeadRun.tabQ) PySem.Challenge.pw_hueshade_k53_deeds_as_texts w) 11 an 1 1 (s0 w.params os) (blockOf bd env cc ⟨0, 0, 0, 0⟩ [topFrame hq]) = some (.next, s0 w.params os, cc, p0) := by kernel_rfl
theorem sg0F (w : World) (os : OsState) : segQ (HandSHeadRun.stepQ (HandSHeadRun.denQ HandSHeadRun.tabQ) PySem.Challenge.pw_hueshade_k53_deeds_as_texts (w.withFollow "special-get-raises" false)) 11 an 1 779 (s0 (w.withFollow "special-get-raises" false).params os) (piecesOf g0 env cc p0 [topFrame hq]) = some (.next, s1 (w.withFollow "special-get-raises" false).params os, cc, p1) := by kernel_rfl
theorem sg0T (w : World) (os : OsState) : segQ (HandSHeadRun.stepQ (HandSHeadRun.denQ HandSHeadRun.tabQ) PySem.Challenge.pw_hueshade_k53_deeds_as_texts (w.withFollow "special-get-raises" true)) 11 an 1 779 (s0 (w.withFollow "special-get-raises" true).params os) (piecesOf g0 env cc p0 [topFrame hq]) = some (.next, s1 (w.withFollow "special-get-raises" true).params os, cc, p1) := by kernel_rfl
theorem sg0 (w : World) (os : OsState) : segQ (HandSHeadRun.stepQ (HandSHeadRun.denQ HandSHeadRun.tabQ) PySem.Challenge.pw_hueshade_k53_deeds_as_texts w) 11 an 1 779 (s0 w.params os) (piecesOf g0 env cc p0 [topFrame hq]) = some (.next, s1 w.params os, cc, p1) := PySem.W.byRow2 "special-get-raises" (P := fun w => ∀ os : OsState, segQ (HandSHeadRun.stepQ (HandSHeadRun.denQ HandSHeadRun.tabQ) PySem.Challenge.pw_hueshade_k53_deeds_as_texts w) 11 an 1 779 (s0 w.params os) (piecesOf g0 env cc p0 [topFrame hq]) = some (.next, s1 w.params os, cc, p1)) (fun w os => sg0F w os) (fun w os => sg0T w os) w os
theorem sg1 (w : World) (os : OsState) : segQ (HandSHeadRun.stepQ (HandSHeadRun.denQ HandSHeadRun.tabQ) PySem.Challenge.pw_hueshade_k53_deeds_as_texts w) 11 an 1 455 (s1 w.params os) (piecesOf g1 env cc p1 [topFrame hq]) = some (.next, s2 w.params os, cc, p2) := by kernel_rfl
theorem fn (w : World) (os : OsState) : topRun treeTable PySem.Challenge.pw_hueshade_k53_deeds_as_texts w 11 an 3 (s2 w.params os).abs (restOf [] env cc p2 [topFrame hq]) = some (s2 w.params os).abs := by kernel_rfl
theorem bd_eq : bd = g0 ++ (g1 ++ []) := by kernel_rfl
theorem run (w : World) (os : OsState) : topRun treeTable PySem.Challenge.pw_hueshade_k53_deeds_as_texts w 11 an (12 + (1 + (779 + (455 + 3)))) ⟨boot_heap w.params, Array.mk [], boot_drawn, boot_toks, os⟩ (topStub PySem.Challenge.pw_hueshade_k53_deeds_as_texts) = some (s2 w.params os).abs := by
 refine go_top (pre w os) (seg_block (blk w os) ?_)
 have h := (seg_piece (sg0 w os) (seg_piece (sg1 w os) (fn w os)))
 rw [<- bd_eq] at h
 exact h
theorem size (w : World) : ((boot_heap w.params).isNs mainGlobals && (Array.mk [] : Array GenState).size == 0, (boot_heap w.params).objs.size, (boot_heap w.params).nsMap mainGlobals "__annotations__") = (true, 11, an) := by kernel_rfl
end
end L53.Tp
namespace Hx
open PySem PySem.Spec L2
open PyProof.Rows hiding St
def obsY1 (as : (Addr -> Option Obj) -> List Addr) (fa : List He.Fa) (fn : List He.DefD) (ts : List (Str × List Str)) (ex : PySem.W.Frag -> Bool) (g : Addr -> Option Obj) : He.AlD := He.obsD fa fn (He.frG g (as g))
def obsY2 (as : (Addr -> Option Obj) -> List Addr) (fa : List He.Fa) (fn : List He.DefD) (ts : List (Str × List Str)) (ex : PySem.W.Frag -> Bool) (g : Addr -> Option Obj) : Bool × List (Option (List (Option (Str × Int)))) :=
 (ex (He.frG g (as g)), ts.map fun t => He.dicW (He.frG g (as g)) (tblA (He.frG g (as g)) t.1))
theorem obs_two {as : (Addr -> Option Obj) -> List Addr} {fa : List He.Fa} {fn : List He.DefD} {ts : List (Str × List Str)} {ex : PySem.W.Frag -> Bool} {w : World} {g : Addr -> Option Obj}
  (h3 : obsY1 as fa fn ts ex g = (true, (He.valD fn).2)) (h4 : obsY2 as fa fn ts ex g = (true, ts.map fun t => some (He.keysIn w.params t.2))) : obsY as fa fn ts ex g = (hookY as fa fn ts ex).val w :=
 Prod.ext (Prod.ext h3 (congrArg (fun z => z.1) h4)) (congrArg (fun z => z.2) h4)
end Hx
namespace Hx
open PySem PySem.TablesWhole
theorem ws_app {top : Scope} {cx : TablesWhole.Ctx} {sc : Scope} : ∀ l m : List Stmt, wSs holds top cx sc (l ++ m) = (wSs holds top cx sc l && wSs holds top cx sc m)
 | [], m => rfl
 | s :: l, m => by
  show (wS holds top cx sc s && wSs holds top cx sc (l ++ m)) = ((wS holds top cx sc s && wSs holds top cx sc l) && wSs holds top cx sc m)
  rw [ws_app l m, Bool.and_assoc]
theorem ws_step {top : Scope} {cx : TablesWhole.Ctx} {sc : Scope} {l : List Stmt} {n : Nat} (h : wSs holds top cx sc (l.take n) = true) (r : wSs holds top cx sc (l.drop n) = true) : wSs holds top cx sc l = true := by
 rw [<- List.take_append_drop n l, ws_app, h, r]; rfl
theorem ws_nil {top : Scope} {cx : TablesWhole.Ctx} {sc : Scope} {l : List Stmt} (h : l = []) : wSs holds top cx sc l = true := by subst h; rfl
theorem bare_of {p : Program} {told : List Str} (h1 : p.modules = []) (h2 : p.parses = []) (h3 : p.absent = []) (h4 : p.harvested = []) (h5 : p.given = { environ := some PySem.Program.claimEnviron })
  (ht : wSs gather p.main.scope ⟨p.main.scope, [], [], [], none⟩ p.main.scope p.main.body = told) (hn : noTwice p.main.scope = true)
  (hw : wSs holds p.main.scope ⟨p.main.scope, [], told, [], none⟩ p.main.scope p.main.body = true) : p.bare := by
 refine ⟨h1, h2, h3, h4, h5, ?_⟩
 show (wModule holds p.main && (Alg.all holds (p.modules.map fun (_, _, m) => wModule holds m) && (Alg.all holds (p.parses.map (wParse holds)) && (Alg.all holds (p.harvested.map (wParse holds)) && true)))) = true
 rw [h1, h2, h4]
 show (wModule holds p.main && (true && (true && (true && true)))) = true
 have : wModule holds p.main = true := by
  show (true && (noTwice p.main.scope && (wSs holds p.main.scope ⟨p.main.scope, [], wSs gather p.main.scope ⟨p.main.scope, [], [], [], none⟩ p.main.scope p.main.body, [], none⟩ p.main.scope p.main.body && true))) = true
  rw [ht, hn, hw]; rfl
 rw [this]; rfl
end Hx
namespace Hx
open PySem PySem.Spec L2
open PyProof.Rows hiding St
theorem init_okD {dvs : List V} {S : Sx} {qual : Str} {params : Arguments} {body : List Stmt} {sc : Scope} {f C : Addr} {fd : FuncData} {N ps fl : List Str} {w g : Str} (F : FunD S.G.K "__init__" qual params body sc dvs [] f fd) (Sc : FnScope N ps sc) (T : XCls S.G.K C) (hN : N = ps) (hps : ps.length = fl.length + 1)
  (ht : ∀ x ∈ g :: fl, PySem.W.takerIn S.G.K C x = some none) (hfl : fl.length <= 800)
  (hr : ∀ cdv A outer s H E, RowsX (cxOf (L2.CX S.P S.w) S.P S.w S.G.K S.mg S.base N qual sc f cdv A outer s H E) body ((g, tC (.str w)) :: WA 1 fl)) :
  FnOk S.P S.w S.G.K S.mg S.base (L2.CX S.P S.w) 1 f fd ps (spX C fl.length (g :: fl) (fun r => .str w :: r)) := by
 refine F.ok (k := 0) Sc (fun vs H Q E ⟨a, rest, e, hl, _⟩ => by rw [e, hps]; simp [hl]) fun cdv A outer s H vs Q E hroom h => ?_
 obtain ⟨a, rest, e, hl, ha, hq⟩ := h
 subst e hN
 have st : L2.start N (V.ref a :: rest) = some (V.ref a) :: rest.map some := by
  unfold L2.start
  have : N.length - (V.ref a :: rest).length = 0 := by simp [hps, hl]
  rw [this]; simp
 refine ⟨tRows S.G.K ((g, tC (.str w)) :: WA 1 fl), rows_pss (hr cdv A outer s H E), ?_⟩
 rw [st]
 refine rows_first (C := C) (a := a) (v := .str w) (vs := rest) T rfl (by rw [Uv, hl]) (fun i f' te v e1 e2 H Q q => ?_) (fun x hx => ?_) ha (by rw [Uv]; exact hfl) fun dx n ne => ?_
 ·cases i with
  | zero => cases e1; cases e2; exact q
  | succ i =>
   obtain ⟨h1, h2⟩ := ZbX (show (WA 1 fl)[i]? = some (f', te) from by simpa using e1)
   rw [h1]
   refine ⟨v, ?_, q⟩
   have e2 : rest[i]? = some v := by simpa using e2
   show (some (V.ref a) :: rest.map some)[1 + i]? = _
   rw [Nat.add_comm, List.getElem?_cons_succ, List.getElem?_map, e2]; rfl
 ·refine ht x.1 ?_
  rcases List.mem_cons.mp hx with e | hx
  ·rw [e]; exact List.mem_cons_self
  ·have : x.1 ∈ (WA 1 fl).map (·.1) := List.mem_map.mpr ⟨x, hx, rfl⟩
   rw [Uy] at this
   exact List.mem_cons_of_mem _ this
 ·have e1 : (((g, tC (.str w)) :: WA 1 fl).map (·.1)) = g :: fl := by rw [List.map_cons, Uy]
  rw [e1]
  exact hq dx n ne
section
variable {fa : List He.Fa} {fn : List He.DefD} {P : Program} {w : World} {K : PySem.W.Frag} {h : Heap} {mg : Str -> Option Value} {base : Heap} {xs rs : List Nat} {own : List Str}
theorem xr_ofD (c : He.SaysD fa fn K) (X : K.In h) (Gn : h.Ns mainGlobals mg) (hx : xsB xs rs K = true) {x qual wd g : Str} {k : Nat} {st : Stmt} {N ps fl : List Str} {dfl : List D} (hk : rs.contains k = true) (hxn : XNM k = x) (i j m : Nat)
  (hd : fn[i]? = some ⟨(x, some "__init__"), "__init__", qual, defArgs st, defBody st, defScope st, dfl.map dvOf, []⟩) (hdn : dfl ≠ []) (hf : fa[j]? = some (.glo x)) (hm : fa[m]? = some (.meth x "__init__"))
  (hfl : XFL k = g :: fl) (nd : (XFL k).Nodup) (Sc : FnScope N ps (defScope st)) (hN : N = ps) (hps : ps.length = fl.length + 1) (hl : fl.length <= 800)
  (hb : ∀ (T : Addr) (kV doc pm : Value) (an : Option Addr) (cdv ct : Value) (us its : List Value), us.length = ps.length -> its.length = dfl.length ->
   ∃ k, bindArgs (PySem.W.fnOf "__init__" qual (defArgs st) (defBody st) (defScope st) (.ref T) kV doc pm an cdv ct) ⟨us, []⟩ = seqItems? (.ref T) >>= k ∧ k (some its.toArray) = pure (ps.zip (us ++ its.drop dfl.length)))
  (hr : ∀ (f : Addr) cdv A outer s H E, RowsX (cxOf (L2.CX P w) P w K mg base N qual (defScope st) f cdv A outer s H E) (defBody st) ((g, tC (.str wd)) :: WA 1 fl)) : XR (S1 P w K mg base xs own) x k fl.length wd := by
 subst hxn
 obtain ⟨fd, F⟩ := c.def_ i hd
 have F' : FunD K "__init__" qual (defArgs st) (defBody st) (defScope st) ((dfl.map dvOf).map (He.Dv.v K)) [] (He.ma K (He.ga K (XNM k)) "__init__") fd := F
 rw [dv_v] at F'
 unfold xsB at hx
 rw [Bool.and_eq_true] at hx
 have z := List.all_eq_true.mp hx.2 k (by simpa using hk)
 simp only [Bool.and_eq_true, List.all_eq_true, decide_eq_true_eq] at z
 have M := He.meth_ok (c.fact m hm)
 have T : XCls K (He.ga K (XNM k)) := xcls_of z.2.1
 have q := init_okD (S := S1 P w K mg base xs own) (C := He.ga K (XNM k)) (w := wd) (g := g) (fl := fl) F' Sc T hN hps (fun x hx => z.2.2 x (by rw [hfl]; exact hx)) hl (hr _)
 obtain ⟨ds, vd, bd⟩ := F'.binds1 (ps := ps) ps.length dfl.length (by simpa using hdn) (by simp) fun T kV doc pm an cdv ct us its hu hi => hb T kV doc pm an cdv ct us its hu (by simpa using hi)
 have ed : ds = [] := by
  have e : (dfl.map scV).drop dfl.length = [] := List.drop_eq_nil_of_le (by simp)
  rw [e] at vd
  cases vd
  rfl
 subst ed
 refine ⟨by simpa using z.1, He.glo_ok X Gn (c.fact j hf), T, nd, congrArg List.length hfl, _, fd, ps, M.at_, beq_iff_eq.mp M.fn, ?_, bd⟩
 rw [show (S1 P w K mg base xs own).G.fld k = g :: fl from hfl]
 exact q
end
end Hx
namespace L53
open PySem PySem.Spec L2 Hx
open PyProof.Rows hiding St
def Zau : He.DefD := ⟨("number_in", none), "number_in", "number_in", defArgs (top 7), defBody (top 7), defScope (top 7), [], []⟩
def Zab : He.DefD := ⟨("numbers_in", none), "numbers_in", "numbers_in", defArgs (top 8), defBody (top 8), defScope (top 8), [], []⟩
def Zbs : He.DefD := ⟨("row_text", none), "row_text", "row_text", defArgs (top 9), defBody (top 9), defScope (top 9), [], []⟩
def Zaw : He.DefD := ⟨("deed_rows", none), "deed_rows", "deed_rows", defArgs (top 10), defBody (top 10), defScope (top 10), [], []⟩
def Zav : He.DefD := ⟨("deed_text", none), "deed_text", "deed_text", defArgs (top 11), defBody (top 11), defScope (top 11), [], []⟩
def Zad : He.DefD := ⟨("choices_in", none), "choices_in", "choices_in", defArgs (top 12), defBody (top 12), defScope (top 12), [], []⟩
def Zdc : He.DefD := ⟨("row_in", none), "row_in", "row_in", defArgs (top 13), defBody (top 13), defScope (top 13), [], []⟩
def ZbQ : He.DefD := ⟨("many_in", none), "many_in", "many_in", defArgs (top 14), defBody (top 14), defScope (top 14), [], []⟩
def ZbV : He.DefD := ⟨("deed_in", none), "deed_in", "deed_in", defArgs (top 15), defBody (top 15), defScope (top 15), [], []⟩
def ZaK : He.DefD := ⟨("read_deed", none), "read_deed", "read_deed", defArgs (top 16), defBody (top 16), defScope (top 16), [], []⟩
def ZdH : He.DefD := ⟨("_law_bag", none), "_law_bag", "_law_bag", defArgs (top 18), defBody (top 18), defScope (top 18), [], []⟩
def Zdi : He.DefD := ⟨("_law_pull", none), "_law_pull", "_law_pull", defArgs (top 19), defBody (top 19), defScope (top 19), [], []⟩
def ZdJ : He.DefD := ⟨("_law_one", none), "_law_one", "_law_one", defArgs (top 20), defBody (top 20), defScope (top 20), [], []⟩
def Zdd : He.DefD := ⟨("_law_same", none), "_law_same", "_law_same", defArgs (top 21), defBody (top 21), defScope (top 21), [], []⟩
def VJ : He.DefD := ⟨("_law_wide_number", none), "_law_wide_number", "_law_wide_number", defArgs (top 22), defBody (top 22), defScope (top 22), [], []⟩
def Zdj : He.DefD := ⟨("_law_word", none), "_law_word", "_law_word", defArgs (top 23), defBody (top 23), defScope (top 23), [], []⟩
def UE : He.DefD := ⟨("_law_wide_deed", none), "_law_wide_deed", "_law_wide_deed", defArgs (top 24), defBody (top 24), defScope (top 24), [], []⟩
def Zaf : He.DefD := ⟨("_law_row_text", none), "_law_row_text", "_law_row_text", defArgs (top 25), defBody (top 25), defScope (top 25), [], []⟩
def Zac : He.DefD := ⟨("_law_is_plain", none), "_law_is_plain", "_law_is_plain", defArgs (top 26), defBody (top 26), defScope (top 26), [], []⟩
def Zeq : He.DefD := ⟨("law", none), "law", "law", defArgs (top 27), defBody (top 27), defScope (top 27), [], []⟩
def VS : Stmt := inClass (top 2) 0
def ZbF : He.DefD := ⟨("BadText", some "__init__"), "__init__", "BadText.__init__", defArgs VS, defBody VS, defScope VS, [.int 0].map dvOf, []⟩
def hfn : List He.DefD := [Zau, Zab, Zbs, Zaw, Zav, Zad, Zdc, ZbQ, ZbV, ZaK, ZdH, Zdi, ZdJ, Zdd, VJ, Zdj, UE, Zaf, Zac, Zeq, ZbF]
def hfa : List He.Fa := ([.glo "number_in", .glo "numbers_in", .glo "row_text", .glo "deed_rows", .glo "deed_text", .glo "choices_in", .glo "row_in", .glo "many_in", .glo "deed_in", .glo "read_deed", .glo "_law_bag", .glo "_law_pull", .glo "_law_one", .glo "_law_same", .glo "_law_wide_number", .glo "_law_word", .glo "_law_wide_deed", .glo "_law_row_text", .glo "_law_is_plain", .glo "law", .free "all", .free "bool", .free "int", .free "isinstance", .free "len", .free "list", .free "min", .free "range", .free "str", .free "tuple", .glo "BadText", .meth "BadText" "__init__"] : List He.Fa)
def hts : List (Str × List Str) := [("LENGTHS", ["lamp", "unsure", "post", "pane", "move", "switch", "drop", "look", "strike", "settle", "many"])]
def moreB (K : PySem.W.Frag) : Bool := tbB "LENGTHS" ZA K && (true)
def hcs : List (Str × D) := [("MOST_FIGURES", .int 9), ("FIGURES", .str "0123456789")]
def exB (K : PySem.W.Frag) : Bool := ZaM hcs K && (xsB [15] [15] K && (tabsB [] K && moreB K))
def hloose : List Str := (["ShadeError", "BadText", "LENGTHS", "FIGURES", "MOST_FIGURES", "number_in", "numbers_in", "row_text", "deed_rows", "deed_text", "choices_in", "row_in", "many_in", "deed_in", "read_deed", "_law_bag", "_law_pull", "_law_one", "_law_same", "_law_wide_number", "_law_word", "_law_wide_deed", "_law_row_text", "_law_is_plain"] : List Str)
abbrev hR : PySem.W.OpenRow := PySem.W.OpenLaw.row PySem.Challenge.rw_hueshade_k53_deeds_as_texts
def has (q : Addr -> Option Obj) : List Addr := noTab q (He.asD q 4)
abbrev hH : PySem.W.Hook := hookY has hfa hfn hts exB
def hob (s : PySem.W.SharedT) : AlY := obsY has hfa hfn hts exB (HandSHeadRun.getT s)
theorem hob_eq (s : PySem.W.SharedT) : hob s = hH.obs s.abs := obsY_eq (HandSHeadRun.getT_eq s)
theorem hE1 (w : World) (os : OsState) : HandSHeadRun.looksF hR.prog (PySem.W.boot_heap w.params) (Tp.s2 w.params os).abs = true := by kernel_rfl
theorem hE2 (w : World) (os : OsState) : HandSHeadRun.seenQ (PySem.W.view hR.prog [27]) hloose (importedModules hR.prog.main.body) (fun s => PySem.W.xlAt (PySem.W.view hR.prog [27]) [] s && PySem.W.recOk hR.toRowW.records s) (Tp.s2 w.params os).abs = PySem.W.openGood (PySem.W.view hR.prog [27]) hloose := by kernel_rfl
theorem hE3 (w : World) (os : OsState) : obsY1 has hfa hfn hts exB (HandSHeadRun.getT (Tp.s2 w.params os)) = (true, (He.valD hfn).2) := by kernel_rfl
theorem hE4 (w : World) (os : OsState) : obsY2 has hfa hfn hts exB (HandSHeadRun.getT (Tp.s2 w.params os)) = (true, hts.map fun t => some (He.keysIn w.params t.2)) := by kernel_rfl
theorem hE34 (w : World) (os : OsState) : hH.obs (Tp.s2 w.params os).abs = hH.val w := (hob_eq _).symm.trans (obs_two (hE3 w os) (hE4 w os))
theorem cx_of {K : PySem.W.Frag} (h : exB K = true) : ZaM hcs K = true ∧ xsB [15] [15] K = true ∧ tabsB [] K = true ∧ tbB "LENGTHS" ZA K = true ∧ True := by
 unfold exB moreB at h
 simp only [Bool.and_eq_true] at h
 first | exact h | exact ⟨h.1, h.2.1, h.2.2.1, by simpa using h.2.2.2⟩
theorem env_of {P : Program} {w : World} {K : PySem.W.Frag} {h : Heap} {mg : Str -> Option Value} {base : Heap} (X : K.In h) (Gn : h.Ns mainGlobals mg) (c : He.SaysD hfa hfn K) (ht : ∀ t ∈ hts, ∃ es n, KDict K w (tblA K t.1) es n) (cx : ZaM hcs K = true ∧ xsB [15] [15] K = true ∧ tabsB [] K = true ∧ tbB "LENGTHS" ZA K = true ∧ True)
  (hb : ∀ y c P, y ∈ ([] : List Str) -> PySem.W.tabIn K y = some (c, P) -> LamX.TabB base mg c P) : Env (S1 P w K mg base [15] []) where
 b_all := He.free_ok X Gn (c.fact 20 (f := .free "all") rfl)
 b_bool := He.free_ok X Gn (c.fact 21 (f := .free "bool") rfl)
 b_int := He.free_ok X Gn (c.fact 22 (f := .free "int") rfl)
 b_isinstance := He.free_ok X Gn (c.fact 23 (f := .free "isinstance") rfl)
 b_len := He.free_ok X Gn (c.fact 24 (f := .free "len") rfl)
 b_list := He.free_ok X Gn (c.fact 25 (f := .free "list") rfl)
 b_min := He.free_ok X Gn (c.fact 26 (f := .free "min") rfl)
 b_range := He.free_ok X Gn (c.fact 27 (f := .free "range") rfl)
 b_str := He.free_ok X Gn (c.fact 28 (f := .free "str") rfl)
 b_tuple := He.free_ok X Gn (c.fact 29 (f := .free "tuple") rfl)
 c_MOST_FIGURES := gv_of (S := S1 P w K mg base [15] []) X Gn (Zcl cx.1 0 rfl)
 c_FIGURES := gv_of (S := S1 P w K mg base [15] []) X Gn (Zcl cx.1 1 rfl)
 ZA := ZeW X Gn cx.2.2.2.1 (ht _ (List.mem_of_getElem? (i := 0) rfl))
 k_number_in := WJ (WK c X Gn 0 0 (d := Zau) rfl rfl)
 k_numbers_in := WJ (WK c X Gn 1 1 (d := Zab) rfl rfl)
 k_row_text := WJ (WK c X Gn 2 2 (d := Zbs) rfl rfl)
 k_deed_rows := WJ (WK c X Gn 3 3 (d := Zaw) rfl rfl)
 k_deed_text := WJ (WK c X Gn 4 4 (d := Zav) rfl rfl)
 k_choices_in := WJ (WK c X Gn 5 5 (d := Zad) rfl rfl)
 k_row_in := WJ (WK c X Gn 6 6 (d := Zdc) rfl rfl)
 k_many_in := WJ (WK c X Gn 7 7 (d := ZbQ) rfl rfl)
 k_deed_in := WJ (WK c X Gn 8 8 (d := ZbV) rfl rfl)
 k_read_deed := WJ (WK c X Gn 9 9 (d := ZaK) rfl rfl)
 k_l_bag := WJ (WK c X Gn 10 10 (d := ZdH) rfl rfl)
 k_l_pull := WJ (WK c X Gn 11 11 (d := Zdi) rfl rfl)
 k_l_one := WJ (WK c X Gn 12 12 (d := ZdJ) rfl rfl)
 k_l_same := WJ (WK c X Gn 13 13 (d := Zdd) rfl rfl)
 k_l_wide_number := WJ (WK c X Gn 14 14 (d := VJ) rfl rfl)
 k_l_word := WJ (WK c X Gn 15 15 (d := Zdj) rfl rfl)
 k_l_wide_deed := WJ (WK c X Gn 16 16 (d := UE) rfl rfl)
 k_l_row_text := WJ (WK c X Gn 17 17 (d := Zaf) rfl rfl)
 k_l_is_plain := WJ (WK c X Gn 18 18 (d := Zac) rfl rfl)
 k_law := WJ (WK c X Gn 19 19 (d := Zeq) rfl rfl)
 m_BadText := He.glo_ok X Gn (c.fact 30 (f := .glo "BadText") rfl)
 x_BadText := xr_ofD (dfl := [.int 0]) (st := VS) (N := ["self", "row"]) (ps := ["self", "row"]) (fl := ["row"]) (g := "word") (wd := "badtext") (qual := "BadText.__init__") c X Gn cx.2.1 (k := 15) (by decide) (by decide) 20 30 31 rfl (by simp) rfl rfl rfl (by decide) ⟨rfl, rfl, rfl, by decide +kernel, rfl, by decide +kernel, by decide +kernel⟩ rfl rfl (by decide) (fun _ _ _ _ _ _ _ us its hu hi => match us, hu, its, hi with | [_, _], _, [_], _ => ⟨_, rfl, rfl⟩) (fun _ _ _ _ _ _ _ => (.cons (pe_var (i := 0) rfl (.inl (by kernel_rfl)) (by decide) (by decide)) pe_str rfl (.cons (pe_var (i := 0) rfl (.inl (by kernel_rfl)) (by decide) (by decide)) (pe_var (i := 1) rfl (.inl (by kernel_rfl)) (by decide) (by decide)) rfl .nil)))
 xs := fun d hd => hd
 xf := xf_of cx.2.1
theorem facts {P : Program} {w : World} {K : PySem.W.Frag} {h : Heap} {mg : Str -> Option Value} {f : Addr} (X : K.In h) (Gn : h.Ns mainGlobals mg) (hfa0 : mg ("law" : Str) = some (.ref f)) (c : He.SaysD hfa hfn K) (ht : ∀ t ∈ hts, ∃ es n, KDict K w (tblA K t.1) es n) (cx : ZaM hcs K = true ∧ xsB [15] [15] K = true ∧ tabsB [] K = true ∧ tbB "LENGTHS" ZA K = true ∧ True) :
  ∃ fd : FuncData, (∀ (s : Shared) (v : Value), BindsTo s fd ⟨[v], []⟩ [("_law_script", v)]) ∧ ∀ base : Heap, K.In base -> base.Ns mainGlobals mg -> (∀ y c P, y ∈ ([] : List Str) -> PySem.W.tabIn K y = some (c, P) -> LamX.TabB base mg c P) ->
   FnOk P w K mg base (L2.CX P w) 10 f fd ["_law_script"] (SpF (S1 P w K mg base [15] []).G 1 ZeA) := by
 obtain ⟨fd, F⟩ := c.def_ 19 (d := Zeq) rfl
 have e := hfa0.symm.trans (He.glo_ok X Gn (c.fact 19 (f := .glo "law") rfl))
 cases e
 have b := FunD.bindsA (ps := ["_law_script"]) F ZeU
 exact ⟨fd, fun s v => b s [v] rfl, fun base _ _ hb => ok_fn (S := (S1 P w K mg base [15] []).at nl6 (defScope (top 27)) 9) F ZeV (ds_law (env_of X Gn c ht cx hb)) rfl⟩
theorem hTold : TablesWhole.wSs TablesWhole.gather hR.prog.main.scope ⟨hR.prog.main.scope, [], [], [], none⟩ hR.prog.main.scope hR.prog.main.body = [] := by kernel_rfl
theorem hTwice : TablesWhole.noTwice hR.prog.main.scope = true := by kernel_rfl
def hB0 : List Stmt := hR.prog.main.body
def hB1 : List Stmt := hB0.drop 20
def hB2 : List Stmt := hB1.drop 20
theorem hW0 : TablesWhole.wSs TablesWhole.holds hR.prog.main.scope ⟨hR.prog.main.scope, [], [], [], none⟩ hR.prog.main.scope (hB0.take 20) = true := by kernel_rfl
theorem hW1 : TablesWhole.wSs TablesWhole.holds hR.prog.main.scope ⟨hR.prog.main.scope, [], [], [], none⟩ hR.prog.main.scope (hB1.take 20) = true := by kernel_rfl
theorem hBare : hR.prog.bare := bare_of rfl rfl rfl rfl rfl hTold hTwice (ws_step (l := hB0) hW0 (ws_step (l := hB1) hW1 (ws_nil (l := hB2) (by kernel_rfl))))
theorem hSaid (h : (PySem.W.OpenLaw.row PySem.Challenge.rw_hueshade_k53_deeds_as_texts).wellSaid = true -> (PySem.W.OpenLaw.row PySem.Challenge.rw_hueshade_k53_deeds_as_texts).Holds) : PySem.Challenge.rw_hueshade_k53_deeds_as_texts.Holds := by
 o_law
 rename_i said
 exact h said
end L53
namespace Hx
open PySem PySem.Spec L2
noncomputable section
end
end Hx
namespace Geo
def cr (ax ay bx bY cx cy : Rat) : Rat := (bx - ax) * (cy - ay) - (bY - ay) * (cx - ax)
def On (cx cy dx dy x y : Rat) : Prop := ∃ t : Rat, 0 <= t ∧ t <= 1 ∧ x = cx + t * (dx - cx) ∧ y = cy + t * (dy - cy)
def Bt (l n h : Rat) : Prop := (l <= n ∧ n <= h) ∨ (h <= n ∧ n <= l)
section
variable {ax ay bx bY cx cy dx dy x y : Rat}
theorem UP {n d : Rat} (hd : d ≠ 0) (h : (0 <= n ∧ n <= d) ∨ (d <= n ∧ n <= 0)) : 0 <= n / d ∧ n / d <= 1 := by
 have e : n = (n / d) * d := by grind
 generalize n / d = q at *
 subst e
 rcases h with ⟨h1, h2⟩ | ⟨h1, h2⟩
 ·have hd' : 0 < d := by grind
  constructor
  ·refine Rat.not_lt.mp fun z => ?_
   have := Rat.mul_pos (show 0 < -q by grind) hd'
   grind
  ·refine Rat.not_lt.mp fun z => ?_
   have := Rat.mul_pos (show 0 < q - 1 by grind) hd'
   grind
 ·have hd' : 0 < -d := by grind
  constructor
  ·refine Rat.not_lt.mp fun z => ?_
   have := Rat.mul_pos (show 0 < -q by grind) hd'
   grind
  ·refine Rat.not_lt.mp fun z => ?_
   have := Rat.mul_pos (show 0 < q - 1 by grind) hd'
   grind
theorem WQ {a b : Rat} (ha : 0 <= a) (hb : 0 <= b) : 0 <= a * b := Rat.mul_nonneg ha hb
theorem bt_mid {l h t : Rat} (h0 : 0 <= t) (h1 : t <= 1) : Bt l (l + t * (h - l)) h := by
 unfold Bt
 by_cases hh : l <= h
 ·have := WQ h0 (show 0 <= h - l by grind)
  have := WQ (show 0 <= 1 - t by grind) (show 0 <= h - l by grind)
  left; grind
 ·have := WQ h0 (show 0 <= l - h by grind)
  have := WQ (show 0 <= 1 - t by grind) (show 0 <= l - h by grind)
  right; grind
theorem on_iff : On cx cy dx dy x y ↔ cr cx cy dx dy x y = 0 ∧ Bt cx x dx ∧ Bt cy y dy := by
 constructor
 ·rintro ⟨t, h0, h1, e1, e2⟩
  subst e1 e2
  exact ⟨by unfold cr; grind, bt_mid h0 h1, bt_mid h0 h1⟩
 ·rintro ⟨h, h1, h2⟩
  unfold cr at h
  by_cases hx : dx - cx = 0
  ·by_cases hy : dy - cy = 0
   ·refine ⟨0, by grind, by grind, ?_, ?_⟩ <;> unfold Bt at * <;> grind
   ·obtain ⟨r0, r1⟩ := UP (n := y - cy) hy (by unfold Bt at *; grind)
    refine ⟨(y - cy) / (dy - cy), r0, r1, ?_, by grind⟩
    unfold Bt at *; grind
  ·obtain ⟨r0, r1⟩ := UP (n := x - cx) hx (by unfold Bt at *; grind)
   exact ⟨(x - cx) / (dx - cx), r0, r1, by grind, by grind⟩
def pt (a b s : Rat) : Rat := a + s * (b - a)
def Sh (s : Rat) : Prop := 0 <= s ∧ s <= 1
def Meets (ax ay bx bY cx cy dx dy : Rat) : Prop := ∃ s, Sh s ∧ On cx cy dx dy (pt ax bx s) (pt ay bY s)
theorem VD : Meets ax ay bx bY cx cy dx dy ↔ ∃ s t, Sh s ∧ Sh t ∧ pt ax bx s = pt cx dx t ∧ pt ay bY s = pt cy dy t := by
 constructor
 ·rintro ⟨s, h, t, h0, h1, e1, e2⟩
  exact ⟨s, t, h, ⟨h0, h1⟩, e1, e2⟩
 ·rintro ⟨s, t, h, ⟨h0, h1⟩, e1, e2⟩
  exact ⟨s, h, t, h0, h1, e1, e2⟩
theorem ZbT : Meets cx cy dx dy ax ay bx bY ↔ Meets ax ay bx bY cx cy dx dy := by
 rw [VD, VD]
 constructor
 ·rintro ⟨s, t, h, h', e1, e2⟩; exact ⟨t, s, h', h, e1.symm, e2.symm⟩
 ·rintro ⟨s, t, h, h', e1, e2⟩; exact ⟨t, s, h', h, e1.symm, e2.symm⟩
def Cut (ax ay bx bY cx cy dx dy : Rat) : Prop :=
 (cr ax ay bx bY cx cy * cr ax ay bx bY dx dy < 0 ∧ cr cx cy dx dy ax ay * cr cx cy dx dy bx bY < 0) ∨ On ax ay bx bY cx cy ∨ On ax ay bx bY dx dy ∨ On cx cy dx dy ax ay ∨ On cx cy dx dy bx bY
theorem pt0 {a b : Rat} : pt a b 0 = a := by unfold pt; grind
theorem pt1 {a b : Rat} : pt a b 1 = b := by unfold pt; grind
theorem sh0 : Sh 0 := ⟨by grind, by grind⟩
theorem sh1 : Sh 1 := ⟨by grind, by grind⟩
theorem opp {u v : Rat} (h : u * v < 0) : (0 <= u ∧ u <= u - v) ∨ (u - v <= u ∧ u <= 0) := by
 by_cases hu : 0 <= u
 ·left
  refine ⟨hu, ?_⟩
  by_cases hv : 0 <= v
  ·have := WQ hu hv; grind
  ·grind
 ·right
  refine ⟨?_, by grind⟩
  by_cases hv : 0 <= v
  ·grind
  ·have := WQ (show 0 <= -u by grind) (show 0 <= -v by grind); grind
theorem opp_ne {u v : Rat} (h : u * v < 0) : u - v ≠ 0 := fun z => by
 have e : u = v := by grind
 subst e
 by_cases hu : 0 <= u
 ·have := WQ hu hu; grind
 ·have := WQ (show 0 <= -u by grind) (show 0 <= -u by grind); grind
theorem cut_meets (h : Cut ax ay bx bY cx cy dx dy) : Meets ax ay bx bY cx cy dx dy := by
 rcases h with ⟨h1, h2⟩ | h | h | h | h
 ·have n1 := opp_ne h1
  have n2 := opp_ne h2
  obtain ⟨a0, a1⟩ := UP n1 (opp h1)
  obtain ⟨b0, b1⟩ := UP n2 (opp h2)
  refine ⟨_, ⟨b0, b1⟩, _, a0, a1, ?_, ?_⟩
  ·have e : cr cx cy dx dy ax ay - cr cx cy dx dy bx bY = -(cr ax ay bx bY cx cy - cr ax ay bx bY dx dy) := by unfold cr; grind
   rw [e]
   generalize hw : cr ax ay bx bY cx cy - cr ax ay bx bY dx dy = w at *
   have : (cr cx cy dx dy ax ay) * (bx - ax) = -(w * (cx - ax) + cr ax ay bx bY cx cy * (dx - cx)) := by rw [<- hw]; unfold cr; grind
   unfold pt
   grind
  ·have e : cr cx cy dx dy ax ay - cr cx cy dx dy bx bY = -(cr ax ay bx bY cx cy - cr ax ay bx bY dx dy) := by unfold cr; grind
   rw [e]
   generalize hw : cr ax ay bx bY cx cy - cr ax ay bx bY dx dy = w at *
   have : (cr cx cy dx dy ax ay) * (bY - ay) = -(w * (cy - ay) + cr ax ay bx bY cx cy * (dy - cy)) := by rw [<- hw]; unfold cr; grind
   unfold pt
   grind
 ·obtain ⟨s, h0, h1, e1, e2⟩ := h
  exact ⟨s, ⟨h0, h1⟩, 0, by grind, by grind, by unfold pt; grind, by unfold pt; grind⟩
 ·obtain ⟨s, h0, h1, e1, e2⟩ := h
  exact ⟨s, ⟨h0, h1⟩, 1, by grind, by grind, by unfold pt; grind, by unfold pt; grind⟩
 ·exact ⟨0, sh0, by rw [pt0, pt0]; exact h⟩
 ·exact ⟨1, sh1, by rw [pt1, pt1]; exact h⟩
end
end Geo
namespace Geo
section
variable {ax ay bx bY cx cy dx dy x y : Rat}
theorem conv_opp {u v t : Rat} (h0 : 0 < t) (h1 : t < 1) (h : (1 - t) * u + t * v = 0) : (u = 0 ∧ v = 0) ∨ u * v < 0 := by
 by_cases hu : u = 0
 ·left
  refine ⟨hu, ?_⟩
  subst hu
  have : t * v = 0 := by grind
  rcases Rat.mul_eq_zero.mp this with z | z <;> grind
 ·right
  have e : v * t = -((1 - t) * u) := by grind
  have k : (u * v) * t = -((1 - t) * (u * u)) := by grind
  have p1 : 0 < u * u := by
   by_cases hp : 0 < u
   ·exact Rat.mul_pos hp hp
   ·have := Rat.mul_pos (show 0 < -u by grind) (show 0 < -u by grind); grind
  have p2 := Rat.mul_pos (show 0 < 1 - t by grind) p1
  refine Rat.not_le.mp fun z => ?_
  have := WQ z (show 0 <= t by grind)
  grind
theorem meets_cut (h : Meets ax ay bx bY cx cy dx dy) : Cut ax ay bx bY cx cy dx dy := by
 obtain ⟨s, t, ⟨s0, s1⟩, ⟨t0, t1⟩, e1, e2⟩ := VD.mp h
 unfold Cut
 by_cases q : s = 0
 ·subst q; right; right; right; left; refine ⟨t, t0, t1, ?_, ?_⟩ <;> unfold pt at * <;> grind
 by_cases q : s = 1
 ·subst q; right; right; right; right; refine ⟨t, t0, t1, ?_, ?_⟩ <;> unfold pt at * <;> grind
 by_cases q : t = 0
 ·subst q; right; left; refine ⟨s, s0, s1, ?_, ?_⟩ <;> unfold pt at * <;> grind
 by_cases q : t = 1
 ·subst q; right; right; left; refine ⟨s, s0, s1, ?_, ?_⟩ <;> unfold pt at * <;> grind
 have z1 : (1 - t) * cr ax ay bx bY cx cy + t * cr ax ay bx bY dx dy = 0 := by
  unfold pt at *
  unfold cr; grind
 have z2 : (1 - s) * cr cx cy dx dy ax ay + s * cr cx cy dx dy bx bY = 0 := by
  unfold pt at *
  unfold cr; grind
 have w : cr ax ay bx bY cx cy - cr ax ay bx bY dx dy = cr cx cy dx dy bx bY - cr cx cy dx dy ax ay := by unfold cr; grind
 have key : (cr ax ay bx bY cx cy = 0 ∧ cr ax ay bx bY dx dy = 0) -> (cr cx cy dx dy ax ay = 0 ∧ cr cx cy dx dy bx bY = 0) -> On ax ay bx bY cx cy ∨ On ax ay bx bY dx dy ∨ On cx cy dx dy ax ay ∨ On cx cy dx dy bx bY := by
  rintro ⟨u0, v0⟩ ⟨p0, q0⟩
  unfold pt at e1 e2
  by_cases hx : bx - ax = 0 ∧ bY - ay = 0
  ·obtain ⟨hx, hy⟩ := hx
   right; right; left
   exact ⟨t, t0, t1, by grind, by grind⟩
  -- f = k e
  have hk : ∃ k : Rat, dx - cx = k * (bx - ax) ∧ dy - cy = k * (bY - ay) := by
   by_cases hx' : bx - ax = 0
   ·have hy' : bY - ay ≠ 0 := fun z => hx ⟨hx', z⟩
    refine ⟨(dy - cy) / (bY - ay), ?_, by grind⟩
    unfold cr at u0 v0
    grind
   ·refine ⟨(dx - cx) / (bx - ax), by grind, ?_⟩
    unfold cr at u0 v0
    grind
  obtain ⟨k, k1, k2⟩ := hk
  have tt := WQ t0 (show 0 <= 1 - t by grind)
  by_cases kp : 0 <= k
  ·have tk := WQ t0 kp
   by_cases c : t * k <= s
   ·left
    exact ⟨s - t * k, by grind, by grind, by grind, by grind⟩
   ·right; right; left
    have k0 : k ≠ 0 := by grind
    have kpos : 0 < k := by grind
    have sk : s / k * k = s := by grind
    have n1 : 0 <= s / k := Rat.not_lt.mp fun z => by
     have := Rat.mul_pos (show 0 < -(s / k) by grind) kpos; grind
    have n2 : 0 <= t - s / k := Rat.not_lt.mp fun z => by
     have := Rat.mul_pos (show 0 < -(t - s / k) by grind) kpos; grind
    exact ⟨t - s / k, n2, by grind, by grind, by grind⟩
  ·have kn : 0 < -k := by grind
   have tk := WQ (show 0 <= 1 - t by grind) (show 0 <= -k by grind)
   by_cases c : (1 - t) * (-k) <= s
   ·right; left
    exact ⟨s + (1 - t) * k, by grind, by grind, by grind, by grind⟩
   ·right; right; left
    have k0 : k ≠ 0 := by grind
    have sk : s / k * k = s := by grind
    have n1 : 0 <= -(s / k) := Rat.not_lt.mp fun z => by
     have := Rat.mul_pos (show 0 < (s / k) by grind) kn; grind
    have n2 : 0 <= 1 - t + s / k := Rat.not_lt.mp fun z => by
     have := Rat.mul_pos (show 0 < -(1 - t + s / k) by grind) kn; grind
    exact ⟨t - s / k, by grind, by grind, by grind, by grind⟩
 rcases conv_opp (t := t) (by grind) (by grind) z1 with h1 | h1
 ·rcases conv_opp (t := s) (by grind) (by grind) z2 with h2 | h2
  ·exact .inr (key h1 h2)
  ·have := opp_ne h2; grind
 ·rcases conv_opp (t := s) (by grind) (by grind) z2 with h2 | h2
  ·have := opp_ne h1; grind
  ·exact .inl ⟨h1, h2⟩
theorem cut_iff : Cut ax ay bx bY cx cy dx dy ↔ Meets ax ay bx bY cx cy dx dy := ⟨cut_meets, meets_cut⟩
structure Span (P : Rat -> Prop) (l h : Rat) : Prop where
 l0 : 0 <= l
 lh : l <= h
 h1 : h <= 1
 at_ : ∀ s, Sh s -> (P s ↔ l <= s ∧ s <= h)
def NoSpan (P : Rat -> Prop) : Prop := ∀ s, Sh s -> ¬ P s
def Vd (P : Rat -> Prop) : Option (Rat × Rat) -> Prop
 | some (l, h) => Span P l h
 | none => NoSpan P
theorem Vd.some_iff {P : Rat -> Prop} {a : Option (Rat × Rat)} (h : Vd P a) : a.isSome = true ↔ ∃ s, Sh s ∧ P s := by
 cases a with
 | none =>
  constructor
  ·intro z; cases z
  ·rintro ⟨s, hs, p⟩; exact absurd p (h s hs)
 | some lh =>
  obtain ⟨l, h1⟩ := lh
  refine ⟨fun _ => ?_, fun _ => rfl⟩
  have hl : Sh l := ⟨h.l0, by have := h.lh; have := h.h1; grind⟩
  exact ⟨l, hl, (h.at_ l hl).mpr ⟨by grind, h.lh⟩⟩
def cutDown : Option (Rat × Rat) -> Rat -> Rat -> Option (Rat × Rat)
 | none, _, _ => none
 | some (l, h), lo, hi =>
  let f := if l < lo then lo else l
  let g := if hi < h then hi else h
  if g < f then none else some (f, g)
theorem Zas {P : Rat -> Prop} {o : Option (Rat × Rat)} {lo hi : Rat} (h : Vd P o) : Vd (fun s => P s ∧ lo <= s ∧ s <= hi) (cutDown o lo hi) := by
 cases o with
 | none => exact fun s hs z => h s hs z.1
 | some lh =>
  obtain ⟨l, u⟩ := lh
  have h0 := h.l0
  have h1 := h.lh
  have h2 := h.h1
  have h3 := h.at_
  show Vd _ (if (if hi < u then hi else u) < (if l < lo then lo else l) then none else some ((if l < lo then lo else l), (if hi < u then hi else u)))
  have f1 : ∀ s, (if l < lo then lo else l) <= s ↔ l <= s ∧ lo <= s := fun s => by grind
  have f2 : ∀ s, s <= (if hi < u then hi else u) ↔ s <= u ∧ s <= hi := fun s => by grind
  have f3 : 0 <= (if l < lo then lo else l) := by grind
  have f4 : (if hi < u then hi else u) <= 1 := by grind
  generalize (if hi < u then hi else u) = g at *
  generalize (if l < lo then lo else l) = f at *
  by_cases c : g < f
  ·rw [if_pos c]
   intro s hs z
   have := (h3 s hs).mp z.1
   have := (f1 s).mpr ⟨this.1, z.2.1⟩
   have := (f2 s).mpr ⟨((h3 s hs).mp z.1).2, z.2.2⟩
   grind
  ·rw [if_neg c]
   exact ⟨f3, by grind, f4, fun s hs => by rw [h3 s hs, f1, f2]; grind⟩
def full : Option (Rat × Rat) := some (0, 1)
theorem full_span : Vd (fun _ => True) full := ⟨by grind, by grind, by grind, fun s hs => ⟨fun _ => hs, fun _ => trivial⟩⟩
theorem Vd.iff {P Q : Rat -> Prop} {o : Option (Rat × Rat)} (h : Vd P o) (k : ∀ s, Sh s -> (P s ↔ Q s)) : Vd Q o := by
 cases o with
 | none => exact fun s hs z => h s hs ((k s hs).mpr z)
 | some lh => exact ⟨h.l0, h.lh, h.h1, fun s hs => (k s hs).symm.trans (h.at_ s hs)⟩
end
end Geo
namespace Geo
section
variable {ax ay bx bY l w r h x y : Rat}
def slab (o : Option (Rat × Rat)) (start step lo hi : Rat) : Option (Rat × Rat) :=
 if step = 0 then (if lo <= start ∧ start <= hi then o else none)
 else if 0 < step then cutDown o ((lo - start) / step) ((hi - start) / step) else cutDown o ((hi - start) / step) ((lo - start) / step)
theorem le_div {a b s : Rat} (hb : 0 < b) : a / b <= s ↔ a <= s * b := by
 have e : a = a / b * b := by grind
 generalize a / b = q at *
 subst e
 constructor
 ·intro z
  have := WQ (show 0 <= s - q by grind) (show 0 <= b by grind); grind
 ·intro z
  refine Rat.not_lt.mp fun k => ?_
  have := Rat.mul_pos (show 0 < q - s by grind) hb; grind
theorem div_le {a b s : Rat} (hb : 0 < b) : s <= a / b ↔ s * b <= a := by
 have e : a = a / b * b := by grind
 generalize a / b = q at *
 subst e
 constructor
 ·intro z
  have := WQ (show 0 <= q - s by grind) (show 0 <= b by grind); grind
 ·intro z
  refine Rat.not_lt.mp fun k => ?_
  have := Rat.mul_pos (show 0 < s - q by grind) hb; grind
theorem div_neg {a b : Rat} : a / b = (-a) / (-b) := by
 by_cases hb : b = 0
 ·subst hb; grind
 ·grind
theorem slab_span {P : Rat -> Prop} {o : Option (Rat × Rat)} {start step lo hi : Rat} (k : Vd P o) : Vd (fun s => P s ∧ lo <= start + s * step ∧ start + s * step <= hi) (slab o start step lo hi) := by
 unfold slab
 by_cases hs : step = 0
 ·rw [if_pos hs]
  subst hs
  by_cases c : lo <= start ∧ start <= hi
  ·rw [if_pos c]
   exact k.iff fun s hs => ⟨fun p => ⟨p, by grind, by grind⟩, fun p => p.1⟩
  ·rw [if_neg c]
   exact fun s hs z => c (by grind)
 ·rw [if_neg hs]
  by_cases c : 0 < step
  ·rw [if_pos c]
   exact (Zas k).iff fun s hs => by rw [le_div c, div_le c]; grind
  ·rw [if_neg c, div_neg (a := hi - start), div_neg (a := lo - start)]
   have c' : 0 < -step := by grind
   exact (Zas k).iff fun s hs => by rw [le_div c', div_le c']; grind
def InB (l w r h x y : Rat) : Prop := (l <= x ∧ x <= r) ∧ (w <= y ∧ y <= h)
def bsh (l w r h ax ay bx bY : Rat) : Option (Rat × Rat) := slab (slab full ax (bx - ax) l r) ay (bY - ay) w h
theorem bsh_span : Vd (fun s => InB l w r h (pt ax bx s) (pt ay bY s)) (bsh l w r h ax ay bx bY) :=
 (slab_span (slab_span full_span)).iff fun s hs => by unfold InB pt; grind
def UA (l w r h ax ay bx bY : Rat) : Prop := ∃ s, Sh s ∧ InB l w r h (pt ax bx s) (pt ay bY s)
end
end Geo
namespace Hx
open PySem PySem.Spec L2
section
variable {st : Zd}
def DR (q : Rat) : D := .con .tup [.int q.num, .int (q.den : Int)]
class BdR (n : outParam Nat) (q : Rat) : Prop where
 num : q.num.natAbs < 2 ^ n
 den : q.den < 2 ^ n
class LeR (n : Nat) (q : Rat) : Prop where
 num : q.num.natAbs < 2 ^ n
 den : q.den < 2 ^ n
set_option synthInstance.checkSynthOrder false in
instance (priority := low) bdrLe {n : Nat} {i : Rat} [h : LeR n i] : BdR n i := ⟨h.num, h.den⟩
instance (priority := low) lerBd {n m : Nat} {i : Rat} [h : BdR m i] [k : LeN m n] : LeR n i := ⟨Nat.lt_of_lt_of_le h.num (Nat.pow_le_pow_right (by decide) k.h), Nat.lt_of_lt_of_le h.den (Nat.pow_le_pow_right (by decide) k.h)⟩
instance bdNum {n : Nat} {q : Rat} [h : BdR n q] : Bd n q.num := ⟨h.num⟩
instance bdDen {n : Nat} {q : Rat} [h : BdR n q] : Bd n (q.den : Int) := ⟨by have := h.den; omega⟩
instance nzDen {q : Rat} : Nz (q.den : Int) := ⟨by have := q.den_nz; omega⟩
instance bdr0 : BdR 1 0 := ⟨by decide, by decide⟩
instance bdr1 : BdR 1 1 := ⟨by decide, by decide⟩
instance (priority := 1020) bdrIteL {n m : Nat} {i j : Rat} {c : Prop} [Decidable c] [h : BdR n i] [k : BdR m j] [l : LeN n m] : BdR m (if c then i else j) := by
 split
 ·exact ⟨Nat.lt_of_lt_of_le h.num (Nat.pow_le_pow_right (by decide) l.h), Nat.lt_of_lt_of_le h.den (Nat.pow_le_pow_right (by decide) l.h)⟩
 ·exact k
instance (priority := 1010) bdrIteR {n m : Nat} {i j : Rat} {c : Prop} [Decidable c] [h : BdR n i] [k : BdR m j] [l : LeN m n] : BdR n (if c then i else j) := by
 split
 ·exact h
 ·exact ⟨Nat.lt_of_lt_of_le k.num (Nat.pow_le_pow_right (by decide) l.h), Nat.lt_of_lt_of_le k.den (Nat.pow_le_pow_right (by decide) l.h)⟩
instance bdrIte {n m : Nat} {i j : Rat} {c : Prop} [Decidable c] [h : BdR n i] [k : BdR m j] : BdR (n + m) (if c then i else j) := by
 split
 ·exact ⟨Nat.lt_of_lt_of_le h.num (Nat.pow_le_pow_right (by decide) (by omega)), Nat.lt_of_lt_of_le h.den (Nat.pow_le_pow_right (by decide) (by omega))⟩
 ·exact ⟨Nat.lt_of_lt_of_le k.num (Nat.pow_le_pow_right (by decide) (by omega)), Nat.lt_of_lt_of_le k.den (Nat.pow_le_pow_right (by decide) (by omega))⟩
theorem rat_div {a b n d : Int} (hd : 0 < d) (hc : Int.gcd n d = 1) (hb : b ≠ 0) (e : n * b = a * d) : ((a : Rat) / (b : Rat)).num = n ∧ (((a : Rat) / (b : Rat)).den : Int) = d := by
 have hdn : d.toNat ≠ 0 := by omega
 have cop : n.natAbs.Coprime d.toNat := by
  have : Nat.gcd n.natAbs d.natAbs = 1 := hc
  rw [show d.toNat = d.natAbs by omega]
  exact this
 have key : (a : Rat) / (b : Rat) = ⟨n, d.toNat, hdn, cop⟩ := by
  have h1 : (⟨n, d.toNat, hdn, cop⟩ : Rat) = Rat.divInt n d := by
   have := Rat.num_divInt_den ⟨n, d.toNat, hdn, cop⟩
   rw [<- this]
   show Rat.divInt n ((d.toNat : Nat) : Int) = _
   rw [show ((d.toNat : Nat) : Int) = d by omega]
  rw [h1, <- Rat.divInt_eq_div, Rat.divInt_eq_divInt_iff hb (by omega)]
  exact e.symm
 rw [key]
 exact ⟨rfl, by show ((d.toNat : Nat) : Int) = d; omega⟩
theorem fr_parts {a b : Int} (hb : b ≠ 0) : ∃ n d : Int, 0 < d ∧ Int.gcd n d = 1 ∧ n * b = a * d ∧ n.natAbs <= a.natAbs ∧ d.natAbs <= b.natAbs ∧
  (b < 0 -> a.fdiv (-(Int.gcd a b : Int)) = n ∧ b.fdiv (-(Int.gcd a b : Int)) = d) ∧ (0 < b -> a.fdiv (Int.gcd a b : Int) = n ∧ b.fdiv (Int.gcd a b : Int) = d) := by
 have hg : 0 < Int.gcd a b := Int.gcd_pos_of_ne_zero_right a hb
 have d1 : (Int.gcd a b : Int) ∣ a := Int.gcd_dvd_left ..
 have d2 : (Int.gcd a b : Int) ∣ b := Int.gcd_dvd_right ..
 obtain ⟨p, hp⟩ := d1
 obtain ⟨q, hq⟩ := d2
 have hcop : Int.gcd p q = 1 := by
  have h := Int.gcd_mul_left (Int.gcd a b : Int) p q
  rw [<- hp, <- hq] at h
  have e : (Int.gcd a b : Int).natAbs = Int.gcd a b := by omega
  rw [e] at h
  have : Int.gcd a b * 1 = Int.gcd a b * Int.gcd p q := by omega
  exact (Nat.eq_of_mul_eq_mul_left hg this).symm
 generalize hG : (Int.gcd a b : Int) = G at *
 have hG0 : 0 < G := by omega
 have pn : p.natAbs <= a.natAbs := by
  rw [hp, Int.natAbs_mul]
  exact Nat.le_mul_of_pos_left _ (by omega)
 have qn : q.natAbs <= b.natAbs := by
  rw [hq, Int.natAbs_mul]
  exact Nat.le_mul_of_pos_left _ (by omega)
 have f1 : a.fdiv G = p := by rw [hp]; exact Int.mul_fdiv_cancel_left _ (by omega)
 have f2 : b.fdiv G = q := by rw [hq]; exact Int.mul_fdiv_cancel_left _ (by omega)
 have f3 : a.fdiv (-G) = -p := by rw [hp, show G * p = -G * -p by grind]; exact Int.mul_fdiv_cancel_left _ (by omega)
 have f4 : b.fdiv (-G) = -q := by rw [hq, show G * q = -G * -q by grind]; exact Int.mul_fdiv_cancel_left _ (by omega)
 have q0 : q ≠ 0 := fun z => hb (by rw [hq, z]; simp)
 by_cases h0 : b < 0
 ·have : q < 0 := by
   rw [hq] at h0
   exact Int.lt_of_not_ge fun z => by have := Int.mul_nonneg (show 0 <= G by omega) z; omega
  refine ⟨-p, -q, by omega, ?_, ?_, by omega, by omega, fun _ => ⟨f3, f4⟩, fun z => by omega⟩
  ·rw [Int.neg_gcd, Int.gcd_neg]; exact hcop
  ·rw [hp, hq]; grind
 ·have : 0 <= q := by
   rw [hq] at h0
   exact Int.le_of_not_gt fun z => h0 (Int.mul_neg_of_pos_of_neg hG0 z)
  refine ⟨p, q, by omega, hcop, ?_, pn, qn, fun z => by omega, fun _ => ⟨f1, f2⟩⟩
  rw [hp, hq]; grind
instance (priority := 1020) bdrDivL {n m : Nat} {a b : Int} [h : Bd n a] [k : Bd m b] [l : LeN n m] [l1 : LeN 1 m] : BdR m ((a : Rat) / (b : Rat)) := by
 have w1 : (2 : Nat) ^ n <= 2 ^ m := Nat.pow_le_pow_right (by decide) l.h
 by_cases hb : b = 0
 ·subst hb
  have e : (a : Rat) / ((0 : Int) : Rat) = 0 := by grind
  rw [e]
  have := l1.h
  refine ⟨?_, ?_⟩
  ·show (0 : Int).natAbs < _
   exact Nat.pos_of_ne_zero (by simp)
  ·show 1 < _
   exact Nat.lt_of_lt_of_le (show 1 < 2 ^ 1 by decide) (Nat.pow_le_pow_right (by decide) (by omega))
 ·obtain ⟨n', d, hd, hc, e, l1, l2, _, _⟩ := fr_parts (a := a) hb
  obtain ⟨r1, r2⟩ := rat_div hd hc hb e
  have h1 := h.lt
  have h2 := k.lt
  exact ⟨by rw [r1]; omega, by omega⟩
instance (priority := 1010) bdrDivR {n m : Nat} {a b : Int} [h : Bd n a] [k : Bd m b] [l : LeN m n] [l1 : LeN 1 n] : BdR n ((a : Rat) / (b : Rat)) :=
 let h' : Bd n b := ⟨Nat.lt_of_lt_of_le k.lt (Nat.pow_le_pow_right (by decide) l.h)⟩
 @bdrDivL n n a b h h' leNr l1
instance bdrDiv {n m : Nat} {a b : Int} [h : Bd n a] [k : Bd m b] : BdR (n + m + 1) ((a : Rat) / (b : Rat)) :=
 let h1 : Bd (n + m + 1) a := ⟨Nat.lt_of_lt_of_le h.lt (Nat.pow_le_pow_right (by decide) (by omega))⟩
 let h2 : Bd (n + m + 1) b := ⟨Nat.lt_of_lt_of_le k.lt (Nat.pow_le_pow_right (by decide) (by omega))⟩
 @bdrDivL _ _ a b h1 h2 leNr ⟨by omega⟩
def sg (r : Int) : Int := (if 0 < r then 1 else 0) - (if r < 0 then 1 else 0)
end
def crs (ax ay bx bY cx cy : Int) : Int := (bx - ax) * (cy - ay) - (bY - ay) * (cx - ax)
def wthn (l n h : Int) : Bool := decide ((if h < l then h else l) <= n) && decide (n <= (if h > l then h else l))
def onP (ax ay bx bY cx cy : Int) : Bool := decide (crs ax ay bx bY cx cy = 0) && (wthn ax cx bx && wthn ay cy bY)
def cutB (ax ay bx bY cx cy dx dy : Int) : Bool :=
 (decide (crs ax ay bx bY cx cy * crs ax ay bx bY dx dy < 0) && decide (crs cx cy dx dy ax ay * crs cx cy dx dy bx bY < 0)) ||
  ((onP ax ay bx bY cx cy || onP ax ay bx bY dx dy) || (onP cx cy dx dy ax ay || onP cx cy dx dy bx bY))
section
variable {ax ay bx bY cx cy dx dy x y : Int}
theorem crs_cast : ((crs ax ay bx bY cx cy : Int) : Rat) = Geo.cr ax ay bx bY cx cy := by
 unfold crs Geo.cr
 grind
theorem crs_zero : crs ax ay bx bY cx cy = 0 ↔ Geo.cr (ax : Rat) ay bx bY cx cy = 0 := by
 rw [<- crs_cast, <- Rat.intCast_zero, Rat.intCast_inj]
theorem icast_lt {a b : Int} : (a : Rat) < (b : Rat) ↔ a < b := Rat.intCast_lt_intCast
theorem ZaG {a b : Int} : (a : Rat) <= (b : Rat) ↔ a <= b := by
 rw [<- Rat.not_lt, icast_lt]; omega
theorem wthn_iff {l n h : Int} : wthn l n h = true ↔ Geo.Bt (l : Rat) n h := by
 unfold wthn Geo.Bt
 rw [Bool.and_eq_true, decide_eq_true_eq, decide_eq_true_eq, ZaG, ZaG, ZaG, ZaG]
 constructor
 ·rintro ⟨h1, h2⟩
  split at h1 <;> split at h2 <;> omega
 ·intro z
  constructor <;> split <;> omega
theorem onP_iff : onP cx cy dx dy x y = true ↔ Geo.On (cx : Rat) cy dx dy x y := by
 unfold onP
 rw [Geo.on_iff, Bool.and_eq_true, Bool.and_eq_true, decide_eq_true_eq, crs_zero, wthn_iff, wthn_iff]
theorem ZaN : cutB ax ay bx bY cx cy dx dy = true ↔ Geo.Meets (ax : Rat) ay bx bY cx cy dx dy := by
 rw [<- Geo.cut_iff]
 unfold cutB Geo.Cut
 simp only [Bool.or_eq_true, Bool.and_eq_true, decide_eq_true_eq, onP_iff, <- crs_cast, <- Rat.intCast_mul]
 rw [<- Rat.intCast_zero, icast_lt, icast_lt]
 constructor
 ·rintro (h | (h | h) | h | h)
  ·exact .inl h
  ·exact .inr (.inl h)
  ·exact .inr (.inr (.inl h))
  ·exact .inr (.inr (.inr (.inl h)))
  ·exact .inr (.inr (.inr (.inr h)))
 ·rintro (h | h | h | h | h)
  ·exact .inl h
  ·exact .inr (.inl (.inl h))
  ·exact .inr (.inl (.inr h))
  ·exact .inr (.inr (.inl h))
  ·exact .inr (.inr (.inr h))
section
variable {st : Zd}
instance bdCrs {n : Nat} [h : Bd n ((bx - ax) * (cy - ay) - (bY - ay) * (cx - ax))] : Bd n (crs ax ay bx bY cx cy) := h
theorem sg0 {r : Int} : sg r = 0 ↔ r = 0 := by
 unfold sg
 constructor
 ·intro h
  split at h <;> split at h <;> omega
 ·intro h
  subst h
  rfl
end
end
section
variable {ax ay bx bY cx cy dx dy x y : Int} {st : Zd}
def BdO (n : Nat) (o : Option (Rat × Rat)) : Prop := ∀ l h, o = some (l, h) -> LeR n l ∧ LeR n h
theorem BdO.full {n : Nat} (h : 1 <= n) : BdO n Geo.full := fun l u e => by
 have w : (2 : Nat) ^ 1 <= 2 ^ n := Nat.pow_le_pow_right (by decide) h
 injection e with e
 injection e with e1 e2
 subst e1 e2
 exact ⟨⟨by show 0 < _; omega, by show 1 < _; omega⟩, ⟨by show 1 < _; omega, by show 1 < _; omega⟩⟩
theorem BdO.mono {n m : Nat} {o : Option (Rat × Rat)} (h : BdO n o) (k : n <= m) : BdO m o := fun l u e => by
 obtain ⟨a, b⟩ := h l u e
 have w : (2 : Nat) ^ n <= 2 ^ m := Nat.pow_le_pow_right (by decide) k
 exact ⟨⟨Nat.lt_of_lt_of_le a.num w, Nat.lt_of_lt_of_le a.den w⟩, ⟨Nat.lt_of_lt_of_le b.num w, Nat.lt_of_lt_of_le b.den w⟩⟩
theorem Le.sm {n : Nat} {i : Int} (h : Le n i) : Sm n i := h.lt
theorem LeR.mono {n m : Nat} {q : Rat} (h : LeR n q) (k : n <= m) : LeR m q := ⟨Nat.lt_of_lt_of_le h.num (Nat.pow_le_pow_right (by decide) k), Nat.lt_of_lt_of_le h.den (Nat.pow_le_pow_right (by decide) k)⟩
end
section
def Nx (P : Hx.Env -> Zd -> Prop) : ResS -> Prop
 | .nx e s => P e s
 | _ => False
@[simp] theorem nx_nx {P : Hx.Env -> Zd -> Prop} {e : Hx.Env} {s : Zd} : Nx P (.nx e s) = P e s := rfl
theorem Nx.out {P : Hx.Env -> Zd -> Prop} {r : ResS} (h : Nx P r) : ∃ e s, r = .nx e s ∧ P e s := by
 cases r with
 | nx e s => exact ⟨e, s, rfl, h⟩
 | _ => exact h.elim
theorem Nx.imp {P Q : Hx.Env -> Zd -> Prop} {r : ResS} (h : Nx P r) (k : ∀ e s, P e s -> Q e s) : Nx Q r := by
 cases r with
 | nx e s => exact k _ _ h
 | _ => exact h.elim
variable {st : Zd} {c : Nat} {k : Nat}
theorem pull {n : Nat} (many : Int) (B : Bag k st c) (hk : k < 2 ^ 100) (hm : 0 < many) (hn : many.natAbs < 2 ^ n) (hn2 : n <= 1000) :
  ∃ g st', ZX [(.z, .ref c), (.z, .int many)] st = .ok .z false (.int g) st' ∧ 0 <= g ∧ g < many ∧ Le n g ∧ Bag (k + 1) st' c ∧ Fro1 c st st' := by
 obtain ⟨g, st', e, g0, g1, B', f⟩ := f_l_pull (many := many) B hk hm (Sm.mono (n := n) hn hn2)
 exact ⟨g, st', e, g0, g1, ⟨by omega⟩, B', f⟩
structure Spot (x y : Int) : Prop where
 x0 : -1000000 <= x
 x1 : x <= 1000000
 y0 : -1000000 <= y
 y1 : y <= 1000000
theorem law_bag (ns : List Int) (hl : ns.length <= 63) : ∃ d, Zaz [(.z, .con .frl (ns.map D.int))] [] = .ok (.c .z) false (.con .lst d) [] ∧ Bag 0 [(.c .z, .con .lst d)] 0 := by
 obtain ⟨s, e, h0, h1⟩ := f_l_bag ns hl (st := [])
 exact ⟨_, e, ns, 0, 0, s, 0, rfl, by omega, by omega, h0, h1, by omega, by omega⟩
end
section
variable {ax ay bx bY l w r h : Int} {st : Zd}
def bshO (l w r h ax ay bx bY : Int) : Option (Rat × Rat) := if (Geo.bsh (l : Rat) w r h ax ay bx bY).isSome = true ∧ ax = bx ∧ ay = bY then some (0, 0) else Geo.bsh l w r h ax ay bx bY
theorem bshO_some : (bshO l w r h ax ay bx bY).isSome = (Geo.bsh (l : Rat) w r h ax ay bx bY).isSome := by
 unfold bshO
 split
 ·rename_i h; rw [h.1]; rfl
 ·rfl
def hitB (l w r h ax ay bx bY : Int) : Bool := (bshO l w r h ax ay bx bY).isSome
theorem hitB_iff : hitB l w r h ax ay bx bY = true ↔ Geo.UA (l : Rat) w r h ax ay bx bY := by
 unfold hitB
 rw [bshO_some, Geo.bsh_span.some_iff]
 rfl
theorem f_l_one {c k : Nat} {ds : List D} {n : Nat} (B : Bag k st c) (hk : k < 2 ^ 100) (h0 : ds ≠ []) (hn : ds.length < 2 ^ n) (hn2 : n <= 20) :
  ∃ (g : Int) (d : D) (st' : Zd), UO [(.z, .ref c), (.z, .con .lst ds)] st = .ok .z false d st' ∧ 0 <= g ∧ ds[g.toNat]? = some d ∧ g < ds.length ∧ Bag (k + 1) st' c ∧ Fro1 c st st' := by
 have hl : 0 < ds.length := List.length_pos_iff.mpr h0
 have hn3 : 2 ^ n <= 2 ^ 20 := Nat.pow_le_pow_right (by decide) hn2
 obtain ⟨g, s1, e1, g1, g2, _, B1, f1⟩ := pull (n := n) (ds.length : Int) B hk (by omega) (by omega) (by omega)
 have hlt : g.toNat < ds.length := by omega
 have ha : atI ds g = some ds[g.toNat] := by
  have := atI_nat (List.getElem?_eq_getElem hlt)
  rw [show ((g.toNat : Nat) : Int) = g by omega] at this
  exact this
 refine ⟨g, ds[g.toNat], s1, ?_, g1, List.getElem?_eq_getElem hlt, g2, B1, f1⟩
 simp [UO, e1, ha]
end
section
variable {st : Zd}
theorem q_parts (p : Rat) : p = (p.num : Rat) / ((p.den : Int) : Rat) := by
 rw [<- Rat.divInt_eq_div, Rat.num_divInt_den]
end
section
variable {st : Zd} {ax ay bx bY cx cy dx dy : Int}
end
section
variable {st : Zd} {f : Addr} {r : Fn} {P : Rat -> Prop} {l h : Rat}
theorem Zbr (q : Rat) : (0 : Rat) < ((q.den : Int) : Rat) := by
 have := q.den_pos
 exact_mod_cast this
def Tells (st : Zd) (r : Fn) (P : Rat -> Prop) : Prop := ∀ q, LeR 4000 q -> ∃ b, r [(.z, DR q)] st = .ok .z false (.bl b) st ∧ (b = true ↔ P q)
theorem Tells.no (t : Tells st r P) {q : Rat} [k : LeR 4000 q] (h : ¬ P q) : r [(.z, DR q)] st = .ok .z false (.bl false) st := by
 obtain ⟨b, e, i⟩ := t q k
 cases b with
 | true => exact absurd (i.mp rfl) h
 | false => exact e
end
section
variable {st : Zd} {f : Addr} {r : Fn} {P : Rat -> Prop} {l h : Rat}
end
end Hx
namespace Geo
end Geo
namespace Hx
open PySem PySem.Spec L2
section
variable {st : Zd} {l w r h ax ay bx bY : Int}
end
theorem lc_fm {α : Type} {p : Pat} {c : DenB} {el : Den} {env : Hx.Env} {st : Zd} (f : α -> D) (g : α -> Option D) : ∀ (xs : List α) (acc : List D),
  (∀ x ∈ xs, ∃ env1, ZS p .z (f x) env = some env1 ∧ ((g x = none ∧ c env1 st = .ok false st) ∨ ∃ d, g x = some d ∧ c env1 st = .ok true st ∧ el env1 st = .ok .z false d st)) ->
  lcGo p c el (xs.map f) env st acc = .ok (.c .z) false (.con .lst (acc ++ xs.filterMap g)) st
 | [], acc, _ => by simp [lcGo]
 | x :: xs, acc, h => by
  obtain ⟨env1, e1, k⟩ := h x (by simp)
  have ih := fun acc => lc_fm f g xs acc (fun y hy => h y (List.mem_cons_of_mem _ hy)) (p := p) (c := c) (el := el) (env := env) (st := st)
  rw [List.map_cons, lcGo, e1]
  rcases k with ⟨e2, e3⟩ | ⟨d, e2, e3, e4⟩
  ·simp [e3, ih, List.filterMap_cons, e2]
  ·simp [e3, e4, ih, List.filterMap_cons, e2]
theorem Vx {α : Type} {p : Pat} {el : Den} {env : Hx.Env} {st : Zd} (f : α -> D) (g : α -> D) (xs : List α) (acc : List D)
  (h : ∀ x ∈ xs, ∃ env1, ZS p .z (f x) env = some env1 ∧ el env1 st = .ok .z false (g x) st) :
  lcGo p dYes el (xs.map f) env st acc = .ok (.c .z) false (.con .lst (acc ++ xs.map g)) st := by
 have := lc_fm (c := dYes) (el := el) (p := p) (env := env) (st := st) f (fun x => some (g x)) xs acc fun x hx => by
  obtain ⟨env1, e1, e2⟩ := h x hx
  exact ⟨env1, e1, .inr ⟨g x, rfl, rfl, e2⟩⟩
 rw [this, List.filterMap_eq_map']
mutual
def nbP : Nat -> PyData -> Bool
 | _, .none => true
 | _, .int _ => true
 | _, .str s => PyData.strOk s
 | n + 1, .tuple xs => nbPs n xs
 | n + 1, .list xs => nbPs n xs
 | _, _ => false
def nbPs : Nat -> List PyData -> Bool
 | _, [] => true
 | n, x :: xs => nbP n x && nbPs n xs
end
mutual
theorem eqv_iff : ∀ (n m : Nat) (a b : PyData), nbP n a = true -> nbP m b = true -> (PyData.eqv a b = true ↔ a = b)
 | n, m, a, b, ha, hb => by
  cases a <;> cases b <;> first
   | (simp [PyData.eqv]; done)
   | (simp [nbP] at ha; done)
   | (simp [nbP] at hb; done)
   | skip
  ·rename_i xs ys
   cases n with
   | zero => simp [nbP] at ha
   | succ n => cases m with
    | zero => simp [nbP] at hb
    | succ m => simpa [PyData.eqv] using eqvs_iff n m xs ys (by simpa [nbP] using ha) (by simpa [nbP] using hb)
  ·rename_i xs ys
   cases n with
   | zero => simp [nbP] at ha
   | succ n => cases m with
    | zero => simp [nbP] at hb
    | succ m => simpa [PyData.eqv] using eqvs_iff n m xs ys (by simpa [nbP] using ha) (by simpa [nbP] using hb)
theorem eqvs_iff : ∀ (n m : Nat) (a b : List PyData), nbPs n a = true -> nbPs m b = true -> (PyData.eqvAll a b = true ↔ a = b)
 | n, m, [], [], _, _ => by simp [PyData.eqvAll]
 | n, m, [], _ :: _, _, _ => by simp [PyData.eqvAll]
 | n, m, _ :: _, [], _, _ => by simp [PyData.eqvAll]
 | n, m, x :: xs, y :: ys, ha, hb => by
  simp only [nbPs, Bool.and_eq_true] at ha hb
  simp [PyData.eqvAll, eqv_iff n m x y ha.1 hb.1, eqvs_iff n m xs ys ha.2 hb.2]
end
mutual
theorem shp : ∀ (n : Nat) (a : PyData), nbP n a = true -> a.canLay0 = true ∧ a.depth <= n
 | n, a, h => by
  cases a <;> first
   | (simp [PyData.canLay0, PyData.depth]; done)
   | (simp [nbP] at h; done)
   | skip
  ·exact ⟨by simpa [PyData.canLay0, nbP] using h, by simp [PyData.depth]⟩
  ·rename_i xs
   cases n with
   | zero => simp [nbP] at h
   | succ n =>
    obtain ⟨h1, h2⟩ := shps n xs (by simpa [nbP] using h)
    exact ⟨by simpa [PyData.canLay0] using h1, by simp [PyData.depth]; exact h2⟩
  ·rename_i xs
   cases n with
   | zero => simp [nbP] at h
   | succ n =>
    obtain ⟨h1, h2⟩ := shps n xs (by simpa [nbP] using h)
    exact ⟨by simpa [PyData.canLay0] using h1, by simp [PyData.depth]; exact h2⟩
theorem shps : ∀ (n : Nat) (a : List PyData), nbPs n a = true -> PyData.canLayAll0 a = true ∧ PyData.depthAll a <= n
 | n, [], _ => by simp [PyData.canLayAll0, PyData.depthAll]
 | n, x :: xs, h => by
  simp only [nbPs, Bool.and_eq_true] at h
  obtain ⟨h1, h2⟩ := shp n x h.1
  obtain ⟨h3, h4⟩ := shps n xs h.2
  exact ⟨by simp [PyData.canLayAll0, h1, h3], by simp [PyData.depthAll]; omega⟩
end
def nb : Nat -> D -> Bool
 | _, .non => true
 | _, .int _ => true
 | _, .str s => PyData.strOk s
 | n + 1, .con .tup ds => ds.all (nb n)
 | n + 1, .con .lst ds => ds.all (nb n)
 | _, _ => false
mutual
def unpy : PyData -> D
 | .none => .non
 | .bool b => .bl b
 | .int i => .int i
 | .str s => .str s
 | .tuple xs => .con .tup (unpys xs)
 | .list xs => .con .lst (unpys xs)
 | _ => .non
def unpys : List PyData -> List D
 | [] => []
 | x :: xs => unpy x :: unpys xs
end
theorem pys_map {n : Nat} : ∀ {ds : List D}, (∀ d ∈ ds, ∃ x, d.py = some x ∧ nbP n x = true ∧ unpy x = d) -> ∃ xs, D.pys ds = some xs ∧ nbPs n xs = true ∧ unpys xs = ds
 | [], _ => ⟨[], rfl, rfl, rfl⟩
 | d :: ds, h => by
  obtain ⟨x, e1, e2, e6⟩ := h d (by simp)
  obtain ⟨xs, e3, e4, e5⟩ := pys_map fun z hz => h z (List.mem_cons_of_mem _ hz)
  exact ⟨x :: xs, by simp [D.pys, e1, e3], by simp [nbPs, e2, e4], by simp [unpys, e5, e6]⟩
theorem nb_py : ∀ (n : Nat) (d : D), nb n d = true -> ∃ x, d.py = some x ∧ nbP n x = true ∧ unpy x = d
 | n, .non, _ => ⟨.none, by simp [D.py], by simp [nbP], rfl⟩
 | n, .int i, _ => ⟨.int i, by simp [D.py], by simp [nbP], rfl⟩
 | n, .str s, h => ⟨.str s, by simp [D.py], by simpa [nbP, nb] using h, rfl⟩
 | n, .bl _, h => by simp [nb] at h
 | n, .ref _, h => by simp [nb] at h
 | n, .fnv _ _, h => by simp [nb] at h
 | 0, .con k ds, h => by cases k <;> simp [nb] at h
 | n + 1, .con k ds, h => by
  cases k with
  | tup =>
   simp only [nb, List.all_eq_true] at h
   obtain ⟨xs, e1, e2, e3⟩ := pys_map fun d hd => nb_py n d (h d hd)
   exact ⟨.tuple xs, by simp [D.py, e1], by simpa [nbP] using e2, by simp [unpy, e3]⟩
  | lst =>
   simp only [nb, List.all_eq_true] at h
   obtain ⟨xs, e1, e2, e3⟩ := pys_map fun d hd => nb_py n d (h d hd)
   exact ⟨.list xs, by simp [D.py, e1], by simpa [nbP] using e2, by simp [unpy, e3]⟩
  | _ => simp [nb] at h
theorem eqD_nb {a b : D} (ha : nb 64 a = true) (hb : nb 64 b = true) : ∃ c, eqD a b = some c ∧ (c = true ↔ a = b) := by
 obtain ⟨x, e1, h1, g1⟩ := nb_py _ _ ha
 obtain ⟨y, e2, h2, g2⟩ := nb_py _ _ hb
 obtain ⟨s1, d1⟩ := shp _ _ h1
 obtain ⟨s2, d2⟩ := shp _ _ h2
 refine ⟨PyData.eqv x y, by simp [eqD, e1, e2, SeqAt.shaped, s1, s2, d1, d2], ?_⟩
 rw [eqv_iff _ _ _ _ h1 h2]
 constructor
 ·intro z
  rw [<- g1, <- g2, z]
 ·rintro rfl
  rw [e1] at e2
  exact Option.some.inj e2
theorem WU {a : D} (ha : nb 64 a = true) : eqD a a = some true := by
 obtain ⟨c, e, h⟩ := eqD_nb ha ha
 rw [e, h.mpr rfl]
theorem eqD_not {a b : D} (ha : nb 64 a = true) (hb : nb 64 b = true) (h : a ≠ b) : eqD a b = some false := by
 obtain ⟨c, e, k⟩ := eqD_nb ha hb
 cases c with
 | true => exact absurd (k.mp rfl) h
 | false => exact e
def LT (p q r : Bool) : Str := ⟨((if p then [114] else []) ++ (if q then [103] else []) ++ (if r then [98] else [])).toArray⟩
section
variable {p q r p' q' r' : Bool} {st : Zd} {a b c : Int}
def T3 (a b c : Int) : D := .con .tup [.int a, .int b, .int c]
def sftI (p : Bool) (a : Int) : Int := if p then a else 0
abbrev Col (a : Int) : Prop := 0 <= a ∧ a <= 1000000
def Tt (x : Int × Int × Int) : D := T3 x.1 x.2.1 x.2.2
end
abbrev NI (l : List Nat) : List D := l.map fun (n : Nat) => D.int (n : Int)
def prd : List Nat -> Nat
 | [] => 1
 | c :: rc => prd rc * c
def dig : List Nat -> Nat -> List Nat
 | [], _ => []
 | c :: rc, g => (g % c) :: dig rc (g / c)
def rw_ (rc : List Nat) (g : Nat) : List Nat := (dig rc g).reverse
def rD (rc : List Nat) (g : Nat) : D := .con .tup (NI (rw_ rc g))
def RD (rc : List Nat) : List D := (List.range (prd rc)).map (rD rc)
section
variable {st : Zd}
theorem ZaA {c : Nat} : Zo 0 (c : Int) = NI (List.range c) := by
 simp [Zo]
end
section
variable {st : Zd}
end
@[simp] theorem seq_dik {ks : List Key} : Kd.seq (.dik ks) = false := rfl
@[simp] theorem seq_ins {c : Nat} : Kd.seq (.ins c) = false := rfl
@[simp] theorem zs0 : zs 0 = [] := rfl
@[simp] theorem zs1 : zs 1 = [.z] := rfl
@[simp] theorem zs5 : zs 5 = [.z, .z, .z, .z, .z] := rfl
@[simp] theorem zs6 : zs 6 = [.z, .z, .z, .z, .z, .z] := rfl
@[simp] theorem zs2 : zs 2 = [.z, .z] := rfl
@[simp] theorem zs3 : zs 3 = [.z, .z, .z] := rfl
@[simp] theorem zs4 : zs 4 = [.z, .z, .z, .z] := rfl
section
variable {α β : Type}
def nk (l : List (Int × α)) : List Key := l.map fun x => .inl x.1
def nv (f : α -> D) (l : List (Int × α)) : List D := l.map fun x => f x.2
abbrev dcA (f : α -> D) (l : List (Int × α)) : D := .con (.dik (nk l)) (nv f l)
def Ris (l : List (Int × α)) : Prop := l.Pairwise fun x y => x.1 < y.1
def Blw (l : List (Int × α)) (c : Int) : Prop := ∀ x ∈ l, x.1 < c
@[simp] theorem nk_nil : nk ([] : List (Int × α)) = [] := rfl
@[simp] theorem nv_nil {f : α -> D} : nv f [] = [] := rfl
theorem Ris.nil : Ris ([] : List (Int × α)) := List.Pairwise.nil
theorem Blw.nil {c : Int} : Blw ([] : List (Int × α)) c := fun _ h => absurd h (by simp)
theorem Blw.mono {l : List (Int × α)} {c c' : Int} (h : Blw l c) (k : c <= c') : Blw l c' := fun x hx => by have := h x hx; omega
theorem Blw.snoc {l : List (Int × α)} {c : Int} {x : α} (h : Blw l c) : Blw (l ++ [(c, x)]) (c + 1) := fun y hy => by
 rcases List.mem_append.mp hy with hy | hy
 ·have := h y hy; omega
 ·rw [List.mem_singleton] at hy; subst hy; show c < c + 1; omega
theorem Ris.snoc {l : List (Int × α)} {c : Int} {x : α} (r : Ris l) (h : Blw l c) : Ris (l ++ [(c, x)]) :=
 List.pairwise_append.mpr ⟨r, List.pairwise_singleton _ _, fun a ha b hb => by rw [List.mem_singleton] at hb; subst hb; exact h a ha⟩
end
section
variable {x y z w v u : D} {xs : List D}
@[simp] theorem at5 : atI (x :: y :: z :: w :: v :: u :: xs) 5 = some u := by
 have : (5 : Int) < (xs.length : Int) + 1 + 1 + 1 + 1 + 1 + 1 := by omega
 simp [atI, ixN, this]
@[simp] theorem cut4_1 : cutD [x, y, z, w] (some 1) none = [y, z, w] := rfl
@[simp] theorem cut5_1 : cutD [x, y, z, w, v] (some 1) none = [y, z, w, v] := rfl
@[simp] theorem cut6_1 : cutD [x, y, z, w, v, u] (some 1) none = [y, z, w, v, u] := rfl
@[simp] theorem cut5_2 : cutD [x, y, z, w, v] (some 2) none = [z, w, v] := rfl
@[simp] theorem cut3_h2 : cutD [x, y, z] none (some 2) = [x, y] := rfl
@[simp] theorem cut6_13 : cutD [x, y, z, w, v, u] (some 1) (some 3) = [y, z] := rfl
@[simp] theorem cut6_35 : cutD [x, y, z, w, v, u] (some 3) (some 5) = [w, v] := rfl
end
abbrev cmD (a b c d : Int) : D := .con (.dik [.inr (Str.ofString "lamp"), .inr (Str.ofString "post"), .inr (Str.ofString "pane"), .inr (Str.ofString "look")]) [.int a, .int b, .int c, .int d]
abbrev StD (la po pa me no : D) (a b c d : Int) : D := .con (.ins 25) [.con .tup [la, po, pa], me, no, cmD a b c d]
section
variable {la po pa me no x : D} {a b c d : Int} {st : Zd}
variable {α : Type} {f : α -> D} {l : List (Int × α)} {t : α}
end
section
variable {α β : Type}
def getN (l : List (Int × α)) (n : Int) : Option α := (l.find? fun x => decide (x.1 = n)).map (·.2)
end
structure Ch where
 (x y r g b : Int)
 deriving DecidableEq
structure Lf where
 (e n : Int)
 bn : Bool
structure Lm where
 ch : List Ch
 (e n : Int)
 bn : Bool
structure Po where
 (l w r h : Int)
structure Pa where
 (ax ay bx bY : Int)
 (p q r : Bool)
def Ch.d (c : Ch) : D := .con .tup [.int c.x, .int c.y, .int c.r, .int c.g, .int c.b]
def Lf.d (l : Lf) : D := .con .tup [.int l.e, .int l.n, .bl l.bn]
def Lm.f (l : Lm) : D := .con .tup [.int l.e, .int l.n, .bl l.bn]
def Lm.m (l : Lm) : D := .con .tup (l.ch.map Ch.d)
def Lm.w (l : Lm) : D := .con .tup [.con .tup (l.ch.map Ch.d), .int l.e, .int l.n, .bl l.bn]
def Po.d (p : Po) : D := .con .tup [.int p.l, .int p.w, .int p.r, .int p.h]
def Pa.d (p : Pa) : D := .con .tup [P2 p.ax p.ay, P2 p.bx p.bY, .str (LT p.p p.q p.r)]
structure Sn where
 la : List (Int × Lf)
 po : List (Int × Po)
 pa : List (Int × Pa)
def Sn.d (s : Sn) : D := .con .tup [dcA Lf.d s.la, dcA Po.d s.po, dcA Pa.d s.pa]
structure Lk where
 (x y r g b : Int)
 fl : Sn
def Lk.d (l : Lk) : D := .con .tup [P2 l.x l.y, T3 l.r l.g l.b, l.fl.d]
structure HM where
 la : List (Int × Lm)
 po : List (Int × Po)
 pa : List (Int × Pa)
 no : List (Int × Lk)
 (a b c d : Int)
abbrev HM.fl (m : HM) : D := .con .tup [dcA Lm.f m.la, dcA Po.d m.po, dcA Pa.d m.pa]
abbrev HM.std (m : HM) : D := StD (dcA Lm.f m.la) (dcA Po.d m.po) (dcA Pa.d m.pa) (dcA Lm.m m.la) (dcA Lk.d m.no) m.a m.b m.c m.d
def HM.new : HM := ⟨[], [], [], [], 1, 1, 1, 1⟩
def Ok6 (x : Int) : Prop := -1000000 <= x ∧ x <= 1000000
instance {x : Int} : Decidable (Ok6 x) := inferInstanceAs (Decidable (_ ∧ _))
def Cl (n x : Int) : Prop := 0 <= x ∧ x <= n
instance {n x : Int} : Decidable (Cl n x) := inferInstanceAs (Decidable (_ ∧ _))
inductive Dd
 | lamp (c : Ch)
 | unsure (cs : List Ch)
 | post (p : Po)
 | pane (ax ay bx bY : Int) (s : Str)
 | move (w : Str) (n r u : Int)
 | switch (n : Int)
 | drop (w : Str) (n : Int)
 | look (x y r g b : Int)
 | strike (n : Int)
 | settle (n k : Int)
def Dd.d : Dd -> D
 | .lamp c => .con .tup [.str (Str.ofString "lamp"), .int c.x, .int c.y, .int c.r, .int c.g, .int c.b]
 | .unsure cs => .con .tup [.str (Str.ofString "unsure"), .con .tup (cs.map Ch.d)]
 | .post p => .con .tup [.str (Str.ofString "post"), .int p.l, .int p.w, .int p.r, .int p.h]
 | .pane ax ay bx bY s => .con .tup [.str (Str.ofString "pane"), .int ax, .int ay, .int bx, .int bY, .str s]
 | .move w n r u => .con .tup [.str (Str.ofString "move"), .str w, .int n, .int r, .int u]
 | .switch n => .con .tup [.str (Str.ofString "switch"), .int n]
 | .drop w n => .con .tup [.str (Str.ofString "drop"), .str w, .int n]
 | .look x y r g b => .con .tup [.str (Str.ofString "look"), .int x, .int y, .int r, .int g, .int b]
 | .strike n => .con .tup [.str (Str.ofString "strike"), .int n]
 | .settle n k => .con .tup [.str (Str.ofString "settle"), .int n, .int k]
inductive Rf
 | place | light | sift | block | piece | menu | choice | sort | deed | noth (w : Str) (n : Int) | nolook (n : Int) | full | looked (n : Int)
def Rf.c : Rf -> Nat
 | .place => 3 | .light => 4 | .sift => 5 | .block => 6 | .piece => 7 | .menu => 8 | .choice => 9 | .sort => 11 | .deed => 12 | .noth _ _ => 18 | .nolook _ => 19 | .full => 21 | .looked _ => 22
def Rf.a : Rf -> List D
 | .place => [.str (Str.ofString "badplace")] | .light => [.str (Str.ofString "badlight")] | .sift => [.str (Str.ofString "badsift")] | .block => [.str (Str.ofString "badblock")]
 | .piece => [.str (Str.ofString "badpiece")] | .menu => [.str (Str.ofString "badmenu")] | .choice => [.str (Str.ofString "badchoice")] | .sort => [.str (Str.ofString "badsort")] | .deed => [.str (Str.ofString "baddeed")]
 | .noth w n => [.str (Str.ofString "nothing"), .str w, .int n] | .nolook n => [.str (Str.ofString "nolook"), .int n] | .full => [.str (Str.ofString "full")] | .looked n => [.str (Str.ofString "looked"), .int n]
abbrev sL : Str := Str.ofString "lamp"
abbrev sP : Str := Str.ofString "post"
abbrev sN : Str := Str.ofString "pane"
def Ch.sh (c : Ch) (e n : Int) : Ch := ⟨c.x + e, c.y + n, c.r, c.g, c.b⟩
def cntL (la : List (Int × Lm)) : List Nat := (la.filter fun x => decide (1 < x.2.ch.length)).map fun x => x.2.ch.length
def HM.cnt (m : HM) : List Nat := cntL m.la
structure HM.Nu (m : HM) : Prop where
 la : Ris m.la
 po : Ris m.po
 pa : Ris m.pa
 no : Ris m.no
 la1 : Blw m.la m.a
 po1 : Blw m.po m.b
 pa1 : Blw m.pa m.c
 no1 : Blw m.no m.d
 l1 : m.la.length <= 12
 l2 : m.po.length <= 12
 l3 : m.pa.length <= 12
 l4 : m.no.length <= 24
section
variable {st : Zd} {m : HM}
end
section
variable {st : Zd} {m : HM}
@[simp] theorem cut4_h2 {x y z w : D} : cutD [x, y, z, w] none (some 2) = [x, y] := rfl
@[simp] theorem cut4_2 {x y z w : D} : cutD [x, y, z, w] (some 2) none = [z, w] := rfl
end
section
variable {st : Zd} {m : HM}
@[simp] theorem cut3_1 {x y z : D} : cutD [x, y, z] (some 1) none = [y, z] := rfl
@[simp] theorem cut2_1 {x y : D} : cutD [x, y] (some 1) none = [y] := rfl
end
section
variable {st : Zd} {m : HM}
end
section
variable {st : Zd} {m : HM}
end
section
variable {st : Zd} {m : HM}
@[simp] theorem cut6_3 {x y z w v u : D} : cutD [x, y, z, w, v, u] (some 3) none = [w, v, u] := rfl
end
structure Ch.Ok (c : Ch) : Prop where
 x : Ok6 c.x
 y : Ok6 c.y
 r : Col c.r
 g : Col c.g
 b : Col c.b
structure Po.Ok (p : Po) : Prop where
 l : Ok6 p.l
 w : Ok6 p.w
 r : Ok6 p.r
 h : Ok6 p.h
 lr : p.l <= p.r
 wh : p.w <= p.h
structure Pa.Ok (p : Pa) : Prop where
 ax : Ok6 p.ax
 ay : Ok6 p.ay
 bx : Ok6 p.bx
 bY : Ok6 p.bY
 ne : p.ax ≠ p.bx ∨ p.ay ≠ p.bY
def Ch.at (c : Ch) (l : Lm) : Ch := c.sh l.e l.n
structure Lk.Ok (m : HM) (k : Lk) : Prop where
 x : Ok6 k.x
 y : Ok6 k.y
 r : Cl 12000000 k.r
 g : Cl 12000000 k.g
 b : Cl 12000000 k.b
 rla : Ris k.fl.la
 rpo : Ris k.fl.po
 rpa : Ris k.fl.pa
 po : ∀ x ∈ k.fl.po, x.2.Ok
 pa : ∀ x ∈ k.fl.pa, x.2.Ok
 l1 : k.fl.la.length <= 12
 l2 : k.fl.po.length <= 12
 l3 : k.fl.pa.length <= 12
 lam : ∀ z ∈ k.fl.la, ∃ l, getN m.la z.1 = some l ∧ ∀ c ∈ l.ch, (c.sh z.2.e z.2.n).Ok
structure HM.Ok (m : HM) : Prop where
 nu : m.Nu
 la : ∀ x ∈ m.la, ∀ c ∈ x.2.ch, (c.at x.2).Ok
 ne : ∀ x ∈ m.la, x.2.ch ≠ []
 c6 : ∀ x ∈ m.la, x.2.ch.length <= 6
 po : ∀ x ∈ m.po, x.2.Ok
 pa : ∀ x ∈ m.pa, x.2.Ok
 no : ∀ x ∈ m.no, x.2.Ok m
 pr : m.cnt.foldl (· * ·) 1 <= 200
theorem HM.Ok.l1 {m : HM} (h : m.Ok) : m.la.length <= 12 := h.nu.l1
theorem HM.Ok.l2 {m : HM} (h : m.Ok) : m.po.length <= 12 := h.nu.l2
theorem HM.Ok.l3 {m : HM} (h : m.Ok) : m.pa.length <= 12 := h.nu.l3
section
variable {α : Type}
end
theorem Lk.Ok.map {m m' : HM} {k : Lk} (h : k.Ok m) (f : ∀ z ∈ k.fl.la, ∀ l, getN m.la z.1 = some l -> ∃ l', getN m'.la z.1 = some l' ∧ ∀ c ∈ l'.ch, c ∈ l.ch) : k.Ok m' :=
 ⟨h.x, h.y, h.r, h.g, h.b, h.rla, h.rpo, h.rpa, h.po, h.pa, h.l1, h.l2, h.l3, fun z hz => by
  obtain ⟨l, e, k⟩ := h.lam z hz
  obtain ⟨l', e', k'⟩ := f z hz l e
  exact ⟨l', e', fun c hc => k c (k' c hc)⟩⟩
section
variable {m : HM}
end
def Dd.ofPa (p : Pa) : Dd := .pane p.ax p.ay p.bx p.bY (LT p.p p.q p.r)
inductive Dd.Ok : Dd -> Prop
 | lamp {c : Ch} (h : c.Ok) : Dd.Ok (.lamp c)
 | post {p : Po} (h : p.Ok) : Dd.Ok (.post p)
 | pane {p : Pa} (h : p.Ok) : Dd.Ok (.ofPa p)
section
variable {st : Zd} {m : HM}
abbrev pe (x : D × HM) : D := .con .tup [x.1, x.2.std]
def hsD (m : HM) (p g : List (D × HM)) : Fr × D := (.o [.z, .c .z, .c .z, .z], .con (.ins 24) [m.std, .con .lst (p.map pe), .con .lst (g.map pe), .bl false])
def HX (st : Zd) (c : Nat) (m : HM) (p g : List (D × HM)) : Prop := st[c]? = some (hsD m p g)
theorem HX.ix {c : Nat} {p g : List (D × HM)} (h : HX st c m p g) : ∃ hc : c < st.length, st[c] = (.o [.z, .c .z, .c .z, .z], .con (.ins 24) [m.std, .con .lst (p.map pe), .con .lst (g.map pe), .bl false]) := List.getElem?_eq_some_iff.mp h
theorem HX.ins {c : Nat} {p g : List (D × HM)} (h : HX st c m p g) : insAt 24 st (.ref c) = some ([.z, .c .z, .c .z, .z], [m.std, .con .lst (p.map pe), .con .lst (g.map pe), .bl false]) := by
 obtain ⟨hc, e⟩ := h.ix
 simp [insAt, hc, e]
structure HC (k : Nat) (st : Zd) (c : Nat) (m : HM) : Prop where
 ex : ∃ p g, HX st c m p g ∧ p.length <= k
theorem HC.mono {k j c : Nat} (h : HC k st c m) (hk : k <= j) : HC j st c m := by
 obtain ⟨p, g, e, l⟩ := h.ex
 exact ⟨p, g, e, by omega⟩
theorem HC.ins {k c : Nat} (h : HC k st c m) : ∃ p g : List (D × HM), insAt 24 st (.ref c) = some ([.z, .c .z, .c .z, .z], [m.std, .con .lst (p.map pe), .con .lst (g.map pe), .bl false]) := by
 obtain ⟨p, g, e, l⟩ := h.ex
 exact ⟨p, g, e.ins⟩
end
structure FroG (c : Nat) (st st' : Zd) : Prop where
 len : st.length <= st'.length
 at_ : ∀ j, j < st.length -> j ≠ c -> st'[j]? = st[j]?
theorem FroG.refl {c : Nat} {st : Zd} : FroG c st st := ⟨Nat.le_refl _, fun _ _ _ => rfl⟩
theorem Fro1.g {c : Nat} {st st' : Zd} (f : Fro1 c st st') : FroG c st st' := ⟨by rw [f.len]; exact Nat.le_refl _, fun j _ h => f.at_ j h⟩
theorem FroG.trans {c : Nat} {s1 s2 s3 : Zd} (a : FroG c s1 s2) (b : FroG c s2 s3) : FroG c s1 s3 :=
 ⟨Nat.le_trans a.len b.len, fun j hj h => (b.at_ j (Nat.lt_of_lt_of_le hj a.len) h).trans (a.at_ j hj h)⟩
theorem FroG.app {c : Nat} {st : Zd} {x : Fr × D} : FroG c st (st ++ [x]) := ⟨by simp, fun j hj _ => List.getElem?_append_left hj⟩
theorem FroG.set {c r : Nat} {st s : Zd} {x : Fr × D} (f : FroG c st s) (hr : st.length <= r) : FroG c st (s.set r x) :=
 ⟨by rw [List.length_set]; exact f.len, fun j hj h => by rw [List.getElem?_set_ne (by omega)]; exact f.at_ j hj h⟩
theorem Bag.lt {k c : Nat} {st : Zd} (B : Bag k st c) : c < st.length := by
 obtain ⟨xs, i, h, s, n, e, _⟩ := B.ex
 exact (List.getElem?_eq_some_iff.mp e).1
theorem Bag.set {k c r : Nat} {st : Zd} {x : Fr × D} (B : Bag k st c) (h : r ≠ c) : Bag k (st.set r x) c := by
 obtain ⟨xs, i, h', s, n, e, a⟩ := B.ex
 exact ⟨xs, i, h', s, n, by rw [List.getElem?_set_ne h]; exact e, a⟩
theorem Bag.app {k c : Nat} {st : Zd} {x : Fr × D} (B : Bag k st c) : Bag k (st ++ [x]) c := by
 have hc := B.lt
 obtain ⟨xs, i, h', s, n, e, a⟩ := B.ex
 exact ⟨xs, i, h', s, n, by rw [List.getElem?_append_left hc]; exact e, a⟩
section
variable {st : Zd} {c k : Nat}
variable {wd a b : Int}
end
theorem lc_draw {α : Type} {p : Pat} {el : Den} {env : Hx.Env} {g : α -> D} {P : α -> Prop} {w c K : Nat} (hd : ∀ k st d, k + w <= K -> Bag k st c -> ∃ env1 x st', ZS p .z d env = some env1 ∧ el env1 st = .ok .z false (g x) st' ∧ P x ∧ Bag (k + w) st' c ∧ FroG c st st') :
  ∀ (items : List D) (k : Nat) (st : Zd) (acc : List D), Bag k st c -> k + w * items.length <= K ->
  ∃ (xs : List α) (st' : Zd), lcGo p dYes el items env st acc = .ok (.c .z) false (.con .lst (acc ++ xs.map g)) st' ∧ xs.length = items.length ∧ (∀ x ∈ xs, P x) ∧ Bag (k + w * items.length) st' c ∧ FroG c st st'
 | [], k, st, acc, B, hk => ⟨[], st, by simp [lcGo], rfl, fun _ h => absurd h (by simp), B, FroG.refl⟩
 | d :: items, k, st, acc, B, hk => by
  rw [List.length_cons, Nat.mul_succ] at hk
  obtain ⟨env1, x, s1, e1, e2, px, B1, f1⟩ := hd k st d (by omega) B
  obtain ⟨xs, s2, e3, hl, pxs, B2, f2⟩ := lc_draw hd items (k + w) s1 (acc ++ [g x]) B1 (by omega)
  refine ⟨x :: xs, s2, ?_, by simp [hl], fun y hy => ?_, ?_, f1.trans f2⟩
  ·rw [lcGo, e1]
   simp [dYes, e2, e3]
  ·rcases List.mem_cons.mp hy with rfl | h
   ·exact px
   ·exact pxs y h
  ·rw [List.length_cons, Nat.mul_succ]
   rw [show k + (w * items.length + w) = k + w + w * items.length by omega]
   exact B2
section
variable {st : Zd} {c k : Nat} {wd a b : Int}
end
def HM.One (m : HM) : Prop := ∀ x ∈ m.la, ∃ c, x.2.ch = [c]
section
variable {st : Zd} {c k : Nat}
end
def siftP (t : Int × Int × Int) (p : Pa) : Int × Int × Int := (sftI p.p t.1, sftI p.q t.2.1, sftI p.r t.2.2)
def Vu (lx ly sx sy : Int) (p : Pa) : Bool := cutB p.ax p.ay p.bx p.bY lx ly sx sy
def hitP (lx ly sx sy : Int) (p : Po) : Bool := hitB p.l p.w p.r p.h lx ly sx sy
def through (lx ly sx sy : Int) (pas : List (Int × Pa)) (t : Int × Int × Int) : Int × Int × Int := pas.foldl (fun t p => if Vu lx ly sx sy p.2 then siftP t p.2 else t) t
def Uq (pos : List (Int × Po)) (pas : List (Int × Pa)) (sx sy : Int) (c : Ch) : Int × Int × Int :=
 if pos.any (fun p => hitP c.x c.y sx sy p.2) then (0, 0, 0) else through c.x c.y sx sy pas (c.r, c.g, c.b)
def lightS (bs : List (Int × Ch)) (pos : List (Int × Po)) (pas : List (Int × Pa)) (sx sy : Int) : Int × Int × Int :=
 let xs := bs.map fun b => Uq pos pas sx sy b.2
 ((xs.map (·.1)).sum, (xs.map (·.2.1)).sum, (xs.map (·.2.2)).sum)
section
variable {st : Zd} {m : HM} {sx sy : Int}
structure PoL (p : Po) : Prop where
 l : Le 900 p.l
 w : Le 900 p.w
 r : Le 900 p.r
 h : Le 900 p.h
structure PaL (p : Pa) : Prop where
 ax : Le 900 p.ax
 ay : Le 900 p.ay
 bx : Le 900 p.bx
 bY : Le 900 p.bY
end
def dfl : Ch := ⟨0, 0, 0, 0, 0⟩
def isO (l : Lm) : Bool := decide (1 < l.ch.length)
def RowOk : List (Int × Lm) -> List Nat -> Prop
 | [], r => r = []
 | x :: l, r => if isO x.2 then ∃ k r', r = k :: r' ∧ k < x.2.ch.length ∧ RowOk l r' else RowOk l r
def c0 (x : Int × Lm) : Ch := x.2.ch.headD ⟨0, 0, 0, 0, 0⟩
theorem row_one : ∀ {la : List (Int × Lm)}, (∀ x ∈ la, isO x.2 = false) -> RowOk la []
 | [], _ => rfl
 | x :: l, h => by
  have c := h x (by simp)
  unfold RowOk
  rw [c, if_neg (by decide)]
  exact row_one fun y hy => h y (by simp [hy])
section
variable {st : Zd} {m : HM} {sx sy : Int}
theorem HM.Ok.cl (ok : m.Ok) : m.cnt.length <= 12 := by
 have h := ok.l1
 have h2 : m.cnt.length <= m.la.length := by simp [HM.cnt, cntL, List.length_filter_le]
 omega
theorem One.closed (one : m.One) : ∀ x ∈ m.la, isO x.2 = false := fun x hx => by
 obtain ⟨c, hc⟩ := one x hx
 simp [isO, hc]
theorem One.cnt (one : m.One) : m.cnt = [] := by
 unfold HM.cnt cntL
 rw [List.map_eq_nil_iff, List.filter_eq_nil_iff]
 intro x hx
 have := One.closed one x hx
 unfold isO at this
 rw [this]; decide
theorem One.row (one : m.One) : RowOk m.la [] := row_one (One.closed one)
end
section
variable {st : Zd} {m : HM} {sx sy : Int}
end
section
variable {st : Zd} {m : HM} {c k : Nat}
end
def Pl (R : Res) : Prop := (∃ d s, R = .ok .z false d s) ∨ ∃ k ds s, R = .exc k ds s
theorem Pl.ok {d : D} {s : Zd} : Pl (.ok .z false d s) := .inl ⟨d, s, rfl⟩
theorem Pl.x {k : Nat} {ds : List D} {s : Zd} : Pl (.exc k ds s) := .inr ⟨k, ds, s, rfl⟩
section
variable {st : Zd} {m : HM} {c : Nat} {y0 : List Fr × List D} {R : Res}
end
section
variable {st : Zd} {k c : Nat}
end
structure Keep (P : Nat -> Prop) (st st' : Zd) : Prop where
 len : st.length <= st'.length
 at_ : ∀ j, j < st.length -> ¬ P j -> st'[j]? = st[j]?
theorem Keep.refl {P : Nat -> Prop} {st : Zd} : Keep P st st := ⟨Nat.le_refl _, fun _ _ _ => rfl⟩
theorem Keep.trans {P : Nat -> Prop} {s1 s2 s3 : Zd} (a : Keep P s1 s2) (b : Keep P s2 s3) : Keep P s1 s3 :=
 ⟨Nat.le_trans a.len b.len, fun j hj h => (b.at_ j (Nat.lt_of_lt_of_le hj a.len) h).trans (a.at_ j hj h)⟩
theorem Keep.mono {P Q : Nat -> Prop} {st st' : Zd} (a : Keep P st st') (h : ∀ j, j < st.length -> P j -> Q j) : Keep Q st st' := ⟨a.len, fun j hj hq => a.at_ j hj fun hp => hq (h j hj hp)⟩
theorem Fro1.keep {c : Nat} {st st' : Zd} (f : Fro1 c st st') : Keep (fun j => j = c) st st' := ⟨by rw [f.len]; exact Nat.le_refl _, fun j _ h => f.at_ j h⟩
theorem FroG.keep {c : Nat} {st st' : Zd} (f : FroG c st st') : Keep (fun j => j = c) st st' := ⟨f.len, fun j hj h => f.at_ j hj h⟩
theorem Keep.app {P : Nat -> Prop} {st l : Zd} : Keep P st (st ++ l) := ⟨by simp, fun j hj _ => List.getElem?_append_left hj⟩
theorem Bag.keep {k c : Nat} {P : Nat -> Prop} {st st' : Zd} (B : Bag k st c) (f : Keep P st st') (h : ¬ P c) : Bag k st' c := by
 have hc := B.lt
 obtain ⟨xs, i, h', s, n, e, a⟩ := B.ex
 exact ⟨xs, i, h', s, n, by rw [f.at_ c hc h]; exact e, a⟩
section
variable {st : Zd} {m : HM}
theorem HX.lt {c : Nat} {p g : List (D × HM)} (h : HX st c m p g) : c < st.length := (List.getElem?_eq_some_iff.mp h).1
theorem HC.lt {c k : Nat} (h : HC k st c m) : c < st.length := by obtain ⟨p, g, e, _⟩ := h.ex; exact e.lt
theorem HX.keep {c : Nat} {P : Nat -> Prop} {st' : Zd} {p g : List (D × HM)} (h : HX st c m p g) (f : Keep P st st') (hn : ¬ P c) : HX st' c m p g := by
 unfold HX; rw [f.at_ c h.lt hn]; exact h
theorem HC.keep {c k : Nat} {P : Nat -> Prop} {st' : Zd} (h : HC k st c m) (f : Keep P st st') (hn : ¬ P c) : HC k st' c m := by
 obtain ⟨p, g, e, l⟩ := h.ex
 exact ⟨p, g, e.keep f hn, l⟩
def sum3 (l : List (Int × Int × Int)) : Int × Int × Int := ((l.map (·.1)).sum, (l.map (·.2.1)).sum, (l.map (·.2.2)).sum)
end
end Hx
namespace Geo
section
variable {px py ax ay bx bY cx cy dx dy l w r h s x y : Rat}
def PDark (px py cx cy dx dy ax ay bx bY s : Rat) : Prop := Meets px py (pt ax bx s) (pt ay bY s) cx cy dx dy
def BDark (px py l w r h ax ay bx bY s : Rat) : Prop := UA l w r h px py (pt ax bx s) (pt ay bY s)
end
end Geo
namespace Geo
section
variable {px py ax ay bx bY cx cy dx dy l w r h s x y qx qy : Rat}
end
end Geo
namespace Geo
section
variable {px py ax ay bx bY cx cy dx dy l w r h s x y qx qy wx wy e : Rat}
end
end Geo
namespace Hx
open PySem PySem.Spec L2
abbrev pD (c : Int × Int) : D := P2 c.1 c.2
section
variable {st : Zd} {ax ay bx bY px py cx cy x y l w r h : Int}
variable {cs : List (Int × Int)}
end
end Hx
namespace Geo
theorem key_mul {m a b : Rat} (hq : 0 < m) : a * m <= b * m ↔ a <= b := ⟨fun z => by
  refine Rat.not_lt.mp fun k => ?_
  have := Rat.mul_lt_mul_of_pos_right k hq
  grind, fun z => Rat.mul_le_mul_of_nonneg_right z (Rat.le_of_lt hq)⟩
theorem bmeets_mul {m l w r h ax ay bx bY : Rat} (hm : 0 < m) : UA (l * m) (w * m) (r * m) (h * m) (ax * m) (ay * m) (bx * m) (bY * m) ↔ UA l w r h ax ay bx bY := by
 unfold UA InB
 have e : ∀ {a b s : Rat}, pt (a * m) (b * m) s = pt a b s * m := by intros; unfold pt; grind
 simp only [e, key_mul hm]
theorem meets_mul {m cx cy dx dy ax ay bx bY : Rat} (hm : 0 < m) : Meets (ax * m) (ay * m) (bx * m) (bY * m) (cx * m) (cy * m) (dx * m) (dy * m) ↔ Meets ax ay bx bY cx cy dx dy := by
 unfold Meets On
 have e : ∀ {a b s : Rat}, pt (a * m) (b * m) s = pt a b s * m := by intros; unfold pt; grind
 simp only [e]
 have c : ∀ {x y : Rat}, x * m = y * m ↔ x = y := by
  intro x y
  constructor
  ·intro z
   have := key_mul hm (a := x) (b := y)
   have := key_mul hm (a := y) (b := x)
   grind
  ·rintro rfl; rfl
 constructor
 ·rintro ⟨s, hs, t, t0, t1, e1, e2⟩
  exact ⟨s, hs, t, t0, t1, c.mp (by rw [e1]; grind), c.mp (by rw [e2]; grind)⟩
 ·rintro ⟨s, hs, t, t0, t1, e1, e2⟩
  exact ⟨s, hs, t, t0, t1, by rw [e1]; grind, by rw [e2]; grind⟩
end Geo
namespace Hx
open PySem PySem.Spec L2
section
variable {st : Zd} {ax ay bx bY px py cx cy dx dy x y l w r h : Int}
theorem UN {q : Rat} : ((ax * q.den + (bx - ax) * q.num : Int) : Rat) = Geo.pt ax bx q * ((q.den : Int) : Rat) := by
 have e3 : (q.num : Rat) = q * ((q.den : Int) : Rat) := by
  have hm : ((q.den : Int) : Rat) ≠ 0 := by
   have := q.den_nz
   intro z; exact this (by exact_mod_cast z)
  have := q_parts q; grind
 simp only [Rat.intCast_add, Rat.intCast_mul, Rat.intCast_sub, e3]
 unfold Geo.pt; grind
def bdB (px py l w r h ax ay bx bY : Int) (q : Rat) : Bool :=
 hitB (l * q.den) (w * q.den) (r * q.den) (h * q.den) (px * q.den) (py * q.den) (ax * q.den + (bx - ax) * q.num) (ay * q.den + (bY - ay) * q.num)
def pdB (px py cx cy dx dy ax ay bx bY : Int) (q : Rat) : Bool :=
 cutB (px * q.den) (py * q.den) (ax * q.den + (bx - ax) * q.num) (ay * q.den + (bY - ay) * q.num) (cx * q.den) (cy * q.den) (dx * q.den) (dy * q.den)
theorem bdB_iff {q : Rat} : bdB px py l w r h ax ay bx bY q = true ↔ Geo.BDark (px : Rat) py l w r h ax ay bx bY q := by
 unfold bdB
 rw [hitB_iff, UN, UN]
 simp only [Rat.intCast_mul]
 rw [Geo.bmeets_mul (Zbr q)]
 rfl
theorem pdB_iff {q : Rat} : pdB px py cx cy dx dy ax ay bx bY q = true ↔ Geo.PDark (px : Rat) py cx cy dx dy ax ay bx bY q := by
 unfold pdB
 rw [ZaN, UN, UN]
 simp only [Rat.intCast_mul]
 rw [Geo.meets_mul (Zbr q)]
 rfl
end
section
variable {st : Zd} {c k : Nat} {ax ay bx bY px py cx cy dx dy x y l w r h : Int}
end
def mpV {α : Type} (f : α -> α) (l : List (Int × α)) : List (Int × α) := l.map fun x => (x.1, f x.2)
def strPo (k : Int) (p : Po) : Po := ⟨p.l * k, p.w * k, p.r * k, p.h * k⟩
def strPa (k : Int) (p : Pa) : Pa := ⟨p.ax * k, p.ay * k, p.bx * k, p.bY * k, p.p, p.q, p.r⟩
section
variable {st : Zd} {m : HM} {ax ay bx bY : Int} {pos : List (Int × Po)} {pas : List (Int × Pa)} {q : Rat}
def Zal (pos : List (Int × Po)) (pas : List (Int × Pa)) (ax ay bx bY : Int) (q : Rat) (c : Ch) : Int × Int × Int :=
 Uq (mpV (strPo q.den) pos) (mpV (strPa q.den) pas) (ax * q.den + (bx - ax) * q.num) (ay * q.den + (bY - ay) * q.num) ⟨c.x * q.den, c.y * q.den, c.r, c.g, c.b⟩
def Zah (bs : List (Int × Ch)) (pos : List (Int × Po)) (pas : List (Int × Pa)) (ax ay bx bY : Int) (q : Rat) : Int × Int × Int := sum3 (bs.map fun b => Zal pos pas ax ay bx bY q b.2)
end
section
variable {st : Zd}
end
section
variable {st : Zd} {m : HM} {ax ay bx bY : Int} {pos : List (Int × Po)} {pas : List (Int × Pa)}
end
abbrev T3i := Int × Int × Int
structure Stc where
 lo : Rat
 li : Bool
 hi : Rat
 hin : Bool
 t : T3i
def Stc.d (s : Stc) : D := .con .tup [DR s.lo, .bl s.li, DR s.hi, .bl s.hin, Tt s.t]
section
variable {st : Zd}
end
section
variable {st : Zd} {m : HM} {ax ay bx bY : Int} {pos : List (Int × Po)} {pas : List (Int × Pa)}
end
def Pa.flip (p : Pa) : Pa := ⟨p.bx, p.bY, p.ax, p.ay, p.p, p.q, p.r⟩
def Pa.same (p q : Pa) : Prop := p = q ∨ p = q.flip
def keepP (lx ly sx sy : Int) (ps : List Pa) (f : Pa -> Bool) : Bool := ps.all fun p => !Vu lx ly sx sy p || f p
theorem WR {lx ly sx sy : Int} : ∀ (pas : List (Int × Pa)) (t : T3i), through lx ly sx sy pas t = (sftI (keepP lx ly sx sy (pas.map (·.2)) Pa.p) t.1, sftI (keepP lx ly sx sy (pas.map (·.2)) Pa.q) t.2.1, sftI (keepP lx ly sx sy (pas.map (·.2)) Pa.r) t.2.2)
 | [], t => by simp [through, keepP, sftI]
 | p :: pas, t => by
  show through lx ly sx sy pas (if Vu lx ly sx sy p.2 then siftP t p.2 else t) = _
  rw [WR pas]
  unfold keepP
  simp only [List.map_cons, List.all_cons]
  cases hc : Vu lx ly sx sy p.2 with
  | false => simp [hc]
  | true =>
   simp only [if_true, Bool.not_true, Bool.false_or, siftP]
   cases p.2.p <;> cases p.2.q <;> cases p.2.r <;> simp only [sftI, Bool.true_and, Bool.false_and, Bool.false_eq_true, if_true, if_false, ite_self]
def PSub (a b : List Pa) : Prop := ∀ p ∈ a, ∃ q ∈ b, p.same q
theorem mp_snd {k : Int} {pas : List (Int × Pa)} : (mpV (strPa k) pas).map (·.2) = (pas.map (·.2)).map (strPa k) := by simp [mpV, Function.comp_def]
section
variable {st : Zd} {m : HM} {c k : Nat}
theorem PSub.refl {a : List Pa} : PSub a a := fun p hp => ⟨p, hp, .inl rfl⟩
theorem PSub.app {a b c d : List Pa} (h : PSub a b) (g : PSub c d) : PSub (a ++ c) (b ++ d) := fun p hp => by
 rcases List.mem_append.mp hp with hp | hp
 ·obtain ⟨q, hq, e⟩ := h p hp; exact ⟨q, List.mem_append.mpr (.inl hq), e⟩
 ·obtain ⟨q, hq, e⟩ := g p hp; exact ⟨q, List.mem_append.mpr (.inr hq), e⟩
end
section
variable {bs : List (Int × Ch)} {pos : List (Int × Po)} {pas : List (Int × Pa)} {ax ay bx bY : Int} {q q' : Rat}
theorem crossQ {c : Ch} {p : Pa} : Vu (c.x * q.den) (c.y * q.den) (ax * q.den + (bx - ax) * q.num) (ay * q.den + (bY - ay) * q.num) (strPa q.den p) = pdB c.x c.y p.ax p.ay p.bx p.bY ax ay bx bY q := by
 unfold Vu pdB
 rw [Bool.eq_iff_iff, ZaN, ZaN]
 exact Geo.ZbT
theorem anyQ {c : Ch} : ((mpV (strPo q.den) pos).any fun p => hitP (c.x * q.den) (c.y * q.den) (ax * q.den + (bx - ax) * q.num) (ay * q.den + (bY - ay) * q.num) p.2) = pos.any fun p => bdB c.x c.y p.2.l p.2.w p.2.r p.2.h ax ay bx bY q := by
 unfold mpV; rw [List.any_map]; rfl
theorem keepQ {c : Ch} {f : Pa -> Bool} (hf : ∀ k p, f (strPa k p) = f p) : keepP (c.x * q.den) (c.y * q.den) (ax * q.den + (bx - ax) * q.num) (ay * q.den + (bY - ay) * q.num) ((mpV (strPa q.den) pas).map (·.2)) f = (pas.map (·.2)).all fun p => !pdB c.x c.y p.ax p.ay p.bx p.bY ax ay bx bY q || f p := by
 rw [mp_snd]
 unfold keepP
 rw [List.all_map]
 congr 1
 funext p
 show (!Vu _ _ _ _ (strPa q.den p) || f (strPa q.den p)) = _
 rw [crossQ, hf]
end
section
variable {L : Rat -> T3i} {lo hi : Rat} {li hin : Bool}
end
section
variable {L : Rat -> T3i} {lo hi : Rat} {li hin : Bool}
end
section
variable {bs : List (Int × Ch)} {pos : List (Int × Po)} {pas : List (Int × Pa)} {ax ay bx bY : Int} {q q' : Rat} {st : Zd}
theorem light_pt {x y : Int} (hx : (x : Rat) = Geo.pt ax bx q) (hy : (y : Rat) = Geo.pt ay bY q) : lightS bs pos pas x y = Zah bs pos pas ax ay bx bY q := by
 have h1 : ∀ (c : Ch) (p : Po), hitP c.x c.y x y p = bdB c.x c.y p.l p.w p.r p.h ax ay bx bY q := fun c p => by
  rw [Bool.eq_iff_iff, bdB_iff]
  unfold hitP Geo.BDark
  rw [hitB_iff, hx, hy]
 have h2 : ∀ (c : Ch) (p : Pa), Vu c.x c.y x y p = pdB c.x c.y p.ax p.ay p.bx p.bY ax ay bx bY q := fun c p => by
  rw [Bool.eq_iff_iff, pdB_iff]
  unfold Vu Geo.PDark
  rw [ZaN, hx, hy]
  exact Geo.ZbT
 have h3 : ∀ c : Ch, Uq pos pas x y c = Zal pos pas ax ay bx bY q c := fun c => by
  unfold Zal Uq
  show (if (pos.any fun p => hitP c.x c.y x y p.2) = true then _ else _) = (if ((mpV (strPo q.den) pos).any fun p => hitP (c.x * q.den) (c.y * q.den) _ _ p.2) = true then _ else _)
  rw [anyQ, show (pos.any fun p => hitP c.x c.y x y p.2) = pos.any fun p => bdB c.x c.y p.2.l p.2.w p.2.r p.2.h ax ay bx bY q from by congr 1; funext p; exact h1 c p.2]
  split
  ·rfl
  ·rw [WR, WR, keepQ (f := Pa.p) (fun _ _ => rfl), keepQ (f := Pa.q) (fun _ _ => rfl), keepQ (f := Pa.r) (fun _ _ => rfl)]
   have k : ∀ f : Pa -> Bool, keepP c.x c.y x y (pas.map (·.2)) f = (pas.map (·.2)).all fun p => !pdB c.x c.y p.ax p.ay p.bx p.bY ax ay bx bY q || f p := fun f => by
    unfold keepP; congr 1; funext p; rw [h2]
   rw [k, k, k]
 unfold lightS Zah
 rw [show (fun b : Int × Ch => Uq pos pas x y b.2) = fun b => Zal pos pas ax ay bx bY q b.2 from funext fun b => h3 b.2]
 rfl
end
section
variable {bs : List (Int × Ch)} {pos : List (Int × Po)} {pas : List (Int × Pa)} {ax ay bx bY ax' ay' bx' bY' : Int} {q q' : Rat}
end
section
variable {L L' : Rat -> T3i} {lo hi : Rat} {li hin : Bool}
def Stc.back (s : Stc) : Stc := ⟨1 - s.hi, s.hin, 1 - s.lo, s.li, s.t⟩
def Stc.join (z f : Stc) : Stc := ⟨z.lo, z.li, f.hi, f.hin, z.t⟩
end
section
variable {L : Rat -> T3i} {lo hi : Rat} {li hin : Bool} {st : Zd}
end
section
variable {st : Zd} {m : HM} {sx sy : Int}
end
section
variable {st : Zd} {m : HM} {sx sy : Int}
end
section
variable {st : Zd} {m : HM} {sx sy : Int}
section
variable {d0 d1 d2 d3 d4 d5 : Option (Fr × D)} {lx ly : Int}
end
end
section
variable {st : Zd} {m : HM} {sx sy : Int}
end
section
variable {st : Zd} {m M : HM} {c k : Nat}
end
section
variable {st : Zd} {m : HM} {c k : Nat}
end
section
variable {st : Zd} {m : HM} {c k : Nat}
end
theorem pt0 {x : Rat} : x = Geo.pt x x 0 := by unfold Geo.pt; grind
structure Sim where
 fx : Rat -> Rat -> Rat
 fy : Rat -> Rat -> Rat
 ix : Int -> Int -> Int
 iy : Int -> Int -> Int
 bo : Po -> Po
 cx : ∀ x y : Int, ((ix x y : Int) : Rat) = fx x y
 cy : ∀ x y : Int, ((iy x y : Int) : Rat) = fy x y
 px : ∀ a b c d s, fx (Geo.pt a b s) (Geo.pt c d s) = Geo.pt (fx a c) (fx b d) s
 py : ∀ a b c d s, fy (Geo.pt a b s) (Geo.pt c d s) = Geo.pt (fy a c) (fy b d) s
 inj : ∀ x y x' y', fx x y = fx x' y' -> fy x y = fy x' y' -> x = x' ∧ y = y'
 box : ∀ (p : Po) (x y : Rat), Geo.InB ((bo p).l : Rat) (bo p).w (bo p).r (bo p).h (fx x y) (fy x y) ↔ Geo.InB (p.l : Rat) p.w p.r p.h x y
namespace Sim
variable (T : Sim)
def ch (c : Ch) : Ch := ⟨T.ix c.x c.y, T.iy c.x c.y, c.r, c.g, c.b⟩
def pa (p : Pa) : Pa := ⟨T.ix p.ax p.ay, T.iy p.ax p.ay, T.ix p.bx p.bY, T.iy p.bx p.bY, p.p, p.q, p.r⟩
theorem meets {ax ay bx bY cx cy dx dy : Rat} : Geo.Meets (T.fx ax ay) (T.fy ax ay) (T.fx bx bY) (T.fy bx bY) (T.fx cx cy) (T.fy cx cy) (T.fx dx dy) (T.fy dx dy) ↔ Geo.Meets ax ay bx bY cx cy dx dy := by
 rw [Geo.VD, Geo.VD]
 constructor
 ·rintro ⟨s, t, hs, ht, e1, e2⟩
  rw [<- T.px, <- T.px] at e1
  rw [<- T.py, <- T.py] at e2
  obtain ⟨a, b⟩ := T.inj _ _ _ _ e1 e2
  exact ⟨s, t, hs, ht, a, b⟩
 ·rintro ⟨s, t, hs, ht, e1, e2⟩
  refine ⟨s, t, hs, ht, ?_, ?_⟩
  ·rw [<- T.px, <- T.px, e1, e2]
  ·rw [<- T.py, <- T.py, e1, e2]
theorem bmeets {p : Po} {ax ay bx bY : Rat} : Geo.UA ((T.bo p).l : Rat) (T.bo p).w (T.bo p).r (T.bo p).h (T.fx ax ay) (T.fy ax ay) (T.fx bx bY) (T.fy bx bY) ↔ Geo.UA (p.l : Rat) p.w p.r p.h ax ay bx bY := by
 unfold Geo.UA
 constructor
 ·rintro ⟨s, hs, h⟩
  rw [<- T.px, <- T.py, T.box] at h
  exact ⟨s, hs, h⟩
 ·rintro ⟨s, hs, h⟩
  refine ⟨s, hs, ?_⟩
  rw [<- T.px, <- T.py, T.box]; exact h
variable {ax ay bx bY x y : Int} {q : Rat} {bs : List (Int × Ch)} {pos : List (Int × Po)} {pas : List (Int × Pa)}
theorem bd (c : Ch) (p : Po) : bdB (T.ch c).x (T.ch c).y (T.bo p).l (T.bo p).w (T.bo p).r (T.bo p).h (T.ix ax ay) (T.iy ax ay) (T.ix bx bY) (T.iy bx bY) q = bdB c.x c.y p.l p.w p.r p.h ax ay bx bY q := by
 rw [Bool.eq_iff_iff, bdB_iff, bdB_iff]
 unfold Geo.BDark
 rw [T.cx, T.cx, T.cy, T.cy, show ((T.ch c).x : Rat) = T.fx c.x c.y from T.cx _ _, show ((T.ch c).y : Rat) = T.fy c.x c.y from T.cy _ _, <- T.px, <- T.py, T.bmeets]
theorem pd (c : Ch) (p : Pa) : pdB (T.ch c).x (T.ch c).y (T.pa p).ax (T.pa p).ay (T.pa p).bx (T.pa p).bY (T.ix ax ay) (T.iy ax ay) (T.ix bx bY) (T.iy bx bY) q = pdB c.x c.y p.ax p.ay p.bx p.bY ax ay bx bY q := by
 rw [Bool.eq_iff_iff, pdB_iff, pdB_iff]
 unfold Geo.PDark
 rw [T.cx, T.cx, T.cy, T.cy, show ((T.ch c).x : Rat) = T.fx c.x c.y from T.cx _ _, show ((T.ch c).y : Rat) = T.fy c.x c.y from T.cy _ _, show ((T.pa p).ax : Rat) = T.fx p.ax p.ay from T.cx _ _, show ((T.pa p).ay : Rat) = T.fy p.ax p.ay from T.cy _ _, show ((T.pa p).bx : Rat) = T.fx p.bx p.bY from T.cx _ _, show ((T.pa p).bY : Rat) = T.fy p.bx p.bY from T.cy _ _, <- T.px, <- T.py, T.meets]
theorem comes (c : Ch) : Zal (mpV T.bo pos) (mpV T.pa pas) (T.ix ax ay) (T.iy ax ay) (T.ix bx bY) (T.iy bx bY) q (T.ch c) = Zal pos pas ax ay bx bY q c := by
 unfold Zal Uq
 show (if ((mpV (strPo q.den) (mpV T.bo pos)).any fun p => hitP ((T.ch c).x * q.den) ((T.ch c).y * q.den) _ _ p.2) = true then _ else _) = (if ((mpV (strPo q.den) pos).any fun p => hitP (c.x * q.den) (c.y * q.den) _ _ p.2) = true then _ else _)
 rw [anyQ, anyQ, show ((mpV T.bo pos).any fun p => bdB (T.ch c).x (T.ch c).y p.2.l p.2.w p.2.r p.2.h (T.ix ax ay) (T.iy ax ay) (T.ix bx bY) (T.iy bx bY) q) = pos.any fun p => bdB c.x c.y p.2.l p.2.w p.2.r p.2.h ax ay bx bY q from by
  unfold mpV; rw [List.any_map]; congr 1; funext p; exact T.bd c p.2]
 split
 ·rfl
 ·have k : ∀ f : Pa -> Bool, (∀ p, f (T.pa p) = f p) -> (((mpV T.pa pas).map (·.2)).all fun p => !pdB (T.ch c).x (T.ch c).y p.ax p.ay p.bx p.bY (T.ix ax ay) (T.iy ax ay) (T.ix bx bY) (T.iy bx bY) q || f p) = (pas.map (·.2)).all fun p => !pdB c.x c.y p.ax p.ay p.bx p.bY ax ay bx bY q || f p := fun f hf => by
   unfold mpV
   rw [List.map_map, List.all_map, List.all_map]
   congr 1; funext p
   show (!pdB (T.ch c).x (T.ch c).y (T.pa p.2).ax (T.pa p.2).ay (T.pa p.2).bx (T.pa p.2).bY _ _ _ _ q || f (T.pa p.2)) = _
   rw [T.pd, hf]; rfl
  rw [WR, WR, keepQ (f := Pa.p) (fun _ _ => rfl), keepQ (f := Pa.q) (fun _ _ => rfl), keepQ (f := Pa.r) (fun _ _ => rfl), keepQ (f := Pa.p) (fun _ _ => rfl), keepQ (f := Pa.q) (fun _ _ => rfl), keepQ (f := Pa.r) (fun _ _ => rfl), k Pa.p (fun _ => rfl), k Pa.q (fun _ => rfl), k Pa.r (fun _ => rfl)]
  rfl
def bu (bs : List (Int × Ch)) : List (Int × Ch) := bs.map fun b => (b.1, T.ch b.2)
theorem Zah : Zah (T.bu bs) (mpV T.bo pos) (mpV T.pa pas) (T.ix ax ay) (T.iy ax ay) (T.ix bx bY) (T.iy bx bY) q = Hx.Zah bs pos pas ax ay bx bY q := by
 unfold Hx.Zah bu
 rw [List.map_map]
 congr 1
 exact List.map_congr_left fun b _ => T.comes b.2
theorem light : lightS (T.bu bs) (mpV T.bo pos) (mpV T.pa pas) (T.ix x y) (T.iy x y) = lightS bs pos pas x y := by
 rw [light_pt (bs := bs) (pos := pos) (pas := pas) (x := x) (y := y) (ax := x) (ay := y) (bx := x) (bY := y) (q := 0) pt0 pt0, light_pt (bs := T.bu bs) (x := T.ix x y) (y := T.iy x y) (ax := T.ix x y) (ay := T.iy x y) (bx := T.ix x y) (bY := T.iy x y) (q := 0) pt0 pt0]
 exact T.Zah
theorem ne (h : ax ≠ bx ∨ ay ≠ bY) : T.ix ax ay ≠ T.ix bx bY ∨ T.iy ax ay ≠ T.iy bx bY := by
 by_cases c : T.ix ax ay = T.ix bx bY
 ·right; intro c2
  have a1 : T.fx ax ay = T.fx bx bY := by rw [<- T.cx, <- T.cx, c]
  have a2 : T.fy ax ay = T.fy bx bY := by rw [<- T.cy, <- T.cy, c2]
  obtain ⟨e1, e2⟩ := T.inj _ _ _ _ a1 a2
  have e1 : ax = bx := by exact_mod_cast e1
  have e2 : ay = bY := by exact_mod_cast e2
  rcases h with h | h
  ·exact h e1
  ·exact h e2
 ·exact .inl c
end Sim
end Hx
namespace Hx
open PySem PySem.Spec L2
def Nr (x : Int) : Prop := -150 <= x ∧ x <= 150
theorem Nr.ok {x : Int} (h : Nr x) : Ok6 x := by unfold Nr at h; unfold Ok6; omega
section
variable {st : Zd} {c k : Nat} {m : HM} {wd a b w : Int}
end
section
variable {st : Zd} {m mo : HM} {c : Nat} {p g : List (D × HM)} {d : D}
end
def Le3 (a b : T3i) : Prop := a.1 <= b.1 ∧ a.2.1 <= b.2.1 ∧ a.2.2 <= b.2.2
theorem Le3.refl {a : T3i} : Le3 a a := ⟨Int.le_refl _, Int.le_refl _, Int.le_refl _⟩
section
variable {bs : List (Int × Ch)} {pos : List (Int × Po)} {pas : List (Int × Pa)} {sx sy lx ly : Int}
end
section
variable {m : HM} {p : Po} {q : Pa}
end
section
variable {st : Zd} {m : HM} {c k : Nat}
end
section
variable {st : Zd} {m : HM} {c k : Nat}
end
def Ch.row (c : Ch) : List Int := [c.x, c.y, c.r, c.g, c.b]
theorem Ch.row_inj {a b : Ch} (h : a.row = b.row) : a = b := by
 cases a; cases b; simp [Ch.row] at h; simp [h]
section
variable {st : Zd} {m : HM}
end
abbrev sK : Str := Str.ofString "look"
section
variable {st : Zd} {m : HM}
@[simp] theorem cut5_13 {a b c d e : D} : cutD [a, b, c, d, e] (some 1) (some 3) = [b, c] := rfl
@[simp] theorem cut3_13 {a b c : D} : cutD [a, b, c] (some 1) (some 3) = [b, c] := rfl
variable {A X d : D} {w k : Str} {n r u : Int} {b : Bool}
inductive Dd.Turn : Dd -> Prop
 | move {w : Str} {n r u : Int} (h : w = sL ∨ w = sP ∨ w = sN ∨ w = sK) : Dd.Turn (.move w n r u)
 | drop {w : Str} {n : Int} (h : w = sL ∨ w = sP ∨ w = sN ∨ w = sK) : Dd.Turn (.drop w n)
 | switch {n : Int} : Dd.Turn (.switch n)
end
section
variable {st : Zd} {m : HM} {c k : Nat}
end
section
variable {st : Zd} {m : HM} {c k : Nat}
end
instance : DecidableEq Ch := fun a b => if h : a.row = b.row then isTrue (Ch.row_inj h) else isFalse fun e => h (by rw [e])
theorem pys_any {a : D} {x : PyData} (ha : nb 64 a = true) (hx : a.py = some x) : ∀ {ds : List D} {xs : List PyData}, (∀ d ∈ ds, nb 64 d = true) -> D.pys ds = some xs -> ((xs.any fun z => PyData.eqv z x) = true ↔ a ∈ ds)
 | [], xs, _, h => by cases h; simp
 | d :: ds, xs, hd, h => by
  rw [D.pys] at h
  split at h
  ·rename_i z zs e1 e2
   cases h
   have ih := pys_any ha hx (ds := ds) (fun d h => hd d (by simp [h])) e2
   obtain ⟨c, e, k⟩ := eqD_nb (hd d (by simp)) ha
   have hc : PyData.eqv z x = c := by
    obtain ⟨x', y', q1, q2, _, _, q5⟩ := eqD_some e
    rw [e1] at q1
    rw [hx] at q2
    cases q1
    cases q2
    exact q5
   rw [List.any_cons, Bool.or_eq_true, ih, hc, k, List.mem_cons]
   constructor
   ·rintro (h | h)
    ·exact .inl h.symm
    ·exact .inr h
   ·rintro (h | h)
    ·exact .inl h.symm
    ·exact .inr h
  ·cases h
theorem inLD_nb {a : D} {ds : List D} (ha : nb 64 a = true) (hd : ∀ d ∈ ds, nb 64 d = true) (hL : nb 64 (.con .lst ds) = true) : ∃ c, inLD a ds = some c ∧ (c = true ↔ a ∈ ds) := by
 obtain ⟨x, e1, h1, g1⟩ := nb_py _ _ ha
 obtain ⟨s1, d1⟩ := shp _ _ h1
 obtain ⟨y, e2, h2, g2⟩ := nb_py _ _ hL
 obtain ⟨s2, d2⟩ := shp _ _ h2
 have e2 : (D.pys ds).map PyData.list = some y := by simpa [D.py] using e2
 obtain ⟨xs, q1, rfl⟩ := Option.map_eq_some_iff.mp e2
 exact ⟨xs.any fun z => PyData.eqv z x, by simp [inLD, e1, q1, SeqAt.shaped, s1, s2, d1, d2], pys_any ha e1 hd q1⟩
section
variable {st : Zd} {m : HM} {c k : Nat} {wd a b : Int}
end
section
variable {st : Zd} {m : HM}
end
section
variable {st : Zd} {m : HM} {pos : List (Int × Po)} {pas : List (Int × Pa)} {sx sy : Int}
end
section
variable {st : Zd} {m : HM} {pos : List (Int × Po)} {pas : List (Int × Pa)} {sx sy : Int}
end
section
variable {st : Zd} {m : HM} {pos : List (Int × Po)} {pas : List (Int × Pa)} {sx sy : Int}
end
section
variable {st : Zd} {m : HM}
end
section
variable {st : Zd} {m : HM}
end
section
variable {st : Zd} {m : HM}
end
section
variable {st : Zd} {m : HM}
end
section
variable {st : Zd} {m : HM}
end
section
variable {st : Zd} {m : HM}
end
section
variable {m : HM}
end
section
variable {m : HM}
end
section
variable {st : Zd} {m : HM}
theorem VY {α : Type} (f : α -> Bool) : ∀ l : List α, bools (l.map fun x => D.bl (f x)) = some (l.map f)
 | [] => rfl
 | x :: l => by
  show (bools (l.map fun x => D.bl (f x))).map (f x :: ·) = _
  rw [VY f l]; rfl
end
section
variable {st : Zd} {c k : Nat}
end
section
variable {st : Zd} {m : HM} {c k : Nat}
end
structure Stir (m m' : HM) : Prop where
 ch : m'.la.map (fun x => (x.1, x.2.ch)) = m.la.map (fun x => (x.1, x.2.ch))
 po : m'.po.map (·.1) = m.po.map (·.1)
 pa : m'.pa.map (·.1) = m.pa.map (·.1)
 no : m'.no = m.no
 n4 : m'.a = m.a ∧ m'.b = m.b ∧ m'.c = m.c ∧ m'.d = m.d
theorem Stir.refl {m : HM} : Stir m m := ⟨rfl, rfl, rfl, rfl, rfl, rfl, rfl, rfl⟩
theorem Stir.trans {m m' m'' : HM} (h : Stir m m') (g : Stir m' m'') : Stir m m'' :=
 ⟨g.ch.trans h.ch, g.po.trans h.po, g.pa.trans h.pa, g.no.trans h.no, g.n4.1.trans h.n4.1, g.n4.2.1.trans h.n4.2.1, g.n4.2.2.1.trans h.n4.2.2.1, g.n4.2.2.2.trans h.n4.2.2.2⟩
theorem Stir.lk {m m' : HM} (h : Stir m m') : m'.la.map (·.1) = m.la.map (·.1) := by
 have := congrArg (List.map Prod.fst) h.ch
 simpa [Function.comp_def] using this
section
variable {st : Zd} {m : HM} {c k : Nat}
end
def InT (n : Int) (t : T3i) : Prop := Cl n t.1 ∧ Cl n t.2.1 ∧ Cl n t.2.2
theorem InT.sift {n : Int} {t : T3i} {p : Pa} (h : InT n t) (hn : 0 <= n) : InT n (siftP t p) := by
 obtain ⟨a, b, c⟩ := h
 unfold siftP sftI InT Cl at *
 refine ⟨?_, ?_, ?_⟩ <;> dsimp only <;> split <;> omega
theorem InT.through {n : Int} {lx ly sx sy : Int} (hn : 0 <= n) : ∀ {l : List (Int × Pa)} {t : T3i}, InT n t -> InT n (through lx ly sx sy l t)
 | [], t, h => h
 | p :: l, t, h => by
  show InT n (Hx.through lx ly sx sy l (if Vu lx ly sx sy p.2 then siftP t p.2 else t))
  refine InT.through hn ?_
  split
  ·exact h.sift hn
  ·exact h
theorem InT.comes {pos : List (Int × Po)} {pas : List (Int × Pa)} {sx sy : Int} {c : Ch} (h : c.Ok) : InT 1000000 (Uq pos pas sx sy c) := by
 unfold Uq
 split
 ·unfold InT Cl; dsimp only; omega
 ·have h1 := h.r
  have h2 := h.g
  have h3 := h.b
  exact InT.through (by omega) ⟨h1, h2, h3⟩
section
variable {st : Zd} {m : HM} {c k : Nat} {wd a b : Int}
inductive Dd.Note : Dd -> Prop
 | look {x y r g b : Int} : Dd.Note (.look x y r g b)
 | strike {n : Int} : Dd.Note (.strike n)
 | settle {n k : Int} : Dd.Note (.settle n k)
end
section
variable {st : Zd} {m : HM} {c k : Nat}
end
section
variable {st : Zd} {m : HM} {j r : Nat}
end
section
variable {st : Zd} {m : HM} {c k : Nat} {wd a b : Int}
end
section
variable {st : Zd} {m : HM} {j r : Nat}
end
abbrev tx (a : List Nat) : D := .str (SX.S a)
def Zu (a : List Nat) : List Nat := if a.head? = some 45 then a.tail else a
def digB (a : List Nat) : Bool := a.all fun c => decide (48 <= c) && decide (c <= 57)
def numV (a : List Nat) : Int := if a.head? = some 45 then -(NumText.digitsVal (Zu a) : Int) else (NumText.digitsVal (Zu a) : Int)
def Wt (a : List Nat) : Option Int :=
 if (1 <= (Zu a).length ∧ (Zu a).length <= 9) ∧ digB (Zu a) = true ∧ ¬ ((Zu a).head? = some 48 ∧ a ≠ [48]) then some (numV a) else none
def oI : Option Int -> D
 | some i => .int i
 | none => .non
theorem pre_S (a p : List Nat) : Txt.removeprefix (SX.S a) (SX.S p) = SX.S (if a.take p.length = p then a.drop p.length else a) := by
 rw [PySem.StrLaws.removeprefix_eq, PySem.StrLaws.subAt_eq, SX.S_len, SX.S_len, Nat.zero_add]
 simp only [SX.S, List.drop_zero]
 by_cases c : a.take p.length = p
 ·have hl : p.length <= a.length := by
   have := congrArg List.length c
   rw [List.length_take] at this
   omega
  have hc : (decide (p.length <= a.length) && (List.take p.length a == p)) = true := by simp [hl, c]
  rw [if_pos hc, if_pos c]
  rw [List.take_of_length_le (by simp)]
 ·have hc : ¬ (decide (p.length <= a.length) && (List.take p.length a == p)) = true := by simp [c]
  rw [if_neg hc, if_neg c]
theorem pre_minus {a : List Nat} : Txt.removeprefix (SX.S a) (Str.ofString "-") = SX.S (Zu a) := by
 rw [show Str.ofString "-" = SX.S [45] from rfl, pre_S]
 congr 1
 unfold Zu
 cases a with
 | nil => rfl
 | cons x r =>
  by_cases c : x = 45
  ·subst c; rfl
  ·rw [if_neg (by simpa using c), if_neg (by simpa using c)]
theorem dig_all {a : List Nat} : digB a = true ↔ NumText.AllDigits a := by
 unfold digB NumText.AllDigits
 rw [List.all_eq_true]
 constructor
 ·intro h c hc
  have := h c hc
  simpa using this
 ·intro h c hc
  have := h c hc
  simpa using this
theorem numV_intText {a : List Nat} (h : digB (Zu a) = true) (h1 : Zu a ≠ []) (hl : a.length <= 640) : PySem.intText? (SX.S a) = some (numV a) := by
 have hd := dig_all.mp h
 unfold numV
 by_cases c : a.head? = some 45
 ·rw [if_pos c]
  unfold Zu at *
  rw [if_pos c] at *
  obtain ⟨x, r, rfl⟩ : ∃ x r, a = x :: r := by cases a <;> simp_all
  cases c
  exact PySem.intText_neg (cs := r) rfl hd h1 (by rw [SX.S_len]; omega)
 ·rw [if_neg c]
  unfold Zu at *
  rw [if_neg c] at *
  exact PySem.intText_digits (x := SX.S a) hd h1 (by rw [SX.S_len]; omega)
theorem toStr_S (i : Int) : Str.ofString (toString i) = SX.S (if i < 0 then 45 :: TL.numL i.natAbs else TL.numL i.natAbs) := by
 cases i with
 | ofNat n =>
  have h : ¬ (Int.ofNat n < 0) := Int.not_lt.mpr (Int.ofNat_nonneg n)
  rw [if_neg h]; exact SX.num_S n
 | negSucc n =>
  rw [if_pos (Int.negSucc_lt_zero n)]
  apply TL.ext_tl
  rw [TL.tl_ofString]
  show ("-" ++ toString (n + 1)).toList.map Char.toNat = _
  rw [String.toList_append, List.map_append]
  have := TL.tl_num (n + 1)
  rw [TL.tl_ofString] at this
  exact congrArg (fun z => 45 :: z) this
def numC (i : Int) : List Nat := if i < 0 then 45 :: TL.numL i.natAbs else TL.numL i.natAbs
theorem bare_len (a : List Nat) : (Zu a).length <= a.length := by
 unfold Zu
 split
 ·simp
 ·exact Nat.le_refl _
theorem bare_len' (a : List Nat) : a.length <= (Zu a).length + 1 := by
 unfold Zu
 split
 ·simp; omega
 ·omega
def okC (a : List Nat) : Bool := a.all fun c => decide (c < 0x110000)
theorem ZK {a : List Nat} (h : okC a = true) : PyData.strOk (SX.S a) = true := by
 unfold PyData.strOk okC at *
 simpa using h
theorem shaped_tx {a : List Nat} (h : okC a = true) : SeqAt.shaped (.str (SX.S a)) = true := by
 unfold SeqAt.shaped
 rw [show (PyData.str (SX.S a)).canLay0 = PyData.strOk (SX.S a) from rfl, ZK h]
 rfl
theorem WV {a b : List Nat} (ha : okC a = true) (hb : okC b = true) : eqD (tx a) (tx b) = some (decide (a = b)) := by
 show (bif SeqAt.shaped (.str (SX.S a)) && SeqAt.shaped (.str (SX.S b)) then some (PyData.eqv (.str (SX.S a)) (.str (SX.S b))) else none) = _
 have e : PyData.eqv (.str (SX.S a)) (.str (SX.S b)) = (SX.S a == SX.S b) := rfl
 rw [e, SX.S_beq_eq, shaped_tx ha, shaped_tx hb]
 rfl
def dgB (c : Nat) : Bool := decide (c ∈ (Str.ofString "0123456789").cps.toList)
theorem dig_chars (a : List Nat) : (a.all dgB) = digB a := by
 unfold digB
 congr 1
 funext c
 unfold dgB
 have : (Str.ofString "0123456789").cps.toList = [48, 49, 50, 51, 52, 53, 54, 55, 56, 57] := rfl
 rw [this]
 rw [Bool.eq_iff_iff]
 simp
 omega
theorem Ul {a : List Nat} {st : Zd} (hl : a.length <= 1000000) (ok : okC a = true) : ZL [(.z, tx a)] st = .ok .z false (oI (Wt a)) st := by
 have hb := bare_len a
 have hb' := bare_len' a
 have e0 := @pre_minus a
 have hle : (SX.S a).length <= 16777216 := by rw [SX.S_len]; omega
 have hlb : (SX.S (Zu a)).length <= 16777216 := by rw [SX.S_len]; omega
 have i1 := Vx (p := .nm 2) (env := [some (.z, tx a), some (.z, tx (Zu a)), none]) (st := st) (el := dOp oIn (Zb (Ze 2) (Za (dC (.str (Str.ofString "0123456789")))))) (fun c : Nat => D.str ⟨#[c]⟩) (fun c => .bl (dgB c)) (Zu a) [] (fun c hc => ⟨_, rfl, by
  simp [inS, orOp, dgB]⟩)
 have i2 := VY (fun c : Nat => dgB c) (Zu a)
 have hln : (SX.S (Zu a)).length = (Zu a).length := SX.S_len _
 have hch : chars (SX.S (Zu a)) = (Zu a).map fun c => D.str ⟨#[c]⟩ := rfl
 have hd := dig_chars (Zu a)
 unfold Wt
 have hi : ∀ x r, Zu a = x :: r -> atI (SX.S (Zu a)).cps.toList 0 = some x := fun x r h => by rw [h]; simp [atI, ixN]
 have q0 : eqD (tx a) (.str (Str.ofString "0")) = some (decide (a = [48])) := WV ok (by rfl)
 have q1 : ∀ x, x < 0x110000 -> eqD (.str ⟨#[x]⟩) (.str (Str.ofString "0")) = some (decide (x = 48)) := fun x hx => by
  have := WV (a := [x]) (b := [48]) (by simpa [okC] using hx) (by rfl)
  rw [show decide (([x] : List Nat) = [48]) = decide (x = 48) by simp] at this
  exact this
 by_cases c1 : 1 <= (Zu a).length ∧ (Zu a).length <= 9
 ·by_cases c2 : digB (Zu a) = true
  ·obtain ⟨x, r, hx⟩ : ∃ x r, Zu a = x :: r := by cases h : Zu a with
    | nil => rw [h] at c1; exact absurd c1.1 (by decide)
    | cons x r => exact ⟨x, r, rfl⟩
   have h0 := hi x r hx
   have hx1 : x < 0x110000 := by
    rw [hx] at c2
    unfold digB at c2
    rw [List.all_cons] at c2
    simp at c2
    omega
   have hq := q1 x hx1
   have hint := numV_intText (a := a) c2 (by rw [hx]; simp) (by omega)
   have hmx : (Zu a).head? = some x := by rw [hx]; rfl
   rw [hmx]
   simp only [c1, c2, true_and, and_self, if_true]
   have i2 : bools ((Zu a).map fun c => D.bl (dgB c)) = some ((Zu a).map fun c => dgB c) := i2
   have hd : ((Zu a).map fun c => dgB c).all id = true := by rw [List.all_map]; exact hd.trans c2
   have hm : (Zu a).length <= 16777215 := by omega
   have hm2 : (Zu a).length <= 16777216 := by omega
   have c11 : (1 : Int) <= ((Zu a).length : Int) := by omega
   have c12 : ((Zu a).length : Int) <= 9 := by omega
   have hax : (SX.S a).length <= 640 := by rw [SX.S_len]; omega
   have q0 : eqD (.str (SX.S a)) (.str (Str.ofString "0")) = some (decide (a = [48])) := q0
   have i1 : lcGo (.nm 2) dYes (dOp oIn (Zb (Ze 2) (Za (dC (.str (Str.ofString "0123456789")))))) ((Zu a).map fun c => D.str ⟨#[c]⟩) [some (.z, .str (SX.S a)), some (.z, .str (SX.S (Zu a))), none] st [] = _ := i1
   show ZL [(.z, .str (SX.S a))] st = _
   generalize SX.S a = X at *
   generalize SX.S (Zu a) = Y at *
   generalize Zu a = ys at *
   generalize numV a = v at *
   have hix : atI Y.cps.toList 0 = some x := h0
   have fin : (if ¬ (some x = some 48 ∧ a ≠ [48]) then some v else none) = if (decide (x = 48) && !decide (a = [48])) = true then none else some v := by
    by_cases c3 : x = 48 <;> by_cases c4 : a = [48] <;> simp [c3, c4]
   rw [fin]
   generalize decide (x = 48) = p at *
   generalize decide (a = [48]) = q at *
   cases p <;> cases q <;>
    simp [ZL, dLc, e0, hle, hlb, hch, i1, i2, hd, hm, hax, hix, hq, q0, hln, hm2, c11, c12, hint, lk, Zw, oI, oIntS]
  ·have hm : (Zu a).length <= 16777215 := by omega
   have hm2 : (Zu a).length <= 16777216 := by omega
   have c11 : (1 : Int) <= ((Zu a).length : Int) := by omega
   have c12 : ((Zu a).length : Int) <= 9 := by omega
   have hd : ((Zu a).map fun c => dgB c).all id = false := by rw [List.all_map]; exact hd.trans (by simpa using c2)
   rw [if_neg (by simp [c2])]
   have i1 : lcGo (.nm 2) dYes (dOp oIn (Zb (Ze 2) (Za (dC (.str (Str.ofString "0123456789")))))) ((Zu a).map fun c => D.str ⟨#[c]⟩) [some (.z, .str (SX.S a)), some (.z, .str (SX.S (Zu a))), none] st [] = _ := i1
   show ZL [(.z, .str (SX.S a))] st = _
   generalize SX.S a = X at *
   generalize SX.S (Zu a) = Y at *
   generalize Zu a = ys at *
   simp [ZL, dLc, e0, hle, hlb, hch, i1, i2, hd, hm, hln, hm2, c11, c12, lk, Zw, oI]
 ·rw [if_neg (fun h => c1 h.1)]
  have hm2 : (Zu a).length <= 16777216 := by omega
  show ZL [(.z, .str (SX.S a))] st = _
  have c5 : (1 : Int) <= ((Zu a).length : Int) -> ¬ ((Zu a).length : Int) <= 9 := by omega
  generalize SX.S a = X at *
  generalize SX.S (Zu a) = Y at *
  generalize Zu a = ys at *
  by_cases c6 : (1 : Int) <= (ys.length : Int)
  ·have c7 := c5 c6
   simp [ZL, e0, hle, hlb, hln, hm2, lk, oI, c6, c7]
  ·simp [ZL, e0, hle, hlb, hln, hm2, lk, oI, c6]
theorem numL_head {n : Nat} (h : (TL.numL n).head? = some 48) : n = 0 := by
 induction n using Nat.strongRecOn with
 | _ n ih =>
  by_cases c : n < 10
  ·rw [TL.numL_lt c] at h
   have := Option.some.inj h
   omega
  ·rw [TL.numL_step (by omega)] at h
   have hne := TL.numL_ne (n / 10)
   have h' : (TL.numL (n / 10)).head? = some 48 := by
    cases hh : TL.numL (n / 10) with
    | nil => exact absurd hh hne
    | cons x r => rw [hh] at h; exact h
   have := ih (n / 10) (by omega) h'
   omega
theorem UD (i : Int) : okC (numC i) = true := by
 have h := TL.numL_digits i.natAbs
 unfold okC
 rw [List.all_eq_true]
 intro c hc
 unfold numC at hc
 split at hc
 ·rcases List.mem_cons.mp hc with rfl | hc
  ·rfl
  ·have := h c hc
   simp; omega
 ·have := h c hc
  simp; omega
theorem VF {i : Int} {s : Nat} (h : s < 45 ∨ 57 < s ∨ s = 47) : s ∉ numC i := fun hc => by
 have h2 := TL.numL_digits i.natAbs
 unfold numC at hc
 split at hc
 ·rcases List.mem_cons.mp hc with rfl | hc
  ·omega
  ·have := h2 s hc; omega
 ·have := h2 s hc; omega
theorem Vl {i : Int} (h : i.natAbs < 10 ^ 9) : (numC i).length <= 10 := by
 have := TL.numL_len (n := i.natAbs) (k := 9) (by decide) h
 unfold numC
 split
 ·simp; omega
 ·omega
theorem bare_num (i : Int) : Zu (numC i) = TL.numL i.natAbs := by
 unfold numC
 split
 ·rfl
 ·have h := TL.numL_digits i.natAbs
  cases hh : TL.numL i.natAbs with
  | nil => rfl
  | cons x r =>
   have := h x (by rw [hh]; simp)
   have hx : x ≠ 45 := by omega
   simp [Zu, hx]
theorem Zbe {i : Int} (h : i.natAbs < 10 ^ 9) : Wt (numC i) = some i := by
 have hl := TL.numL_len (n := i.natAbs) (k := 9) (by decide) h
 have hne := TL.numL_ne i.natAbs
 have hl1 : 1 <= (TL.numL i.natAbs).length := by
  cases hh : TL.numL i.natAbs with
  | nil => exact absurd hh hne
  | cons x r => simp
 unfold Wt
 rw [bare_num, if_pos]
 ·congr 1
  unfold numV
  rw [bare_num, TL.numL_val]
  by_cases c : i < 0
  ·rw [if_pos (by unfold numC; rw [if_pos c]; rfl)]; omega
  ·rw [if_neg]
   ·omega
   ·unfold numC
    rw [if_neg c]
    have h2 := TL.numL_digits i.natAbs
    intro hh
    have := h2 45 (List.mem_of_mem_head? hh)
    omega
 ·refine ⟨⟨hl1, hl⟩, dig_all.mpr (TL.numL_digits _), fun hh => ?_⟩
  have h0 := numL_head hh.1
  have : i = 0 := by omega
  subst this
  exact hh.2 (by rfl)
theorem f_number_num {i : Int} {st : Zd} (h : i.natAbs < 10 ^ 9) : ZL [(.z, tx (numC i))] st = .ok .z false (.int i) st := by
 rw [Ul (by have := Vl h; omega) (UD i), Zbe h]; rfl
theorem strsOf_tx : ∀ l : List (List Nat), strsOf (l.map tx) = some (l.map SX.S)
 | [] => rfl
 | a :: l => by
  rw [List.map_cons, List.map_cons, strsOf, strsOf_tx l]; rfl
def numsIn (ws : List (List Nat)) : Option (List Int) := if none ∈ ws.map Wt then none else some (ws.filterMap Wt)
def oIs : Option (List Int) -> D
 | some is => .con .tup (is.map D.int)
 | none => .non
theorem oI_nb {o : Option Int} : nb 64 (oI o) = true := by cases o <;> rfl
theorem in_none (l : List (Option Int)) : oIn [.non, .con .lst (l.map oI)] = some (.z, .bl (decide (none ∈ l))) := by
 obtain ⟨c, e, k⟩ := inLD_nb (a := .non) (ds := l.map oI) (by simp [nb]) (fun d hd => by
  obtain ⟨y, _, rfl⟩ := List.mem_map.mp hd
  exact oI_nb) (by
  have : ∀ d ∈ l.map oI, nb 63 d = true := fun d hd => by
   obtain ⟨y, _, rfl⟩ := List.mem_map.mp hd
   cases y <;> rfl
  rw [nb, List.all_eq_true]
  exact this)
 have k2 : c = decide (none ∈ l) := by
  rw [Bool.eq_iff_iff, k, decide_eq_true_iff, List.mem_map]
  constructor
  ·rintro ⟨y, h1, h2⟩
   cases y with
   | none => exact h1
   | some z => cases h2
  ·intro h
   exact ⟨none, h, rfl⟩
 subst k2
 simp [oIn, e]
theorem oI_fm : ∀ (l : List (Option Int)), none ∉ l -> l.map oI = (l.filterMap id).map D.int
 | [], _ => rfl
 | none :: l, h => absurd (List.mem_cons_self ..) h
 | some i :: l, h => by
  have := oI_fm l (fun hh => h (List.mem_cons_of_mem _ hh))
  simp [oI, this]
theorem f_numbers_in {ws : List (List Nat)} {st : Zd} (hw : ∀ w ∈ ws, w.length <= 1000000 ∧ okC w = true) (hl : ws.length <= 1000000) :
  ZH [(.z, .con .lst (ws.map tx))] st = .ok .z false (oIs (numsIn ws)) st := by
 have i1 := Vx (p := .nm 2) (env := [some (.z, .con .lst (ws.map tx)), none, none]) (st := st) (el := Zq ZL [] (Za (Ze 2))) tx (fun w => oI (Wt w)) ws [] (fun w hw' => ⟨_, rfl, by
  have e := Ul (st := st) (hw w hw').1 (hw w hw').2
  generalize tx w = X at *
  generalize oI (Wt w) = Y at *
  simp [lk, e]⟩)
 have e2 : (ws.map fun w => oI (Wt w)) = (ws.map Wt).map oI := by rw [List.map_map]; rfl
 rw [e2] at i1
 have i2 := in_none (ws.map Wt)
 have hm : ws.length <= 16777215 := by omega
 unfold numsIn
 by_cases c : none ∈ ws.map Wt
 ·rw [if_pos c]
  rw [decide_eq_true c] at i2
  generalize (ws.map Wt).map oI = R at *
  generalize hT : ws.map tx = T at *
  have hT2 : T.length <= 16777215 := by rw [<- hT, List.length_map]; exact hm
  simp [-oIn, ZH, dLc, Zw, i1, i2, hT2, oIs]
 ·rw [if_neg c]
  rw [decide_eq_false c] at i2
  have e3 := oI_fm _ c
  rw [List.filterMap_map] at e3
  rw [e3] at i1 i2
  have e4 : ws.filterMap (id ∘ Wt) = ws.filterMap Wt := rfl
  rw [e4] at i1 i2
  show _ = Res.ok .z false (.con .tup ((ws.filterMap Wt).map D.int)) st
  generalize (ws.filterMap Wt).map D.int = R at *
  generalize hT : ws.map tx = T at *
  have hT2 : T.length <= 16777215 := by rw [<- hT, List.length_map]; exact hm
  simp [-oIn, ZH, dLc, Zw, i1, i2, hT2, oIs]
theorem numsIn_num (is : List Int) (h : ∀ i ∈ is, i.natAbs < 10 ^ 9) : numsIn (is.map numC) = some is := by
 have e : (is.map numC).map Wt = is.map some := by
  rw [List.map_map]
  exact List.map_congr_left fun i hi => Zbe (h i hi)
 unfold numsIn
 rw [if_neg]
 ·congr 1
  rw [List.filterMap_map]
  have : ∀ l : List Int, (∀ i ∈ l, i.natAbs < 10 ^ 9) -> l.filterMap (Wt ∘ numC) = l := fun l => by
   induction l with
   | nil => intro _; rfl
   | cons x l ih =>
    intro hh
    rw [List.filterMap_cons]
    simp only [Function.comp, Zbe (hh x (by simp))]
    rw [ih (fun i hi => hh i (by simp [hi]))]
  exact this is h
 ·rw [e]
  intro hh
  obtain ⟨x, _, hx⟩ := List.mem_map.mp hh
  cases hx
inductive Th where
 | n (i : Int)
 | s (x : List Nat)
def Th.d : Th -> D
 | .n i => .int i
 | .s x => tx x
def Th.t : Th -> List Nat
 | .n i => numC i
 | .s x => if x = [] then [45] else x
def Th.Ok : Th -> Prop
 | .n i => i.natAbs < 10 ^ 9
 | .s x => okC x = true ∧ x.length <= 100 ∧ 32 ∉ x ∧ 10 ∉ x
def Zv (r : List Int) : List Nat := TL.joinL [32] (r.map numC)
inductive WD where
 | row (w : List Nat) (ts : List Th)
 | uns (rows : List (List Int))
def WD.d : WD -> D
 | .row w ts => .con .tup (tx w :: ts.map Th.d)
 | .uns rows => .con .tup [.str (Str.ofString "unsure"), .con .tup (rows.map fun r => .con .tup (r.map D.int))]
def cs (s : String) : List Nat := (Str.ofString s).cps.toList
theorem cs_S (s : String) : Str.ofString s = SX.S (cs s) := (SX.S_tl _).symm
def WD.t : WD -> List Nat
 | .row w ts => TL.joinL [32] (w :: ts.map Th.t)
 | .uns rows => cs "unsure " ++ TL.joinL (cs " / ") (rows.map Zv)
theorem strOk_num {i : Int} (h : i.natAbs < 10 ^ 9) : ZaS i = true := by
 unfold ZaS
 rw [decide_eq_true_iff]
 by_cases c : i.natAbs = 0
 ·rw [c]; decide
 ·have h30 : i.natAbs < 2 ^ 30 := by omega
  have := (Nat.log2_lt c (k := 30)).mpr h30
  omega
theorem str_num {i : Int} (h : i.natAbs < 10 ^ 9) : oStr [.int i] = some (.z, tx (numC i)) := by
 have e : (Str.ofString (toString i)) = SX.S (numC i) := toStr_S i
 show (match (bif ZaS i then some (D.str (Str.ofString (toString i))) else none).map (fun d => (Fr.z, d)) with | x => x) = _
 rw [strOk_num h, e]; rfl
theorem Th.t_len {x : Th} (h : x.Ok) : x.t.length <= 100 := by
 cases x with
 | n i => have := Vl h; show (numC i).length <= 100; omega
 | s x =>
  show (if x = [] then [45] else x).length <= 100
  split
  ·decide
  ·exact h.2.1
theorem Th.t_okC {x : Th} (h : x.Ok) : okC x.t = true := by
 cases x with
 | n i => exact UD i
 | s x =>
  show okC (if x = [] then [45] else x) = true
  split
  ·rfl
  ·exact h.1
theorem Th.t_free {x : Th} (h : x.Ok) : 32 ∉ x.t ∧ 10 ∉ x.t := by
 cases x with
 | n i => exact ⟨VF (by decide), VF (by decide)⟩
 | s x =>
  show 32 ∉ (if x = [] then [45] else x) ∧ 10 ∉ (if x = [] then [45] else x)
  split
  ·decide
  ·exact h.2.2
theorem WM {sep : List Nat} {m : Nat} : ∀ {ps : List (List Nat)}, (∀ p ∈ ps, p.length <= m) -> (TL.joinL sep ps).length <= ps.length * (m + sep.length)
 | [], _ => by simp [TL.joinL]
 | [p], h => by have := h p (by simp); simp [TL.joinL]; omega
 | p :: q :: r, h => by
  have h1 := h p (by simp)
  have ih := WM (sep := sep) (ps := q :: r) (fun x hx => h x (by simp [hx]))
  rw [TL.joinL, List.length_append, List.length_append, List.length_cons, Nat.succ_mul]
  omega
theorem sum_len {m : Nat} : ∀ {ps : List (List Nat)}, (∀ p ∈ ps, p.length <= m) -> (ps.map List.length).sum <= ps.length * m
 | [], _ => by simp
 | p :: r, h => by
  have h1 := h p (by simp)
  have ih := sum_len (ps := r) (fun x hx => h x (by simp [hx]))
  rw [List.map_cons, List.sum_cons, List.length_cons, Nat.succ_mul]
  omega
theorem UL {sep : List Nat} {ps : List (List Nat)} {m : Nat} {k : Kd} (hk : k.seq = true) (h : ∀ p ∈ ps, p.length <= m) (hl : ps.length * (m + sep.length) <= 1000000) : We (SX.S sep) [.con k (ps.map tx)] = some (.z, tx (TL.joinL sep ps)) := by
 have e := SX.join_S sep ps
 have e2 := SX.lens ps
 have h1 := sum_len h
 have h2 : (((ps.map SX.S).map (·.length)).sum + (ps.map SX.S).length * (SX.S sep).length).ble 16777216 = true := Nat.ble_eq_true_of_le (by
  rw [e2, List.length_map, SX.S_len]
  rw [Nat.mul_add] at hl
  have : (List.map (fun x : List Nat => x.length) ps).sum <= ps.length * m := h1
  omega)
 show (bif k.seq then (strsOf (ps.map tx)).bind fun ys => bif ((ys.map (·.length)).sum + ys.length * (SX.S sep).length).ble 16777216 then some (D.str (Txt.join (SX.S sep) ys)) else none else none).map (fun d => (Fr.z, d)) = _
 rw [hk, strsOf_tx]
 show (bif (((ps.map SX.S).map (·.length)).sum + (ps.map SX.S).length * (SX.S sep).length).ble 16777216 then some (D.str (Txt.join (SX.S sep) (ps.map SX.S))) else none).map (fun d => (Fr.z, d)) = _
 rw [h2, e]; rfl
def Th.e (x : Th) : Bool := match x with
 | .n _ => false
 | .s x => decide (x = [])
theorem th_eq (x : Th) (h : x.Ok) : eqD x.d (.str (Str.ofString "")) = some x.e := by
 cases x with
 | n i => exact eqD_not (a := .int i) (b := tx []) (by simp [nb]) (ZK (a := []) rfl) (by intro h; cases h)
 | s x =>
  have := WV (a := x) (b := []) h.1 (by rfl)
  exact this
theorem th_str (x : Th) (h : x.Ok) (c : x.e = false) : oStr [x.d] = some (.z, tx x.t) := by
 cases x with
 | n i => exact str_num h
 | s x =>
  have c' : x ≠ [] := by simpa [Th.e] using c
  show some (Fr.z, D.str (SX.S x)) = some (Fr.z, tx (if x = [] then [45] else x))
  rw [if_neg c']
theorem th_dash (x : Th) (h : x.Ok) (c : x.e = true) : tx x.t = .str (Str.ofString "-") := by
 cases x with
 | n i => cases c
 | s x =>
  have c' : x = [] := by simpa [Th.e] using c
  subst c'
  rfl
theorem num_row (r : List Int) (h : ∀ i ∈ r, i.natAbs < 10 ^ 9) (p : Nat) {env : Hx.Env} {st : Zd} (hp : p < env.length) :
  lcGo (.nm p) dYes (dOp oStr (Za (Ze p))) (r.map D.int) env st [] = .ok (.c .z) false (.con .lst ((r.map numC).map tx)) st := by
 have i := Vx (p := .nm p) (env := env) (st := st) (el := dOp oStr (Za (Ze p))) D.int (fun i => tx (numC i)) r [] (fun i hi => ⟨env.set p (some (.z, .int i)), by simp [ZS, hp], by
  have e := str_num (h i hi)
  simp [-oStr, hp, lk, e]⟩)
 rw [i, List.map_map]; rfl
theorem th_lc (ts : List Th) (h : ∀ x ∈ ts, x.Ok) (p : Nat) {env : Hx.Env} {st : Zd} (hp : p < env.length) :
  lcGo (.nm p) dYes (dIf (dB (dOp oEq (Zb (Ze p) (Za (dC (.str "")))))) (dC (.str "-")) (dOp oStr (Za (Ze p)))) (ts.map Th.d) env st [] = .ok (.c .z) false (.con .lst ((ts.map Th.t).map tx)) st := by
 have i := Vx (p := .nm p) (env := env) (st := st) (el := dIf (dB (dOp oEq (Zb (Ze p) (Za (dC (.str "")))))) (dC (.str "-")) (dOp oStr (Za (Ze p)))) Th.d (fun x => tx x.t) ts [] (fun x hx => ⟨env.set p (some (.z, x.d)), by simp [ZS, hp], by
  have e1 := th_eq x (h x hx)
  have e2 := th_str x (h x hx)
  have e3 := th_dash x (h x hx)
  have e4 : lk st x.d = x.d := by cases x <;> rfl
  generalize x.d = X at *
  generalize tx x.t = T at *
  cases hc : x.e with
  | true => simp [-oStr, hp, e1, e4, hc, e3 hc]
  | false => simp [-oStr, hp, e1, e4, hc, e2 hc]⟩)
 rw [i, List.map_map]; rfl
theorem th_lcN (ts : List Th) (h : ∀ x ∈ ts, x.Ok) (p : Nat) {env : Hx.Env} {st : Zd} (hp : p < env.length) :
  lcGo (.nm p) dYes (dIf (dB (dOp oNe (Zb (Ze p) (Za (dC (.str "")))))) (dOp oStr (Za (Ze p))) (dC (.str "-"))) (ts.map Th.d) env st [] = .ok (.c .z) false (.con .lst ((ts.map Th.t).map tx)) st := by
 have i := Vx (p := .nm p) (env := env) (st := st) (el := dIf (dB (dOp oNe (Zb (Ze p) (Za (dC (.str "")))))) (dOp oStr (Za (Ze p))) (dC (.str "-"))) Th.d (fun x => tx x.t) ts [] (fun x hx => ⟨env.set p (some (.z, x.d)), by simp [ZS, hp], by
  have e1 := th_eq x (h x hx)
  have e2 := th_str x (h x hx)
  have e3 := th_dash x (h x hx)
  have e4 : lk st x.d = x.d := by cases x <;> rfl
  generalize x.d = X at *
  generalize tx x.t = T at *
  cases hc : x.e with
  | true => simp [-oStr, hp, e1, e4, hc, e3 hc]
  | false => simp [-oStr, hp, e1, e4, hc, e2 hc]⟩)
 rw [i, List.map_map]; rfl
def WD.Ok : WD -> Prop
 | .row w ts => okC w = true ∧ w.length <= 100 ∧ 32 ∉ w ∧ 10 ∉ w ∧ w ≠ [] ∧ w ≠ cs "unsure" ∧ w ≠ cs "many" ∧ ts.length <= 5 ∧ ∀ x ∈ ts, x.Ok
 | .uns rows => rows ≠ [] ∧ rows.length <= 8 ∧ ∀ r ∈ rows, r.length = 5 ∧ ∀ i ∈ r, i.natAbs < 10 ^ 9
theorem Vi {r : List Int} (h : ∀ i ∈ r, i.natAbs < 10 ^ 9) (hl : r.length <= 5) : (Zv r).length <= 100 := by
 have := WM (sep := [32]) (m := 10) (ps := r.map numC) (fun p hp => by
  obtain ⟨i, hi, rfl⟩ := List.mem_map.mp hp
  exact Vl (h i hi))
 rw [List.length_map] at this
 unfold Zv
 have h2 : r.length * (10 + [32].length) <= 5 * 11 := Nat.mul_le_mul hl (by decide)
 omega
theorem join_num (r : List Int) (h : ∀ i ∈ r, i.natAbs < 10 ^ 9) (hl : r.length <= 5) : We (Str.ofString " ") [.con .lst ((r.map numC).map tx)] = some (.z, tx (Zv r)) :=
 UL (sep := [32]) (m := 10) rfl (fun p hp => by
  obtain ⟨i, hi, rfl⟩ := List.mem_map.mp hp
  exact Vl (h i hi)) (by
  rw [List.length_map]
  have h2 : r.length * (10 + [32].length) <= 5 * 11 := Nat.mul_le_mul hl (by decide)
  omega)
theorem uns_lc (rows : List (List Int)) (h : ∀ r ∈ rows, r.length = 5 ∧ ∀ i ∈ r, i.natAbs < 10 ^ 9) (p q : Nat) (hpq : p < q) {env : Hx.Env} {st : Zd} (hp : q < env.length) (hq : env[q]? = some none) :
  lcGo (.nm p) dYes (dSM We (dC (.str " ")) (Za (dLc (dIv (Ze p)) [q] (.nm q) (dYes) (dOp oStr (Za (Ze q)))))) (rows.map fun r => D.con .tup (r.map D.int)) env st [] = .ok (.c .z) false (.con .lst ((rows.map Zv).map tx)) st := by
 have i := Vx (p := .nm p) (env := env) (st := st) (el := dSM We (dC (.str " ")) (Za (dLc (dIv (Ze p)) [q] (.nm q) (dYes) (dOp oStr (Za (Ze q)))))) (fun r => D.con .tup (r.map D.int)) (fun r => tx (Zv r)) rows [] (fun r hr => ⟨env.set p (some (.z, .con .tup (r.map D.int))), (by simp [ZS, show p < env.length by omega]), by
  have hpl : p < env.length := by omega
  obtain ⟨hl, hr⟩ := h r hr
  have e1 := num_row r hr q (env := env.set p (some (.z, .con .tup (r.map D.int)))) (st := st) (by simpa using hp)
  have e2 := join_num r hr (by omega)
  have hn : Zw [q] (env.set p (some (.z, .con .tup (r.map D.int)))) = true := by
   unfold Zw
   simp [List.getElem?_set, hq, show p ≠ q by omega]
  have hm : (r.map D.int).length <= 16777215 := by simp; omega
  generalize r.map D.int = R at *
  generalize (r.map numC).map tx = T at *
  generalize tx (Zv r) = N at *
  simp [-oStr, -We, hpl, dLc, hn, hm, e1, e2]⟩)
 rw [i, List.map_map]; rfl
theorem uns_join (rows : List (List Int)) (hn : rows.length <= 8) (h : ∀ r ∈ rows, r.length = 5 ∧ ∀ i ∈ r, i.natAbs < 10 ^ 9) : We (Str.ofString " / ") [.con .lst ((rows.map Zv).map tx)] = some (.z, tx (TL.joinL (cs " / ") (rows.map Zv))) :=
 UL (sep := cs " / ") (m := 100) rfl (fun p hp => by
  obtain ⟨r, hr, rfl⟩ := List.mem_map.mp hp
  exact Vi (h r hr).2 (by have := (h r hr).1; omega)) (by
  rw [List.length_map]
  have h2 : rows.length * (100 + (cs " / ").length) <= 8 * 103 := Nat.mul_le_mul hn (by decide)
  omega)
theorem uns_add (a : List Nat) (hl : a.length <= 1000000) : oAdd [.str (Str.ofString "unsure "), tx a] = some (.z, tx (cs "unsure " ++ a)) := by
 have e := SX.S_cat (cs "unsure ") a
 rw [<- cs_S] at e
 have h2 : (Str.ofString "unsure ").length + (SX.S a).length <= 16777216 := by
  have h1 : (SX.S a).length = a.length := SX.S_len a
  have : (Str.ofString "unsure ").length = 7 := rfl
  omega
 show oAdd [.str (Str.ofString "unsure "), .str (SX.S a)] = some (.z, .str (SX.S (cs "unsure " ++ a)))
 rw [<- e]
 generalize SX.S a = X at *
 simp [h2]
theorem row_join (w : List Nat) (ts : List Th) (hw : w.length <= 100) (hl : ts.length <= 5) (h : ∀ x ∈ ts, x.Ok) : We (Str.ofString " ") [.con .lst (tx w :: (ts.map Th.t).map tx)] = some (.z, tx (TL.joinL [32] (w :: ts.map Th.t))) :=
 UL (sep := [32]) (m := 100) (ps := w :: ts.map Th.t) rfl (fun p hp => by
  rcases List.mem_cons.mp hp with rfl | hp
  ·exact hw
  ·obtain ⟨r, hr, rfl⟩ := List.mem_map.mp hp
   exact Th.t_len (h r hr)) (by
  rw [List.length_cons, List.length_map]
  have h2 : (ts.length + 1) * (100 + [32].length) <= 6 * 101 := Nat.mul_le_mul (by omega) (by decide)
  omega)
theorem ZaC {d : WD} (h : d.Ok) {st : Zd} : ZP [(.z, d.d)] st = .ok .z false (tx d.t) st := by
 cases d with
 | row w ts =>
  obtain ⟨h1, h2, h3, h4, h5, h6, h7, h8, h9⟩ := h
  have q : eqD (tx w) (.str (Str.ofString "unsure")) = some false := by
   rw [cs_S]
   exact (WV h1 (by decide)).trans (by rw [decide_eq_false h6])
  have hw : (Th.s w).t = w := by show (if w = [] then [45] else w) = w; rw [if_neg h5]
  have i1 := th_lcN (Th.s w :: ts) (fun x hx => by
   rcases List.mem_cons.mp hx with rfl | hx
   ·exact ⟨h1, h2, h3, h4⟩
   ·exact h9 x hx) 2 (env := [some (.z, (WD.row w ts).d), none, none]) (st := st) (by simp)
  rw [List.map_cons, List.map_cons, List.map_cons, hw] at i1
  have i1 : lcGo (.nm 2) dYes (dIf (dB (dOp oNe (Zb (Ze 2) (Za (dC (.str "")))))) (dOp oStr (Za (Ze 2))) (dC (.str "-"))) (tx w :: ts.map Th.d) [some (.z, .con .tup (tx w :: ts.map Th.d)), none, none] st [] = .ok (.c .z) false (.con .lst (tx w :: (ts.map Th.t).map tx)) st := i1
  have i2 := row_join w ts h2 h8 h9
  show ZP [(.z, .con .tup (tx w :: ts.map Th.d))] st = .ok .z false (tx (TL.joinL [32] (w :: ts.map Th.t))) st
  have hm : (ts.map Th.d).length + 1 <= 16777215 := by simp; omega
  have hlk : lk st (tx w) = tx w := rfl
  generalize tx (TL.joinL [32] (w :: ts.map Th.t)) = R at *
  generalize tx w = W at *
  generalize (ts.map Th.t).map tx = T at *
  generalize ts.map Th.d = TD at *
  simp [-oStr, -We, -oNe, ZP, dLc, Zw, hm, i1, i2, q, hlk]
 | uns rows =>
  obtain ⟨h1, h2, h3⟩ := h
  have q : eqD (.str (Str.ofString "unsure")) (.str (Str.ofString "unsure")) = some true := WU (ZK (a := cs "unsure") (by decide))
  have i1 := uns_lc rows h3 1 2 (by decide) (env := [some (.z, (WD.uns rows).d), none, none]) (st := st) (by simp) rfl
  have i2 := uns_join rows h2 h3
  have i3 := uns_add (TL.joinL (cs " / ") (rows.map Zv)) (by
   have := WM (sep := cs " / ") (m := 100) (ps := rows.map Zv) (fun p hp => by
    obtain ⟨r, hr, rfl⟩ := List.mem_map.mp hp
    exact Vi (h3 r hr).2 (by have := (h3 r hr).1; omega))
   rw [List.length_map] at this
   have h4 : rows.length * (100 + (cs " / ").length) <= 8 * 103 := Nat.mul_le_mul h2 (by decide)
   omega)
  have i1 : lcGo (.nm 1) dYes (dSM We (dC (.str " ")) (Za (dLc (dIv (Ze 1)) [2] (.nm 2) (dYes) (dOp oStr (Za (Ze 2)))))) (rows.map fun r => D.con .tup (r.map D.int)) [some (.z, .con .tup [.str (Str.ofString "unsure"), .con .tup (rows.map fun r => .con .tup (r.map D.int))]), none, none] st [] = _ := i1
  show ZP [(.z, .con .tup [.str (Str.ofString "unsure"), .con .tup (rows.map fun r => .con .tup (r.map D.int))])] st = .ok .z false (tx (cs "unsure " ++ TL.joinL (cs " / ") (rows.map Zv))) st
  have hm : (rows.map fun r => D.con .tup (r.map D.int)).length <= 16777215 := by simp; omega
  have hlk : lk st (tx (TL.joinL (cs " / ") (rows.map Zv))) = tx (TL.joinL (cs " / ") (rows.map Zv)) := rfl
  generalize tx (cs "unsure " ++ TL.joinL (cs " / ") (rows.map Zv)) = R at *
  generalize tx (TL.joinL (cs " / ") (rows.map Zv)) = R2 at *
  generalize (rows.map Zv).map tx = T at *
  generalize (rows.map fun r => D.con .tup (r.map D.int)) = RD at *
  simp [-oStr, -We, -oAdd, ZP, dLc, Zw, hm, i1, i2, i3, q, hlk]
theorem Wh {a b : D} {c : Bool} (h : eqD a b = some c) : oEq [a, b] = some (.z, .bl c) := by simp [h]
theorem Zcn {d : WD} (h : d.Ok) {st : Zd} : ZY [(.z, d.d)] st = .ok .z false (tx d.t) st := by
 cases d with
 | row w ts =>
  obtain ⟨h1, h2, h3, h4, h5, h6, h7, h8, h9⟩ := h
  have q : eqD (tx w) (.str (Str.ofString "unsure")) = some false := by
   rw [cs_S]
   exact (WV h1 (by decide)).trans (by rw [decide_eq_false h6])
  have q2 : eqD (tx w) (.str (Str.ofString "many")) = some false := by
   rw [cs_S]
   exact (WV h1 (by decide)).trans (by rw [decide_eq_false h7])
  have i1 := th_lc ts h9 4 (env := [some (.z, (WD.row w ts).d), some (.z, tx w), some (.z, .con .lst (ts.map Th.d)), none, none]) (st := st) (by simp)
  have i1 : lcGo (.nm 4) dYes (dIf (dB (dOp oEq (Zb (Ze 4) (Za (dC (.str "")))))) (dC (.str "-")) (dOp oStr (Za (Ze 4)))) (ts.map Th.d) [some (.z, .con .tup (tx w :: ts.map Th.d)), some (.z, tx w), some (.z, .con .lst (ts.map Th.d)), none, none] st [] = .ok (.c .z) false (.con .lst ((ts.map Th.t).map tx)) st := i1
  have i2 := row_join w ts h2 h8 h9
  show ZY [(.z, .con .tup (tx w :: ts.map Th.d))] st = .ok .z false (tx (TL.joinL [32] (w :: ts.map Th.t))) st
  have hm : (ts.map Th.d).length <= 16777215 := by simp; omega
  have hm2 : (ts.map Th.d).length + 1 <= 16384 := by simp; omega
  have hm3 : 1 + ((ts.map Th.t).map tx).length <= 16777216 := by simp; omega
  have hlk : lk st (tx w) = tx w := rfl
  have hlk2 : lk st (.con .lst ((ts.map Th.t).map tx)) = .con .lst ((ts.map Th.t).map tx) := rfl
  generalize tx (TL.joinL [32] (w :: ts.map Th.t)) = R at *
  generalize tx w = W at *
  generalize (ts.map Th.t).map tx = T at *
  generalize ts.map Th.d = TD at *
  have q := Wh q
  have q2 := Wh q2
  simp [-oStr, -We, -oEq, ZY, dLc, Zw, hm, hm2, hm3, i1, i2, q, q2, hlk, hlk2, dUnpS, seqI, ZF, ZS, dFrz]
 | uns rows =>
  obtain ⟨h1, h2, h3⟩ := h
  have q := Wh (WU (a := .str (Str.ofString "unsure")) (ZK (a := cs "unsure") (by decide)))
  have q2 : oEq [.str (Str.ofString "unsure"), .str (Str.ofString "many")] = some (.z, .bl false) := by
   rw [cs_S, cs_S]
   exact Wh ((WV (a := cs "unsure") (b := cs "many") (by decide) (by decide)).trans (by rw [decide_eq_false (by decide)]))
  have i1 := uns_lc rows h3 3 4 (by decide) (env := [some (.z, (WD.uns rows).d), some (.z, .str (Str.ofString "unsure")), some (.z, .con .lst [.con .tup (rows.map fun r => .con .tup (r.map D.int))]), none, none]) (st := st) (by simp) rfl
  have i2 := uns_join rows h2 h3
  have i3 := uns_add (TL.joinL (cs " / ") (rows.map Zv)) (by
   have := WM (sep := cs " / ") (m := 100) (ps := rows.map Zv) (fun p hp => by
    obtain ⟨r, hr, rfl⟩ := List.mem_map.mp hp
    exact Vi (h3 r hr).2 (by have := (h3 r hr).1; omega))
   rw [List.length_map] at this
   have h4 : rows.length * (100 + (cs " / ").length) <= 8 * 103 := Nat.mul_le_mul h2 (by decide)
   omega)
  have i1 : lcGo (.nm 3) dYes (dSM We (dC (.str " ")) (Za (dLc (dIv (Ze 3)) [4] (.nm 4) (dYes) (dOp oStr (Za (Ze 4)))))) (rows.map fun r => D.con .tup (r.map D.int)) [some (.z, .con .tup [.str (Str.ofString "unsure"), .con .tup (rows.map fun r => .con .tup (r.map D.int))]), some (.z, .str (Str.ofString "unsure")), some (.z, .con .lst [.con .tup (rows.map fun r => .con .tup (r.map D.int))]), none, none] st [] = _ := i1
  show ZY [(.z, .con .tup [.str (Str.ofString "unsure"), .con .tup (rows.map fun r => .con .tup (r.map D.int))])] st = .ok .z false (tx (cs "unsure " ++ TL.joinL (cs " / ") (rows.map Zv))) st
  have hm : (rows.map fun r => D.con .tup (r.map D.int)).length <= 16777215 := by simp; omega
  have hlk : lk st (tx (TL.joinL (cs " / ") (rows.map Zv))) = tx (TL.joinL (cs " / ") (rows.map Zv)) := rfl
  generalize tx (cs "unsure " ++ TL.joinL (cs " / ") (rows.map Zv)) = R at *
  generalize tx (TL.joinL (cs " / ") (rows.map Zv)) = R2 at *
  generalize (rows.map Zv).map tx = T at *
  generalize (rows.map fun r => D.con .tup (r.map D.int)) = RD at *
  simp [-oStr, -We, -oAdd, -oEq, ZY, dLc, Zw, hm, i1, i2, i3, q, q2, hlk, dUnpS, seqI, ZF, ZS, dFrz]
theorem cutF (xs : List D) (i : Nat) (h : i <= xs.length) : cutD xs (some (i : Int)) none = xs.drop i := by
 unfold cutD
 rw [HT.sIx_nat, HT.sIx_none, Nat.min_eq_left h]
 rw [List.take_of_length_le (by simp)]
theorem pre_slash {p m : List Nat} (h : 47 ∉ p) (hm : m = [] ∨ ∃ r, m = 32 :: r) : ∀ i, i < p.length -> TL.pre [32, 47, 32] ((p ++ m).drop i) = false := by
 intro i hi
 unfold TL.pre
 have hk : (p ++ m)[i + 1]? ≠ some 47 := by
  by_cases c : i + 1 < p.length
  ·rw [List.getElem?_append_left c]
   intro e
   exact h (List.mem_of_getElem? e)
  ·have e : i + 1 = p.length := by omega
   rw [e, List.getElem?_append_right (by omega), Nat.sub_self]
   rcases hm with rfl | ⟨r, rfl⟩
   ·simp
   ·simp
 cases hb : (List.take [32, 47, 32].length ((p ++ m).drop i) == [32, 47, 32]) with
 | false => rfl
 | true =>
  exfalso
  have e := eq_of_beq hb
  have e1 : (List.take 3 ((p ++ m).drop i))[1]? = some 47 := by rw [show List.take 3 ((p ++ m).drop i) = [32, 47, 32] from e]; rfl
  rw [List.getElem?_take_of_lt (by decide), List.getElem?_drop] at e1
  exact hk e1
theorem spl_slash : ∀ {ps : List (List Nat)}, ps ≠ [] -> (∀ p ∈ ps, 47 ∉ p) -> TL.spl [32, 47, 32] 0 [] (TL.joinL [32, 47, 32] ps) = ps
 | [], h, _ => absurd rfl h
 | [p], _, h => by
  have h2 := pre_slash (h p (by simp)) (m := []) (.inl rfl)
  rw [List.append_nil] at h2
  show TL.spl [32, 47, 32] 0 [] p = [p]
  rw [TL.spl_last h2]; rfl
 | p :: q :: r, _, h => by
  have h2 := pre_slash (h p (by simp)) (m := [32, 47, 32] ++ TL.joinL [32, 47, 32] (q :: r)) (.inr ⟨_, rfl⟩)
  show TL.spl [32, 47, 32] 0 [] (p ++ ([32, 47, 32] ++ TL.joinL [32, 47, 32] (q :: r))) = p :: q :: r
  rw [TL.spl_part (by simp) h2, spl_slash (by simp) (fun x hx => h x (by simp [hx]))]; rfl
theorem VL {sep a : List Nat} {ps : List (List Nat)} (hne : sep ≠ []) (hk : sep.all (· < 256) = true) (e : TL.spl sep 0 [] a = ps) (hl : a.length <= 1000000) :
  ZT (SX.S a) [.str (SX.S sep)] = some (.c .z, .con .lst (ps.map tx)) := by
 have e1 := SX.split_S (a := a) (b := sep) hne hk
 rw [e] at e1
 have h1 : (SX.S a).length.ble 1000000 = true := Nat.ble_eq_true_of_le (by rw [SX.S_len]; exact hl)
 have h2 : ((SX.S sep).length == 0) = false := by
  rw [SX.S_len]
  cases sep with
  | nil => exact absurd rfl hne
  | cons x r => rfl
 show (bif !((SX.S sep).length == 0) && (SX.S a).length.ble 1000000 then some (Fr.c .z, D.con .lst ((Txt.split (SX.S a) (SX.S sep)).map D.str)) else none) = _
 rw [h1, h2, e1, List.map_map]; rfl
theorem num_free {r : List Int} {s : Nat} (h : s < 32 ∨ (32 < s ∧ s < 45) ∨ 57 < s ∨ s = 47) : s ∉ Zv r := by
 have : ∀ l : List (List Nat), (∀ p ∈ l, s ∉ p) -> s ∉ TL.joinL [32] l := fun l => by
  induction l with
  | nil => intro _ hh; cases hh
  | cons p l ih =>
   intro hp
   cases l with
   | nil => exact hp p (by simp)
   | cons q r =>
    show s ∉ p ++ ([32] ++ TL.joinL [32] (q :: r))
    intro hh
    rcases List.mem_append.mp hh with h1 | h1
    ·exact hp p (by simp) h1
    ·rcases List.mem_append.mp h1 with h2 | h2
     ·have := List.mem_singleton.mp h2; omega
     ·exact ih (fun x hx => hp x (by simp [hx])) h2
 exact this _ (fun p hp => by
  obtain ⟨i, _, rfl⟩ := List.mem_map.mp hp
  exact VF (by omega))
theorem split_num {r : List Int} (hn : r ≠ []) (hr : ∀ i ∈ r, i.natAbs < 10 ^ 9) (hl : r.length <= 5) : ZT (SX.S (Zv r)) [.str (Str.ofString " ")] = some (.c .z, .con .lst ((r.map numC).map tx)) :=
 VL (sep := [32]) (by simp) (by decide) (SX.spl_join (by simpa using hn) (fun p hp => by
  obtain ⟨i, _, rfl⟩ := List.mem_map.mp hp
  exact VF (by decide))) (by have := Vi hr hl; omega)
theorem numW (r : List Int) (hr : ∀ i ∈ r, i.natAbs < 10 ^ 9) : ∀ w ∈ r.map numC, w.length <= 1000000 ∧ okC w = true := fun w hw => by
 obtain ⟨i, hi, rfl⟩ := List.mem_map.mp hw
 exact ⟨by have := Vl (hr i hi); omega, UD i⟩
theorem Va {r : List Int} {st : Zd} (hr : ∀ i ∈ r, i.natAbs < 10 ^ 9) (hl : r.length <= 5) : ZH [(.z, .con .lst ((r.map numC).map tx))] st = .ok .z false (.con .tup (r.map D.int)) st := by
 rw [f_numbers_in (numW r hr) (by simp; omega), numsIn_num r hr]; rfl
theorem len5 (rows : List (List Int)) (h : ∀ r ∈ rows, r.length = 5) {p : Nat} {env : Hx.Env} {st : Zd} (hp : p < env.length) :
  lcGo (.nm p) dYes (dOp oEq (Zb (dOp oLen (Za (Ze p))) (Za (dC (.int 5))))) (rows.map fun r => D.con .tup (r.map D.int)) env st [] = .ok (.c .z) false (.con .lst (rows.map fun _ => D.bl true)) st := by
 have i := Vx (p := .nm p) (env := env) (st := st) (el := dOp oEq (Zb (dOp oLen (Za (Ze p))) (Za (dC (.int 5))))) (fun r => D.con .tup (r.map D.int)) (fun _ => D.bl true) rows [] (fun r hr => ⟨env.set p (some (.z, .con .tup (r.map D.int))), by simp [ZS, hp], by
  have e : (r.map D.int).length = 5 := by simp [h r hr]
  generalize r.map D.int = R at *
  simp [hp, e]⟩)
 rw [i]; rfl
theorem choices_lc (rows : List (List Int)) (h : ∀ r ∈ rows, r.length = 5 ∧ ∀ i ∈ r, i.natAbs < 10 ^ 9) {p : Nat} {env : Hx.Env} {st : Zd} (hp : p < env.length) :
  lcGo (.nm p) dYes (Zq ZH [] (Za (dSM ZT (Ze p) (Za (dC (.str " ")))))) ((rows.map Zv).map tx) env st [] = .ok (.c .z) false (.con .lst (rows.map fun r => D.con .tup (r.map D.int))) st := by
 have i := Vx (p := .nm p) (env := env) (st := st) (el := Zq ZH [] (Za (dSM ZT (Ze p) (Za (dC (.str " ")))))) (fun r => tx (Zv r)) (fun r => D.con .tup (r.map D.int)) rows [] (fun r hr => ⟨env.set p (some (.z, tx (Zv r))), by simp [ZS, hp], by
  obtain ⟨hl, hr⟩ := h r hr
  have e1 := split_num (r := r) (by intro e; rw [e] at hl; cases hl) hr (by omega)
  have e2 := Va (st := st) hr (by omega)
  show Zq ZH [] (Za (dSM ZT (Ze p) (Za (dC (.str " "))))) (env.set p (some (.z, .str (SX.S (Zv r))))) st = _
  generalize SX.S (Zv r) = X at *
  generalize (r.map numC).map tx = T at *
  generalize r.map D.int = R at *
  simp [-ZT, hp, e1, e2]⟩)
 rw [List.map_map]
 exact i
theorem in_none_rows (rows : List (List Int)) : oIn [.non, .con .lst (rows.map fun r => D.con .tup (r.map D.int))] = some (.z, .bl false) := by
 obtain ⟨c, e, k⟩ := inLD_nb (a := .non) (ds := rows.map fun r => D.con .tup (r.map D.int)) (by simp [nb]) (fun d hd => by
  obtain ⟨y, _, rfl⟩ := List.mem_map.mp hd
  simp [nb]) (by simp [nb])
 have k2 : c = false := by
  cases c with
  | false => rfl
  | true =>
   obtain ⟨y, _, h⟩ := List.mem_map.mp (k.mp rfl)
   cases h
 subst k2
 simp [oIn, e]
abbrev uU : D := .str (Str.ofString "unsure")
abbrev tMU : D := .con .tup [.str (Str.ofString "many"), .str (Str.ofString "unsure")]
abbrev tMD : D := .con .tup [.str (Str.ofString "move"), .str (Str.ofString "drop")]
structure WdOk (w : String) (n : Nat) : Prop where
 ok : okC (cs w) = true
 sp : 32 ∉ cs w
 nl : 10 ∉ cs w
 ln : (cs w).length <= 100
 e : oEq [.str (Str.ofString w), uU] = some (.z, .bl false)
 mu : oIn [.str (Str.ofString w), tMU] = some (.z, .bl false)
 tl : tlook ZA (Str.ofString w) = some (.int (n : Int))
theorem ZaV {w : List Nat} {ts : List Th} (hw : 32 ∉ w ∧ w.length <= 100) (h : ∀ x ∈ ts, x.Ok) (hl : ts.length <= 5) :
  ZT (SX.S (TL.joinL [32] (w :: ts.map Th.t))) [.str (Str.ofString " ")] = some (.c .z, .con .lst (tx w :: (ts.map Th.t).map tx)) :=
 VL (sep := [32]) (by simp) (by decide) (SX.spl_join (by simp) (fun p hp => by
  rcases List.mem_cons.mp hp with rfl | hp
  ·exact hw.1
  ·obtain ⟨x, hx, rfl⟩ := List.mem_map.mp hp
   exact (Th.t_free (h x hx)).1)) (by
  have := WM (sep := [32]) (m := 100) (ps := w :: ts.map Th.t) (fun p hp => by
   rcases List.mem_cons.mp hp with rfl | hp
   ·exact hw.2
   ·obtain ⟨x, hx, rfl⟩ := List.mem_map.mp hp
    exact Th.t_len (h x hx))
  rw [List.length_cons, List.length_map] at this
  have h2 : (ts.length + 1) * (100 + [32].length) <= 6 * 101 := Nat.mul_le_mul (by omega) (by decide)
  omega)
theorem tup_add {a : D} {l m : List D} (h : l.length + m.length <= 1000) : oAdd [.con .tup l, .con .tup m] = some (.z, .con .tup (l ++ m)) := by
 have h2 : l.length + m.length <= 16777216 := by omega
 simp [h2]
theorem row_num {w : String} {is : List Int} {n : Nat} {st : Zd} (W : WdOk w n) (hm : oIn [.str (Str.ofString w), tMD] = some (.z, .bl false)) (hp : oEq [.str (Str.ofString w), .str (Str.ofString "pane")] = some (.z, .bl false))
  (hn : is.length + 1 = n) (hl : is.length <= 5) (h : ∀ i ∈ is, i.natAbs < 10 ^ 9) :
  ZM [(.z, tx (TL.joinL [32] (cs w :: is.map numC)))] st = .ok .z false (.con .tup (.str (Str.ofString w) :: is.map D.int)) st := by
 have e1 := ZaV (w := cs w) (ts := is.map Th.n) ⟨W.sp, W.ln⟩ (fun x hx => by
  obtain ⟨i, hi, rfl⟩ := List.mem_map.mp hx
  exact h i hi) (by simpa using hl)
 have e0 : (is.map Th.n).map Th.t = is.map numC := by rw [List.map_map]; rfl
 rw [e0, show tx (cs w) = .str (Str.ofString w) from by rw [cs_S]] at e1
 have e2 := Va (st := st) h hl
 have we := W.e
 have wm := W.mu
 have wt := W.tl
 have hT : ((is.map numC).map tx).length = is.length := by simp
 have hT2 : (is.length : Int) + 1 = (n : Int) := by omega
 have e3 := cutF (.str (Str.ofString w) :: (is.map numC).map tx) 1 (by simp)
 have e4 := tup_add (a := .non) (l := [.str (Str.ofString w)]) (m := is.map D.int) (by simp; omega)
 show ZM [(.z, .str (SX.S (TL.joinL [32] (cs w :: is.map numC))))] st = _
 generalize SX.S (TL.joinL [32] (cs w :: is.map numC)) = X at *
 generalize Str.ofString w = V at *
 have hTl : (is.map D.int).length = is.length := by simp
 generalize (is.map numC).map tx = T at *
 generalize is.map D.int = I at *
 rw [List.drop_one, List.tail_cons] at e3
 have e3 : cutD (.str V :: T) (some 1) none = T := e3
 have hb : T.length + 1 <= 16777216 := by omega
 have hnT : ((T.length : Int) + 1 = (n : Int)) := by omega
 simp [-ZT, -oEq, -oIn, -oAdd, ZM, e1, e2, e3, e4, we, wm, wt, hm, hp, hb, hnT, lk]
theorem row_ref {w : String} {x : List Nat} {is : List Int} {n : Nat} {st : Zd} (W : WdOk w n) (hm : oIn [.str (Str.ofString w), tMD] = some (.z, .bl true))
  (hn : is.length + 2 = n) (hl : is.length <= 4) (hx : okC x = true ∧ x.length <= 100 ∧ 32 ∉ x ∧ 10 ∉ x) (hx0 : x ≠ []) (h : ∀ i ∈ is, i.natAbs < 10 ^ 9) :
  ZM [(.z, tx (TL.joinL [32] (cs w :: x :: is.map numC)))] st = .ok .z false (.con .tup (.str (Str.ofString w) :: tx x :: is.map D.int)) st := by
 have e1 := ZaV (w := cs w) (ts := Th.s x :: is.map Th.n) ⟨W.sp, W.ln⟩ (fun y hy => by
  rcases List.mem_cons.mp hy with rfl | hy
  ·exact hx
  ·obtain ⟨i, hi, rfl⟩ := List.mem_map.mp hy
   exact h i hi) (by simp; omega)
 have e0 : (Th.s x :: is.map Th.n).map Th.t = x :: is.map numC := by
  rw [List.map_cons, List.map_map]
  show (if x = [] then [45] else x) :: _ = _
  rw [if_neg hx0]; rfl
 rw [e0, show tx (cs w) = .str (Str.ofString w) from by rw [cs_S], List.map_cons] at e1
 have e2 := Va (st := st) h (by omega)
 have we := W.e
 have wm := W.mu
 have wt := W.tl
 have hT : ((is.map numC).map tx).length = is.length := by simp
 have e3 := cutF (.str (Str.ofString w) :: tx x :: (is.map numC).map tx) 2 (by simp)
 have e4 := tup_add (a := .non) (l := [.str (Str.ofString w), tx x]) (m := is.map D.int) (by simp; omega)
 have q0 : oEq [tx x, .str (Str.ofString "")] = some (.z, .bl false) := by
  have := WV (a := x) (b := []) hx.1 (by rfl)
  rw [decide_eq_false hx0] at this
  exact Wh this
 show ZM [(.z, .str (SX.S (TL.joinL [32] (cs w :: x :: is.map numC))))] st = _
 generalize SX.S (TL.joinL [32] (cs w :: x :: is.map numC)) = X at *
 generalize Str.ofString w = V at *
 have hTl : (is.map D.int).length = is.length := by simp
 have hlx : lk st (tx x) = tx x := rfl
 generalize (is.map numC).map tx = T at *
 generalize is.map D.int = I at *
 generalize tx x = Y at *
 have e3 : cutD (.str V :: Y :: T) (some 2) none = T := e3
 have hb : T.length + 1 + 1 <= 16777216 := by omega
 have hnT : ((T.length : Int) + 1 + 1 = (n : Int)) := by omega
 simp [-ZT, -oEq, -oIn, -oAdd, ZM, e1, e2, e3, e4, we, wm, wt, hm, hb, hnT, q0, hlx]
theorem row_pane {x : List Nat} {a b c d : Int} {st : Zd} (hx : okC x = true ∧ x.length <= 100 ∧ 32 ∉ x ∧ 10 ∉ x) (hd : x ≠ [45]) (h : ∀ i ∈ [a, b, c, d], i.natAbs < 10 ^ 9) :
  ZM [(.z, tx (TL.joinL [32] (cs "pane" :: [numC a, numC b, numC c, numC d, (Th.s x).t])))] st = .ok .z false (.con .tup [.str (Str.ofString "pane"), .int a, .int b, .int c, .int d, tx x]) st := by
 have e1 := ZaV (w := cs "pane") (ts := [.n a, .n b, .n c, .n d, .s x]) ⟨by decide, by decide⟩ (fun y hy => by
  simp only [List.mem_cons, List.not_mem_nil, or_false] at hy
  rcases hy with rfl | rfl | rfl | rfl | rfl
  ·exact h a (by simp)
  ·exact h b (by simp)
  ·exact h c (by simp)
  ·exact h d (by simp)
  ·exact hx) (by simp)
 have e0 : [Th.n a, .n b, .n c, .n d, .s x].map Th.t = [numC a, numC b, numC c, numC d, (Th.s x).t] := rfl
 rw [e0, show tx (cs "pane") = .str (Str.ofString "pane") from by rw [cs_S]] at e1
 have e2 := Va (r := [a, b, c, d]) (st := st) h (by simp)
 have q2 : eqD (.str (Str.ofString "pane")) uU = some false := by rw [cs_S, uU, cs_S]; exact (WV (a := cs "pane") (b := cs "unsure") (by decide) (by decide)).trans (by rw [decide_eq_false (by decide)])
 have we := Wh q2
 have wp := Wh (WU (a := .str (Str.ofString "pane")) (ZK (a := cs "pane") (by decide)))
 have wm : oIn [.str (Str.ofString "pane"), tMU] = some (.z, .bl false) := by rfl
 have hm : oIn [.str (Str.ofString "pane"), tMD] = some (.z, .bl false) := by rfl
 have wt : tlook ZA (Str.ofString "pane") = some (.int 6) := by rfl
 have e4 := tup_add (a := .non) (l := [.str (Str.ofString "pane")]) (m := [.int a, .int b, .int c, .int d]) (by simp)
 have e5 := tup_add (a := .non) (l := [.str (Str.ofString "pane"), .int a, .int b, .int c, .int d]) (m := [tx x]) (by simp)
 have q0 : oEq [tx (Th.s x).t, .str (Str.ofString "-")] = some (.z, .bl (decide (x = []))) := by
  by_cases c0 : x = []
  ·subst c0
   exact Wh (WU (a := tx [45]) (ZK (a := [45]) (by decide)))
  ·have et : (Th.s x).t = x := by show (if x = [] then [45] else x) = x; rw [if_neg c0]
   rw [et, decide_eq_false c0]
   exact Wh ((WV (a := x) (b := [45]) hx.1 (by decide)).trans (by rw [decide_eq_false hd]))
 have q1 : oEq [tx (Th.s x).t, .str (Str.ofString "")] = some (.z, .bl false) := by
  by_cases c0 : x = []
  ·subst c0
   exact Wh ((WV (a := [45]) (b := []) (by decide) (by decide)).trans (by rw [decide_eq_false (by decide)]))
  ·have et : (Th.s x).t = x := by show (if x = [] then [45] else x) = x; rw [if_neg c0]
   rw [et]
   exact Wh ((WV (a := x) (b := []) hx.1 (by decide)).trans (by rw [decide_eq_false c0]))
 have hlx : lk st (tx (Th.s x).t) = tx (Th.s x).t := rfl
 have hlx0 : lk st (tx x) = tx x := rfl
 have hfin : (if x = [] then D.str (Str.ofString "") else tx (Th.s x).t) = tx x := by
  by_cases c0 : x = []
  ·subst c0; rfl
  ·have et : (Th.s x).t = x := by show (if x = [] then [45] else x) = x; rw [if_neg c0]
   rw [if_neg c0, et]
 have e2 : ZH [(.z, .con .lst [tx (numC a), tx (numC b), tx (numC c), tx (numC d)])] st = .ok .z false (.con .tup [.int a, .int b, .int c, .int d]) st := e2
 have e1 : ZT (SX.S (TL.joinL [32] (cs "pane" :: [numC a, numC b, numC c, numC d, (Th.s x).t]))) [.str (Str.ofString " ")] = some (.c .z, .con .lst [.str (Str.ofString "pane"), tx (numC a), tx (numC b), tx (numC c), tx (numC d), tx (Th.s x).t]) := e1
 have e3 : cutD [.str (Str.ofString "pane"), tx (numC a), tx (numC b), tx (numC c), tx (numC d), tx (Th.s x).t] (some 1) (some 5) = [tx (numC a), tx (numC b), tx (numC c), tx (numC d)] := rfl
 show ZM [(.z, .str (SX.S (TL.joinL [32] (cs "pane" :: [numC a, numC b, numC c, numC d, (Th.s x).t]))))] st = _
 generalize SX.S (TL.joinL [32] (cs "pane" :: [numC a, numC b, numC c, numC d, (Th.s x).t])) = X at *
 generalize tx (numC a) = A at *
 generalize tx (numC b) = B at *
 generalize tx (numC c) = C at *
 generalize tx (numC d) = E at *
 generalize tx (Th.s x).t = Y at *
 by_cases c0 : x = []
 ·rw [decide_eq_true c0] at q0
  rw [if_pos c0] at hfin
  rw [<- hfin] at e5 ⊢
  simp [-ZT, -oEq, -oIn, -oAdd, ZM, dSlB, e1, e2, e3, e4, e5, we, wm, wt, wp, hm, q0, q1, hlx]
 ·rw [decide_eq_false c0] at q0
  rw [if_neg c0] at hfin
  rw [<- hfin] at e5 ⊢
  simp [-ZT, -oEq, -oIn, -oAdd, ZM, dSlB, e1, e2, e3, e4, e5, we, wm, wt, wp, hm, q0, q1, hlx]
theorem spl_ne (S : List Nat) : ∀ (l : List Nat) (k : Nat) (acc : List Nat), 1 <= (TL.spl S k acc l).length ∧ (TL.spl S k acc l).length <= l.length + 1
 | [], k, acc => by rw [TL.spl_nil]; simp
 | c :: r, 0, acc => by
  rw [TL.spl]
  split
  ·have := spl_ne S r (S.length - 1) []
   simp; omega
  ·have := spl_ne S r 0 (acc ++ [c])
   simp; omega
 | c :: r, k + 1, acc => by
  rw [TL.spl]
  have := spl_ne S r k acc
  simp; omega
def unsX (rows : List (List Int)) : List Nat := TL.joinL (cs " / ") (rows.map Zv)
theorem unsX_len {rows : List (List Int)} (hn : rows.length <= 8) (h : ∀ r ∈ rows, r.length = 5 ∧ ∀ i ∈ r, i.natAbs < 10 ^ 9) : (unsX rows).length <= 1000 := by
 have := WM (sep := cs " / ") (m := 100) (ps := rows.map Zv) (fun p hp => by
  obtain ⟨r, hr, rfl⟩ := List.mem_map.mp hp
  exact Vi (h r hr).2 (by have := (h r hr).1; omega))
 rw [List.length_map] at this
 have h4 : rows.length * (100 + (cs " / ").length) <= 8 * 103 := Nat.mul_le_mul hn (by decide)
 unfold unsX
 omega
theorem f_choices_in {rows : List (List Int)} {st : Zd} (h0 : rows ≠ []) (hn : rows.length <= 8) (h : ∀ r ∈ rows, r.length = 5 ∧ ∀ i ∈ r, i.natAbs < 10 ^ 9) :
  Wx [(.z, tx (cs "unsure " ++ unsX rows))] st = .ok .z false (.con .tup (rows.map fun r => .con .tup (r.map D.int))) st := by
 have hl := unsX_len hn h
 have e1 : Txt.removeprefix (SX.S (cs "unsure " ++ unsX rows)) (Str.ofString "unsure ") = SX.S (unsX rows) := by
  rw [cs_S, pre_S, List.take_left, if_pos rfl, List.drop_left]
 have e2 : ZT (SX.S (unsX rows)) [.str (Str.ofString " / ")] = some (.c .z, .con .lst ((rows.map Zv).map tx)) :=
  VL (sep := [32, 47, 32]) (by simp) (by decide) (spl_slash (by simpa using h0) (fun p hp => by
   obtain ⟨r, _, rfl⟩ := List.mem_map.mp hp
   exact num_free (by decide))) (by omega)
 have i1 := choices_lc rows h (p := 3) (env := [some (.z, .str (SX.S (cs "unsure " ++ unsX rows))), some (.z, .con .lst ((rows.map Zv).map tx)), none, none, none]) (st := st) (by simp)
 have i2 := in_none_rows rows
 have i3 := len5 rows (fun r hr => (h r hr).1) (p := 4) (env := [some (.z, .str (SX.S (cs "unsure " ++ unsX rows))), some (.z, .con .lst ((rows.map Zv).map tx)), some (.z, .con .lst (rows.map fun r => .con .tup (r.map D.int))), none, none]) (st := st) (by simp)
 have i4 : bools (rows.map fun _ => D.bl true) = some (rows.map fun _ => true) := VY (fun _ => true) rows
 have i5 : (rows.all fun _ => true) = true := List.all_eq_true.mpr (fun _ _ => rfl)
 have hll : (SX.S (cs "unsure " ++ unsX rows)).length <= 16777216 := by
  rw [SX.S_len, List.length_append, show (cs "unsure ").length = 7 from rfl]; omega
 have hm1 : ((rows.map Zv).map tx).length <= 16777215 := by simp; omega
 have hm2 : (rows.map fun r => D.con .tup (r.map D.int)).length <= 16777215 := by simp; omega
 show Wx [(.z, .str (SX.S (cs "unsure " ++ unsX rows)))] st = _
 generalize SX.S (cs "unsure " ++ unsX rows) = X at *
 generalize SX.S (unsX rows) = Y at *
 generalize (rows.map Zv).map tx = T at *
 generalize (rows.map fun r => D.con .tup (r.map D.int)) = R at *
 simp [-ZT, -oIn, -oEq, -oLen, Wx, dLc, Zw, e1, e2, i1, i2, i3, i4, i5, hll, hm1, hm2]
theorem row_uns {rows : List (List Int)} {st : Zd} (h0 : rows ≠ []) (hn : rows.length <= 8) (h : ∀ r ∈ rows, r.length = 5 ∧ ∀ i ∈ r, i.natAbs < 10 ^ 9) :
  ZM [(.z, tx (cs "unsure " ++ unsX rows))] st = .ok .z false (.con .tup [.str (Str.ofString "unsure"), .con .tup (rows.map fun r => .con .tup (r.map D.int))]) st := by
 have hl := unsX_len hn h
 have hs := spl_ne [32] (unsX rows) 0 []
 have e1 : ZT (SX.S (cs "unsure " ++ unsX rows)) [.str (Str.ofString " ")] = some (.c .z, .con .lst (tx (cs "unsure") :: (TL.spl [32] 0 [] (unsX rows)).map tx)) :=
  VL (sep := [32]) (ps := cs "unsure" :: TL.spl [32] 0 [] (unsX rows)) (by simp) (by decide) (SX.spl_free (sep := [32]) (p := cs "unsure") (unsX rows) (by simp) (SX.free_head (by decide))) (by
   rw [List.length_append, show (cs "unsure ").length = 7 from rfl]; omega)
 rw [show tx (cs "unsure") = .str (Str.ofString "unsure") from by rw [cs_S]] at e1
 have e2 := f_choices_in (st := st) h0 hn h
 have we := Wh (WU (a := .str (Str.ofString "unsure")) (ZK (a := cs "unsure") (by decide)))
 show ZM [(.z, .str (SX.S (cs "unsure " ++ unsX rows)))] st = _
 have e2 : Wx [(.z, .str (SX.S (cs "unsure " ++ unsX rows)))] st = _ := e2
 have hT : ((TL.spl [32] 0 [] (unsX rows)).map tx).length = (TL.spl [32] 0 [] (unsX rows)).length := by simp
 generalize SX.S (cs "unsure " ++ unsX rows) = X at *
 generalize (TL.spl [32] 0 [] (unsX rows)).map tx = T at *
 generalize (rows.map fun r => D.con .tup (r.map D.int)) = R at *
 have h1 : T.length + 1 <= 16777216 := by omega
 have h2 : (1 : Int) < (T.length : Int) + 1 := by omega
 simp [-ZT, -oEq, ZM, e1, e2, we, h1, h2]
structure WdNe (w : String) : Prop where
 n0 : cs w ≠ []
 n1 : cs w ≠ cs "unsure"
 n2 : cs w ≠ cs "many"
def XOk (x : List Nat) : Prop := okC x = true ∧ x.length <= 100 ∧ 32 ∉ x ∧ 10 ∉ x
def NOk (is : List Int) : Prop := ∀ i ∈ is, i.natAbs < 10 ^ 9
inductive WD.Good : WD -> Prop
 | num {w : String} {n : Nat} {is : List Int} (W : WdOk w n) (N : WdNe w) (hm : oIn [.str (Str.ofString w), tMD] = some (.z, .bl false)) (hp : oEq [.str (Str.ofString w), .str (Str.ofString "pane")] = some (.z, .bl false))
   (hn : is.length + 1 = n) (hl : is.length <= 5) (h0 : is ≠ []) (h : NOk is) : WD.Good (.row (cs w) (is.map Th.n))
 | ref {w : String} {n : Nat} {x : List Nat} {is : List Int} (W : WdOk w n) (N : WdNe w) (hm : oIn [.str (Str.ofString w), tMD] = some (.z, .bl true)) (hn : is.length + 2 = n) (hl : is.length <= 4) (hx : XOk x) (hx0 : x ≠ []) (h : NOk is) :
   WD.Good (.row (cs w) (.s x :: is.map Th.n))
 | pane {x : List Nat} {a b c d : Int} (hx : XOk x) (hd : x ≠ [45]) (h : NOk [a, b, c, d]) : WD.Good (.row (cs "pane") [.n a, .n b, .n c, .n d, .s x])
 | uns {rows : List (List Int)} (h0 : rows ≠ []) (hn : rows.length <= 8) (h : ∀ r ∈ rows, r.length = 5 ∧ NOk r) : WD.Good (.uns rows)
theorem nums_ok {is : List Int} (h : NOk is) : ∀ x ∈ is.map Th.n, x.Ok := fun x hx => by
 obtain ⟨i, hi, rfl⟩ := List.mem_map.mp hx
 exact h i hi
theorem WD.Good.ok {d : WD} (g : d.Good) : d.Ok := by
 cases g with
 | num W N hm hp hn hl h0 h => exact ⟨W.ok, W.ln, W.sp, W.nl, N.n0, N.n1, N.n2, by simpa using hl, nums_ok h⟩
 | ref W N hm hn hl hx hx0 h =>
  refine ⟨W.ok, W.ln, W.sp, W.nl, N.n0, N.n1, N.n2, by simp; omega, fun y hy => ?_⟩
  rcases List.mem_cons.mp hy with rfl | hy
  ·exact hx
  ·exact nums_ok h y hy
 | pane hx hd h =>
  refine ⟨by decide, by decide, by decide, by decide, by decide, by decide, by decide, by simp, fun y hy => ?_⟩
  simp only [List.mem_cons, List.not_mem_nil, or_false] at hy
  rcases hy with rfl | rfl | rfl | rfl | rfl
  ·exact h _ (by simp)
  ·exact h _ (by simp)
  ·exact h _ (by simp)
  ·exact h _ (by simp)
  ·exact hx
 | uns h0 hn h => exact ⟨h0, hn, h⟩
theorem cs_d (w : String) : tx (cs w) = .str (Str.ofString w) := by rw [cs_S]
theorem f_row_in {d : WD} (g : d.Good) {st : Zd} : ZM [(.z, tx d.t)] st = .ok .z false d.d st := by
 cases g with
 | @num w n is W N hm hp hn hl h0 h =>
  have := row_num (st := st) W hm hp hn hl h
  show ZM [(.z, tx (TL.joinL [32] (cs w :: (is.map Th.n).map Th.t)))] st = .ok .z false (.con .tup (tx (cs w) :: (is.map Th.n).map Th.d)) st
  rw [List.map_map, List.map_map, cs_d]
  exact this
 | @ref w n x is W N hm hn hl hx hx0 h =>
  have := row_ref (st := st) W hm hn hl hx hx0 h
  have e : (Th.s x).t = x := by show (if x = [] then [45] else x) = x; rw [if_neg hx0]
  show ZM [(.z, tx (TL.joinL [32] (cs w :: (Th.s x).t :: (is.map Th.n).map Th.t)))] st = .ok .z false (.con .tup (tx (cs w) :: tx x :: (is.map Th.n).map Th.d)) st
  rw [List.map_map, List.map_map, cs_d, e]
  exact this
 | @pane x a b c d hx hd h =>
  have := row_pane (st := st) hx hd h
  show ZM [(.z, tx (TL.joinL [32] (cs "pane" :: [numC a, numC b, numC c, numC d, (Th.s x).t])))] st = .ok .z false (.con .tup [tx (cs "pane"), .int a, .int b, .int c, .int d, tx x]) st
  rw [cs_d]
  exact this
 | @uns rows h0 hn h => exact row_uns h0 hn h
theorem join_mem {s : Nat} {sep : List Nat} (hs : s ∉ sep) : ∀ {l : List (List Nat)}, (∀ p ∈ l, s ∉ p) -> s ∉ TL.joinL sep l
 | [], _ => by intro hh; cases hh
 | [p], h => h p (by simp)
 | p :: q :: r, h => by
  show s ∉ p ++ (sep ++ TL.joinL sep (q :: r))
  intro hh
  rcases List.mem_append.mp hh with h1 | h1
  ·exact h p (by simp) h1
  ·rcases List.mem_append.mp h1 with h2 | h2
   ·exact hs h2
   ·exact join_mem hs (fun x hx => h x (by simp [hx])) h2
theorem UR {a b : List Nat} : okC (a ++ b) = (okC a && okC b) := by unfold okC; rw [List.all_append]
theorem Ur {sep : List Nat} (hs : okC sep = true) : ∀ {l : List (List Nat)}, (∀ p ∈ l, okC p = true) -> okC (TL.joinL sep l) = true
 | [], _ => rfl
 | [p], h => h p (by simp)
 | p :: q :: r, h => by
  show okC (p ++ (sep ++ TL.joinL sep (q :: r))) = true
  rw [UR, UR, h p (by simp), hs, Ur hs (fun x hx => h x (by simp [hx]))]; rfl
theorem okC_numRow (r : List Int) : okC (Zv r) = true := Ur (by decide) fun p hp => by
 obtain ⟨i, _, rfl⟩ := List.mem_map.mp hp
 exact UD i
theorem WD.Ok.nl {d : WD} (h : d.Ok) : 10 ∉ d.t := by
 cases d with
 | row w ts =>
  obtain ⟨h1, h2, h3, h4, h5, h6, h7, h8, h9⟩ := h
  exact join_mem (by decide) fun p hp => by
   rcases List.mem_cons.mp hp with rfl | hp
   ·exact h4
   ·obtain ⟨x, hx, rfl⟩ := List.mem_map.mp hp
    exact (Th.t_free (h9 x hx)).2
 | uns rows =>
  show 10 ∉ cs "unsure " ++ TL.joinL (cs " / ") (rows.map Zv)
  intro hh
  rcases List.mem_append.mp hh with h1 | h1
  ·exact absurd h1 (by decide)
  ·exact join_mem (by decide) (fun p hp => by
    obtain ⟨r, _, rfl⟩ := List.mem_map.mp hp
    exact num_free (by decide)) h1
theorem WD.Ok.len {d : WD} (h : d.Ok) : d.t.length <= 2000 := by
 cases d with
 | row w ts =>
  obtain ⟨h1, h2, h3, h4, h5, h6, h7, h8, h9⟩ := h
  have := WM (sep := [32]) (m := 100) (ps := w :: ts.map Th.t) (fun p hp => by
   rcases List.mem_cons.mp hp with rfl | hp
   ·exact h2
   ·obtain ⟨x, hx, rfl⟩ := List.mem_map.mp hp
    exact Th.t_len (h9 x hx))
  rw [List.length_cons, List.length_map] at this
  have h2 : (ts.length + 1) * (100 + [32].length) <= 6 * 101 := Nat.mul_le_mul (by omega) (by decide)
  show (TL.joinL [32] (w :: ts.map Th.t)).length <= 2000
  omega
 | uns rows =>
  have := unsX_len h.2.1 h.2.2
  show (cs "unsure " ++ unsX rows).length <= 2000
  rw [List.length_append, show (cs "unsure ").length = 7 from rfl]; omega
theorem WD.Ok.okC {d : WD} (h : d.Ok) : okC d.t = true := by
 cases d with
 | row w ts =>
  obtain ⟨h1, h2, h3, h4, h5, h6, h7, h8, h9⟩ := h
  exact Ur (by decide) fun p hp => by
   rcases List.mem_cons.mp hp with rfl | hp
   ·exact h1
   ·obtain ⟨x, hx, rfl⟩ := List.mem_map.mp hp
    exact Th.t_okC (h9 x hx)
 | uns rows =>
  show Hx.okC (cs "unsure " ++ TL.joinL (cs " / ") (rows.map Zv)) = true
  rw [UR, Ur (by decide) (fun p hp => by
    obtain ⟨r, _, rfl⟩ := List.mem_map.mp hp
    exact okC_numRow r)]; decide
theorem WD.Good.head {d : WD} (g : d.Good) : ∃ p q, d.t = p ++ ([32] ++ q) ∧ 32 ∉ p ∧ p ≠ cs "many" := by
 cases g with
 | @num w n is W N hm hp hn hl h0 h =>
  obtain ⟨i, r, rfl⟩ : ∃ i r, is = i :: r := by cases is with
   | nil => exact absurd rfl h0
   | cons i r => exact ⟨i, r, rfl⟩
  exact ⟨cs w, _, rfl, W.sp, N.n2⟩
 | @ref w n x is W N hm hn hl hx hx0 h => exact ⟨cs w, _, rfl, W.sp, N.n2⟩
 | @pane x a b c d hx hd h => exact ⟨cs "pane", _, rfl, by decide, by decide⟩
 | @uns rows h0 hn h => exact ⟨cs "unsure", unsX rows, rfl, by decide, by decide⟩
theorem part_tx {a p q : List Nat} (e : a = p ++ ([32] ++ q)) (h : 32 ∉ p) (hl : a.length <= 1000000) : oPart (SX.S a) [.str (Str.ofString " ")] = some (.z, .con .tup [tx p, .str (Str.ofString " "), tx q]) := by
 have e1 := SX.partition_some (a := a) (b := [32]) (by simp) (by rw [e]; exact SX.par_head (c := 32) (sep := []) q h)
 have h1 : (SX.S a).length.ble 1000000 = true := Nat.ble_eq_true_of_le (by rw [SX.S_len]; exact hl)
 show (bif !((SX.S [32]).length == 0) && (SX.S a).length.ble 1000000 then some (Fr.z, D.con .tup [.str (Txt.partition (SX.S a) (SX.S [32])).1, .str (Txt.partition (SX.S a) (SX.S [32])).2.1, .str (Txt.partition (SX.S a) (SX.S [32])).2.2]) else none) = _
 rw [h1, e1]; rfl
theorem f_many_no {d : WD} (g : d.Good) {st : Zd} : WI [(.z, tx d.t)] st = .ok .z false .non st := by
 obtain ⟨p, q, e, hp, hm⟩ := g.head
 have hl := g.ok.len
 have ho := g.ok.okC
 have hq : okC p = true ∧ okC q = true := by
  rw [e, UR, UR, Bool.and_eq_true, Bool.and_eq_true] at ho
  exact ⟨ho.1, ho.2.2⟩
 have hql : q.length <= 2000 := by
  rw [e, List.length_append, List.length_append] at hl
  omega
 have e1 := part_tx e hp (by omega)
 have e2 := Ul (st := st) (a := q) (by omega) hq.2
 have q1 : eqD (tx p) (.str (Str.ofString "many")) = some false := by
  rw [cs_S]
  exact (WV hq.1 (by decide)).trans (by rw [decide_eq_false hm])
 have hlk : lk st (oI (Wt q)) = oI (Wt q) := by cases Wt q <;> rfl
 have hlp : lk st (tx p) = tx p := rfl
 have hlq : lk st (tx q) = tx q := rfl
 show WI [(.z, .str (SX.S d.t))] st = _
 generalize SX.S d.t = X at *
 generalize tx p = P at *
 generalize tx q = Q at *
 generalize oI (Wt q) = N at *
 simp [-oPart, WI, e1, e2, q1, dUnp, ZS, ZF, hlk, hlp, hlq]
def ZE (n : Nat) : List Nat := cs "many " ++ numC (n : Int)
theorem manyC_eq (n : Nat) : ZE n = cs "many" ++ ([32] ++ numC (n : Int)) := rfl
theorem manyC_ok (n : Nat) : okC (ZE n) = true := by unfold ZE; rw [UR, UD]; decide
theorem manyC_nl (n : Nat) : 10 ∉ ZE n := by
 unfold ZE
 intro hh
 rcases List.mem_append.mp hh with h | h
 ·exact absurd h (by decide)
 ·exact VF (by decide) h
theorem Zbn {n : Nat} (h : n <= 1000) : (ZE n).length <= 100 := by
 unfold ZE
 have := Vl (i := (n : Int)) (by simp; omega)
 rw [List.length_append, show (cs "many ").length = 5 from rfl]
 omega
theorem f_many_yes {n : Nat} {st : Zd} (h : n <= 1000) : WI [(.z, tx (ZE n))] st = .ok .z false (.int (n : Int)) st := by
 have e1 := part_tx (a := ZE n) (manyC_eq n) (by decide) (by have := Zbn h; omega)
 have e2 := f_number_num (i := (n : Int)) (st := st) (by simp; omega)
 have hlp : lk st (tx (cs "many")) = tx (cs "many") := rfl
 have hlq : lk st (tx (numC (n : Int))) = tx (numC (n : Int)) := rfl
 have q1 : eqD (tx (cs "many")) (.str (Str.ofString "many")) = some true := WU (a := tx (cs "many")) (ZK (a := cs "many") (by decide))
 have hn : ¬ ((n : Int) < 0) := by omega
 show WI [(.z, .str (SX.S (ZE n)))] st = _
 generalize SX.S (ZE n) = X at *
 generalize tx (cs "many") = P at *
 generalize tx (numC (n : Int)) = Q at *
 simp [-oPart, WI, e1, e2, q1, dUnp, ZS, ZF, hlp, hlq, hn]
theorem f_deed_in1 {d : WD} (g : d.Good) {st : Zd} : WH [(.z, .con .lst [tx d.t]), (.z, .int 0)] st = .ok .z false (.con .tup [d.d, .int 1]) st := by
 have e1 := f_many_no g (st := st)
 have e2 := f_row_in g (st := st)
 have hlk : lk st (tx d.t) = tx d.t := rfl
 obtain ⟨ds, hd⟩ : ∃ ds, d.d = .con .tup ds := by cases d <;> exact ⟨_, rfl⟩
 have hld : lk st d.d = d.d := by rw [hd]; rfl
 rw [hd] at e2 hld ⊢
 generalize tx d.t = X at *
 simp [WH, e1, e2, hlk, hld]
abbrev ED (rows : List D) (n : Nat) (acc : List D) (v5 : Option (Fr × D)) : Env := [some (.z, .con .lst rows), some (.z, .int 0), some (.z, .int (n : Int)), none, some (.c .z, .con .lst acc), v5]
theorem deed_body {rows : List D} {n : Nat} {acc : List D} {d : WD} (g : d.Good) {i : Nat} {st : Zd} (hi : rows[i]? = some (tx d.t)) (ha : acc.length <= 1000) :
  Wm (ED rows n acc (some (.z, .int (i : Int)))) st = .nx (ED rows n (acc ++ [d.d]) (some (.z, .int (i : Int)))) st := by
 have e2 := f_row_in g (st := st)
 have hlk : lk st (tx d.t) = tx d.t := rfl
 have hx : oIx [.con .lst rows, .int (i : Int)] = some (.z, tx d.t) := by
  have : atI rows (i : Int) = some (tx d.t) := by
   have hl := (List.getElem?_eq_some_iff.mp hi).1
   have h2 : (i : Int) < (rows.length : Int) := by omega
   simp [atI, ixN, h2, hi]
  simp [this]
 have hla : atI (acc ++ [d.d]) (-1) = some d.d := by
  have e : ixN (acc.length + 1) (-1) = some acc.length := by
   unfold ixN
   simp
   try omega
  simp [atI, e]
 obtain ⟨ds, hd⟩ : ∃ ds, d.d = .con .tup ds := by cases d <;> exact ⟨_, rfl⟩
 have hld : lk st d.d = d.d := by rw [hd]; rfl
 have ha2 : acc.length <= 1000000 := by omega
 rw [hd] at e2 hld hla ⊢
 generalize tx d.t = X at *
 simp [-oIx, Wm, dApp, dIx1L, hx, e2, hlk, hld, ha2, hla]
theorem deed_loop {rows : List D} {n : Nat} {st : Zd} : ∀ (ds : List WD) (i : Nat) (acc : List D) (v5 : Option (Fr × D)), (∀ d ∈ ds, d.Good) -> (∀ j, (h : j < ds.length) -> rows[i + j]? = some (tx ds[j].t)) -> acc.length + ds.length <= 1000 ->
  ∃ w5, Ve (.nm 5) Wm [] ((List.range ds.length).map fun (k : Nat) => D.int ((i : Int) + (k : Int))) (ED rows n acc v5) st = .nx (ED rows n (acc ++ ds.map WD.d) w5) st
 | [], i, acc, v5, _, _, _ => ⟨v5, by simp [Ve]⟩
 | d :: ds, i, acc, v5, g, hr, hl => by
  have hr0 := hr 0 (by simp)
  have b := deed_body (n := n) (acc := acc) (g d (by simp)) (i := i) (st := st) hr0 (by simp at hl; omega)
  obtain ⟨w5, k⟩ := deed_loop ds (i + 1) (acc ++ [d.d]) (some (.z, .int (i : Int))) (fun x hx => g x (by simp [hx])) (fun j h => by
   have := hr (j + 1) (by simp; omega)
   rw [show i + (j + 1) = i + 1 + j by omega] at this
   simpa using this) (by simp at hl ⊢; omega)
  refine ⟨w5, ?_⟩
  have e1 : ((List.range (d :: ds).length).map fun (k : Nat) => D.int ((i : Int) + (k : Int))) = .int (i : Int) :: ((List.range ds.length).map fun (k : Nat) => D.int (((i + 1 : Nat) : Int) + (k : Int))) := by
   rw [List.length_cons, List.range_succ_eq_map, List.map_cons, List.map_map]
   have a1 : D.int ((i : Int) + ((0 : Nat) : Int)) = D.int (i : Int) := by simp
   have a2 : ((List.range ds.length).map ((fun (k : Nat) => D.int ((i : Int) + (k : Int))) ∘ Nat.succ)) = ((List.range ds.length).map fun (k : Nat) => D.int (((i + 1 : Nat) : Int) + (k : Int))) := List.map_congr_left fun a _ => by
    have : (i : Int) + ((a + 1 : Nat) : Int) = ((i + 1 : Nat) : Int) + (a : Int) := by omega
    exact congrArg D.int this
   rw [a1, a2]
  rw [e1, Ve]
  show (match Wm (ED rows n acc (some (.z, .int (i : Int)))) st with
   | .nx env2 st2 => _
   | .ct env2 st2 => _
   | .bk env2 st2 => _
   | r => r) = _
  rw [b]
  show Ve (.nm 5) Wm [] _ (killE [] (ED rows n (acc ++ [d.d]) (some (.z, .int (i : Int))))) st = _
  rw [show killE [] (ED rows n (acc ++ [d.d]) (some (.z, .int (i : Int)))) = ED rows n (acc ++ [d.d]) (some (.z, .int (i : Int))) from rfl, k]
  simp
theorem f_deed_inM {ds : List WD} (g : ∀ d ∈ ds, d.Good) (hl : ds.length <= 1000) {st : Zd} :
  WH [(.z, .con .lst (tx (ZE ds.length) :: ds.map fun d => tx d.t)), (.z, .int 0)] st = .ok .z false (.con .tup [.con .tup [.str (Str.ofString "many"), .con .tup (ds.map WD.d)], .int ((ds.length : Int) + 1)]) st := by
 have e1 := f_many_yes (n := ds.length) (st := st) hl
 have hlk : lk st (tx (ZE ds.length)) = tx (ZE ds.length) := rfl
 obtain ⟨w5, lp⟩ := deed_loop (rows := tx (ZE ds.length) :: ds.map fun d => tx d.t) (n := ds.length) (st := st) ds 1 [] none g (fun j h => by
  rw [show 1 + j = j + 1 by omega, List.getElem?_cons_succ, List.getElem?_map, List.getElem?_eq_getElem h]; rfl) (by simpa using hl)
 have hr : Zo 1 (1 + (ds.length : Int)) = (List.range ds.length).map fun (k : Nat) => D.int (((1 : Nat) : Int) + (k : Int)) := by
  unfold Zo
  rw [show (1 + (ds.length : Int) - 1).toNat = ds.length by omega]; rfl
 rw [<- hr] at lp
 rw [List.nil_append] at lp
 have hT : ((tx (ZE ds.length) :: ds.map fun d => tx d.t).length : Int) = 1 + (ds.length : Int) := by simp; omega
 have hT2 : (tx (ZE ds.length) :: ds.map fun d => tx d.t).length <= 16777216 := by simp; omega
 have hix : oIx [.con .lst (tx (ZE ds.length) :: ds.map fun d => tx d.t), .int 0] = some (.z, tx (ZE ds.length)) := by
  have : (0 : Int) < ((ds.map fun d => tx d.t).length : Int) + 1 := by omega
  simp [atI, ixN]
 have hD : (ds.map WD.d).length = ds.length := by simp
 have hs1 : Wd (1 + (ds.length : Int)) = true := by unfold Wd; simp; omega
 generalize tx (ZE ds.length) = M at *
 generalize hTT : (M :: ds.map fun d => tx d.t) = T at *
 generalize hDD : ds.map WD.d = DD at *
 generalize hN : ds.length = n at *
 have hd2 : DD.length <= 16777216 := by omega
 have hd3 : ¬ (DD.length : Int) < (n : Int) := by omega
 have lp : Ve (.nm 5) Wm [] (Zo 1 (1 + (n : Int))) [some (.z, .con .lst T), some (.z, .int 0), some (.z, .int (n : Int)), none, some (.c .z, .con .lst []), none] st = _ := lp
 have hlen : oLen [.con .lst T] = some (.z, .int (1 + (n : Int))) := by simp [hT2, hT]
 have hlD : oLen [.con .lst DD] = some (.z, .int (n : Int)) := by simp [hd2, hD]
 have hmin : (if (1 + (n : Int)) < 1 + (n : Int) then (1 + (n : Int)) else 1 + (n : Int)) = 1 + (n : Int) := by simp
 have hs0 : Wd 1 = true := by decide
 have hadd : (1 : Int) + (n : Int) = (n : Int) + 1 := by omega
 simp [-oIx, -oLen, WH, dFor, dFrz, hix, e1, hlk, hlen, hlD, lp, hs1, hs0]
 omega
inductive LD where
 | one (d : WD)
 | many (ds : List WD)
def LD.rows : LD -> List (List Nat)
 | .one d => [d.t]
 | .many ds => ZE ds.length :: ds.map WD.t
def LD.d : LD -> D
 | .one d => d.d
 | .many ds => .con .tup [.str (Str.ofString "many"), .con .tup (ds.map WD.d)]
def LD.t (l : LD) : List Nat := TL.joinL [10] l.rows
def LD.Good : LD -> Prop
 | .one d => d.Good
 | .many ds => ds.length <= 1000 ∧ ∀ d ∈ ds, d.Good
theorem LD.Good.row {l : LD} (g : l.Good) : ∀ p ∈ l.rows, 10 ∉ p ∧ p.length <= 2000 := by
 intro p hp
 cases l with
 | one d =>
  rcases List.mem_singleton.mp hp with rfl
  exact ⟨g.ok.nl, g.ok.len⟩
 | many ds =>
  rcases List.mem_cons.mp hp with rfl | hp
  ·exact ⟨manyC_nl _, by have := Zbn g.1; omega⟩
  ·obtain ⟨d, hd, rfl⟩ := List.mem_map.mp hp
   exact ⟨(g.2 d hd).ok.nl, (g.2 d hd).ok.len⟩
theorem LD.Good.small {l : LD} (g : l.Good) (hl : l.rows.length <= 400) : l.t.length <= 900000 := by
 have := WM (sep := [10]) (m := 2000) (ps := l.rows) (fun p hp => (g.row p hp).2)
 have h2 : l.rows.length * (2000 + [10].length) <= 400 * 2001 := Nat.mul_le_mul hl (by decide)
 unfold LD.t
 omega
theorem f_deed_in {l : LD} (g : l.Good) {st : Zd} : WH [(.z, .con .lst (l.rows.map tx)), (.z, .int 0)] st = .ok .z false (.con .tup [l.d, .int (l.rows.length : Int)]) st := by
 cases l with
 | one d => exact f_deed_in1 g
 | many ds =>
  have := f_deed_inM g.2 g.1 (st := st)
  show WH [(.z, .con .lst (tx (ZE ds.length) :: (ds.map WD.t).map tx)), (.z, .int 0)] st = .ok .z false (.con .tup [.con .tup [.str (Str.ofString "many"), .con .tup (ds.map WD.d)], .int (((ds.map WD.t).length + 1 : Nat) : Int)]) st
  rw [List.map_map, List.length_map]
  exact this
theorem Zbq {l : LD} (g : l.Good) (hl : l.rows.length <= 400) {st : Zd} : WL [(.z, tx l.t)] st = .ok .z false l.d st := by
 have e1 : ZT (SX.S l.t) [.str (Str.ofString "\n")] = some (.c .z, .con .lst (l.rows.map tx)) :=
  VL (sep := [10]) (by simp) (by decide) (SX.spl_join (by cases l <;> simp [LD.rows]) (fun p hp => (g.row p hp).1)) (by have := g.small hl; omega)
 have e2 := f_deed_in g (st := st)
 obtain ⟨ds, hd⟩ : ∃ ds, l.d = .con .tup ds := by
  cases l with
  | one d => cases d <;> exact ⟨_, rfl⟩
  | many ds => exact ⟨_, rfl⟩
 have hld : lk st l.d = l.d := by rw [hd]; rfl
 have hT : (l.rows.map tx).length = l.rows.length := by simp
 rw [hd] at e2 hld ⊢
 show WL [(.z, .str (SX.S l.t))] st = _
 generalize SX.S l.t = X at *
 generalize l.rows.map tx = T at *
 have hT2 : T.length <= 16777216 := by omega
 have hT3 : ¬ ((l.rows.length : Int) < (T.length : Int)) := by omega
 simp [-ZT, WL, e1, e2, dUnp, ZS, ZF, hld, hT2, hT]
theorem WD.Ok.d0 {d : WD} (h : d.Ok) : ∃ p r, d.d = .con .tup (tx p :: r) ∧ oEq [tx p, .str (Str.ofString "many")] = some (.z, .bl false) := by
 cases d with
 | row w ts =>
  obtain ⟨h1, h2, h3, h4, h5, h6, h7, h8, h9⟩ := h
  exact ⟨w, _, rfl, by rw [cs_S]; exact Wh ((WV h1 (by decide)).trans (by rw [decide_eq_false h7]))⟩
 | uns rows => exact ⟨cs "unsure", _, rfl, by rw [cs_S]; exact Wh ((WV (a := cs "unsure") (b := cs "many") (by decide) (by decide)).trans (by rw [decide_eq_false (by decide)]))⟩
theorem f_deed_text1 {d : WD} (g : d.Good) {st : Zd} : Wv [(.z, d.d)] st = .ok .z false (tx d.t) st := by
 have e1 := Zcn g.ok (st := st)
 obtain ⟨p, r, hd, q⟩ := g.ok.d0
 have e2 : We (Str.ofString "\n") [.con .lst [tx d.t]] = some (.z, tx d.t) :=
  UL (sep := [10]) (m := 2000) (ps := [d.t]) rfl (fun p hp => by rcases List.mem_singleton.mp hp with rfl; exact g.ok.len) (by simp)
 have hlk : lk st (tx d.t) = tx d.t := rfl
 have hlp : lk st (tx p) = tx p := rfl
 rw [hd] at e1 ⊢
 generalize tx d.t = X at *
 generalize tx p = P at *
 simp [-We, -oEq, Wv, Vq, dLc, lcGo, Zw, e1, e2, q, hlk, hlp]
theorem row_many {ds : List D} {st : Zd} (hl : ds.length <= 1000) : ZY [(.z, .con .tup [.str (Str.ofString "many"), .con .tup ds])] st = .ok .z false (tx (ZE ds.length)) st := by
 have q := Wh (WU (a := .str (Str.ofString "many")) (ZK (a := cs "many") (by decide)))
 have hs : ZaS (ds.length : Int) = true := strOk_num (by simp; omega)
 have e0 : Str.ofString (ds.length : Int).repr = SX.S (numC (ds.length : Int)) := toStr_S _
 have e1 : Str.empty ++ Str.ofString "many " = SX.S (cs "many ") := by rw [<- cs_S]; rfl
 have e2 : SX.S (cs "many ") ++ SX.S (numC (ds.length : Int)) = SX.S (ZE ds.length) := SX.S_cat _ _
 have h1 : (SX.S (cs "many ")).length <= 16777216 := by rw [SX.S_len]; decide
 have h2 : (SX.S (ZE ds.length)).length <= 16777216 := by rw [SX.S_len]; have := Zbn hl; omega
 have hm : ds.length <= 16777216 := by omega
 show _ = Res.ok .z false (.str (SX.S (ZE ds.length))) st
 generalize SX.S (ZE ds.length) = X at *
 generalize SX.S (cs "many ") = Y at *
 generalize SX.S (numC (ds.length : Int)) = Z at *
 simp [-oEq, ZY, dUnpS, seqI, ZF, ZS, dFrz, q, hs, hm, e0, e1, e2, h1, h2]
theorem f_deed_text {l : LD} (g : l.Good) (hl : l.rows.length <= 400) {st : Zd} : Wv [(.z, l.d)] st = .ok .z false (tx l.t) st := by
 cases l with
 | one d => exact f_deed_text1 g
 | many ds =>
  have e1 := row_many (ds := ds.map WD.d) (st := st) (by simpa using g.1)
  rw [List.length_map] at e1
  have i1 := Vx (p := .nm 2) (env := [some (.z, .con .tup [.str (Str.ofString "many"), .con .tup (ds.map WD.d)]), some (.z, .con .tup (ds.map WD.d)), none]) (st := st) (el := Zq ZY [] (Za (Ze 2))) WD.d (fun d => tx d.t) ds [] (fun d hd => ⟨_, rfl, by
   have e := Zcn (g.2 d hd).ok (st := st)
   obtain ⟨q, hq⟩ : ∃ q, d.d = .con .tup q := by cases d <;> exact ⟨_, rfl⟩
   have hld : lk st d.d = d.d := by rw [hq]; rfl
   generalize d.d = X at *
   simp [e, hld]⟩)
  have e3 : (ds.map fun d => tx d.t) = (ds.map WD.t).map tx := by rw [List.map_map]; rfl
  rw [e3] at i1
  have e2 : We (Str.ofString "\n") [.con .lst (tx (ZE ds.length) :: (ds.map WD.t).map tx)] = some (.z, tx (TL.joinL [10] (ZE ds.length :: ds.map WD.t))) :=
   UL (sep := [10]) (m := 2000) (ps := ZE ds.length :: ds.map WD.t) rfl (fun p hp => (g.row p hp).2) (by
    have : (ZE ds.length :: ds.map WD.t).length <= 400 := hl
    have h2 : (ZE ds.length :: ds.map WD.t).length * (2000 + [10].length) <= 400 * 2001 := Nat.mul_le_mul hl (by decide)
    omega)
  have q := Wh (WU (a := .str (Str.ofString "many")) (ZK (a := cs "many") (by decide)))
  have hm : (ds.map WD.d).length <= 16777215 := by have := g.1; simp; omega
  have hlk : lk st (tx (ZE ds.length)) = tx (ZE ds.length) := rfl
  have hn : 1 + ((ds.map WD.t).map tx).length <= 16777216 := by have := g.1; simp; omega
  show Wv [(.z, .con .tup [.str (Str.ofString "many"), .con .tup (ds.map WD.d)])] st = .ok .z false (tx (TL.joinL [10] (ZE ds.length :: ds.map WD.t))) st
  generalize tx (TL.joinL [10] (ZE ds.length :: ds.map WD.t)) = R at *
  generalize tx (ZE ds.length) = M at *
  generalize (ds.map WD.t).map tx = T at *
  generalize ds.map WD.d = DD at *
  simp [-We, -oEq, Wv, Vq, dLc, Zw, e1, e2, i1, q, hm, hlk, hn]
section
variable {st : Zd} {c k : Nat}
theorem wd_of {w : String} {n : Nat} (h1 : okC (cs w) = true) (h2 : 32 ∉ cs w) (h3 : 10 ∉ cs w) (h4 : (cs w).length <= 100) (h5 : cs w ≠ cs "unsure") (mu : oIn [.str (Str.ofString w), tMU] = some (.z, .bl false)) (tl : tlook ZA (Str.ofString w) = some (.int (n : Int))) : WdOk w n :=
 ⟨h1, h2, h3, h4, by rw [cs_S, uU, cs_S "unsure"]; exact Wh ((WV h1 (by decide)).trans (by rw [decide_eq_false h5])), mu, tl⟩
theorem VW {w : String} (h1 : okC (cs w) = true) (h : cs w ≠ cs "pane") : oEq [.str (Str.ofString w), .str (Str.ofString "pane")] = some (.z, .bl false) := by
 rw [cs_S, cs_S "pane"]
 exact Wh ((WV h1 (by decide)).trans (by rw [decide_eq_false h]))
theorem Wr {v w : String} (h1 : okC (cs v) = true) (h2 : okC (cs w) = true) : oEq [.str (Str.ofString v), .str (Str.ofString w)] = some (.z, .bl (decide (cs v = cs w))) := by
 rw [cs_S, cs_S w]
 exact Wh (WV h1 h2)
theorem good_lamp {a b c d e : Int} (h : NOk [a, b, c, d, e]) : WD.Good (.row (cs "lamp") ([a, b, c, d, e].map Th.n)) :=
 .num (n := 6) (wd_of (by decide) (by decide) (by decide) (by decide) (by decide) (by rfl) (by rfl)) ⟨by decide, by decide, by decide⟩ (by rfl) (VW (by decide) (by decide)) rfl (by simp) (by simp) h
theorem good_post {a b c d : Int} (h : NOk [a, b, c, d]) : WD.Good (.row (cs "post") ([a, b, c, d].map Th.n)) :=
 .num (n := 5) (wd_of (by decide) (by decide) (by decide) (by decide) (by decide) (by rfl) (by rfl)) ⟨by decide, by decide, by decide⟩ (by rfl) (VW (by decide) (by decide)) rfl (by simp) (by simp) h
theorem good_look {a b c d e : Int} (h : NOk [a, b, c, d, e]) : WD.Good (.row (cs "look") ([a, b, c, d, e].map Th.n)) :=
 .num (n := 6) (wd_of (by decide) (by decide) (by decide) (by decide) (by decide) (by rfl) (by rfl)) ⟨by decide, by decide, by decide⟩ (by rfl) (VW (by decide) (by decide)) rfl (by simp) (by simp) h
theorem good_switch {a : Int} (h : NOk [a]) : WD.Good (.row (cs "switch") ([a].map Th.n)) :=
 .num (n := 2) (wd_of (by decide) (by decide) (by decide) (by decide) (by decide) (by rfl) (by rfl)) ⟨by decide, by decide, by decide⟩ (by rfl) (VW (by decide) (by decide)) rfl (by simp) (by simp) h
theorem good_strike {a : Int} (h : NOk [a]) : WD.Good (.row (cs "strike") ([a].map Th.n)) :=
 .num (n := 2) (wd_of (by decide) (by decide) (by decide) (by decide) (by decide) (by rfl) (by rfl)) ⟨by decide, by decide, by decide⟩ (by rfl) (VW (by decide) (by decide)) rfl (by simp) (by simp) h
theorem good_settle {a b : Int} (h : NOk [a, b]) : WD.Good (.row (cs "settle") ([a, b].map Th.n)) :=
 .num (n := 3) (wd_of (by decide) (by decide) (by decide) (by decide) (by decide) (by rfl) (by rfl)) ⟨by decide, by decide, by decide⟩ (by rfl) (VW (by decide) (by decide)) rfl (by simp) (by simp) h
theorem good_move {x : List Nat} {a b c : Int} (hx : XOk x) (h0 : x ≠ []) (h : NOk [a, b, c]) : WD.Good (.row (cs "move") (.s x :: [a, b, c].map Th.n)) :=
 .ref (n := 5) (wd_of (by decide) (by decide) (by decide) (by decide) (by decide) (by rfl) (by rfl)) ⟨by decide, by decide, by decide⟩ (by rfl) rfl (by simp) hx h0 h
theorem good_drop {x : List Nat} {a : Int} (hx : XOk x) (h0 : x ≠ []) (h : NOk [a]) : WD.Good (.row (cs "drop") (.s x :: [a].map Th.n)) :=
 .ref (n := 3) (wd_of (by decide) (by decide) (by decide) (by decide) (by decide) (by rfl) (by rfl)) ⟨by decide, by decide, by decide⟩ (by rfl) rfl (by simp) hx h0 h
theorem pow9 : powOk 10 9 = true := by decide
theorem Zbx (B : Bag k st c) (hk : k + 4 < 2 ^ 100) : ∃ (i : Int) (st' : Zd), Zl [(.z, .ref c)] st = .ok .z false (.int i) st' ∧ i.natAbs < 10 ^ 9 ∧ Bag (k + 4) st' c ∧ Fro1 c st st' := by
 obtain ⟨a, s1, e1, a0, a1, _, B, f1⟩ := pull (n := 8) 10 B (by omega) (by decide) (by decide) (by decide)
 obtain ⟨b, s2, e2, b0, b1, _, B, f2⟩ := pull (n := 31) 1000000000 B (by omega) (by decide) (by decide) (by decide)
 obtain ⟨g, s3, e3, g0, g1, _, B, f3⟩ := pull (n := 8) 4 B (by omega) (by decide) (by decide) (by decide)
 obtain ⟨h, s4, e4, h0, h1, _, B, f4⟩ := pull (n := 8) 2 B (by omega) (by decide) (by decide) (by decide)
 have p9 := pow9
 have key : ∀ v : Int, v.natAbs < 10 ^ 9 -> ((if h = 0 then v else 0 - v) : Int).natAbs < 10 ^ 9 := fun v hv => by split <;> omega
 have F := ((f1.trans f2).trans f3).trans f4
 unfold Zl Wz Vs Vo
 generalize ZX = PL at *
 have hg : g = 0 ∨ g = 1 ∨ g = 2 ∨ g = 3 := by omega
 have hh : h = 0 ∨ h = 1 := by omega
 rcases hg with rfl | rfl | rfl | rfl <;> rcases hh with rfl | rfl
 ·exact ⟨a, s4, by simp [e1, e2, e3, e4, p9], by omega, B, F⟩
 ·exact ⟨0 - a, s4, by simp [e1, e2, e3, e4, p9], by omega, B, F⟩
 ·exact ⟨b, s4, by simp [e1, e2, e3, e4, p9], by omega, B, F⟩
 ·exact ⟨0 - b, s4, by simp [e1, e2, e3, e4, p9], by omega, B, F⟩
 ·exact ⟨999999999, s4, by simp [e1, e2, e3, e4, p9], by decide, B, F⟩
 ·exact ⟨-999999999, s4, by simp [e1, e2, e3, e4, p9], by decide, B, F⟩
 ·exact ⟨0, s4, by simp [e1, e2, e3, e4, p9], by decide, B, F⟩
 ·exact ⟨0, s4, by simp [e1, e2, e3, e4, p9], by decide, B, F⟩
theorem f_l_word (B : Bag k st c) (hk : k + 1 < 2 ^ 100) : ∃ (x : List Nat) (st' : Zd), ZaF [(.z, .ref c)] st = .ok .z false (tx x) st' ∧ XOk x ∧ x ≠ [] ∧ Bag (k + 1) st' c ∧ Fro1 c st st' := by
 obtain ⟨g, d, s, e, u1, u2, u3, B, f⟩ := f_l_one (n := 8) (ds := [.str (Str.ofString "lamp"), .str (Str.ofString "post"), .str (Str.ofString "pane"), .str (Str.ofString "x"), .str (Str.ofString "Lamp"), .str (Str.ofString "9"), .str (Str.ofString "/"), .str (Str.ofString "many"), .str (Str.ofString "~!")]) B (by omega) (by simp) (by simp) (by decide)
 have hm := List.mem_of_getElem? u2
 have key : ∃ x, d = tx x ∧ XOk x ∧ x ≠ [] := by
  simp only [List.mem_cons, List.not_mem_nil, or_false] at hm
  rcases hm with rfl | rfl | rfl | rfl | rfl | rfl | rfl | rfl | rfl
  ·exact ⟨cs "lamp", (cs_d _).symm, ⟨by decide, by decide, by decide, by decide⟩, by decide⟩
  ·exact ⟨cs "post", (cs_d _).symm, ⟨by decide, by decide, by decide, by decide⟩, by decide⟩
  ·exact ⟨cs "pane", (cs_d _).symm, ⟨by decide, by decide, by decide, by decide⟩, by decide⟩
  ·exact ⟨cs "x", (cs_d _).symm, ⟨by decide, by decide, by decide, by decide⟩, by decide⟩
  ·exact ⟨cs "Lamp", (cs_d _).symm, ⟨by decide, by decide, by decide, by decide⟩, by decide⟩
  ·exact ⟨cs "9", (cs_d _).symm, ⟨by decide, by decide, by decide, by decide⟩, by decide⟩
  ·exact ⟨cs "/", (cs_d _).symm, ⟨by decide, by decide, by decide, by decide⟩, by decide⟩
  ·exact ⟨cs "many", (cs_d _).symm, ⟨by decide, by decide, by decide, by decide⟩, by decide⟩
  ·exact ⟨cs "~!", (cs_d _).symm, ⟨by decide, by decide, by decide, by decide⟩, by decide⟩
 obtain ⟨x, rfl, hx, h0⟩ := key
 exact ⟨x, s, by simp [ZaF, e], hx, h0, B, f⟩
theorem pane_wd (B : Bag k st c) (hk : k + 1 < 2 ^ 100) : ∃ (x : List Nat) (st' : Zd), UO [(.z, .ref c), (.z, .con .lst [.str (Str.ofString ""), .str (Str.ofString "r"), .str (Str.ofString "rgb"), .str (Str.ofString "gr"), .str (Str.ofString "zz")])] st = .ok .z false (tx x) st' ∧ XOk x ∧ x ≠ [45] ∧ Bag (k + 1) st' c ∧ Fro1 c st st' := by
 obtain ⟨g, d, s, e, u1, u2, u3, B, f⟩ := f_l_one (n := 8) (ds := [.str (Str.ofString ""), .str (Str.ofString "r"), .str (Str.ofString "rgb"), .str (Str.ofString "gr"), .str (Str.ofString "zz")]) B (by omega) (by simp) (by simp) (by decide)
 have hm := List.mem_of_getElem? u2
 have key : ∃ x, d = tx x ∧ XOk x ∧ x ≠ [45] := by
  simp only [List.mem_cons, List.not_mem_nil, or_false] at hm
  rcases hm with rfl | rfl | rfl | rfl | rfl
  ·exact ⟨cs "", (cs_d _).symm, ⟨by decide, by decide, by decide, by decide⟩, by decide⟩
  ·exact ⟨cs "r", (cs_d _).symm, ⟨by decide, by decide, by decide, by decide⟩, by decide⟩
  ·exact ⟨cs "rgb", (cs_d _).symm, ⟨by decide, by decide, by decide, by decide⟩, by decide⟩
  ·exact ⟨cs "gr", (cs_d _).symm, ⟨by decide, by decide, by decide, by decide⟩, by decide⟩
  ·exact ⟨cs "zz", (cs_d _).symm, ⟨by decide, by decide, by decide, by decide⟩, by decide⟩
 obtain ⟨x, rfl, hx, h0⟩ := key
 exact ⟨x, s, e, hx, h0, B, f⟩
theorem draw_nums {p : Nat} {env : Hx.Env} (hp : p < env.length) (h0 : env[0]? = some (some (.z, .ref c))) (hp0 : p ≠ 0) (n : Nat) (B : Bag k st c) (hk : k + 4 * n + 4 < 2 ^ 100) :
  ∃ (is : List Int) (st' : Zd), lcGo (.nm p) dYes (Zq Zl [] (Za (Ze 0))) (Zo 0 (n : Int)) env st [] = .ok (.c .z) false (.con .lst (is.map D.int)) st' ∧ is.length = n ∧ NOk is ∧ Bag (k + 4 * n) st' c ∧ FroG c st st' := by
 have hl : (Zo 0 (n : Int)).length = n := by rw [ZaA]; simp [NI]
 obtain ⟨xs, s, e, l, p1, B1, f1⟩ := lc_draw (p := .nm p) (el := Zq Zl [] (Za (Ze 0))) (env := env) (g := D.int) (P := fun i => i.natAbs < 10 ^ 9) (w := 4) (c := c) (K := k + 4 * n) (fun k' st' d hk' B' => by
  obtain ⟨i, s, e, hi, B2, f2⟩ := Zbx B' (by omega)
  refine ⟨env.set p (some (.z, d)), i, s, by simp [ZS, hp], ?_, hi, B2, f2.g⟩
  have hs : (env.set p (some (.z, d)))[0]? = some (some (.z, .ref c)) := by
   rw [List.getElem?_set_ne hp0]; exact h0
  generalize Zl = F at *
  simp [hs, e]) (Zo 0 (n : Int)) k st [] B (by rw [hl]; omega)
 rw [hl] at B1 l
 exact ⟨xs, s, by rw [e]; simp, l, p1, B1, f1⟩
theorem draw_rows {v1 v2 v3 v4 : Option (Fr × D)} (n : Nat) (hn : n <= 100) (B : Bag k st c) (hk : k + 20 * n + 40 < 2 ^ 100) :
  ∃ (rs : List (List Int)) (st' : Zd), lcGo (.nm 5) dYes (dOp WT (Za (dLc (UY (Za (dC (.int 5)))) [6] (.nm 6) (dYes) (Zq Zl [] (Za (Ze 0)))))) (Zo 0 (n : Int)) [some (.z, .ref c), v1, v2, v3, v4, none, none] st [] = .ok (.c .z) false (.con .lst (rs.map fun r => .con .tup (r.map D.int))) st' ∧
   rs.length = n ∧ (∀ r ∈ rs, r.length = 5 ∧ NOk r) ∧ Bag (k + 20 * n) st' c := by
 have hl : (Zo 0 (n : Int)).length = n := by rw [ZaA]; simp [NI]
 obtain ⟨xs, s, e, l, p1, B1, f1⟩ := lc_draw (p := .nm 5) (el := dOp WT (Za (dLc (UY (Za (dC (.int 5)))) [6] (.nm 6) (dYes) (Zq Zl [] (Za (Ze 0)))))) (env := [some (.z, .ref c), v1, v2, v3, v4, none, none]) (g := fun r : List Int => D.con .tup (r.map D.int)) (P := fun r => r.length = 5 ∧ NOk r) (w := 20) (c := c) (K := k + 20 * n) (fun k' st' d hk' B' => by
  obtain ⟨is, s, e, hi, h2, B2, f2⟩ := draw_nums (p := 6) (env := [some (.z, .ref c), v1, v2, v3, v4, some (.z, d), none]) (by simp) rfl (by decide) 5 B' (by omega)
  refine ⟨[some (.z, .ref c), v1, v2, v3, v4, some (.z, d), none], is, s, rfl, ?_, ⟨hi, h2⟩, B2, f2⟩
  have h5 : (Zo 0 5).length <= 16777215 := by decide
  have e : lcGo (.nm 6) dYes (Zq Zl [] (Za (Ze 0))) (Zo 0 5) [some (.z, .ref c), v1, v2, v3, v4, some (.z, d), none] st' [] = _ := e
  have hs5 : Wd 5 = true := by decide
  simp [dLc, Zw, hs5, h5, e]) (Zo 0 (n : Int)) k st [] B (by rw [hl]; omega)
 rw [hl] at B1 l
 exact ⟨xs, s, by rw [e]; rfl, l, p1, B1⟩
abbrev wKs : List Key := [Sum.inr (Str.ofString "lamp"), Sum.inr (Str.ofString "post"), Sum.inr (Str.ofString "switch"), Sum.inr (Str.ofString "look"), Sum.inr (Str.ofString "strike"), Sum.inr (Str.ofString "settle")]
abbrev wWs : List D := [.str (Str.ofString "lamp"), .str (Str.ofString "unsure"), .str (Str.ofString "post"), .str (Str.ofString "pane"), .str (Str.ofString "move"), .str (Str.ofString "switch"), .str (Str.ofString "drop"), .str (Str.ofString "look"), .str (Str.ofString "strike"), .str (Str.ofString "settle")]
theorem UT (a b c d e : D) : cutD [a, b, c, d, e] none (some 5) = [a, b, c, d, e] ∧ cutD [a, b, c, d, e] none (some 4) = [a, b, c, d] ∧ cutD [a, b, c, d, e] none (some 3) = [a, b, c] ∧ cutD [a, b, c, d, e] none (some 2) = [a, b] ∧ cutD [a, b, c, d, e] none (some 1) = [a] := ⟨rfl, rfl, rfl, rfl, rfl⟩
theorem UU (B : Bag k st c) (hk : k + 400 < 2 ^ 100) : ∃ (d : WD) (st' : Zd), Zk [(.z, .ref c)] st = .ok .z false d.d st' ∧ d.Good ∧ Bag (k + 300) st' c := by
 obtain ⟨g, s1, e1, g0, g1, _, B, f1⟩ := pull (n := 8) 10 B (by omega) (by decide) (by decide) (by decide)
 have hg : g = 0 ∨ g = 1 ∨ g = 2 ∨ g = 3 ∨ g = 4 ∨ g = 5 ∨ g = 6 ∨ g = 7 ∨ g = 8 ∨ g = 9 := by omega
 have nums := fun w : String => draw_nums (p := 5) (env := [some (.z, .ref c), some (.z, .str (Str.ofString w)), none, none, none, none, none]) (st := s1) (by simp) rfl (by decide) 5 B (by omega)
 have h5 : (Zo 0 5).length <= 16777215 := by decide
 have hs5 : Wd 5 = true := by decide
 rcases hg with rfl | rfl | rfl | rfl | rfl | rfl | rfl | rfl | rfl | rfl
 ·have hat : atI wWs 0 = some (.str (Str.ofString "lamp")) := by rfl
  obtain ⟨is, s2, e2, hl, hi, B, f2⟩ := nums "lamp"
  obtain ⟨a, b, c', d, e, rfl⟩ : ∃ a b c' d e, is = [a, b, c', d, e] := by
   match is, hl with
   | [a, b, c', d, e], _ => exact ⟨a, b, c', d, e, rfl⟩
  have e2 : lcGo (.nm 5) dYes (Zq Zl [] (Za (Ze 0))) (Zo 0 5) [some (.z, .ref c), some (.z, .str (Str.ofString "lamp")), none, none, none, none, none] s1 [] = .ok (.c .z) false (.con .lst [.int a, .int b, .int c', .int d, .int e]) s2 := e2
  obtain ⟨c5, c4, c3, c2, c1⟩ := UT (.int a) (.int b) (.int c') (.int d) (.int e)
  have q1 := Wr (v := "lamp") (w := "unsure") (by decide) (by decide)
  rw [decide_eq_false (by decide)] at q1
  have q2 := Wr (v := "lamp") (w := "pane") (by decide) (by decide)
  rw [decide_eq_false (by decide)] at q2
  have q3 : oIn [.str (Str.ofString "lamp"), tMD] = some (.z, .bl false) := by rfl
  have kq : getK wKs [D.int 5, D.int 4, D.int 1, D.int 5, D.int 1, D.int 2] (Sum.inr (Str.ofString "lamp")) = some (.int 5) := by rfl
  refine ⟨.row (cs "lamp") ([a, b, c', d, e].map Th.n), s2, ?_, good_lamp (fun i h => hi i (by simp at h ⊢; omega)), B.mono (by omega)⟩
  show Zk [(.z, .ref c)] st = .ok .z false (.con .tup [tx (cs "lamp"), .int a, .int b, .int c', .int d, .int e]) s2
  rw [cs_d]
  simp [-oEq, -oIn, Zk, dLc, Zw, hat, hs5, h5, e1, e2, q1, q2, q3, kq, c5, c4, c3, c2, c1]
 ·have hat : atI wWs 1 = some (.str (Str.ofString "unsure")) := by rfl
  obtain ⟨is, s2, e2, hl, hi, B, f2⟩ := nums "unsure"
  obtain ⟨a, b, c', d, e, rfl⟩ : ∃ a b c' d e, is = [a, b, c', d, e] := by
   match is, hl with
   | [a, b, c', d, e], _ => exact ⟨a, b, c', d, e, rfl⟩
  have e2 : lcGo (.nm 5) dYes (Zq Zl [] (Za (Ze 0))) (Zo 0 5) [some (.z, .ref c), some (.z, .str (Str.ofString "unsure")), none, none, none, none, none] s1 [] = .ok (.c .z) false (.con .lst [.int a, .int b, .int c', .int d, .int e]) s2 := e2
  obtain ⟨c5, c4, c3, c2, c1⟩ := UT (.int a) (.int b) (.int c') (.int d) (.int e)
  have q1 := Wr (v := "unsure") (w := "unsure") (by decide) (by decide)
  rw [decide_eq_true rfl] at q1
  have q2 := Wr (v := "unsure") (w := "pane") (by decide) (by decide)
  rw [decide_eq_false (by decide)] at q2
  have q3 : oIn [.str (Str.ofString "unsure"), tMD] = some (.z, .bl false) := by rfl
  obtain ⟨h, s3, e3, h0, h1, _, B, f3⟩ := pull (n := 8) 8 B (by omega) (by decide) (by decide) (by decide)
  have hh : ((h.toNat : Nat) : Int) = h := by omega
  obtain ⟨rs, s4, e4, hr, hrs, B⟩ := draw_rows (v1 := some (.z, .str (Str.ofString "unsure"))) (v2 := some (.z, .con .lst [.int a, .int b, .int c', .int d, .int e])) (v3 := none) (v4 := none) (1 + h.toNat) (by omega) B (by omega)
  have hh2 : (((1 + h.toNat : Nat) : Nat) : Int) = 1 + h := by omega
  rw [hh2] at e4
  have hl2 : (Zo 0 (1 + h)).length <= 16777215 := by rw [<- hh2, ZaA]; simp [NI]; omega
  have hs2 : Wd (1 + h) = true := by unfold Wd; simp; omega
  refine ⟨.uns rs, s4, ?_, .uns (by intro e; rw [e] at hr; simp at hr; omega) (by omega) hrs, B.mono (by omega)⟩
  show Zk [(.z, .ref c)] st = .ok .z false (.con .tup [.str (Str.ofString "unsure"), .con .tup (rs.map fun r => .con .tup (r.map D.int))]) s4
  generalize (rs.map fun r => D.con .tup (r.map D.int)) = RS at *
  simp [-oEq, -oIn, Zk, dLc, Zw, hat, hs5, h5, e1, e2, e3, e4, q1, hs2, hl2]
 ·have hat : atI wWs 2 = some (.str (Str.ofString "post")) := by rfl
  obtain ⟨is, s2, e2, hl, hi, B, f2⟩ := nums "post"
  obtain ⟨a, b, c', d, e, rfl⟩ : ∃ a b c' d e, is = [a, b, c', d, e] := by
   match is, hl with
   | [a, b, c', d, e], _ => exact ⟨a, b, c', d, e, rfl⟩
  have e2 : lcGo (.nm 5) dYes (Zq Zl [] (Za (Ze 0))) (Zo 0 5) [some (.z, .ref c), some (.z, .str (Str.ofString "post")), none, none, none, none, none] s1 [] = .ok (.c .z) false (.con .lst [.int a, .int b, .int c', .int d, .int e]) s2 := e2
  obtain ⟨c5, c4, c3, c2, c1⟩ := UT (.int a) (.int b) (.int c') (.int d) (.int e)
  have q1 := Wr (v := "post") (w := "unsure") (by decide) (by decide)
  rw [decide_eq_false (by decide)] at q1
  have q2 := Wr (v := "post") (w := "pane") (by decide) (by decide)
  rw [decide_eq_false (by decide)] at q2
  have q3 : oIn [.str (Str.ofString "post"), tMD] = some (.z, .bl false) := by rfl
  have kq : getK wKs [D.int 5, D.int 4, D.int 1, D.int 5, D.int 1, D.int 2] (Sum.inr (Str.ofString "post")) = some (.int 4) := by rfl
  refine ⟨.row (cs "post") ([a, b, c', d].map Th.n), s2, ?_, good_post (fun i h => hi i (by simp at h ⊢; omega)), B.mono (by omega)⟩
  show Zk [(.z, .ref c)] st = .ok .z false (.con .tup [tx (cs "post"), .int a, .int b, .int c', .int d]) s2
  rw [cs_d]
  simp [-oEq, -oIn, Zk, dLc, Zw, hat, hs5, h5, e1, e2, q1, q2, q3, kq, c5, c4, c3, c2, c1]
 ·have hat : atI wWs 3 = some (.str (Str.ofString "pane")) := by rfl
  obtain ⟨is, s2, e2, hl, hi, B, f2⟩ := nums "pane"
  obtain ⟨a, b, c', d, e, rfl⟩ : ∃ a b c' d e, is = [a, b, c', d, e] := by
   match is, hl with
   | [a, b, c', d, e], _ => exact ⟨a, b, c', d, e, rfl⟩
  have e2 : lcGo (.nm 5) dYes (Zq Zl [] (Za (Ze 0))) (Zo 0 5) [some (.z, .ref c), some (.z, .str (Str.ofString "pane")), none, none, none, none, none] s1 [] = .ok (.c .z) false (.con .lst [.int a, .int b, .int c', .int d, .int e]) s2 := e2
  obtain ⟨c5, c4, c3, c2, c1⟩ := UT (.int a) (.int b) (.int c') (.int d) (.int e)
  have q1 := Wr (v := "pane") (w := "unsure") (by decide) (by decide)
  rw [decide_eq_false (by decide)] at q1
  have q2 := Wr (v := "pane") (w := "pane") (by decide) (by decide)
  rw [decide_eq_true rfl] at q2
  have q3 : oIn [.str (Str.ofString "pane"), tMD] = some (.z, .bl false) := by rfl
  obtain ⟨x, s3, e3, hx, hx0, B, f3⟩ := pane_wd B (by omega)
  refine ⟨.row (cs "pane") [.n a, .n b, .n c', .n d, .s x], s3, ?_, .pane hx hx0 (fun i h => hi i (by simp at h ⊢; omega)), B.mono (by omega)⟩
  show Zk [(.z, .ref c)] st = .ok .z false (.con .tup [tx (cs "pane"), .int a, .int b, .int c', .int d, tx x]) s3
  rw [cs_d]
  have hlx : lk s3 (tx x) = tx x := rfl
  generalize tx x = X at *
  simp [-oEq, -oIn, Zk, dLc, Zw, hat, hs5, h5, e1, e2, e3, q1, q2, q3, c5, c4, c3, c2, c1, hlx]
 ·have hat : atI wWs 4 = some (.str (Str.ofString "move")) := by rfl
  obtain ⟨is, s2, e2, hl, hi, B, f2⟩ := nums "move"
  obtain ⟨a, b, c', d, e, rfl⟩ : ∃ a b c' d e, is = [a, b, c', d, e] := by
   match is, hl with
   | [a, b, c', d, e], _ => exact ⟨a, b, c', d, e, rfl⟩
  have e2 : lcGo (.nm 5) dYes (Zq Zl [] (Za (Ze 0))) (Zo 0 5) [some (.z, .ref c), some (.z, .str (Str.ofString "move")), none, none, none, none, none] s1 [] = .ok (.c .z) false (.con .lst [.int a, .int b, .int c', .int d, .int e]) s2 := e2
  obtain ⟨c5, c4, c3, c2, c1⟩ := UT (.int a) (.int b) (.int c') (.int d) (.int e)
  have q1 := Wr (v := "move") (w := "unsure") (by decide) (by decide)
  rw [decide_eq_false (by decide)] at q1
  have q2 := Wr (v := "move") (w := "pane") (by decide) (by decide)
  rw [decide_eq_false (by decide)] at q2
  have q3 : oIn [.str (Str.ofString "move"), tMD] = some (.z, .bl true) := by rfl
  obtain ⟨x, s3, e3, hx, hx0, B, f3⟩ := f_l_word B (by omega)
  have q4 := Wr (v := "move") (w := "move") (by decide) (by decide)
  rw [decide_eq_true rfl] at q4
  refine ⟨.row (cs "move") (.s x :: [a, b, c'].map Th.n), s3, ?_, good_move hx hx0 (fun i h => hi i (by simp at h ⊢; omega)), B.mono (by omega)⟩
  show Zk [(.z, .ref c)] st = .ok .z false (.con .tup [tx (cs "move"), tx x, .int a, .int b, .int c']) s3
  rw [cs_d]
  have hlx : lk s3 (tx x) = tx x := rfl
  generalize tx x = X at *
  simp [-oEq, -oIn, Zk, dLc, Zw, hat, hs5, h5, e1, e2, e3, q1, q2, q3, q4, c5, c4, c3, c2, c1, hlx]
 ·have hat : atI wWs 5 = some (.str (Str.ofString "switch")) := by rfl
  obtain ⟨is, s2, e2, hl, hi, B, f2⟩ := nums "switch"
  obtain ⟨a, b, c', d, e, rfl⟩ : ∃ a b c' d e, is = [a, b, c', d, e] := by
   match is, hl with
   | [a, b, c', d, e], _ => exact ⟨a, b, c', d, e, rfl⟩
  have e2 : lcGo (.nm 5) dYes (Zq Zl [] (Za (Ze 0))) (Zo 0 5) [some (.z, .ref c), some (.z, .str (Str.ofString "switch")), none, none, none, none, none] s1 [] = .ok (.c .z) false (.con .lst [.int a, .int b, .int c', .int d, .int e]) s2 := e2
  obtain ⟨c5, c4, c3, c2, c1⟩ := UT (.int a) (.int b) (.int c') (.int d) (.int e)
  have q1 := Wr (v := "switch") (w := "unsure") (by decide) (by decide)
  rw [decide_eq_false (by decide)] at q1
  have q2 := Wr (v := "switch") (w := "pane") (by decide) (by decide)
  rw [decide_eq_false (by decide)] at q2
  have q3 : oIn [.str (Str.ofString "switch"), tMD] = some (.z, .bl false) := by rfl
  have kq : getK wKs [D.int 5, D.int 4, D.int 1, D.int 5, D.int 1, D.int 2] (Sum.inr (Str.ofString "switch")) = some (.int 1) := by rfl
  refine ⟨.row (cs "switch") ([a].map Th.n), s2, ?_, good_switch (fun i h => hi i (by simp at h ⊢; omega)), B.mono (by omega)⟩
  show Zk [(.z, .ref c)] st = .ok .z false (.con .tup [tx (cs "switch"), .int a]) s2
  rw [cs_d]
  simp [-oEq, -oIn, Zk, dLc, Zw, hat, hs5, h5, e1, e2, q1, q2, q3, kq, c5, c4, c3, c2, c1]
 ·have hat : atI wWs 6 = some (.str (Str.ofString "drop")) := by rfl
  obtain ⟨is, s2, e2, hl, hi, B, f2⟩ := nums "drop"
  obtain ⟨a, b, c', d, e, rfl⟩ : ∃ a b c' d e, is = [a, b, c', d, e] := by
   match is, hl with
   | [a, b, c', d, e], _ => exact ⟨a, b, c', d, e, rfl⟩
  have e2 : lcGo (.nm 5) dYes (Zq Zl [] (Za (Ze 0))) (Zo 0 5) [some (.z, .ref c), some (.z, .str (Str.ofString "drop")), none, none, none, none, none] s1 [] = .ok (.c .z) false (.con .lst [.int a, .int b, .int c', .int d, .int e]) s2 := e2
  obtain ⟨c5, c4, c3, c2, c1⟩ := UT (.int a) (.int b) (.int c') (.int d) (.int e)
  have q1 := Wr (v := "drop") (w := "unsure") (by decide) (by decide)
  rw [decide_eq_false (by decide)] at q1
  have q2 := Wr (v := "drop") (w := "pane") (by decide) (by decide)
  rw [decide_eq_false (by decide)] at q2
  have q3 : oIn [.str (Str.ofString "drop"), tMD] = some (.z, .bl true) := by rfl
  obtain ⟨x, s3, e3, hx, hx0, B, f3⟩ := f_l_word B (by omega)
  have q4 := Wr (v := "drop") (w := "move") (by decide) (by decide)
  rw [decide_eq_false (by decide)] at q4
  refine ⟨.row (cs "drop") (.s x :: [a].map Th.n), s3, ?_, good_drop hx hx0 (fun i h => hi i (by simp at h ⊢; omega)), B.mono (by omega)⟩
  show Zk [(.z, .ref c)] st = .ok .z false (.con .tup [tx (cs "drop"), tx x, .int a]) s3
  rw [cs_d]
  have hlx : lk s3 (tx x) = tx x := rfl
  generalize tx x = X at *
  simp [-oEq, -oIn, Zk, dLc, Zw, hat, hs5, h5, e1, e2, e3, q1, q2, q3, q4, c5, c4, c3, c2, c1, hlx]
 ·have hat : atI wWs 7 = some (.str (Str.ofString "look")) := by rfl
  obtain ⟨is, s2, e2, hl, hi, B, f2⟩ := nums "look"
  obtain ⟨a, b, c', d, e, rfl⟩ : ∃ a b c' d e, is = [a, b, c', d, e] := by
   match is, hl with
   | [a, b, c', d, e], _ => exact ⟨a, b, c', d, e, rfl⟩
  have e2 : lcGo (.nm 5) dYes (Zq Zl [] (Za (Ze 0))) (Zo 0 5) [some (.z, .ref c), some (.z, .str (Str.ofString "look")), none, none, none, none, none] s1 [] = .ok (.c .z) false (.con .lst [.int a, .int b, .int c', .int d, .int e]) s2 := e2
  obtain ⟨c5, c4, c3, c2, c1⟩ := UT (.int a) (.int b) (.int c') (.int d) (.int e)
  have q1 := Wr (v := "look") (w := "unsure") (by decide) (by decide)
  rw [decide_eq_false (by decide)] at q1
  have q2 := Wr (v := "look") (w := "pane") (by decide) (by decide)
  rw [decide_eq_false (by decide)] at q2
  have q3 : oIn [.str (Str.ofString "look"), tMD] = some (.z, .bl false) := by rfl
  have kq : getK wKs [D.int 5, D.int 4, D.int 1, D.int 5, D.int 1, D.int 2] (Sum.inr (Str.ofString "look")) = some (.int 5) := by rfl
  refine ⟨.row (cs "look") ([a, b, c', d, e].map Th.n), s2, ?_, good_look (fun i h => hi i (by simp at h ⊢; omega)), B.mono (by omega)⟩
  show Zk [(.z, .ref c)] st = .ok .z false (.con .tup [tx (cs "look"), .int a, .int b, .int c', .int d, .int e]) s2
  rw [cs_d]
  simp [-oEq, -oIn, Zk, dLc, Zw, hat, hs5, h5, e1, e2, q1, q2, q3, kq, c5, c4, c3, c2, c1]
 ·have hat : atI wWs 8 = some (.str (Str.ofString "strike")) := by rfl
  obtain ⟨is, s2, e2, hl, hi, B, f2⟩ := nums "strike"
  obtain ⟨a, b, c', d, e, rfl⟩ : ∃ a b c' d e, is = [a, b, c', d, e] := by
   match is, hl with
   | [a, b, c', d, e], _ => exact ⟨a, b, c', d, e, rfl⟩
  have e2 : lcGo (.nm 5) dYes (Zq Zl [] (Za (Ze 0))) (Zo 0 5) [some (.z, .ref c), some (.z, .str (Str.ofString "strike")), none, none, none, none, none] s1 [] = .ok (.c .z) false (.con .lst [.int a, .int b, .int c', .int d, .int e]) s2 := e2
  obtain ⟨c5, c4, c3, c2, c1⟩ := UT (.int a) (.int b) (.int c') (.int d) (.int e)
  have q1 := Wr (v := "strike") (w := "unsure") (by decide) (by decide)
  rw [decide_eq_false (by decide)] at q1
  have q2 := Wr (v := "strike") (w := "pane") (by decide) (by decide)
  rw [decide_eq_false (by decide)] at q2
  have q3 : oIn [.str (Str.ofString "strike"), tMD] = some (.z, .bl false) := by rfl
  have kq : getK wKs [D.int 5, D.int 4, D.int 1, D.int 5, D.int 1, D.int 2] (Sum.inr (Str.ofString "strike")) = some (.int 1) := by rfl
  refine ⟨.row (cs "strike") ([a].map Th.n), s2, ?_, good_strike (fun i h => hi i (by simp at h ⊢; omega)), B.mono (by omega)⟩
  show Zk [(.z, .ref c)] st = .ok .z false (.con .tup [tx (cs "strike"), .int a]) s2
  rw [cs_d]
  simp [-oEq, -oIn, Zk, dLc, Zw, hat, hs5, h5, e1, e2, q1, q2, q3, kq, c5, c4, c3, c2, c1]
 ·have hat : atI wWs 9 = some (.str (Str.ofString "settle")) := by rfl
  obtain ⟨is, s2, e2, hl, hi, B, f2⟩ := nums "settle"
  obtain ⟨a, b, c', d, e, rfl⟩ : ∃ a b c' d e, is = [a, b, c', d, e] := by
   match is, hl with
   | [a, b, c', d, e], _ => exact ⟨a, b, c', d, e, rfl⟩
  have e2 : lcGo (.nm 5) dYes (Zq Zl [] (Za (Ze 0))) (Zo 0 5) [some (.z, .ref c), some (.z, .str (Str.ofString "settle")), none, none, none, none, none] s1 [] = .ok (.c .z) false (.con .lst [.int a, .int b, .int c', .int d, .int e]) s2 := e2
  obtain ⟨c5, c4, c3, c2, c1⟩ := UT (.int a) (.int b) (.int c') (.int d) (.int e)
  have q1 := Wr (v := "settle") (w := "unsure") (by decide) (by decide)
  rw [decide_eq_false (by decide)] at q1
  have q2 := Wr (v := "settle") (w := "pane") (by decide) (by decide)
  rw [decide_eq_false (by decide)] at q2
  have q3 : oIn [.str (Str.ofString "settle"), tMD] = some (.z, .bl false) := by rfl
  have kq : getK wKs [D.int 5, D.int 4, D.int 1, D.int 5, D.int 1, D.int 2] (Sum.inr (Str.ofString "settle")) = some (.int 2) := by rfl
  refine ⟨.row (cs "settle") ([a, b].map Th.n), s2, ?_, good_settle (fun i h => hi i (by simp at h ⊢; omega)), B.mono (by omega)⟩
  show Zk [(.z, .ref c)] st = .ok .z false (.con .tup [tx (cs "settle"), .int a, .int b]) s2
  rw [cs_d]
  simp [-oEq, -oIn, Zk, dLc, Zw, hat, hs5, h5, e1, e2, q1, q2, q3, kq, c5, c4, c3, c2, c1]
end
theorem WD.Ok.plain {d : WD} (h : d.Ok) (m : Nat) : Wl (m + 5) d.d = true := by
 cases d with
 | row w ts =>
  obtain ⟨h1, h2, h3, h4, h5, h6, h7, h8, h9⟩ := h
  show (decide ((tx w :: ts.map Th.d).length <= 1000) && (tx w :: ts.map Th.d).all (Wl (m + 4))) = true
  rw [Bool.and_eq_true, decide_eq_true_iff, List.all_eq_true]
  refine ⟨by simp; omega, fun x hx => ?_⟩
  rcases List.mem_cons.mp hx with rfl | hx
  ·exact ZK h1
  ·obtain ⟨y, hy, rfl⟩ := List.mem_map.mp hx
   cases y with
   | n i => rfl
   | s x => exact ZK (h9 _ hy).1
 | uns rows =>
  obtain ⟨h1, h2, h3⟩ := h
  show (decide (2 <= 1000) && (Wl (m + 4) (.str (Str.ofString "unsure")) && (Wl (m + 4) (.con .tup (rows.map fun r => .con .tup (r.map D.int))) && true))) = true
  have a1 : Wl (m + 4) (.str (Str.ofString "unsure")) = true := ZK (a := cs "unsure") (by decide)
  have a2 : Wl (m + 4) (.con .tup (rows.map fun r => .con .tup (r.map D.int))) = true := by
   show (decide ((rows.map fun r => D.con .tup (r.map D.int)).length <= 1000) && (rows.map fun r => D.con .tup (r.map D.int)).all (Wl (m + 3))) = true
   rw [Bool.and_eq_true, decide_eq_true_iff, List.all_eq_true]
   refine ⟨by simp; omega, fun x hx => ?_⟩
   obtain ⟨r, hr, rfl⟩ := List.mem_map.mp hx
   show (decide ((r.map D.int).length <= 1000) && (r.map D.int).all (Wl (m + 2))) = true
   rw [Bool.and_eq_true, decide_eq_true_iff, List.all_eq_true]
   refine ⟨by have := (h3 r hr).1; simp; omega, fun y hy => ?_⟩
   obtain ⟨i, _, rfl⟩ := List.mem_map.mp hy
   rfl
  rw [a1, a2]; rfl
theorem LD.Good.plain {l : LD} (g : l.Good) : Wl 8 l.d = true := by
 cases l with
 | one d => exact WD.Ok.plain (WD.Good.ok g) 3
 | many ds =>
  show (decide (2 <= 1000) && (Wl 7 (.str (Str.ofString "many")) && (Wl 7 (.con .tup (ds.map WD.d)) && true))) = true
  have a1 : Wl 7 (.str (Str.ofString "many")) = true := ZK (a := cs "many") (by decide)
  have a2 : Wl 7 (.con .tup (ds.map WD.d)) = true := by
   show (decide ((ds.map WD.d).length <= 1000) && (ds.map WD.d).all (Wl 6)) = true
   rw [Bool.and_eq_true, decide_eq_true_iff, List.all_eq_true]
   refine ⟨by simpa using g.1, fun x hx => ?_⟩
   obtain ⟨d, hd, rfl⟩ := List.mem_map.mp hx
   exact (g.2 d hd).ok.plain 1
  rw [a1, a2]; rfl
theorem LD.Good.tok {l : LD} (g : l.Good) : okC l.t = true := Ur (by decide) fun p hp => by
 cases l with
 | one d => rcases List.mem_singleton.mp hp with rfl; exact WD.Ok.okC (WD.Good.ok g)
 | many ds =>
  rcases List.mem_cons.mp hp with rfl | hp
  ·exact manyC_ok _
  ·obtain ⟨d, hd, rfl⟩ := List.mem_map.mp hp
   exact (g.2 d hd).ok.okC
theorem same_ld {l : LD} (g : l.Good) (st : Zd) : ZN 8 [(.z, l.d), (.z, l.d)] st = .ok .z false (.bl true) st := same8 g.plain
theorem same_tx {a : List Nat} (h : okC a = true) (st : Zd) : ZN 8 [(.z, tx a), (.z, tx a)] st = .ok .z false (.bl true) st := same8 (ZK h)
theorem in_tt (x : List Nat) : ∃ b, oIn [tx x, .con .tup [.str (Str.ofString "lamp"), .str (Str.ofString "post"), .str (Str.ofString "pane")]] = some (.z, .bl b) := ⟨_, rfl⟩
theorem in_t8 (x : List Nat) : ∃ b, oIn [tx x, .con .tup [.str (Str.ofString ""), .str (Str.ofString "r"), .str (Str.ofString "g"), .str (Str.ofString "b"), .str (Str.ofString "rg"), .str (Str.ofString "rb"), .str (Str.ofString "gb"), .str (Str.ofString "rgb")]] = some (.z, .bl b) := ⟨_, rfl⟩
theorem f_l_is_plain {d : WD} (g : d.Good) {st : Zd} : ∃ b, Zz [(.z, d.d)] st = .ok .z false (.bl b) st := by
 cases g with
 | @num w n is W N hm hp hn hl h0 h =>
  have we := W.e
  have hp2 : oNe [.str (Str.ofString w), .str (Str.ofString "pane")] = some (.z, .bl true) := by
   have := VW W.ok (fun e => by
    have : oEq [.str (Str.ofString w), .str (Str.ofString "pane")] = some (.z, .bl true) := by rw [cs_S, e, <- cs_S]; exact Wh (WU (a := .str (Str.ofString "pane")) (ZK (a := cs "pane") (by decide)))
    rw [hp] at this
    cases this)
   have q : eqD (.str (Str.ofString w)) (.str (Str.ofString "pane")) = some false := by
    cases hq : eqD (.str (Str.ofString w)) (.str (Str.ofString "pane")) with
    | none => simp [hq] at this
    | some b => cases b with
     | false => rfl
     | true => simp [hq] at this
   simp [q]
  refine ⟨true, ?_⟩
  show Zz [(.z, .con .tup (tx (cs w) :: (is.map Th.n).map Th.d))] st = _
  rw [cs_d]
  generalize (is.map Th.n).map Th.d = T at *
  simp [-oEq, -oIn, -oNe, Zz, we, hm, hp2]
 | @ref w n x is W N hm hn hl hx hx0 h =>
  have we := W.e
  obtain ⟨b, e⟩ := in_tt x
  refine ⟨b, ?_⟩
  have hlx : lk st (tx x) = tx x := rfl
  show Zz [(.z, .con .tup (tx (cs w) :: tx x :: (is.map Th.n).map Th.d))] st = _
  rw [cs_d]
  generalize (is.map Th.n).map Th.d = T at *
  generalize tx x = X at *
  simp [-oEq, -oIn, -oNe, Zz, we, hm, e, hlx]
 | @pane x a b c d hx hd h =>
  have we := Wr (v := "pane") (w := "unsure") (by decide) (by decide)
  rw [decide_eq_false (by decide)] at we
  have hm : oIn [.str (Str.ofString "pane"), tMD] = some (.z, .bl false) := by rfl
  have hp2 : oNe [.str (Str.ofString "pane"), .str (Str.ofString "pane")] = some (.z, .bl false) := by
   simp [WU (a := .str (Str.ofString "pane")) (ZK (a := cs "pane") (by decide))]
  obtain ⟨v, e⟩ := in_t8 x
  refine ⟨v, ?_⟩
  have hlx : lk st (tx x) = tx x := rfl
  show Zz [(.z, .con .tup [tx (cs "pane"), .int a, .int b, .int c, .int d, tx x])] st = _
  rw [cs_d]
  generalize tx x = X at *
  simp [-oEq, -oIn, -oNe, Zz, we, hm, hp2, e, hlx]
 | @uns rows h0 hn h =>
  have we := Wr (v := "unsure") (w := "unsure") (by decide) (by decide)
  rw [decide_eq_true rfl] at we
  show ∃ b, Zz [(.z, .con .tup [.str (Str.ofString "unsure"), .con .tup (rows.map fun r => .con .tup (r.map D.int))])] st = _
  have hT : (rows.map fun r => D.con .tup (r.map D.int)).length <= 8 := by simpa using hn
  generalize (rows.map fun r => D.con .tup (r.map D.int)) = T at *
  have hT2 : T.length <= 16777216 := by omega
  by_cases c1 : (2 : Int) <= (T.length : Int)
  ·exact ⟨_, by simp [-oEq, Zz, we, hT2, c1]; rfl⟩
  ·exact ⟨_, by simp [-oEq, Zz, we, hT2, c1]; rfl⟩
end Hx
namespace L53
open PySem PySem.Spec L2 Hx
theorem lc_drawB {α : Type} {p : Pat} {el : Den} {env : Hx.Env} {g : α -> D} {P : α -> Prop} {w c K : Nat} (hd : ∀ k st d, k + w <= K -> Bag k st c -> ∃ env1 x st', ZS p .z d env = some env1 ∧ el env1 st = .ok .z false (g x) st' ∧ P x ∧ Bag (k + w) st' c) :
  ∀ (items : List D) (k : Nat) (st : Zd) (acc : List D), Bag k st c -> k + w * items.length <= K ->
  ∃ (xs : List α) (st' : Zd), lcGo p dYes el items env st acc = .ok (.c .z) false (.con .lst (acc ++ xs.map g)) st' ∧ xs.length = items.length ∧ (∀ x ∈ xs, P x) ∧ Bag (k + w * items.length) st' c
 | [], k, st, acc, B, hk => ⟨[], st, by simp [lcGo], rfl, fun _ h => absurd h (by simp), B⟩
 | d :: items, k, st, acc, B, hk => by
  rw [List.length_cons, Nat.mul_succ] at hk
  obtain ⟨env1, x, s1, e1, e2, px, B1⟩ := hd k st d (by omega) B
  obtain ⟨xs, s2, e3, hl, pxs, B2⟩ := lc_drawB hd items (k + w) s1 (acc ++ [g x]) B1 (by omega)
  refine ⟨x :: xs, s2, ?_, by simp [hl], fun y hy => ?_, ?_⟩
  ·rw [lcGo, e1]
   simp [dYes, e2, e3]
  ·rcases List.mem_cons.mp hy with rfl | h
   ·exact px
   ·exact pxs y h
  ·rw [List.length_cons, Nat.mul_succ]
   rw [show k + (w * items.length + w) = k + w + w * items.length by omega]
   exact B2
theorem lc_bl {p : Pat} {el : Den} {env : Hx.Env} {st : Zd} : ∀ (items : List D) (acc : List D), (∀ d ∈ items, ∃ env1 b, ZS p .z d env = some env1 ∧ el env1 st = .ok .z false (.bl b) st) ->
  ∃ bs : List Bool, lcGo p dYes el items env st acc = .ok (.c .z) false (.con .lst (acc ++ bs.map D.bl)) st
 | [], acc, _ => ⟨[], by simp [lcGo]⟩
 | d :: items, acc, h => by
  obtain ⟨env1, b, e1, e2⟩ := h d (by simp)
  obtain ⟨bs, e⟩ := lc_bl items (acc ++ [.bl b]) (fun x hx => h x (by simp [hx]))
  exact ⟨b :: bs, by rw [lcGo, e1]; simp [dYes, e2, e]⟩
abbrev O := Option (Fr × D)
abbrev E53 (scr : D) (v2 v3 v4 v5 v6 : O) : Hx.Env := [some (.z, scr), some (.z, .ref 0), v2, v3, v4, v5, v6, none, none]
section
variable {st : Zd} {k : Nat} {scr : D}
theorem all_bl (bs : List Bool) : oAll [.con .lst (bs.map D.bl)] = some (.z, .bl (bs.all id)) := by
 have h : bools (bs.map fun x => D.bl (id x)) = some (bs.map id) := VY id bs
 have h2 : bools (bs.map D.bl) = some (bs.map id) := h
 simp [h2]
theorem plain_lc {v2 v3 v4 v5 v6 : O} (ds : List WD) (g : ∀ d ∈ ds, d.Good) : ∃ bs : List Bool, lcGo (.nm 8) dYes (Zq Zz [] (Za (Ze 8))) (ds.map WD.d) (E53 scr v2 v3 v4 v5 v6) st [] = .ok (.c .z) false (.con .lst (bs.map D.bl)) st := by
 obtain ⟨bs, e⟩ := lc_bl (p := .nm 8) (el := Zq Zz [] (Za (Ze 8))) (env := E53 scr v2 v3 v4 v5 v6) (st := st) (ds.map WD.d) [] (fun x hx => by
  obtain ⟨d, hd, rfl⟩ := List.mem_map.mp hx
  obtain ⟨b, e⟩ := f_l_is_plain (g d hd) (st := st)
  have hlk : lk st d.d = d.d := by
   obtain ⟨q, hq⟩ : ∃ q, d.d = .con .tup q := by cases d <;> exact ⟨_, rfl⟩
   rw [hq]; rfl
  refine ⟨_, b, rfl, ?_⟩
  generalize d.d = X at *
  simp [e, hlk])
 exact ⟨bs, by simpa using e⟩
theorem tail {l : LD} {v2 v5 v6 : O} (g : l.Good) (hl : l.rows.length <= 400) : ∃ w6, Vc (E53 scr v2 (some (.z, l.d)) (some (.z, tx l.t)) v5 v6) st = .nx (E53 scr v2 (some (.z, l.d)) (some (.z, tx l.t)) v5 w6) st := by
 have e1 := Zbq g hl (st := st)
 have e2 := same_ld g st
 have e3 := f_deed_text g hl (st := st)
 have e4 := same_tx g.tok st
 have hlt : lk st (tx l.t) = tx l.t := rfl
 have hld : lk st l.d = l.d := by
  obtain ⟨q, hq⟩ : ∃ q, l.d = .con .tup q := by
   cases l with
   | one d => cases d <;> exact ⟨_, rfl⟩
   | many ds => exact ⟨_, rfl⟩
  rw [hq]; rfl
 cases l with
 | one d =>
  obtain ⟨p, r, hd, q⟩ := (WD.Good.ok g).d0
  obtain ⟨bs, e5⟩ := plain_lc (scr := scr) (st := st) (v2 := v2) (v3 := some (.z, d.d)) (v4 := some (.z, tx (LD.one d).t)) (v5 := v5) (v6 := some (.z, .con .lst [d.d])) [d] (fun x hx => by rcases List.mem_singleton.mp hx with rfl; exact g)
  have e6 := all_bl bs
  refine ⟨some (.z, .con .lst [d.d]), ?_⟩
  have hdd : (LD.one d).d = d.d := rfl
  rw [hdd] at e1 e2 e3 hld ⊢
  have e5 : lcGo (.nm 8) dYes (Zq Zz [] (Za (Ze 8))) [d.d] (E53 scr v2 (some (.z, d.d)) (some (.z, tx (LD.one d).t)) v5 (some (.z, .con .lst [d.d]))) st [] = _ := e5
  have hix : oIx [d.d, .int 0] = some (.z, tx p) := by rw [hd]; simp
  have hlp : lk st (tx p) = tx p := rfl
  generalize tx (LD.one d).t = T at *
  generalize tx p = P at *
  generalize d.d = X at *
  cases hb : bs.all id with
  | true =>
   rw [hb] at e6
   simp [-oIx, -oEq, -oAll, e1, e2, e3, e4, hlt, hld, hix, hlp, q, dLc, Zw, e5, e6]
  | false =>
   rw [hb] at e6
   simp [-oIx, -oEq, -oAll, e1, e2, e3, e4, hlt, hld, hix, hlp, q, dLc, Zw, e5, e6]
 | many ds =>
  obtain ⟨bs, e5⟩ := plain_lc (scr := scr) (st := st) (v2 := v2) (v3 := some (.z, (LD.many ds).d)) (v4 := some (.z, tx (LD.many ds).t)) (v5 := v5) (v6 := some (.z, .con .lst (ds.map WD.d))) ds g.2
  have e6 := all_bl bs
  refine ⟨some (.z, .con .lst (ds.map WD.d)), ?_⟩
  have q := Wh (WU (a := .str (Str.ofString "many")) (ZK (a := cs "many") (by decide)))
  have hm : (ds.map WD.d).length <= 16777215 := by have := g.1; simp; omega
  have hdd : (LD.many ds).d = .con .tup [.str (Str.ofString "many"), .con .tup (ds.map WD.d)] := rfl
  rw [hdd] at e1 e2 e3 e5 ⊢
  generalize tx (LD.many ds).t = T at *
  generalize ds.map WD.d = X at *
  cases hb : bs.all id with
  | true =>
   rw [hb] at e6
   simp [-oEq, -oAll, e1, e2, e3, e4, hlt, q, dLc, Zw, e5, e6, hm]
  | false =>
   rw [hb] at e6
   simp [-oEq, -oAll, e1, e2, e3, e4, hlt, q, dLc, Zw, e5, e6, hm]
theorem draw_deeds {env : Hx.Env} (h1 : env[1]? = some (some (.z, .ref 0))) (h7 : 7 < env.length) (n : Nat) (B : Bag k st 0) (hk : k + 300 * n + 400 < 2 ^ 100) :
  ∃ (ds : List WD) (st' : Zd), lcGo (.nm 7) dYes (Zq Zk [] (Za (Ze 1))) (Zo 0 (n : Int)) env st [] = .ok (.c .z) false (.con .lst (ds.map WD.d)) st' ∧ ds.length = n ∧ (∀ d ∈ ds, d.Good) ∧ Bag (k + 300 * n) st' 0 := by
 have hl : (Zo 0 (n : Int)).length = n := by rw [ZaA]; simp [NI]
 obtain ⟨xs, s, e, l, p1, B1⟩ := lc_drawB (p := .nm 7) (el := Zq Zk [] (Za (Ze 1))) (env := env) (g := WD.d) (P := WD.Good) (w := 300) (c := 0) (K := k + 300 * n) (fun k' st' d hk' B' => by
  obtain ⟨x, s, e, hx, B2⟩ := UU B' (by omega)
  refine ⟨env.set 7 (some (.z, d)), x, s, by simp [ZS, h7], ?_, hx, B2⟩
  have hs : (env.set 7 (some (.z, d)))[1]? = some (some (.z, .ref 0)) := by
   rw [List.getElem?_set_ne (by decide)]; exact h1
  simp [hs, e]) (Zo 0 (n : Int)) k st [] B (by rw [hl]; omega)
 rw [hl] at B1 l
 exact ⟨xs, s, by rw [e]; simp, l, p1, B1⟩
theorem texts_lc {v2 v3 v4 v5 v6 : O} (ds : List WD) (g : ∀ d ∈ ds, d.Good) : lcGo (.nm 8) dYes (Zq ZP [] (Za (Ze 8))) (ds.map WD.d) (E53 scr v2 v3 v4 v5 v6) st [] = .ok (.c .z) false (.con .lst ((ds.map WD.t).map tx)) st := by
 have i := Vx (p := .nm 8) (env := E53 scr v2 v3 v4 v5 v6) (st := st) (el := Zq ZP [] (Za (Ze 8))) WD.d (fun d => tx d.t) ds [] (fun d hd => ⟨_, rfl, by
  have e := ZaC (g d hd).ok (st := st)
  have hlk : lk st d.d = d.d := by
   obtain ⟨q, hq⟩ : ∃ q, d.d = .con .tup q := by cases d <;> exact ⟨_, rfl⟩
   rw [hq]; rfl
  generalize d.d = X at *
  simp [e, hlk]⟩)
 rw [i, List.map_map]; rfl
theorem many_add (n : Nat) (h : n <= 1000) : oAdd [.str (Str.ofString "many "), tx (numC (n : Int))] = some (.z, tx (ZE n)) := by
 have e := SX.S_cat (cs "many ") (numC (n : Int))
 rw [<- cs_S] at e
 have h2 : (Str.ofString "many ").length + (SX.S (numC (n : Int))).length <= 16777216 := by
  have h1 : (SX.S (numC (n : Int))).length = (numC (n : Int)).length := SX.S_len _
  have := Vl (i := (n : Int)) (by simp; omega)
  have : (Str.ofString "many ").length = 5 := rfl
  omega
 show oAdd [.str (Str.ofString "many "), .str (SX.S (numC (n : Int)))] = some (.z, .str (SX.S (cs "many " ++ numC (n : Int))))
 rw [<- e]
 generalize SX.S (numC (n : Int)) = X at *
 simp [h2]
theorem body {v2 v3 v4 v5 v6 : O} (B : Bag k st 0) (hk : k + 4000 < 2 ^ 100) : ∃ w3 w4 w5 w6 st', Uw (E53 scr v2 v3 v4 v5 v6) st = .nx (E53 scr v2 w3 w4 w5 w6) st' ∧ Bag (k + 2500) st' 0 := by
 obtain ⟨d, s1, e1, g, B⟩ := UU B (by omega)
 have e2 := ZaC g.ok (st := s1)
 obtain ⟨n, s2, e3, n0, n1, _, B, f2⟩ := pull (n := 8) 4 B (by omega) (by decide) (by decide) (by decide)
 have hld : lk s1 d.d = d.d := by
  obtain ⟨q, hq⟩ : ∃ q, d.d = .con .tup q := by cases d <;> exact ⟨_, rfl⟩
  rw [hq]; rfl
 by_cases c : n = 0
 ·subst c
  obtain ⟨m, s3, e4, m0, m1, _, B, f3⟩ := pull (n := 8) 6 B (by omega) (by decide) (by decide) (by decide)
  have hm : ((m.toNat : Nat) : Int) = m := by omega
  obtain ⟨ds, s4, e5, hl, gd, B⟩ := draw_deeds (env := E53 scr v2 (some (.z, d.d)) (some (.z, tx d.t)) v5 v6) rfl (by simp) m.toNat B (by omega)
  rw [hm] at e5
  have hl2 : (Zo 0 m).length <= 16777215 := by rw [<- hm, ZaA]; simp [NI]; omega
  have hs2 : Wd m = true := by unfold Wd; simp; omega
  have G : (LD.many ds).Good := ⟨by omega, gd⟩
  obtain ⟨w6, e6⟩ := tail (scr := scr) (st := s4) (v2 := v2) (v5 := some (.z, .con .lst (ds.map WD.d))) (v6 := v6) G (by show (ds.map WD.t).length + 1 <= 400; simp; omega)
  refine ⟨some (.z, (LD.many ds).d), some (.z, tx (LD.many ds).t), some (.z, .con .lst (ds.map WD.d)), w6, s4, ?_, B.mono (by omega)⟩
  have e7 := texts_lc (scr := scr) (st := s4) (v2 := v2) (v3 := some (.z, (LD.many ds).d)) (v4 := some (.z, tx d.t)) (v5 := some (.z, .con .lst (ds.map WD.d))) (v6 := v6) ds gd
  have e8 := str_num (i := (ds.length : Int)) (by simp; omega)
  have e9 := many_add ds.length (by omega)
  have e10 : We (Str.ofString "\n") [.con .lst (tx (ZE ds.length) :: (ds.map WD.t).map tx)] = some (.z, tx (LD.many ds).t) :=
   UL (sep := [10]) (m := 2000) (ps := ZE ds.length :: ds.map WD.t) rfl (fun p hp => (LD.Good.row G p hp).2) (by
    have hq : (ZE ds.length :: ds.map WD.t).length <= 400 := by simp; omega
    have h2 : (ZE ds.length :: ds.map WD.t).length * (2000 + [10].length) <= 400 * 2001 := Nat.mul_le_mul hq (by decide)
    omega)
  have hD : (ds.map WD.d).length = ds.length := by simp
  have hT : ((ds.map WD.t).map tx).length = ds.length := by simp
  have hn : 1 + ds.length <= 16777216 := by omega
  have hn2 : ds.length <= 16777215 := by omega
  have hn3 : ds.length <= 16777216 := by omega
  have hlk : lk s4 (tx (ZE ds.length)) = tx (ZE ds.length) := rfl
  have e11 : oAdd [.con .lst [tx (ZE ds.length)], .con .lst ((ds.map WD.t).map tx)] = some (.c .z, .con .lst (tx (ZE ds.length) :: (ds.map WD.t).map tx)) := by
   have : 1 + ((ds.map WD.t).map tx).length <= 16777216 := by rw [hT]; omega
   generalize (ds.map WD.t).map tx = Q at *
   simp [this]
  have hlk2 : lk s4 (tx (numC (ds.length : Int))) = tx (numC (ds.length : Int)) := rfl
  have hdd : (LD.many ds).d = .con .tup [.str (Str.ofString "many"), .con .tup (ds.map WD.d)] := rfl
  rw [hdd] at e6 e7 ⊢
  simp only [E53] at e5 e6 e7 ⊢
  generalize tx (LD.many ds).t = T at *
  generalize tx (ZE ds.length) = M at *
  generalize tx (numC (ds.length : Int)) = N at *
  generalize (ds.map WD.t).map tx = TT at *
  generalize ds.map WD.d = DD at *
  generalize tx d.t = X at *
  generalize d.d = Y at *
  simp [-We, -oAdd, -oStr, -Vc, Uw, e1, e2, e3, e4, e5, e7, e8, e9, e10, e11, hld, dLc, Zw, hs2, hl2, hD, hT, hn, hn2, hn3, hlk, hlk2, e6]
 ·obtain ⟨w6, e6⟩ := tail (l := .one d) (scr := scr) (st := s2) (v2 := v2) (v5 := v5) (v6 := v6) g (by show 1 <= 400; decide)
  refine ⟨some (.z, d.d), some (.z, tx d.t), v5, w6, s2, ?_, B.mono (by omega)⟩
  have e6 : Vc (E53 scr v2 (some (.z, d.d)) (some (.z, tx d.t)) v5 v6) s2 = .nx (E53 scr v2 (some (.z, d.d)) (some (.z, tx d.t)) v5 w6) s2 := e6
  simp only [E53] at e6 ⊢
  generalize tx d.t = X at *
  generalize d.d = Y at *
  simp [-Vc, Uw, e1, e2, e3, hld, c, e6]
theorem loop {scr : D} : ∀ (items : List D) (k : Nat) (st : Zd) (v2 v3 v4 v5 v6 : O), Bag k st 0 -> k + 2500 * items.length + 5000 < 2 ^ 100 ->
  ∃ w2 w3 w4 w5 w6 st', Ve (.nm 2) Uw [] items (E53 scr v2 v3 v4 v5 v6) st = .nx (E53 scr w2 w3 w4 w5 w6) st'
 | [], k, st, v2, v3, v4, v5, v6, B, _ => ⟨v2, v3, v4, v5, v6, st, by simp [Ve]⟩
 | x :: items, k, st, v2, v3, v4, v5, v6, B, hk => by
  rw [List.length_cons] at hk
  obtain ⟨w3, w4, w5, w6, s1, e1, B1⟩ := body (scr := scr) (v2 := some (.z, x)) (v3 := v3) (v4 := v4) (v5 := v5) (v6 := v6) B (by omega)
  obtain ⟨u2, u3, u4, u5, u6, s2, e2⟩ := loop items (k + 2500) s1 (some (.z, x)) w3 w4 w5 w6 B1 (by omega)
  refine ⟨u2, u3, u4, u5, u6, s2, ?_⟩
  rw [<- e2]
  simp only [E53] at e1 ⊢
  simp only [Ve, ZS, List.set_cons_succ, List.set_cons_zero, e1]
  simp [killE]
theorem last_good : (LD.one (.row (cs "pane") [.n 0, .n 0, .n 1, .n 1, .s []])).Good :=
 .pane ⟨by decide, by decide, by decide, by decide⟩ (by decide) (fun i h => by
  simp only [List.mem_cons, List.not_mem_nil, or_false] at h
  rcases h with rfl | rfl | rfl | rfl <;> decide)
theorem last_t : tx (LD.one (.row (cs "pane") [.n 0, .n 0, .n 1, .n 1, .s []])).t = .str (Str.ofString "pane 0 0 1 1 -") := by
 have : (LD.one (.row (cs "pane") [.n 0, .n 0, .n 1, .n 1, .s []])).t = cs "pane 0 0 1 1 -" := by decide
 rw [this, cs_d]
theorem f_law (ns : List Int) (hl : ns.length <= 63) : ∃ st, ZeA [(.z, .con .frl (ns.map D.int))] [] = .ok .z false (.bl true) st := by
 obtain ⟨dd, e, B⟩ := law_bag ns hl
 obtain ⟨w2, w3, w4, w5, w6, s1, e1⟩ := loop (scr := .con .frl (ns.map D.int)) (Zo 0 8) 0 _ none none none none none B (by rw [show (Zo 0 8).length = 8 from rfl]; omega)
 have r := Zbq last_good (by decide) (st := s1)
 have q := same_ld last_good s1
 rw [last_t] at r
 have hd : (LD.one (.row (cs "pane") [.n 0, .n 0, .n 1, .n 1, .s []])).d = .con .tup [.str (Str.ofString "pane"), .int 0, .int 0, .int 1, .int 1, .str (Str.ofString "")] := by
  show D.con .tup [tx (cs "pane"), _, _, _, _, _] = _
  rw [cs_d]; rfl
 rw [hd] at r q
 have hs : Wd 8 = true := by decide
 refine ⟨s1, ?_⟩
 simp only [E53] at e1
 simp [ZeA, e, dFor, hs, e1, dPub, r, q]
end
end L53
open PySem PySem.W PySem.Calls PyProof.Rows
theorem PySem.Challenge.cw_hueshade_k53_deeds_as_texts_holds : PySem.Challenge.rw_hueshade_k53_deeds_as_texts.Holds := by
 w_on; refine L53.hSaid fun _ => ?_
 refine Hx.head_seg (r := OpenLaw.row PySem.Challenge.rw_hueshade_k53_deeds_as_texts) (q := view (OpenLaw.row PySem.Challenge.rw_hueshade_k53_deeds_as_texts).prog [27]) (H := L53.hH) (loose := L53.hloose) (d := HandSHeadRun.topDef (OpenLaw.row PySem.Challenge.rw_hueshade_k53_deeds_as_texts).prog 27) (kwd := [])
  (Hx.left_seg (T := L53.Tp.fin) (n := 171) (life := {}) (d := {}) (k := 432) (by kernel_rfl) (fun s => by kernel_rfl) L53.Tp.size L53.Tp.run L53.hE1 L53.hE2 L53.hE34) (by kernel_rfl) (by kernel_rfl) (by kernel_rfl) (by rfl) (by first | assumption | decide +kernel) (by decide +kernel) (show PySem.Program.bare _ from L53.hBare) ?hw ?hc
 case hw => w_witness2
 case hc =>
  refine Hx.law_endT [] (l := PySem.Challenge.rw_hueshade_k53_deeds_as_texts) (n := 63) (k := 10) (x := "_law_script") rfl (by decide) (by kernel_rfl) ⟨rfl, by decide, by decide⟩ (by kernel_rfl) ?F
  intro w mg fa h Y Gn hmg0
  obtain ⟨K, KX, c, cx, ht⟩ := Y
  have cx := L53.cx_of cx
  have hmg : mg ("law" : PySem.Str) = some (.ref fa) := by
   have e : (HandSHeadRun.topDef (OpenLaw.row PySem.Challenge.rw_hueshade_k53_deeds_as_texts).prog 27).name = ("law" : PySem.Str) := by kernel_rfl
   rw [<- e]
   exact hmg0
  obtain ⟨fd, hb, hF⟩ := L53.facts (P := (PySem.Challenge.rw_hueshade_k53_deeds_as_texts).prog) (w := w) KX Gn hmg c ht cx
  exact ⟨K, fd, Hx.SpF (Hx.S1 (PySem.Challenge.rw_hueshade_k53_deeds_as_texts).prog w K mg h [15] []).G 1 L53.ZeA, KX, cx.2.2.1, hb, fun H a ns hl hT hS => by
   obtain ⟨st, e⟩ := L53.f_law ns hl
   exact Hx.law_sp (G := (Hx.S1 (PySem.Challenge.rw_hueshade_k53_deeds_as_texts).prog w K mg h [15] []).G) hS hT (fun _ => rfl) e, hF⟩
