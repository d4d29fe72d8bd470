import PyProof.Rows.All
import Wide.All
import OpenK.AllK
import Wide.FinOn
import HandS.ForMost
import HandS.Exc
import HandS.Defaults
import HandS.Wide
import HandS.CallSlots
import HandS.WordsExc
import HandS.Lambda
import KE.KNest
import HandS.Style
import HandS.NoneIn
import HandS.TupAny
import HandS.IsInst
import HandS.WordsDict
import KE.KExcInit
import HandS.ExcInit
import HandS.ExcField
import PyProof.ExcBaseAll.RuntimeError
import PyProof.ExcBaseAll.LookupError
import HandS.Nested
import KE.KStateDown
import HandS.Head0
import HandS.Head1
import HandS.Head2
import HandS.HeadEnd
import HandS.HeadHook1
import HandS.HeadHook2
import Lean
import HandS.EndOwn
import KE.GoesZip
import HandS.Zip0
import HandS.Iter
import HandS.Zip
import KE.GoesEnumKw
import HandS.Rev
import HandS.SortInts
import HandS.More
import HandS.Text
import HandS.FStr
import HandS.Flow
import HandS.RaiseMore
import HandS.StrMore
import HandS.Deep
import KE.KUnpackStar
import HandS.TupMul
import HandS.Strs
import HandS.HeadHook3
import HandS.DictComp
import HandS.OwnEq
import HandS.ListEq
import HandS.SortRule
import KE.KItemsList
import HandS.ListItems
import HandS.SetBool
import HandS.TupSets
import HandS.DictEq
import HandS.Conv
import HandS.Words
import PySem.Challenge.RW_hueshade_k54_texts_of_no_deed
set_option Elab.async false
set_option linter.all false
set_option maxRecDepth 100000
set_option autoImplicit false
namespace Hx
open PySem PySem.Spec L2
open PyProof.Rows hiding St
inductive Kd
 | tup | lst | frl | dik (ks:List Key) | dit (ks:List (List Key)) | ins (c:Nat)
 deriving DecidableEq
inductive D
 | non | bl (b:Bool) | int (i:Int) | str (s:Str) | fnv (f:Addr) (j:Nat) | ref (i:Nat) | con (k:Kd) (ds:List D)
 deriving Inhabited
inductive Fr
 | z | c (f:Fr) | t (fs:List Fr) | o (fs:List Fr)
 deriving Inhabited
abbrev Fp:=Addr->Nat
abbrev Env:=List (Option (Fr × D))
abbrev Zd:=List (Fr × D)
inductive Res
 | ok (f:Fr) (b:Bool) (d:D) (st:Zd) | exc (c:Nat) (ds:List D) (st:Zd) | stuck
abbrev Fn:=List (Fr × D)->Zd->Res
structure LamD where
 f:Addr
 n:Nat
 r:Fn
 ent:List (Addr × HO)
 cv:List V
 cd:List D
structure Sg where
 K:PySem.W.Frag
 cls:Nat->Addr
 fld:Nat->List Str
 T:List (Addr × Str)
 lam:Nat->Option LamD
 xs:List Nat
@[reducible] def Sg.off (G:Sg):Sg:={ G with lam:=λ_=>none }
def Scal (G:Sg):V->D->Prop
 | .non,.non=>True
 | .bl a,.bl b=>a=b
 | .int a,.int b=>a=b
 | .str a,.str b=>a=b
 | x,.fnv f _=>x=.ref f
 | _,_=>False
def IsO (G:Sg):Kd->List V->HO->Prop
 | .tup,vs,o=>o=.tup vs
 | .lst,vs,o=>o=.lst vs
 | .frl,vs,o=>∃ ob,o=.frz ob (.lst vs)
 | .dik ks,vs,o=>o=.dK (ks.zip vs)∧ks.length=vs.length
 | .dit ks,vs,o=>o=.dT (ks.zip vs)∧ks.length=vs.length
 | .ins c,vs,o=>∃ dx,o=.ins (G.cls c) dx ((G.fld c).zip vs)∧vs.length<=(G.fld c).length
def Rdk (H:Hp)(p:Addr):Kd->HO->Prop
 | .dik _,o=>Rd H p o
 | .dit _,o=>Rd H p o
 | _,o=>H p=some o
def dkO:HO->Bool
 | .dK _=>true
 | .dT _=>true
 | _=>false
def Shr (G:Sg)(Fz:Addr->Prop)(H:Hp)(p:Addr)(k:Kd)(vs:List V):Prop:=
 match k with
 | .tup=>SqT G.K H p vs
 | .frl=>(Fz p∧Rd H p (.lst vs))∨(SqL G.K (λ_=>none) p vs)
 | k=>Fz p∧∃ o,Rdk H p k o∧IsO G k vs o
def Own (G:Sg)(H:Hp)(p:Addr)(k:Kd)(vs:List V):Prop:=(k ≠ .tup∧k ≠ .frl)∧∃ o,H p=some o∧IsO G k vs o
def zs (n:Nat):List Fr:=List.replicate n .z
mutual
inductive Rep (G:Sg)(Fz:Addr->Prop)(am:List Addr)(H:Hp):Fr->V->D->Fp->Prop
 | sc {v d n}:Scal G v d->(∀ q,n q=0)->Rep G Fz am H .z v d n
 | rf {i p n}:am[i]?=some p->(∀ q,n q=0)->Rep G Fz am H .z (.ref p) (.ref i) n
 | zz {p k vs ds n}:Shr G Fz H p k vs->Reps G Fz am H (zs ds.length) vs ds n->(∀ q,n q=0)->Rep G Fz am H .z (.ref p) (.con k ds) n
 | tp {p vs ds fs n}:SqT G.K H p vs->Reps G Fz am H fs vs ds n->Rep G Fz am H (.t fs) (.ref p) (.con .tup ds) n
 | cc {p k vs ds f n m}:Own G H p k vs->Reps G Fz am H (List.replicate ds.length f) vs ds m->(∀ q,n q=m q+if q=p then 1 else 0)->Rep G Fz am H (.c f) (.ref p) (.con k ds) n
 | oo {p c vs ds fs n m}:Own G H p (.ins c) vs->Reps G Fz am H fs vs ds m->(∀ q,n q=m q+if q=p then 1 else 0)->Rep G Fz am H (.o fs) (.ref p) (.con (.ins c) ds) n
inductive Reps (G:Sg)(Fz:Addr->Prop)(am:List Addr)(H:Hp):List Fr->List V->List D->Fp->Prop
 | nil {n}:(∀ q,n q=0)->Reps G Fz am H [] [] [] n
 | cons {f v d fs vs ds n1 n2 n}:Rep G Fz am H f v d n1->Reps G Fz am H fs vs ds n2->(∀ q,n q=n1 q+n2 q)->Reps G Fz am H (f :: fs) (v :: vs) (d :: ds) n
end
section
variable {G:Sg}{Fz Fz':Addr->Prop}{am am':List Addr}{H H':Hp}
structure Ext (Fz:Addr->Prop)(am:List Addr)(H:Hp)(Fz':Addr->Prop)(am':List Addr)(H':Hp):Prop where
 fz:∀ p,Fz p->Fz' p
 cl:∀ (i:Nat) (p:Addr),am[i]?=some p->am'[i]?=some p
 rd:∀ p u,Fz p->Rd H p u->Rd H' p u
 st:∀ p u,Fz p->H p=some u->dkO u=false->H' p=some u
 tp:∀ p xs,Rd H p (.tup xs)->Rd H' p (.tup xs)
theorem Ext.refl:Ext Fz am H Fz am H:=⟨λ_ h=>h,λ_ _ h=>h,λ_ _ _ h=>h,λ_ _ _ h _=>h,λ_ _ h=>h⟩
theorem Ext.trans {Fz2:Addr->Prop}{am2:List Addr}{H2:Hp}(a:Ext Fz am H Fz' am' H')(b:Ext Fz' am' H' Fz2 am2 H2):Ext Fz am H Fz2 am2 H2:=
 ⟨λp h=>b.fz p (a.fz p h),λi p h=>b.cl i p (a.cl i p h),λp u h1 h2=>b.rd p u (a.fz p h1) (a.rd p u h1 h2),λp u h1 h2 h3=>b.st p u (a.fz p h1) (a.st p u h1 h2 h3) h3,λp xs h=>b.tp p xs (a.tp p xs h)⟩
theorem Ext.sqt (E:Ext Fz am H Fz' am' H'){K:PySem.W.Frag}{p:Addr}{vs:List V}(h:SqT K H p vs):SqT K H' p vs:=h.imp (E.tp _ _) λx=>x
theorem Ext.shr (E:Ext Fz am H Fz' am' H'){p:Addr}{k:Kd}{vs:List V}(h:Shr G Fz H p k vs):Shr G Fz' H' p k vs:=by
 cases k with
 | tup=>exact E.sqt h
 | dik ks=>obtain⟨h1,o,h2,h3⟩:=h;exact⟨E.fz _ h1,o,E.rd _ _ h1 h2,h3⟩
 | dit ks=>obtain⟨h1,o,h2,h3⟩:=h;exact⟨E.fz _ h1,o,E.rd _ _ h1 h2,h3⟩
 | lst=>obtain⟨h1,o,h2,h3⟩:=h;exact⟨E.fz _ h1,o,E.st _ _ h1 h2 (by cases h3;rfl),h3⟩
 | frl=>exact h.imp (λ⟨h1,h2⟩=>⟨E.fz _ h1,E.rd _ _ h1 h2⟩) id
 | ins c=>obtain⟨h1,o,h2,h3⟩:=h;exact⟨E.fz _ h1,o,E.st _ _ h1 h2 (by obtain⟨dx,e,_⟩:=h3;subst e;rfl),h3⟩
mutual
theorem Rep.ext {f:Fr}{v:V}{d:D}{n:Fp}(E:Ext Fz am H Fz' am' H')(r:Rep G Fz am H f v d n)(k:∀ p o,0<n p->H p=some o->H' p=some o):Rep G Fz' am' H' f v d n:=
 match r with
 | .sc h1 h2=>.sc h1 h2
 | .rf h1 h2=>.rf (E.cl _ _ h1) h2
 | .zz h1 h2 h3=>.zz (E.shr h1) (Reps.ext E h2 k) h3
 | .tp h1 h2=>.tp (E.sqt h1) (Reps.ext E h2 k)
 | .cc ⟨t,o,h1,h2⟩ h3 h4=>.cc ⟨t,o,k _ _ (by rw[h4];simp) h1,h2⟩ (Reps.ext E h3 λp o hp=>k p o (by rw[h4];omega)) h4
 | .oo ⟨t,o,h1,h2⟩ h3 h4=>.oo ⟨t,o,k _ _ (by rw[h4];simp) h1,h2⟩ (Reps.ext E h3 λp o hp=>k p o (by rw[h4];omega)) h4
theorem Reps.ext {fs:List Fr}{vs:List V}{ds:List D}{n:Fp}(E:Ext Fz am H Fz' am' H')(r:Reps G Fz am H fs vs ds n)(k:∀ p o,0<n p->H p=some o->H' p=some o):Reps G Fz' am' H' fs vs ds n:=
 match r with
 | .nil h=>.nil h
 | .cons h1 h2 h3=>.cons (Rep.ext E h1 λp o hp=>k p o (by rw[h3];omega)) (Reps.ext E h2 λp o hp=>k p o (by rw[h3];omega)) h3
end
theorem Rep.fp {f:Fr}{v:V}{d:D}{n m:Fp}(r:Rep G Fz am H f v d n)(h:∀ q,n q=m q):Rep G Fz am H f v d m:=by
 have e:n=m:=funext h
 exact e▸r
theorem Reps.fp {f:List Fr}{v:List V}{d:List D}{n m:Fp}(r:Reps G Fz am H f v d n)(h:∀ q,n q=m q):Reps G Fz am H f v d m:=by
 have e:n=m:=funext h
 exact e▸r
theorem Rep.z0 {v:V}{d:D}{n:Fp}(r:Rep G Fz am H .z v d n):∀ q,n q=0:=by
 cases r with
 | sc _ h=>exact h
 | rf _ h=>exact h
 | zz _ _ h=>exact h
theorem Reps.z0:∀ {k:Nat} {vs:List V} {ds:List D} {n:Fp},Reps G Fz am H (zs k) vs ds n->∀ q,n q=0
 | 0,_,_,_,r=>by
  cases r with
  | nil h=>exact h
 | k+1,_,_,_,r=>by
  have e:zs (k+1)=.z :: zs k:=List.replicate_succ
  rw[e] at r
  cases r with
  | cons h1 h2 h3=>intro q;rw[h3,h1.z0,Reps.z0 h2]
theorem Reps.len {fs:List Fr}{vs:List V}{ds:List D}{n:Fp}(r:Reps G Fz am H fs vs ds n):fs.length=ds.length∧vs.length=ds.length:=by
 match r with
 | .nil _=>exact⟨rfl,rfl⟩
 | .cons _ h _=>have:=h.len;exact⟨congrArg Nat.succ this.1,congrArg Nat.succ this.2⟩
theorem own_there {p0 p:Addr}{k:Kd}{vs:List V}{m:Nat}(h1:Own G H p0 k vs)(ih:0<m->∃ o,H p=some o)(hp:0<m+if p=p0 then 1 else 0):∃ o,H p=some o:=by
 by_cases e:p=p0
 ·subst e
  obtain⟨_,o,h,_⟩:=h1
  exact⟨o,h⟩
 ·simp[e] at hp
  exact ih hp
mutual
theorem Rep.there {f:Fr}{v:V}{d:D}{n:Fp}(r:Rep G Fz am H f v d n)(p:Addr)(hp:0<n p):∃ o,H p=some o:=
 match r with
 | .sc _ h=>by rw[h] at hp;omega
 | .rf _ h=>by rw[h] at hp;omega
 | .zz _ _ h=>by rw[h] at hp;omega
 | .tp _ h=>Reps.there h p hp
 | .cc h1 h2 h3=>own_there h1 (Reps.there h2 p) (h3 p▸hp)
 | .oo h1 h2 h3=>own_there h1 (Reps.there h2 p) (h3 p▸hp)
theorem Reps.there {fs:List Fr}{vs:List V}{ds:List D}{n:Fp}(r:Reps G Fz am H fs vs ds n)(p:Addr)(hp:0<n p):∃ o,H p=some o:=
 match r with
 | .nil h=>by rw[h] at hp;omega
 | .cons (n1:=n1) h1 h2 h3=>if e:0<n1 p then Rep.there h1 p e else Reps.there h2 p (by rw[h3] at hp;omega)
end
def OwnK:HO->Prop
 | .lst _=>True
 | .dK _=>True
 | .dT _=>True
 | .ins _ _ _=>True
 | _=>False
theorem own_kind {p0 p:Addr}{k:Kd}{vs:List V}{m:Nat}(h1:Own G H p0 k vs)(ih:0<m->∃ o,H p=some o∧OwnK o)(hp:0<m+if p=p0 then 1 else 0):∃ o,H p=some o∧OwnK o:=by
 by_cases e:p=p0
 ·subst e
  obtain⟨t,o,h,i⟩:=h1
  refine⟨o,h,?_⟩
  cases k with
  | tup=>exact absurd rfl t.1
  | frl=>exact absurd rfl t.2
  | lst=>cases i;trivial
  | dik ks=>obtain⟨e,_⟩:=i;subst e;trivial
  | dit ks=>obtain⟨e,_⟩:=i;subst e;trivial
  | ins c=>obtain⟨dx,e,_⟩:=i;subst e;trivial
 ·simp[e] at hp
  exact ih hp
mutual
theorem Rep.kind {f:Fr}{v:V}{d:D}{n:Fp}(r:Rep G Fz am H f v d n)(p:Addr)(hp:0<n p):∃ o,H p=some o∧OwnK o:=
 match r with
 | .sc _ h=>by rw[h] at hp;omega
 | .rf _ h=>by rw[h] at hp;omega
 | .zz _ _ h=>by rw[h] at hp;omega
 | .tp _ h=>Reps.kind h p hp
 | .cc h1 h2 h3=>own_kind h1 (Reps.kind h2 p) (h3 p▸hp)
 | .oo h1 h2 h3=>own_kind h1 (Reps.kind h2 p) (h3 p▸hp)
theorem Reps.kind {fs:List Fr}{vs:List V}{ds:List D}{n:Fp}(r:Reps G Fz am H fs vs ds n)(p:Addr)(hp:0<n p):∃ o,H p=some o∧OwnK o:=
 match r with
 | .nil h=>by rw[h] at hp;omega
 | .cons (n1:=n1) h1 h2 h3=>if e:0<n1 p then Rep.kind h1 p e else Reps.kind h2 p (by rw[h3] at hp;omega)
end
def Fro (Fz:Addr->Prop)(n:Fp):Addr->Prop:=λp=>Fz p∨0<n p
theorem own_shr {p0:Addr}{k:Kd}{vs:List V}(h1:Own G H p0 k vs)(hz:Fz p0):Shr G Fz H p0 k vs:=by
 obtain⟨t,o,h,i⟩:=h1
 cases k with
 | tup=>exact absurd rfl t.1
 | frl=>exact absurd rfl t.2
 | dik ks=>exact⟨hz,o,.inl h,i⟩
 | dit ks=>exact⟨hz,o,.inl h,i⟩
 | _=>exact⟨hz,o,h,i⟩
theorem Reps.zlen {vs:List V}{ds:List D}{n:Fp}{k:Nat}(h:Reps G Fz am H (zs k) vs ds n):Reps G Fz am H (zs ds.length) vs ds n:=by
 have e:k=ds.length:=by have:=h.len.1;simpa [zs] using this
 rw[<- e];exact h
mutual
theorem Rep.frz {f:Fr}{v:V}{d:D}{n:Fp}(r:Rep G Fz am H f v d n)(hz:∀ p,Fz p->Fz' p)(hn:∀ p,0<n p->Fz' p):Rep G Fz' am H .z v d (λ_=>0):=
 match r with
 | .sc h1 _=>.sc h1 λ_=>rfl
 | .rf h1 _=>.rf h1 λ_=>rfl
 | .zz h1 h2 h3=>.zz (Ext.shr (am:=am) (am':=am) ⟨hz,λ_ _ h=>h,λ_ _ _ h=>h,λ_ _ _ h _=>h,λ_ _ h=>h⟩ h1) (Reps.frz h2 hz λp hp=>hn p (by rw[h3];rw[h2.z0] at hp;omega)) λ_=>rfl
 | .tp h1 h2=>.zz (k:=.tup) h1 (Reps.frz h2 hz hn) λ_=>rfl
 | .cc h1 h2 h3=>.zz (own_shr h1 (hn _ (by rw[h3];simp))) (Reps.frz h2 hz λp hp=>hn p (by rw[h3];omega)) λ_=>rfl
 | .oo h1 h2 h3=>.zz (own_shr h1 (hn _ (by rw[h3];simp))) (Reps.frz h2 hz λp hp=>hn p (by rw[h3];omega)) λ_=>rfl
theorem Reps.frz {fs:List Fr}{vs:List V}{ds:List D}{n:Fp}(r:Reps G Fz am H fs vs ds n)(hz:∀ p,Fz p->Fz' p)(hn:∀ p,0<n p->Fz' p):Reps G Fz' am H (zs ds.length) vs ds (λ_=>0):=
 match r with
 | .nil _=>.nil λ_=>rfl
 | .cons h1 h2 h3=>.cons (Rep.frz h1 hz λp hp=>hn p (by rw[h3];omega)) (Reps.frz h2 hz λp hp=>hn p (by rw[h3];omega)) λ_=>rfl
end
end
def RdO (G:Sg)(H:Hp)(p:Addr)(k:Kd)(vs:List V):Prop:=
 match k with
 | .tup=>SqT G.K H p vs
 | .frl=>SqL G.K H p vs
 | k=>∃ o,Rdk H p k o∧IsO G k vs o
def View (G:Sg)(Fz:Addr->Prop)(am:List Addr)(H:Hp)(v:V):D->Prop
 | .con k ds=>∃ p vs,v=.ref p∧RdO G H p k vs∧Reps G Fz am H (zs ds.length) vs ds (λ_=>0)
 | .ref i=>∃ p,v=.ref p∧am[i]?=some p
 | d=>Scal G v d
def Fr.isz:Fr->Bool
 | .z=>true
 | _=>false
def Fr.flat:Fr->Bool
 | .z=>true
 | .c f=>f.isz
 | .t fs=>fs.all Fr.isz
 | .o fs=>fs.all Fr.isz
theorem Fr.ZaE {f:Fr}(h:f.isz=true):f=.z:=by cases f<;>first | rfl | cases h
theorem all_isz:∀ {fs:List Fr},fs.all Fr.isz=true->fs=zs fs.length
 | [],_=>rfl
 | f :: fs,h=>by
  simp only[List.all_cons,Bool.and_eq_true] at h
  rw[Fr.ZaE h.1]
  show Fr.z :: fs=zs (fs.length+1)
  rw[show zs (fs.length+1)=Fr.z :: zs fs.length from List.replicate_succ,<- all_isz h.2]
section
variable {G:Sg}{Fz Fz':Addr->Prop}{am am':List Addr}{H H':Hp}
theorem Reps.toz {vs:List V}{ds:List D}{k:Nat}{n:Fp}(h:Reps G Fz am H (zs k) vs ds n):Reps G Fz am H (zs ds.length) vs ds (λ_=>0):=h.zlen.fp h.z0
theorem Rep.view {f:Fr}{v:V}{d:D}{n:Fp}(r:Rep G Fz am H f v d n)(hf:f.flat=true):View G Fz am H v d:=by
 cases r with
 | sc h1 h2=>
  cases d with
  | ref i=>cases v<;>exact h1.elim
  | con k ds=>cases v<;>exact h1.elim
  | _=>exact h1
 | rf h1 h2=>exact⟨_,rfl,h1⟩
 | @zz p k vs ds n h1 h2 h3=>
  refine⟨p,vs,rfl,?_,h2.toz⟩
  cases k with
  | tup=>exact h1
  | frl=>
   rcases h1 with ⟨_,h⟩ | (h | ⟨_,h⟩) | h
   ·exact .inl h
   ·cases h
   ·cases h
   ·exact .inr h
  | _=>exact h1.2
 | @tp p vs ds fs n h1 h2=>
  refine⟨p,vs,rfl,h1,?_⟩
  have e:=all_isz (fs:=fs) hf
  rw[e] at h2
  exact h2.toz
 | @cc p k vs ds f n m h1 h2 h3=>
  have e:f=.z:=Fr.ZaE hf
  subst e
  obtain⟨t,o,h4,h5⟩:=h1
  refine⟨p,vs,rfl,?_,h2.toz⟩
  cases k with
  | tup=>exact absurd rfl t.1
  | frl=>exact absurd rfl t.2
  | dik ks=>exact⟨o,.inl h4,h5⟩
  | dit ks=>exact⟨o,.inl h4,h5⟩
  | _=>exact⟨o,h4,h5⟩
 | @oo p c vs ds fs n m h1 h2 h3=>
  obtain⟨t,o,h4,h5⟩:=h1
  have e:=all_isz (fs:=fs) hf
  rw[e] at h2
  exact⟨p,vs,rfl,⟨o,h4,h5⟩,h2.toz⟩
end
inductive EnvR (G:Sg)(Fz:Addr->Prop)(am:List Addr)(H:Hp):Env->St->Fp->Prop
 | nil {n}:(∀ q,n q=0)->EnvR G Fz am H [] [] n
 | som {f d v env σ n1 n2 n}:Rep G Fz am H f v d n1->EnvR G Fz am H env σ n2->(∀ q,n q=n1 q+n2 q)->EnvR G Fz am H (some (f,d) :: env) (some v :: σ) n
 | non {x env σ n}:EnvR G Fz am H env σ n->EnvR G Fz am H (none :: env) (x :: σ) n
structure Tm where
 v:V
 f:Fr
 d:D
 bor:Bool:=false
inductive TmR (G:Sg)(Fz:Addr->Prop)(am:List Addr)(H:Hp)(ne:Fp):List Tm->Fp->Prop
 | nil {n}:(∀ q,n q=0)->TmR G Fz am H ne [] n
 | own {f v d T n1 n2 n}:Rep G Fz am H f v d n1->TmR G Fz am H ne T n2->(∀ q,n q=n1 q+n2 q)->TmR G Fz am H ne (⟨v,f,d,false⟩ :: T) n
 | bor {f v d T n1 n}:Rep G Fz am H f v d n1->(∀ q,n1 q<=ne q)->TmR G Fz am H ne T n->TmR G Fz am H ne (⟨v,f,d,true⟩ :: T) n
def StoR (G:Sg)(Fz:Addr->Prop)(am:List Addr)(H:Hp)(st:Zd)(n:Fp):Prop:=Reps G Fz am H (st.map (·.1)) (am.map V.ref) (st.map (·.2)) n
structure Gd where
 H0:Hp
 A0:Addr->Prop
 F0:Addr->Prop
 am0:List Addr
def Vm:HO->Bool
 | .tbl _=>true
 | _=>false
theorem OwnK.nt {o:HO}(h:OwnK o):Vm o=false:=by cases o<;>first | rfl | exact h.elim
def Zap:HO->Bool
 | .ext _=>true
 | _=>false
def VZ:HO->Bool
 | .tbl _=>false
 | .ext _=>false
 | _=>true
theorem OwnK.pl {o:HO}(h:OwnK o):VZ o=true:=by cases o<;>first | rfl | exact h.elim
theorem pl_nt {o:HO}(h:VZ o=true):Vm o=false:=by cases o<;>first | rfl | cases h
theorem ZcT {o:HO}(h:Zap o=true):Vm o=false:=by cases o<;>first | rfl | cases h
theorem ext_np {o:HO}(h:Zap o=true):VZ o=false:=by cases o<;>first | rfl | cases h
theorem ZcY {o:HO}(h:Zap o=true):¬ OwnK o:=λk=>by
 have e:=k.pl
 rw[ext_np h] at e
 cases e
def St1 (H:Hp)(p:Addr)(f:Prop)(o:HO):Prop:=H p=some o∨(f∧dkO o=true∧∃ ob,H p=some (.frz ob o))
theorem St1.nd {H:Hp}{p:Addr}{f:Prop}{o:HO}(h:St1 H p f o)(n:dkO o=false):H p=some o:=h.elim id λ⟨_,d,_⟩=>by rw[n] at d;cases d
theorem St1.nf {H:Hp}{p:Addr}{f:Prop}{o:HO}(h:St1 H p f o)(n:¬ f):H p=some o:=h.elim id λ⟨z,_⟩=>(n z).elim
theorem St1.rd {H:Hp}{p:Addr}{f:Prop}{o:HO}(h:St1 H p f o):Rd H p o:=h.imp id λ⟨_,_,ob,e⟩=>⟨ob,e⟩
theorem St1.map {H H':Hp}{p:Addr}{f:Prop}{o:HO}(h:St1 H p f o)(k:∀ u,(u=o∨Vm u=false)->H p=some u->H' p=some u):St1 H' p f o:=h.imp (k _ (.inl rfl)) λ⟨a,b,ob,e⟩=>⟨a,b,ob,k _ (.inr rfl) e⟩
theorem St1.some {H:Hp}{p:Addr}{f:Prop}{o:HO}(h:St1 H p f o):∃ u,H p=some u:=h.elim (λe=>⟨_,e⟩) λ⟨_,_,ob,e⟩=>⟨_,e⟩
theorem dk_dct {o:HO}(h:dkO o=false):dkO o=false:=h
theorem Zcy {o:HO}(h:Zap o=true):dkO o=false:=by cases o<;>first | rfl | cases h
structure Home (G:Sg)(g:Gd):Prop where
 fz:∀ p,g.F0 p->¬ g.A0 p∧∃ o,g.H0 p=some o∧VZ o=true
 a:∀ p,g.A0 p->∃ o,g.H0 p=some o∧OwnK o
 lam:∀ (j:Nat) (l:LamD),G.lam j=some l->(∀ e∈l.ent,Zap e.2=true∧g.H0 e.1=some e.2)∧Reps G g.F0 g.am0 g.H0 (zs l.cd.length) l.cv l.cd (λ_=>0)
structure Rel0 (G:Sg)(g:Gd)(Fz:Addr->Prop)(am:List Addr)(H:Hp)(tot:Fp):Prop where
 n1:∀ p,tot p<=1
 nz:∀ p,0<tot p->¬ Fz p
 th:∀ p,0<tot p->∃ o,H p=some o∧OwnK o
 zt:∀ p,Fz p->∃ o,H p=some o∧VZ o=true
 k:∀ p o,Vm o=false->g.H0 p=some o->¬ g.A0 p->St1 H p (g.F0 p) o
 f:∀ p,0<tot p->g.A0 p∨g.H0 p=none
 z0:∀ p,g.F0 p->Fz p
 z1:∀ p,Fz p->g.F0 p∨g.A0 p∨g.H0 p=none
 a:∀ (i:Nat) p,g.am0[i]?=some p->am[i]?=some p
 tb:LamX.Tabs G.T H
 hm:Home G g
 kt:∀ p o,Vm o=true->g.H0 p=some o->¬ g.A0 p->∃ o',H p=some o' ∧ Vm o'=true
def RlB (G:Sg)(g:Gd)(env:Env)(st:Zd)(T:List Tm)(σ:St)(H:Hp)(B:(Addr->Prop)->List Addr->Prop):Prop:=
 ∃ Fz am ne nt ns,EnvR G Fz am H env σ ne∧TmR G Fz am H ne T nt∧StoR G Fz am H st ns∧Rel0 G g Fz am H (λp=>ne p+nt p+ns p)∧B Fz am
def Rl (G:Sg)(g:Gd)(env:Env)(st:Zd)(T:List Tm)(σ:St)(H:Hp):Prop:=RlB G g env st T σ H λ_ _=>True
section
variable {G:Sg}{g:Gd}{Fz Fz':Addr->Prop}{am am':List Addr}{H H':Hp}{env:Env}{st st':Zd}{T T':List Tm}{σ:St}{ne nt ns n:Fp}
theorem EnvR.ext (E:Ext Fz am H Fz' am' H')(r:EnvR G Fz am H env σ n)(k:∀ p o,0<n p->H p=some o->H' p=some o):EnvR G Fz' am' H' env σ n:=by
 induction r with
 | nil h=>exact .nil h
 | som h1 h2 h3 ih=>exact .som (h1.ext E λp o hp=>k p o (by rw[h3];omega)) (ih λp o hp=>k p o (by rw[h3];omega)) h3
 | non h ih=>exact .non (ih k)
theorem TmR.ext (E:Ext Fz am H Fz' am' H')(r:TmR G Fz am H ne T n)(k:∀ p o,0<n p->H p=some o->H' p=some o)(ke:∀ p o,0<ne p->H p=some o->H' p=some o):TmR G Fz' am' H' ne T n:=by
 induction r with
 | nil h=>exact .nil h
 | own h1 h2 h3 ih=>exact .own (h1.ext E λp o hp=>k p o (by rw[h3];omega)) (ih λp o hp=>k p o (by rw[h3];omega)) h3
 | bor h1 h2 h3 ih=>exact .bor (h1.ext E λp o hp=>ke p o (by have:=h2 p;omega)) h2 (ih k)
theorem EnvR.len (r:EnvR G Fz am H env σ n):env.length=σ.length:=by
 induction r with
 | nil=>rfl
 | som _ _ _ ih=>simp[ih]
 | non _ ih=>simp[ih]
theorem EnvR.get (r:EnvR G Fz am H env σ n):∀ {i:Nat} {f:Fr} {d:D},env[i]?=some (some (f,d))->∃ v m,σ[i]?=some (some v)∧Rep G Fz am H f v d m∧∀ q,m q<=n q:=by
 induction r with
 | nil h=>intro i f d e;simp at e
 | @som f' d' v env σ n1 n2 n h1 h2 h3 ih=>
  intro i f d e
  cases i with
  | zero=>
   simp at e
   obtain⟨rfl,rfl⟩:=e
   exact⟨v,n1,by simp,h1,λq=>by rw[h3];omega⟩
  | succ i=>
   obtain⟨v,m,e1,e2,e3⟩:=ih (i:=i) (f:=f) (d:=d) (by simpa using e)
   exact⟨v,m,by simpa using e1,e2,λq=>by rw[h3];have:=e3 q;omega⟩
 | @non x env σ n h ih=>
  intro i f d e
  cases i with
  | zero=>simp at e
  | succ i=>
   obtain⟨v,m,e1,e2,e3⟩:=ih (i:=i) (f:=f) (d:=d) (by simpa using e)
   exact⟨v,m,by simpa using e1,e2,e3⟩
theorem EnvR.set {f:Fr}{v:V}{d:D}{m:Fp}(h:Rep G Fz am H f v d m)(r:EnvR G Fz am H env σ n):∀ (i:Nat),∃ n',EnvR G Fz am H (env.set i (some (f,d))) (σ.set i (some v)) n' ∧ ∀ q,n' q<=n q+m q:=by
 induction r with
 | nil h0=>intro i;exact⟨_,.nil h0,λq=>by omega⟩
 | @som f' d' v' env σ n1 n2 n h1 h2 h3 ih=>
  intro i
  cases i with
  | zero=>exact⟨_,.som h h2 (n:=λq=>m q+n2 q) λ_=>rfl,λq=>by rw[h3];omega⟩
  | succ i=>
   obtain⟨n',e1,e2⟩:=ih i
   exact⟨_,.som h1 e1 (n:=λq=>n1 q+n' q) λ_=>rfl,λq=>by rw[h3];have:=e2 q;omega⟩
 | @non x env σ n h2 ih=>
  intro i
  cases i with
  | zero=>exact⟨_,.som h h2 (n:=λq=>m q+n q) λ_=>rfl,λq=>by omega⟩
  | succ i=>
   obtain⟨n',e1,e2⟩:=ih i
   exact⟨n',.non e1,e2⟩
theorem EnvR.kill (r:EnvR G Fz am H env σ n):∀ (i:Nat) (y:St) ,y.length=σ.length->(∀ j,j≠i->y[j]?=σ[j]?)->∃ n',EnvR G Fz am H (env.set i none) y n' ∧ ∀ q,n' q<=n q:=by
 induction r with
 | nil h0=>
  intro i y hy _
  have e:y=[]:=List.length_eq_zero_iff.mp hy
  subst e
  exact⟨_,.nil h0,λq=>Nat.le_refl _⟩
 | @som f' d' v' env σ n1 n2 n h1 h2 h3 ih=>
  intro i y hy hs
  cases y with
  | nil=>simp at hy
  | cons y0 y=>
   cases i with
   | zero=>
    have e:y=σ:=by
     apply List.ext_getElem?
     intro j
     have:=hs (j+1) (by omega)
     simpa using this
    subst e
    exact⟨n2,.non h2,λq=>by rw[h3];omega⟩
   | succ i=>
    have e0:y0=some v':=by
     have:=hs 0 (by omega)
     simpa using this
    subst e0
    obtain⟨n',e1,e2⟩:=ih i y (by simpa using hy) λj hj=>by
     have:=hs (j+1) (by omega)
     simpa using this
    exact⟨_,.som h1 e1 (n:=λq=>n1 q+n' q) λ_=>rfl,λq=>by rw[h3];have:=e2 q;omega⟩
 | @non x env σ n h2 ih=>
  intro i y hy hs
  cases y with
  | nil=>simp at hy
  | cons y0 y=>
   cases i with
   | zero=>
    have e:y=σ:=by
     apply List.ext_getElem?
     intro j
     have:=hs (j+1) (by omega)
     simpa using this
    subst e
    exact⟨n,.non h2,λq=>Nat.le_refl _⟩
   | succ i=>
    obtain⟨n',e1,e2⟩:=ih i y (by simpa using hy) λj hj=>by
     have:=hs (j+1) (by omega)
     simpa using this
    exact⟨n',.non e1,e2⟩
theorem EnvR.frz (r:EnvR G Fz am H env σ n):∀ {i:Nat} {f:Fr} {d:D},env[i]?=some (some (f,d))->∃ m n':Fp,(∀ q,n q=m q+n' q) ∧
  ∀ Fz',(∀ p,Fz p->Fz' p)->(∀ p,0<m p->Fz' p)->EnvR G Fz' am H (env.set i (some (.z,d))) σ n':=by
 have up:∀ {env:Env} {σ:St} {n:Fp} (Fz':Addr->Prop),(∀ p,Fz p->Fz' p)->EnvR G Fz am H env σ n->EnvR G Fz' am H env σ n:=λFz' hz r=>r.ext ⟨hz,λ_ _ h=>h,λ_ _ _ h=>h,λ_ _ _ h _=>h,λ_ _ h=>h⟩ λ_ _ _ h=>h
 induction r with
 | nil h=>intro i f d e;simp at e
 | @som f' d' v env σ n1 n2 n h1 h2 h3 ih=>
  intro i f d e
  cases i with
  | zero=>
   simp at e
   obtain⟨rfl,rfl⟩:=e
   exact⟨n1,n2,h3,λFz' hz hm=>.som (h1.frz hz hm) (up Fz' hz h2) (n:=n2) λq=>by simp⟩
  | succ i=>
   obtain⟨m,n',e1,e2⟩:=ih (i:=i) (f:=f) (d:=d) (by simpa using e)
   exact⟨m,λq=>n1 q+n' q,λq=>by rw[h3,e1];show _=m q+(n1 q+n' q);omega,λFz' hz hm=>.som (h1.ext ⟨hz,λ_ _ h=>h,λ_ _ _ h=>h,λ_ _ _ h _=>h,λ_ _ h=>h⟩ λ_ _ _ h=>h) (e2 Fz' hz hm) λ_=>rfl⟩
 | @non x env σ n h ih=>
  intro i f d e
  cases i with
  | zero=>simp at e
  | succ i=>
   obtain⟨m,n',e1,e2⟩:=ih (i:=i) (f:=f) (d:=d) (by simpa using e)
   exact⟨m,n',e1,λFz' hz hm=>.non (e2 Fz' hz hm)⟩
theorem EnvR.take (r:EnvR G Fz am H env σ n):∀ {i:Nat} {f:Fr} {d:D},env[i]?=some (some (f,d))->∃ (v:V) (m n':Fp),σ[i]?=some (some v)∧Rep G Fz am H f v d m∧(∀ q,n q=m q+n' q)∧EnvR G Fz am H (env.set i none) σ n':=by
 induction r with
 | nil h=>intro i f d e;simp at e
 | @som f' d' v env σ n1 n2 n h1 h2 h3 ih=>
  intro i f d e
  cases i with
  | zero=>
   simp at e
   obtain⟨rfl,rfl⟩:=e
   exact⟨v,n1,n2,by simp,h1,h3,.non h2⟩
  | succ i=>
   obtain⟨v,m,n',e0,e1,e2,e3⟩:=ih (i:=i) (f:=f) (d:=d) (by simpa using e)
   exact⟨v,m,λq=>n1 q+n' q,by simpa using e0,e1,λq=>by rw[h3,e2];show _=m q+(n1 q+n' q);omega,.som h1 e3 λ_=>rfl⟩
 | @non x env σ n h ih=>
  intro i f d e
  cases i with
  | zero=>simp at e
  | succ i=>
   obtain⟨v,m,n',e0,e1,e2,e3⟩:=ih (i:=i) (f:=f) (d:=d) (by simpa using e)
   exact⟨v,m,n',by simpa using e0,e1,e2,.non e3⟩
theorem Rel0.less {t t':Fp}(r:Rel0 G g Fz am H t)(h:∀ q,t' q<=t q):Rel0 G g Fz am H t':=
 ⟨λp=>Nat.le_trans (h p) (r.n1 p),λp hp=>r.nz p (Nat.lt_of_lt_of_le hp (h p)),λp hp=>r.th p (Nat.lt_of_lt_of_le hp (h p)),r.zt,r.k,λp hp=>r.f p (Nat.lt_of_lt_of_le hp (h p)),r.z0,r.z1,r.a,r.tb,r.hm,r.kt⟩
theorem Rel0.froz {t t' m:Fp}(r:Rel0 G g Fz am H t)(h:∀ q,t q=m q+t' q):Rel0 G g (Fro Fz m) am H t':=
 ⟨λp=>by have:=r.n1 p;rw[h] at this;omega,λp hp z=>by
  rcases z with z | z
  ·exact r.nz p (by rw[h];omega) z
  ·have:=r.n1 p;rw[h] at this;omega,λp hp=>r.th p (by rw[h];omega),λp z=>by
  rcases z with z | z
  ·exact r.zt p z
  ·obtain⟨o,e,ow⟩:=r.th p (by rw[h];omega)
   exact⟨o,e,ow.pl⟩,r.k,λp hp=>r.f p (by rw[h];omega),λp z=>.inl (r.z0 p z),λp z=>by
  rcases z with z | z
  ·exact r.z1 p z
  ·exact .inr (r.f p (by rw[h];omega)),r.a,r.tb,r.hm,r.kt⟩
theorem Rel0.ext {t:Fp}(r:Rel0 G g Fz am H t):Ext g.F0 g.am0 g.H0 Fz am H where
 fz:=r.z0
 cl:=r.a
 rd:=λp u z h=>by
  obtain⟨na,o,e,nt⟩:=r.hm.fz p z
  rcases h with h | ⟨o',h⟩
  ·rw[h] at e;cases e
   exact (r.k _ _ (pl_nt nt) h na).rd
  ·exact .inr ⟨o',(r.k _ _ rfl h na).nd rfl⟩
 st:=λp u z h nd=>by
  obtain⟨na,o,e,nt⟩:=r.hm.fz p z
  rw[h] at e;cases e
  exact (r.k _ _ (pl_nt nt) h na).nd (dk_dct nd)
 tp:=λp xs h=>by
  have na:∀ u:HO,¬ OwnK u->g.H0 p=some u->¬ g.A0 p:=λu nu e q=>by
   obtain⟨o,e1,k1⟩:=r.hm.a p q
   rw[e] at e1;cases e1
   exact nu k1
  rcases h with h | ⟨o,h⟩
  ·exact .inl ((r.k _ _ rfl h (na (.tup xs) (λz=>z) h)).nd rfl)
  ·exact .inr ⟨o,(r.k _ _ rfl h (na (.frz o (.tup xs)) (λz=>z) h)).nd rfl⟩
theorem Rel0.home {t m:Fp}(r:Rel0 G g Fz am H t)(h:∀ q,m q<=t q):Home G ⟨H,λp=>0<m p,Fz,am⟩ where
 fz:=λp z=>⟨λq=>r.nz p (Nat.lt_of_lt_of_le q (h p)) z,r.zt p z⟩
 a:=λp q=>r.th p (Nat.lt_of_lt_of_le q (h p))
 lam:=λj l e=>by
  obtain⟨h1,h2⟩:=r.hm.lam j l e
  refine⟨λx hx=>?_,h2.ext r.ext λp o hp=>absurd hp (Nat.lt_irrefl 0)⟩
  obtain⟨a1,a3⟩:=h1 x hx
  refine⟨a1,(r.k _ _ (ZcT a1) a3 λq=>?_).nd (Zcy a1)⟩
  obtain⟨o,e1,k1⟩:=r.hm.a _ q
  rw[a3] at e1;cases e1
  exact ZcY a1 k1
theorem Rel0.new {t:Fp}(r:Rel0 G g Fz am H t){p:Addr}(hn:H p=none):g.A0 p∨g.H0 p=none:=by
 cases e2:g.H0 p with
 | none=>exact .inr rfl
 | some o=>
  by_cases na:g.A0 p
  ·exact .inl na
  ·cases nt:Vm o with
   | false=>
    obtain⟨u,this⟩:=(r.k p o nt e2 na).some
    rw[hn] at this
    cases this
   | true=>
    obtain⟨o',e,_⟩:=r.kt p o nt e2 na
    rw[hn] at e
    cases e
theorem Rel0.grow {t t' m:Fp}(r:Rel0 G g Fz am H t)(s:Same H H')(hm:∀ p,0<m p->m p=1∧H p=none∧∃ o,H' p=some o∧OwnK o)(h:∀ q,t' q=m q+t q):Rel0 G g Fz am H' t':=by
 have key:∀ p,0<m p->t p=0:=λp hp=>by
  cases e:t p with
  | zero=>rfl
  | succ k=>
   obtain⟨o,e2,_⟩:=r.th p (by omega)
   rw[(hm p hp).2.1] at e2
   cases e2
 refine⟨λp=>?_,λp hp z=>?_,λp hp=>?_,λp z=>?_,λp o nt e na=>(r.k p o nt e na).map λu _=>s _ _,λp hp=>?_,r.z0,r.z1,r.a,r.tb.ext s,r.hm,λp o t e na=>(r.kt p o t e na).imp λo' ⟨e1,t1⟩=>⟨s _ _ e1,t1⟩⟩
 ·rw[h]
  by_cases e:0<m p
  ·rw[key p e,(hm p e).1]
   omega
  ·have:=r.n1 p;omega
 ·rw[h] at hp
  by_cases e:0<m p
  ·obtain⟨o,e2,_⟩:=r.zt p z
   rw[(hm p e).2.1] at e2
   cases e2
  ·exact r.nz p (by omega) z
 ·rw[h] at hp
  by_cases e:0<m p
  ·exact (hm p e).2.2
  ·obtain⟨o,e2,e3⟩:=r.th p (by omega)
   exact⟨o,s _ _ e2,e3⟩
 ·obtain⟨o,e,nt⟩:=r.zt p z
  exact⟨o,s _ _ e,nt⟩
 ·rw[h] at hp
  by_cases e:0<m p
  ·exact r.new (hm p e).2.1
  ·exact r.f p (by omega)
theorem Ext.same (s:Same H H')(hz:∀ p,Fz p->Fz' p):Ext Fz am H Fz' am H':=⟨hz,λ_ _ h=>h,λp u _ h=>h.imp (s _ _) λ⟨o,q⟩=>⟨o,s _ _ q⟩,λp u _ h _=>s _ _ h,λp xs h=>h.imp (s _ _) λ⟨o,q⟩=>⟨o,s _ _ q⟩⟩
theorem Ext.shared (hz:∀ p,Fz p->Fz' p):Ext Fz am H Fz' am H:=Ext.same (Same.refl H) hz
end
inductive ResL
 | ok (ts:List (Fr × Bool × D)) (st:Zd) | exc (c:Nat) (ds:List D) (st:Zd) | stuck
inductive ResB
 | ok (b:Bool) (st:Zd) | exc (c:Nat) (ds:List D) (st:Zd) | stuck
abbrev Den:=Env->Zd->Res
abbrev DenL:=Env->Zd->ResL
abbrev DenB:=Env->Zd->ResB
def ExcB (G:Sg)(H:Hp)(c:Nat)(ds:List D)(cls:Value)(dx:Option Addr):(Addr->Prop)->List Addr->Prop:=λFz am=>
 c∈G.xs∧∃ p fs vs,cls=.ref (G.cls c)∧dx=some p∧H p=some (.xd fs)∧Reps G Fz am H (zs ds.length) vs ds (λ_=>0) ∧
  ∀ (i:Nat) (x:Str),(G.fld c)[i]?=some x->∀ v,vs[i]?=some v->fs.lookup x=some v
section
variable (G:Sg)(g:Gd)(env:Env)(T:List Tm)(σ:St)(W:WX)
def ExcP (c:Nat)(ds:List D)(st:Zd):Prop:=∀ cls dx H',RlB G g env st [] σ H' (ExcB G H' c ds cls dx)->W cls dx σ H'
def Wz (Q:VK):Res->Prop
 | .ok f b d st=>∀ v H',Rl G g env st (⟨v,f,d,b⟩ :: T) σ H' -> Q v H'
 | .exc c ds st=>ExcP G g env σ W c ds st
 | .stuck=>False
def mkT:List V->List (Fr × Bool × D)->List Tm
 | v :: vs,(f,b,d) :: ts=>⟨v,f,d,b⟩ :: mkT vs ts
 | _,_=>[]
def PostL (Q:List V->Hp->Prop):ResL->Prop
 | .ok ts st=>∀ vs H',vs.length=ts.length->Rl G g env st (mkT vs ts++T) σ H' -> Q vs H'
 | .exc c ds st=>ExcP G g env σ W c ds st
 | .stuck=>False
def PostB (Q:Bool->Hp->Prop):ResB->Prop
 | .ok b st=>∀ H',Rl G g env st T σ H' -> Q b H'
 | .exc c ds st=>ExcP G g env σ W c ds st
 | .stuck=>False
end
def PostF (G:Sg)(g:Gd)(Q:VK)(E:XK):Res->Prop
 | .ok f b d st=>b=false∧∀ v H',Rl G g [] st [⟨v,f,d,false⟩] [] H' -> Q v H'
 | .exc c ds st=>∀ cls dx H',RlB G g [] st [] [] H' (ExcB G H' c ds cls dx)->E cls dx H'
 | .stuck=>False
def SpF (G:Sg)(n:Nat)(F:Fn):Sp:=λvs H Q E=>vs.length=n∧∃ Fz am as st na ns,Reps G Fz am H (as.map (·.1)) vs (as.map (·.2)) na∧StoR G Fz am H st ns ∧
 Rel0 G ⟨H,λp=>0<na p+ns p,Fz,am⟩ Fz am H (λp=>na p+ns p)∧PostF G ⟨H,λp=>0<na p+ns p,Fz,am⟩ Q E (F as st)
def SpL (G:Sg)(l:LamD):Sp:=λvs H Q E=>vs.length=l.n∧(∀ e∈l.ent,H e.1=some e.2)∧∃ Fz am as st na ns,Reps G Fz am H (as.map (·.1)) vs (as.map (·.2)) na∧StoR G Fz am H st ns ∧
 Reps G Fz am H (zs l.cd.length) l.cv l.cd (λ_=>0) ∧
 Rel0 G ⟨H,λp=>0<na p+ns p,Fz,am⟩ Fz am H (λp=>na p+ns p)∧PostF G ⟨H,λp=>0<na p+ns p,Fz,am⟩ Q E (l.r as st)
structure CloOk (P:Program)(w:World)(K:PySem.W.Frag)(mg:Str->Option Value)(base:Heap)(k:Nat)(f:Addr)(ent:List (Addr × HO))(sp:Sp):Prop where
 at_:∀ (H:Hp) (h:Heap),HOk P w H h->(∀ e∈ent,H e.1=some e.2)->PySem.W.FnAt f h
 run:∀ (A:Around) (outer:List PySem.Env) (s:Shared) (H:Hp) (us:List Value) (vs:List V) (Q:VK) (E:XK),Room k A->Env0 P w K mg base A outer s H->Vals vs us->sp vs H Q E ->
  codeAny (model P w) A (.call (.ref f) ⟨us,[]⟩) (CR (L2.CX P w) outer P w H s Q E) s
abbrev LK:Nat:=60
def Zac (P:Program)(w:World)(mg:Str->Option Value)(base:Heap)(G:Sg):Prop:=∀ (j:Nat) (l:LamD),G.lam j=some l->CloOk P w G.K mg base LK l.f l.ent (SpL G.off l)
theorem lams0 {P:Program}{w:World}{mg:Str->Option Value}{base:Heap}{G:Sg}(h:∀ j,G.lam j=none):Zac P w mg base G:=λj l e=>by rw[h] at e;cases e
structure Sx where
 P:Program
 w:World
 mg:Str->Option Value
 base:Heap
 G:Sg
 N:List Str
 sc:Scope
 k:Nat
 fnA:Bool
 lok:Zac P w mg base G
 lmk:Option (Addr × Str)
 fnC:Str->Bool
structure Stx (S:Sx)(X:Cx):Prop where
 pr:X.prog=S.P
 w:X.w=S.w
 mg:X.mg=S.mg
 base:X.base=S.base
 K:X.K=S.G.K
 N:X.N=S.N
 sc:X.env.scope=S.sc
 nd:X.N.Nodup
 calm:X.calm=true
 room:Room S.k X.A
 po:PassesOwn (model X.prog X.w) X.A X.env X.xe
 fn:S.fnA=true->∀ x,X.fn x=true
 stk:S.fnA=true->X.stack=X.env :: X.outer∧X.env.frame=some X.env.locals
 lmk:∀ c q,S.lmk=some (c,q)->X.env.code=.ref c∧X.env.qual=q
 fnC:∀ x,S.fnC x=true->X.fn x=true
def ZL (T:List Tm):Prop:=∀ a∈T,a.bor=false
def DE (S:Sx)(e:Expr)(den:Den):Prop:=∀ W:WX,∃ t:TE,(∀ X,Stx S X->Takes X W->PE X e t) ∧
 ∀ g env st T σ H Q,ZL T->Rl S.G g env st T σ H->Wz S.G g env T σ W Q (den env st)->t σ H Q
def DA (S:Sx)(es:List Expr)(den:DenL):Prop:=∀ W:WX,∃ t:TA,(∀ X,Stx S X->Takes X W->PA X es t) ∧
 ∀ g env st T σ H Q,ZL T->Rl S.G g env st T σ H->PostL S.G g env T σ W Q (den env st)->t σ H Q
def DT (S:Sx)(e:Expr)(den:DenB):Prop:=∀ W:WX,∃ t:TT,(∀ X,Stx S X->Takes X W->PT X e t) ∧
 ∀ g env st T σ H Q,ZL T->Rl S.G g env st T σ H->PostB S.G g env T σ W Q (den env st)->t σ H Q
section
variable {G:Sg}{g:Gd}{env:Env}{st st':Zd}{T T':List Tm}{σ:St}{H H':Hp}{B B':(Addr->Prop)->List Addr->Prop}
theorem TmR.drop {Fz:Addr->Prop}{am:List Addr}{ne nt:Fp}{a:Tm}(r:TmR G Fz am H ne (a :: T) nt):∃ nt',TmR G Fz am H ne T nt' ∧ ∀ q,nt' q<=nt q:=by
 cases r with
 | own h1 h2 h3=>exact⟨_,h2,λq=>by rw[h3];omega⟩
 | bor h1 h2 h3=>exact⟨_,h3,λq=>Nat.le_refl _⟩
theorem TmR.tail {Fz:Addr->Prop}{am:List Addr}{ne nt:Fp}:∀ {l:List Tm},TmR G Fz am H ne (l++T) nt->∃ nt',TmR G Fz am H ne T nt' ∧ ∀ q,nt' q<=nt q
 | [],r=>⟨_,r,λ_=>Nat.le_refl _⟩
 | a :: l,r=>by
  obtain⟨n1,r1,l1⟩:=r.drop
  obtain⟨n2,r2,l2⟩:=TmR.tail r1
  exact⟨n2,r2,λq=>Nat.le_trans (l2 q) (l1 q)⟩
theorem TmR.mid {Fz:Addr->Prop}{am:List Addr}{ne nt:Fp}{a:Tm}:∀ {l:List Tm},TmR G Fz am H ne (l++a :: T) nt->TmR G Fz am H ne (a :: (l++T)) nt
 | [],r=>r
 | b :: l,r=>by
  cases r with
  | own h1 h2 h3=>
   cases TmR.mid h2 with
   | own k1 k2 k3=>exact .own k1 (.own h1 k2 λ_=>rfl) λq=>by rw[h3,k3];omega
   | bor k1 k2 k3=>exact .bor k1 k2 (.own h1 k3 h3)
  | bor h1 h2 h3=>
   cases TmR.mid h3 with
   | own k1 k2 k3=>exact .own k1 (.bor h1 h2 k2) k3
   | bor k1 k2 k3=>exact .bor k1 k2 (.bor h1 h2 k3)
theorem RlB.tail {l:List Tm}(r:RlB G g env st (l++T) σ H B):RlB G g env st T σ H B:=by
 obtain⟨Fz,am,ne,nt,ns,h1,h2,h3,h4,h5⟩:=r
 obtain⟨nt',k1,k2⟩:=h2.tail
 exact⟨Fz,am,ne,nt',ns,h1,k1,h3,h4.less λq=>by have:=k2 q;omega,h5⟩
theorem RlB.drop {a:Tm}(r:RlB G g env st (a :: T) σ H B):RlB G g env st T σ H B:=RlB.tail (l:=[a]) r
theorem RlB.notmp (r:RlB G g env st T σ H B):RlB G g env st [] σ H B:=RlB.tail (l:=T) (by rw[List.append_nil];exact r)
theorem RlB.mid {l:List Tm}{a:Tm}(r:RlB G g env st (l++a :: T) σ H B):RlB G g env st (a :: (l++T)) σ H B:=by
 obtain⟨Fz,am,ne,nt,ns,h1,h2,h3,h4,h5⟩:=r
 exact⟨Fz,am,ne,nt,ns,h1,h2.mid,h3,h4,h5⟩
theorem RlB.imp (r:RlB G g env st T σ H B)(h:∀ Fz am,B Fz am->B' Fz am):RlB G g env st T σ H B':=by
 obtain⟨Fz,am,ne,nt,ns,h1,h2,h3,h4,h5⟩:=r
 exact⟨Fz,am,ne,nt,ns,h1,h2,h3,h4,h _ _ h5⟩
theorem RlB.rl (r:RlB G g env st T σ H B):Rl G g env st T σ H:=RlB.imp r λ_ _ _=>trivial
theorem Rl.scal {v:V}{d:D}(r:Rl G g env st T σ H)(h:Scal G v d):Rl G g env st (⟨v,.z,d,false⟩ :: T) σ H:=by
 obtain⟨Fz,am,ne,nt,ns,h1,h2,h3,h4,h5⟩:=r
 exact⟨Fz,am,ne,nt,ns,h1,.own (.sc h λ_=>rfl) h2 (n1:=λ_=>0) λq=>by simp,h3,h4,h5⟩
theorem Rl.pushz {i:Nat}{d:D}(r:Rl G g env st T σ H)(e:env[i]?=some (some (.z,d))):∃ v,σ[i]?=some (some v)∧Rl G g env st (⟨v,.z,d,false⟩ :: T) σ H:=by
 obtain⟨Fz,am,ne,nt,ns,h1,h2,h3,h4,h5⟩:=r
 obtain⟨v,m,e1,e2,e3⟩:=h1.get e
 exact⟨v,e1,Fz,am,ne,nt,ns,h1,.own (e2.fp e2.z0) h2 (n1:=λ_=>0) λq=>by simp,h3,h4,h5⟩
theorem Rl.pushb {i:Nat}{f:Fr}{d:D}(r:Rl G g env st T σ H)(e:env[i]?=some (some (f,d))):∃ v,σ[i]?=some (some v)∧Rl G g env st (⟨v,f,d,true⟩ :: T) σ H:=by
 obtain⟨Fz,am,ne,nt,ns,h1,h2,h3,h4,h5⟩:=r
 obtain⟨v,m,e1,e2,e3⟩:=h1.get e
 exact⟨v,e1,Fz,am,ne,nt,ns,h1,.bor e2 e3 h2,h3,h4,h5⟩
theorem Rl.frz {v:V}{f:Fr}{d:D}(r:Rl G g env st (⟨v,f,d,false⟩ :: T) σ H):Rl G g env st (⟨v,.z,d,false⟩ :: T) σ H:=by
 obtain⟨Fz,am,ne,nt,ns,h1,h2,h3,h4,h5⟩:=r
 cases h2 with
 | @own _ _ _ _ n1 n2 _ k1 k2 k3=>
  have E:Ext Fz am H (Fro Fz n1) am H:=Ext.shared λp z=>.inl z
  exact⟨Fro Fz n1,am,ne,n2,ns,h1.ext E λ_ _ _ h=>h,.own (k1.frz (λp z=>.inl z) λp z=>.inr z) (k2.ext E (λ_ _ _ h=>h) λ_ _ _ h=>h) (n1:=λ_=>0) (λq=>by simp),Reps.ext E h3 λ_ _ _ h=>h,h4.froz λq=>by rw[k3];omega,trivial⟩
end
abbrev Vws (G:Sg)(Fz:Addr->Prop)(am:List Addr)(H:Hp):List V->List D->Prop:=Paired (View G Fz am H)
abbrev Op:=List D->Option (Fr × D)
def Newp (H H':Hp)(n:Fp):Prop:=∀ p,0<n p->n p=1∧H p=none∧∃ o,H' p=some o∧OwnK o
def VOp (G:Sg)(r:List V->Hp->VK->Prop)(op:Op):Prop:=∀ Fz am H vs ds f d Q,Vws G Fz am H vs ds->op ds=some (f,d) ->
 (∀ v H' n,Same H H' -> Newp H H' n->Rep G Fz am H' f v d n->Q v H')->r vs H Q
theorem VOp.imp {G:Sg}{r r':List V->Hp->VK->Prop}{op:Op}(h:VOp G r op)(k:∀ vs H Q,r vs H Q->r' vs H Q):VOp G r' op:=λFz am H vs ds f d Q h1 h2 h3=>k _ _ _ (h Fz am H vs ds f d Q h1 h2 h3)
@[simp] def orOp (a b:Op):Op:=λds=>match a ds with
 | some r=>some r
 | none=>b ds
theorem VOp.or {G:Sg}{r r':List V->Hp->VK->Prop}{a b:Op}(h:VOp G r a)(h':VOp G r' b):VOp G (λvs H Q=>r vs H Q∨r' vs H Q) (orOp a b):=λFz am H vs ds f d Q h1 h2 h3=>by
 unfold orOp at h2
 cases e:a ds with
 | some x=>
  rw[e] at h2
  cases h2
  exact .inl (h Fz am H vs ds f d Q h1 e h3)
 | none=>
  rw[e] at h2
  exact .inr (h' Fz am H vs ds f d Q h1 h2 h3)
theorem same_refl (H:Hp):Same H H:=λ_ _ h=>h
theorem Va {H H':Hp}:Newp H H' (λ_=>0):=λp hp=>absurd hp (Nat.lt_irrefl 0)
@[simp] def flats (ts:List (Fr × Bool × D)):Bool:=ts.all λt=>t.1.flat
def lk (st:Zd):D->D
 | .ref i=>match st[i]? with
  | some (f,d)=>bif f.flat then d else .ref i
  | none=>.ref i
 | d=>d
@[simp] def dOp (op:Op)(as:DenL):Den:=λenv st=>match as env st with
 | .ok ts st'=>bif flats ts then (match op (ts.map λt=>lk st' t.2.2) with
  | some (f,d)=>.ok f false d st'
  | none=>.stuck) else .stuck
 | .exc c ds st'=>.exc c ds st'
 | .stuck=>.stuck
section
variable {G:Sg}{g:Gd}{env:Env}{st st':Zd}{T T':List Tm}{σ:St}{H H':Hp}
theorem TmR.views {Fz:Addr->Prop}{am:List Addr}{ne nt:Fp}:∀ {vs:List V} {ts:List (Fr × Bool × D)},vs.length=ts.length->flats ts=true->TmR G Fz am H ne (mkT vs ts++T) nt->Vws G Fz am H vs (ts.map λt=>t.2.2)
 | [],[],_,_,_=>.nil
 | v :: vs,(f,b,d) :: ts,hl,hf,r=>by
  simp only[flats,List.all_cons,Bool.and_eq_true] at hf
  cases b with
  | false=>
   cases r with
   | own h1 h2 h3=>exact .cons (h1.view hf.1) (TmR.views (by simpa using hl) hf.2 h2)
  | true=>
   cases r with
   | bor h1 h2 h3=>exact .cons (h1.view hf.1) (TmR.views (by simpa using hl) hf.2 h3)
theorem Reps.at {Fz:Addr->Prop}{am:List Addr}:∀ {fs:List Fr} {vs:List V} {ds:List D} {n:Fp} {i:Nat} {f:Fr} {d:D},Reps G Fz am H fs vs ds n->fs[i]?=some f->ds[i]?=some d->∃ v m,vs[i]?=some v∧Rep G Fz am H f v d m∧∀ q,m q<=n q
 | [],_,_,_,i,f,d,r,e1,e2=>by simp at e1
 | f0 :: fs,_,_,_,i,f,d,r,e1,e2=>by
  cases r with
  | cons h1 h2 h3=>
   cases i with
   | zero=>
    simp at e1 e2
    subst e1 e2
    exact⟨_,_,by simp,h1,λq=>by rw[h3];omega⟩
   | succ i=>
    obtain⟨v,m,a,b,c⟩:=Reps.at (i:=i) (f:=f) (d:=d) h2 (by simpa using e1) (by simpa using e2)
    exact⟨v,m,by simpa using a,b,λq=>by rw[h3];have:=c q;omega⟩
theorem StoR.at {Fz:Addr->Prop}{am:List Addr}{n:Fp}(r:StoR G Fz am H st n){i:Nat}{f:Fr}{d:D}(e:st[i]?=some (f,d)):∃ p m,am[i]?=some p∧Rep G Fz am H f (.ref p) d m∧∀ q,m q<=n q:=by
 obtain⟨v,m,a,b,c⟩:=Reps.at r (i:=i) (f:=f) (d:=d) (by simp[e]) (by simp[e])
 rw[List.getElem?_map] at a
 obtain⟨p,a1,a2⟩:=Option.map_eq_some_iff.mp a
 subst a2
 exact⟨p,m,a1,b,c⟩
theorem Vws.lk {Fz:Addr->Prop}{am:List Addr}{n:Fp}(r:StoR G Fz am H st n):∀ {vs:List V} {ds:List D},Vws G Fz am H vs ds->Vws G Fz am H vs (ds.map (lk st))
 | _,_,.nil=>.nil
 | _,d :: _,.cons h t=>.cons (by
  cases d with
  | ref i=>
   unfold Hx.lk
   dsimp only
   cases e:st[i]? with
   | none=>exact h
   | some x=>
    obtain⟨f,d⟩:=x
    dsimp only
    cases ef:f.flat with
    | false=>exact h
    | true=>
     obtain⟨p,m,a,b,_⟩:=r.at e
     obtain⟨p',e1,e2⟩:=h
     rw[a] at e2
     cases e2
     rw[e1]
     exact b.view ef
  | _=>exact h) (Vws.lk r t)
theorem Rl.op {r:List V->Hp->VK->Prop}{op:Op}{vs:List V}{ts:List (Fr × Bool × D)}{f:Fr}{d:D}{Q:VK}(hv:VOp G r op)(R:Rl G g env st (mkT vs ts++T) σ H)(hl:vs.length=ts.length)(hf:flats ts=true)
  (e:op (ts.map λt=>lk st t.2.2)=some (f,d)) (hq:∀ v H',Rl G g env st (⟨v,f,d,false⟩ :: T) σ H' -> Q v H'):r vs H Q:=by
 obtain⟨Fz,am,ne,nt,ns,h1,h2,h3,h4,h5⟩:=R
 have vw:=Vws.lk h3 (h2.views hl hf)
 rw[List.map_map] at vw
 refine hv Fz am H vs _ f d Q vw e λv H' n s nn rep=>hq v H' ?_
 obtain⟨nt',k1,k2⟩:=h2.tail
 have E:Ext Fz am H Fz am H':=Ext.same s λ_ h=>h
 have h4':Rel0 G g Fz am H (λp=>ne p+nt' p+ns p):=h4.less λq=>by have:=k2 q;omega
 exact⟨Fz,am,ne,λq=>n q+nt' q,ns,h1.ext E λp o _ h=>s _ _ h,.own rep (k1.ext E (λp o _ h=>s _ _ h) λp o _ h=>s _ _ h) λ_=>rfl,Reps.ext E h3 λp o _ h=>s _ _ h,h4'.grow s nn λq=>by show ne q+(n q+nt' q)+ns q=_;omega,trivial⟩
theorem post1 {r:List V->Hp->VK->Prop}{op:Op}{W:WX}{Q:VK}{f:Fr}{b:Bool}{d:D}(hv:VOp G r op)
  (h:Wz G g env T σ W Q (dOp op (λ_ st=>.ok [(f,b,d)] st) env st)):∀ v H',Rl G g env st (⟨v,f,d,b⟩ :: T) σ H' -> r [v] H' Q:=λv H' R=>by
 unfold dOp at h
 dsimp only at h
 cases hf:flats [(f,b,d)] with
 | false=>rw[hf] at h;exact h.elim
 | true=>
  rw[hf] at h
  simp only[cond_true] at h
  cases e:op ([(f,b,d)].map λt=>lk st t.2.2) with
  | none=>rw[e] at h;exact h.elim
  | some x=>
   obtain⟨f',d'⟩:=x
   rw[e] at h
   exact Rl.op (vs:=[v]) (ts:=[(f,b,d)]) hv R rfl hf e h
end
@[simp] def dNil:DenL:=λ_ st=>.ok [] st
@[simp] def Zb (a:Den)(as:DenL):DenL:=λenv st=>match a env st with
 | .ok f b d st1=>bif !b||f.isz then (match as env st1 with
  | .ok ts st2=>.ok ((f,false,d) :: ts) st2
  | .exc c ds st2=>.exc c ds st2
  | .stuck=>.stuck) else .stuck
 | .exc c ds st1=>.exc c ds st1
 | .stuck=>.stuck
@[simp] def Za (a:Den):DenL:=λenv st=>match a env st with
 | .ok f b d st1=>.ok [(f,b,d)] st1
 | .exc c ds st1=>.exc c ds st1
 | .stuck=>.stuck
theorem bifT {α:Type}{c:Bool}{a b:α}{P:α->Prop}(h:P (bif c then a else b))(n:¬ P b):c=true∧P a:=by
 cases c with
 | true=>exact⟨rfl,h⟩
 | false=>exact (n h).elim
theorem Vd {T:List Tm}{v:V}{f:Fr}{d:D}(h:ZL T):ZL (⟨v,f,d,false⟩ :: T):=λa ha=>by
 rcases List.mem_cons.mp ha with e | e
 ·rw[e]
 ·exact h a e
theorem Rl.unb {G:Sg}{g:Gd}{env:Env}{st:Zd}{T:List Tm}{σ:St}{H:Hp}{v:V}{f:Fr}{b:Bool}{d:D}(R:Rl G g env st (⟨v,f,d,b⟩ :: T) σ H)(hb:(!b||f.isz)=true):Rl G g env st (⟨v,f,d,false⟩ :: T) σ H:=by
 cases b with
 | false=>exact R
 | true=>
  have e:f=.z:=Fr.ZaE (by simpa using hb)
  subst e
  obtain⟨Fz,am,ne,nt,ns,h1,h2,h3,h4,h5⟩:=R
  cases h2 with
  | bor k1 k2 k3=>exact⟨Fz,am,ne,nt,ns,h1,.own (k1.fp k1.z0) k3 λq=>by simp,h3,h4,trivial⟩
section
variable {S:Sx}{e a b:Expr}{es:List Expr}{da db:Den}{das:DenL}{pos:Pos}
theorem da_nil:DA S [] dNil:=λW=>⟨_,λX hX tk=>pa_nil,λg env st T σ H Q hT R h=>h [] H rfl R⟩
theorem Wo:∀ {e:Expr} {es:List Expr} {env:PySem.Env},(∀ x p,e ≠ .Starred x p)->starEach (e :: es) env=(false,eval e env) :: starEach es env:=λ{e es env} h=>by
 cases e<;>first | rfl | exact absurd rfl (h _ _)
theorem Zj (ha:DE S e da)(hr:DA S es das)(hs:∀ x p,e ≠ .Starred x p):DA S (e :: es) (Zb da das):=λW=>by
 obtain⟨ta,pa,qa⟩:=ha W
 obtain⟨tr,pr,qr⟩:=hr W
 refine⟨_,λX hX tk=>pa_cons (pa X hX tk) (pr X hX tk) (Wo hs),λg env st T σ H Q hT R h=>?_⟩
 refine qa g env st T σ H _ hT R ?_
 unfold Zb at h
 cases e1:da env st with
 | stuck=>rw[e1] at h;exact h.elim
 | exc c ds st1=>rw[e1] at h;exact h
 | ok f b d st1=>
  rw[e1] at h
  obtain⟨hb,h⟩:=bifT h id
  intro v H1 R1
  refine qr g env st1 _ σ H1 _ (Vd hT) (R1.unb hb) ?_
  cases e2:das env st1 with
  | stuck=>rw[e2] at h;exact h.elim
  | exc c ds st2=>rw[e2] at h;exact h
  | ok ts st2=>
   rw[e2] at h
   dsimp only at h
   intro vs H2 hl R2
   exact h (v :: vs) H2 (by simp[hl]) R2.mid
theorem Zh (ha:DE S e da)(hs:∀ x p,e ≠ .Starred x p):DA S [e] (Za da):=λW=>by
 obtain⟨ta,pa,qa⟩:=ha W
 refine⟨_,λX hX tk=>pa_cons (pa X hX tk) pa_nil (Wo hs),λg env st T σ H Q hT R h=>qa g env st T σ H _ hT R ?_⟩
 unfold Za at h
 cases e1:da env st with
 | stuck=>rw[e1] at h;exact h.elim
 | exc c ds st1=>rw[e1] at h;exact h
 | ok f b d st1=>
  rw[e1] at h
  exact λv H1 R1=>h [v] H1 rfl R1
theorem run2 {r:List V->Hp->VK->Prop}{op:Op}{W:WX}{ta tb:TE}(hv:VOp S.G r op)
  (qa:∀ g env st T σ H Q,ZL T->Rl S.G g env st T σ H->Wz S.G g env T σ W Q (da env st)->ta σ H Q)
  (qb:∀ g env st T σ H Q,ZL T->Rl S.G g env st T σ H->Wz S.G g env T σ W Q (db env st)->tb σ H Q)
  (g:Gd) (env:Env) (st:Zd) (T:List Tm) (σ:St) (H:Hp) (Q:VK) (hT:ZL T) (R:Rl S.G g env st T σ H) (h:Wz S.G g env T σ W Q (dOp op (Zb da (Za db)) env st)) :
  ta σ H λx H1=>tb σ H1 λy H2=>r [x,y] H2 Q:=by
 refine qa g env st T σ H _ hT R ?_
 unfold dOp Zb at h
 cases e1:da env st with
 | stuck=>rw[e1] at h;exact h.elim
 | exc c ds st1=>rw[e1] at h;exact h
 | ok f b d st1=>
  rw[e1] at h
  dsimp only at h
  cases hb:(!b||f.isz) with
  | false=>rw[hb] at h;exact h.elim
  | true=>
  rw[hb] at h
  intro v H1 R1
  refine qb g env st1 _ σ H1 _ (Vd hT) (R1.unb hb) ?_
  unfold Za at h
  dsimp only[cond_true] at h
  cases e2:db env st1 with
  | stuck=>rw[e2] at h;exact h.elim
  | exc c ds st2=>rw[e2] at h;exact h
  | ok f2 b2 d2 st2=>
   rw[e2] at h
   dsimp only at h
   intro v2 H2 R2
   have R3:Rl S.G g env st2 (mkT [v,v2] [(f,false,d),(f2,b2,d2)]++T) σ H2:=RlB.mid (l:=[_]) R2
   cases hf:flats [(f,false,d),(f2,b2,d2)] with
   | false=>rw[hf] at h;exact h.elim
   | true=>
    rw[hf] at h
    simp only[cond_true] at h
    cases e3:op ([(f,false,d),(f2,b2,d2)].map λt=>lk st2 t.2.2) with
    | none=>rw[e3] at h;exact h.elim
    | some x=>
     obtain⟨f',d'⟩:=x
     rw[e3] at h
     exact Rl.op hv R3 rfl hf e3 h
theorem run1 {r:List V->Hp->VK->Prop}{op:Op}{W:WX}{ta:TE}(hv:VOp S.G r op)
  (qa:∀ g env st T σ H Q,ZL T->Rl S.G g env st T σ H->Wz S.G g env T σ W Q (da env st)->ta σ H Q)
  (g:Gd) (env:Env) (st:Zd) (T:List Tm) (σ:St) (H:Hp) (Q:VK) (hT:ZL T) (R:Rl S.G g env st T σ H) (h:Wz S.G g env T σ W Q (dOp op (Za da) env st)) :
  ta σ H λx H1=>r [x] H1 Q:=by
 refine qa g env st T σ H _ hT R ?_
 unfold dOp Za at h
 cases e1:da env st with
 | stuck=>rw[e1] at h;exact h.elim
 | exc c ds st1=>rw[e1] at h;exact h
 | ok f b d st1=>
  rw[e1] at h
  exact post1 hv h
theorem runL {r:List V->Hp->VK->Prop}{op:Op}{W:WX}{ta:TA}(hv:VOp S.G r op)
  (qa:∀ g env st T σ H Q,ZL T->Rl S.G g env st T σ H->PostL S.G g env T σ W Q (das env st)->ta σ H Q)
  (g:Gd) (env:Env) (st:Zd) (T:List Tm) (σ:St) (H:Hp) (Q:VK) (hT:ZL T) (R:Rl S.G g env st T σ H) (h:Wz S.G g env T σ W Q (dOp op das env st)) :
  ta σ H λvs H1=>r vs H1 Q:=by
 refine qa g env st T σ H _ hT R ?_
 unfold dOp at h
 cases e1:das env st with
 | stuck=>rw[e1] at h;exact h.elim
 | exc c ds st1=>rw[e1] at h;exact h
 | ok ts st1=>
  rw[e1] at h
  dsimp only at h
  intro vs H1 hl R1
  cases hf:flats ts with
  | false=>rw[hf] at h;exact h.elim
  | true=>
   rw[hf] at h
   simp only[cond_true] at h
   cases e3:op (ts.map λt=>lk st1 t.2.2) with
   | none=>rw[e3] at h;exact h.elim
   | some x=>
    obtain⟨f',d'⟩:=x
    rw[e3] at h
    exact Rl.op hv R1 hl hf e3 h
@[simp] def Ze (i:Nat):Den:=λenv st=>match env[i]? with
 | some (some (.z,d))=>.ok .z false d st
 | _=>.stuck
@[simp] def dC (d:D):Den:=λ_ st=>.ok .z false d st
theorem de_pv {i:Nat}{x:Str}{p:Pos}(hN:S.N[i]?=some x)(hv:Vis S.sc x)(hd:(x==("__debug__":Str))=false)(hcd:(x==("__classdict__":Str))=false){X:Cx}(hX:Stx S X):PE X (.Name x p) (tVar i):=
 pe_var (by rw[hX.N];exact hN) (by rw[hX.sc];exact hv) hd hcd
theorem ZK {i:Nat}{x:Str}{p:Pos}(hN:S.N[i]?=some x)(hv:Vis S.sc x)(hd:(x==("__debug__":Str))=false)(hcd:(x==("__classdict__":Str))=false):DE S (.Name x p) (Ze i):=λW=>by
 refine⟨_,λX hX tk=>de_pv hN hv hd hcd hX,λg env st T σ H Q hT R h=>?_⟩
 unfold Ze at h
 split at h
 ·rename_i d e
  obtain⟨v,e1,R1⟩:=R.pushz e
  exact⟨v,e1,h v H R1⟩
 ·exact h.elim
theorem Zf {i:Int}{j}{p:Pos}:DE S (.Constant (.int i) j p) (dC (.int i)):=λW=>⟨_,λX hX tk=>pe_int,λg env st T σ H Q hT R h=>h _ H (R.scal rfl)⟩
theorem de_bl {i:Bool}{j}{p:Pos}:DE S (.Constant (.bool i) j p) (dC (.bl i)):=λW=>⟨_,λX hX tk=>pe_bl,λg env st T σ H Q hT R h=>h _ H (R.scal rfl)⟩
theorem ZI {j}{p:Pos}:DE S (.Constant .none j p) (dC .non):=λW=>⟨_,λX hX tk=>pe_non,λg env st T σ H Q hT R h=>h _ H (R.scal trivial)⟩
theorem Zk {i:Str}{j}{p:Pos}:DE S (.Constant (.str i) j p) (dC (.str i)):=λW=>⟨_,λX hX tk=>pe_str,λg env st T σ H Q hT R h=>h _ H (R.scal rfl)⟩
def l1 (r:V->Hp->VK->Prop):List V->Hp->VK->Prop:=λvs H Q=>r (vs.getD 0 .non) H Q
def l2 (r:R2):List V->Hp->VK->Prop:=λvs H Q=>r (vs.getD 0 .non) (vs.getD 1 .non) H Q
theorem ZbO {o:Operator}{r:R2}{op:Op}(ho:∀ X,Stx S X->OpR X (binaryOp o) r)(hv:VOp S.G (l2 r) op)(ha:DE S a da)(hb:DE S b db):
  DE S (.BinOp a o b pos) (dOp op (Zb da (Za db))):=λW=>by
 obtain⟨ta,pa,qa⟩:=ha W
 obtain⟨tb,pb,qb⟩:=hb W
 exact⟨_,λX hX tk=>pe_op (ho X hX) (pa X hX tk) (pb X hX tk),λg env st T σ H Q hT R h=>run2 hv qa qb g env st T σ H Q hT R h⟩
def Ww:Expr->Bool
 | .Set _ _ _=>false
 | _=>true
theorem marks {o:CmpOp}{e:Expr}(h:Ww e=true):behindInMarks o e=false:=by
 cases e<;>first | rfl | cases h
theorem de_cmp {o:CmpOp}{r:R2}{op:Op}(ho:∀ X,Stx S X->OpR X (compareOp o) r)(hv:VOp S.G (l2 r) op)(ha:DE S a da)(hb:DE S b db)(hm:Ww b=true):
  DE S (.Compare a [o] [b] pos) (dOp op (Zb da (Za db))):=λW=>by
 obtain⟨ta,pa,qa⟩:=ha W
 obtain⟨tb,pb,qb⟩:=hb W
 exact⟨_,λX hX tk=>pe_cmpR (ho X hX) (pa X hX tk) (pb X hX tk) (marks hm),λg env st T σ H Q hT R h=>run2 hv qa qb g env st T σ H Q hT R h⟩
def VB:Expr->Bool
 | .Slice _ _ _ _=>false
 | _=>true
theorem plainIx {e:Expr}(h:VB e=true):PlainIx e:=λo i=>by
 cases e<;>first | rfl | cases h
theorem de_ix {r:R2}{op:Op}(ho:∀ X,Stx S X->IxR X r)(hv:VOp S.G (l2 r) op)(ha:DE S a da)(hb:DE S b db)(hm:VB b=true):
  DE S (.Subscript a b pos) (dOp op (Zb da (Za db))):=λW=>by
 obtain⟨ta,pa,qa⟩:=ha W
 obtain⟨tb,pb,qb⟩:=hb W
 exact⟨_,λX hX tk=>pe_ix (ho X hX) (pa X hX tk) (pb X hX tk) (plainIx hm),λg env st T σ H Q hT R h=>run2 hv qa qb g env st T σ H Q hT R h⟩
theorem noStar:∀ {es:List Expr} {env:PySem.Env} {pos:Pos},(∀ e∈es,∀ x p,e ≠ .Starred x p)->(backTo pos (starEach es env)).any (·.1)=false:=λ{es}=>by
 induction es with
 | nil=>intro env pos _;rfl
 | cons e es ih=>
  intro env pos h
  rw[Wo (h e List.mem_cons_self)]
  have:=ih (env:=env) (pos:=pos) λx hx=>h x (List.mem_cons_of_mem _ hx)
  simpa [backTo] using this
def ZD:List Expr->Bool
 | []=>true
 | .Starred _ _ :: _=>false
 | _ :: es=>ZD es
theorem Zv:∀ {es:List Expr},ZD es=true->∀ e∈es,∀ x p,e ≠ .Starred x p
 | e :: es,h,e',he,x,p=>by
  rcases List.mem_cons.mp he with rfl | he
  ·intro z;subst z;exact Bool.noConfusion h
  ·have h2:ZD es=true:=by
    cases e<;>first | exact h | exact Bool.noConfusion h
   exact Zv h2 e' he x p
theorem de_bi {x:Str}{p:Pos}{id:String}{r:List V->Hp->VK->Prop}{op:Op}(ho:∀ X,Stx S X->CallR X (.builtin id) r)(hv:VOp S.G r op)(hg:S.sc.names.lookup x=some .globalImplicit)(hm:S.mg x=none)(hb:bootBuiltins x=some (.builtin id))(hn:x ≠ "__name__")(hdb:(x==("__debug__":Str))=false)
  (ha:DA S (e :: es) das) (hp:ZD (e :: es)=true):DE S (.Call (.Name x p) (e :: es) [] pos) (dOp op das):=λW=>by
 obtain⟨ta,pa,qa⟩:=ha W
 have h1:=Zv hp
 exact⟨_,λX hX tk=>pe_callB (ho X hX) (show X.env.scope.names.lookup x=some .globalImplicit by rw[hX.sc];exact hg) (by rw[hX.mg];exact hm) hb (pa X hX tk) hn hdb (Wo (h1 e List.mem_cons_self)) (noStar λy hy=>h1 y (List.mem_cons_of_mem _ hy)),λg env st T σ H Q hT R h=>runL hv qa g env st T σ H Q hT R h⟩
theorem de_ty {x:Str}{p:Pos}{id:String}{r:List V->Hp->VK->Prop}{op:Op}(ho:∀ X,Stx S X->CallR X (.type id) r)(hv:VOp S.G r op)(hg:S.sc.names.lookup x=some .globalImplicit)(hm:S.mg x=none)(hb:bootBuiltins x=some (.type id))(hn:x ≠ "__name__")(hdb:(x==("__debug__":Str))=false)
  (ha:DA S (e :: es) das) (hp:ZD (e :: es)=true):DE S (.Call (.Name x p) (e :: es) [] pos) (dOp op das):=λW=>by
 obtain⟨ta,pa,qa⟩:=ha W
 have h1:=Zv hp
 exact⟨_,λX hX tk=>pe_callTy (ho X hX) (show X.env.scope.names.lookup x=some .globalImplicit by rw[hX.sc];exact hg) (by rw[hX.mg];exact hm) hb (pa X hX tk) hn hdb (Wo (h1 e List.mem_cons_self)) (noStar λy hy=>h1 y (List.mem_cons_of_mem _ hy)),λg env st T σ H Q hT R h=>runL hv qa g env st T σ H Q hT R h⟩
theorem Rl.bl {G:Sg}{g:Gd}{env:Env}{st:Zd}{T:List Tm}{σ:St}{H:Hp}{v:V}{f:Fr}{b c:Bool}(R:Rl G g env st (⟨v,f,.bl c,b⟩ :: T) σ H):v=.bl c:=by
 obtain⟨Fz,am,ne,nt,ns,h1,h2,h3,h4,h5⟩:=R
 have key:∀ {n:Fp},Rep G Fz am H f v (.bl c) n->v=.bl c:=λ{n} r=>by
  cases r with
  | sc h _=>cases v<;>first | exact congrArg V.bl h | exact h.elim
 cases h2 with
 | own h _ _=>exact key h
 | bor h _ _=>exact key h
@[simp] def dB (a:Den):DenB:=λenv st=>match a env st with
 | .ok _ _ (.bl c) st1=>.ok c st1
 | .ok _ _ _ _=>.stuck
 | .exc c ds st1=>.exc c ds st1
 | .stuck=>.stuck
theorem postB {G:Sg}{g:Gd}{env:Env}{st:Zd}{T:List Tm}{σ:St}{W:WX}{Q:Bool->Hp->Prop}{a:Den}(h:PostB G g env T σ W Q (dB a env st)):Wz G g env T σ W (λx H1=>∃ c,x=.bl c∧Q c H1) (a env st):=by
 unfold dB at h
 cases e:a env st with
 | stuck=>rw[e] at h;exact h.elim
 | exc c ds st1=>rw[e] at h;exact h
 | ok f b d st1=>
  rw[e] at h
  cases d with
  | bl c=>exact λv H1 R1=>⟨c,R1.bl,h H1 R1.drop⟩
  | _=>exact h.elim
def plainTest:Expr->Bool
 | .UnaryOp .Not _ _=>false
 | .BoolOp _ _ _=>false
 | .IfExp _ _ _ _=>false
 | .Compare _ _ _ _=>false
 | _=>true
theorem plainTest_ok {e:Expr}(h:plainTest e=true)(env:PySem.Env)(whole:Sem Value):isTrue e env whole=(do let v <- whole;standAt e.pos;holding [v] (truthy v)):=by
 cases e<;>first | rfl | exact Bool.noConfusion h | skip
 rename_i o x p
 cases o<;>first | rfl | exact Bool.noConfusion h
theorem ZaU (ha:DE S a da)(hp:plainTest a=true):DT S a (dB da):=λW=>by
 obtain⟨ta,pa,qa⟩:=ha W
 exact⟨_,λX hX tk=>pt_val (pa X hX tk) (plainTest_ok hp X.env),λg env st T σ H Q hT R h=>qa g env st T σ H _ hT R (postB h)⟩
theorem dt_cmp {o:CmpOp}{r:R2}{op:Op}(ho:∀ X,Stx S X->OpR X (compareOp o) r)(hv:VOp S.G (l2 r) op)(ha:DE S a da)(hb:DE S b db)(hm:Ww b=true):
  DT S (.Compare a [o] [b] pos) (dB (dOp op (Zb da (Za db)))):=λW=>by
 obtain⟨ta,pa,qa⟩:=ha W
 obtain⟨tb,pb,qb⟩:=hb W
 exact⟨_,λX hX tk=>pt_cmpR (ho X hX) (pa X hX tk) (pb X hX tk) (marks hm),λg env st T σ H Q hT R h=>run2 hv qa qb g env st T σ H _ hT R (postB h)⟩
@[simp] def dNotB (a:DenB):DenB:=λenv st=>match a env st with
 | .ok c st1=>.ok (!c) st1
 | .exc c ds st1=>.exc c ds st1
 | .stuck=>.stuck
@[simp] def dAndB (a b:DenB):DenB:=λenv st=>match a env st with
 | .ok true st1=>b env st1
 | .ok false st1=>.ok false st1
 | .exc c ds st1=>.exc c ds st1
 | .stuck=>.stuck
@[simp] def dOrB (a b:DenB):DenB:=λenv st=>match a env st with
 | .ok true st1=>.ok true st1
 | .ok false st1=>b env st1
 | .exc c ds st1=>.exc c ds st1
 | .stuck=>.stuck
theorem Zda {ta:DenB}(ha:DT S a ta):DT S (.UnaryOp .Not a pos) (dNotB ta):=λW=>by
 obtain⟨t,p,q⟩:=ha W
 refine⟨_,λX hX tk=>pt_not (p X hX tk),λg env st T σ H Q hT R h=>q g env st T σ H _ hT R ?_⟩
 unfold dNotB at h
 cases e:ta env st with
 | stuck=>rw[e] at h;exact h.elim
 | exc c ds st1=>rw[e] at h;exact h
 | ok c st1=>rw[e] at h;exact h
def DW (S:Sx)(e:Expr)(den:DenB):Prop:=∀ W:WX,∃ t:TT,(∀ X,Stx S X->Takes X W->PW X e t) ∧
 ∀ g env st T σ H Q,ZL T->Rl S.G g env st T σ H->PostB S.G g env T σ W Q (den env st)->t σ H Q
theorem dt_w {ta:DenB}(ha:DW S a ta):DT S a ta:=λW=>by
 obtain⟨t,p,q⟩:=ha W
 exact⟨t,λX hX tk=>(p X hX tk).pt,q⟩
theorem ZbX {ta:DenB}(ha:DT S a ta):DW S (.BoolOp .And [a] pos) ta:=λW=>by
 obtain⟨t,p,q⟩:=ha W
 exact⟨t,λX hX tk=>pw_and1 (p X hX tk),q⟩
theorem Vs {ta:DenB}(ha:DT S a ta):DW S (.BoolOp .Or [a] pos) ta:=λW=>by
 obtain⟨t,p,q⟩:=ha W
 exact⟨t,λX hX tk=>pw_or1 (p X hX tk),q⟩
theorem dw_and {ta tr:DenB}(ha:DT S a ta)(hr:DW S (.BoolOp .And (b :: es) pos) tr):DW S (.BoolOp .And (a :: b :: es) pos) (dAndB ta tr):=λW=>by
 obtain⟨t,p,q⟩:=ha W
 obtain⟨t2,p2,q2⟩:=hr W
 refine⟨_,λX hX tk=>pw_and (p X hX tk) (p2 X hX tk),λg env st T σ H Q hT R h=>q g env st T σ H _ hT R ?_⟩
 unfold dAndB at h
 cases e:ta env st with
 | stuck=>rw[e] at h;exact h.elim
 | exc c ds st1=>rw[e] at h;exact h
 | ok c st1=>
  rw[e] at h
  intro H1 R1
  cases c with
  | true=>exact iteT (q2 _ _ _ _ _ _ _ hT R1 h)
  | false=>exact iteF (h H1 R1)
theorem VG {ta tr:DenB}(ha:DT S a ta)(hr:DW S (.BoolOp .Or (b :: es) pos) tr):DW S (.BoolOp .Or (a :: b :: es) pos) (dOrB ta tr):=λW=>by
 obtain⟨t,p,q⟩:=ha W
 obtain⟨t2,p2,q2⟩:=hr W
 refine⟨_,λX hX tk=>pw_or (p X hX tk) (p2 X hX tk),λg env st T σ H Q hT R h=>q g env st T σ H _ hT R ?_⟩
 unfold dOrB at h
 cases e:ta env st with
 | stuck=>rw[e] at h;exact h.elim
 | exc c ds st1=>rw[e] at h;exact h
 | ok c st1=>
  rw[e] at h
  intro H1 R1
  cases c with
  | true=>exact iteT (h H1 R1)
  | false=>exact iteF (q2 _ _ _ _ _ _ _ hT R1 h)
@[simp] def dAnd (a b:Den):Den:=λenv st=>match a env st with
 | .ok _ _ (.bl true) st1=>b env st1
 | .ok _ _ (.bl false) st1=>.ok .z false (.bl false) st1
 | .ok _ _ _ _=>.stuck
 | .exc c ds st1=>.exc c ds st1
 | .stuck=>.stuck
@[simp] def dIf (c:DenB)(a b:Den):Den:=λenv st=>match c env st with
 | .ok true st1=>a env st1
 | .ok false st1=>b env st1
 | .exc c ds st1=>.exc c ds st1
 | .stuck=>.stuck
theorem de_one {o:BoolOp}(ha:DE S a da):DE S (.BoolOp o [a] pos) da:=λW=>by
 obtain⟨t,p,q⟩:=ha W
 exact⟨t,λX hX tk=>pe_one (p X hX tk),q⟩
theorem ZbI (ha:DE S a da)(hr:DE S (.BoolOp .And (b :: es) pos) db):DE S (.BoolOp .And (a :: b :: es) pos) (dAnd da db):=λW=>by
 obtain⟨t,p,q⟩:=ha W
 obtain⟨t2,p2,q2⟩:=hr W
 refine⟨_,λX hX tk=>pe_and (p X hX tk) (p2 X hX tk),λg env st T σ H Q hT R h=>q g env st T σ H _ hT R ?_⟩
 unfold dAnd at h
 cases e:da env st with
 | stuck=>rw[e] at h;exact h.elim
 | exc c ds st1=>rw[e] at h;exact h
 | ok f b0 d st1=>
  rw[e] at h
  cases d with
  | bl c=>
   intro v H1 R1
   cases c with
   | true=>exact⟨true,R1.bl,iteT (q2 _ _ _ _ _ _ _ hT R1.drop h)⟩
   | false=>exact⟨false,R1.bl,iteF (h _ H1 (Rl.scal R1.drop rfl))⟩
  | _=>exact h.elim
theorem Vt {c:Expr}{tc:DenB}(hc:DT S c tc)(ha:DE S a da)(hb:DE S b db):DE S (.IfExp c a b pos) (dIf tc da db):=λW=>by
 obtain⟨t,p,q⟩:=hc W
 obtain⟨t2,p2,q2⟩:=ha W
 obtain⟨t3,p3,q3⟩:=hb W
 refine⟨_,λX hX tk=>pe_ifExp (p X hX tk) (p2 X hX tk) (p3 X hX tk),λg env st T σ H Q hT R h=>q g env st T σ H _ hT R ?_⟩
 unfold dIf at h
 cases e:tc env st with
 | stuck=>rw[e] at h;exact h.elim
 | exc c ds st1=>rw[e] at h;exact h
 | ok c st1=>
  rw[e] at h
  intro H1 R1
  cases c with
  | true=>exact iteT (q2 _ _ _ _ _ _ _ hT R1 h)
  | false=>exact iteF (q3 _ _ _ _ _ _ _ hT R1 h)
end
section
variable {G:Sg}{g:Gd}{env:Env}{st st':Zd}{T T':List Tm}{σ:St}{H H':Hp}{B B':(Addr->Prop)->List Addr->Prop}
@[simp] def keeps (ts:List (Fr × Bool × D)):Bool:=ts.all λt=>!t.2.1||t.1.isz
def bare (ts:List (Fr × Bool × D)):List (Fr × D):=ts.map λt=>(t.1,t.2.2)
theorem TmR.reps {Fz:Addr->Prop}{am:List Addr}{ne nt:Fp}:∀ {vs:List V} {ts:List (Fr × Bool × D)},vs.length=ts.length->keeps ts=true->TmR G Fz am H ne (mkT vs ts++T) nt ->
  ∃ n1 n2:Fp,Reps G Fz am H (ts.map (·.1)) vs (ts.map λt=>t.2.2) n1∧TmR G Fz am H ne T n2∧∀ q,nt q=n1 q+n2 q
 | [],[],_,_,r=>⟨λ_=>0,nt,.nil λ_=>rfl,r,λq=>by simp⟩
 | v :: vs,(f,b,d) :: ts,hl,hf,r=>by
  simp only[keeps,List.all_cons,Bool.and_eq_true] at hf
  cases b with
  | false=>
   cases r with
   | @own _ _ _ _ m1 m2 _ h1 h2 h3=>
    obtain⟨n1,n2,k1,k2,k3⟩:=TmR.reps (by simpa using hl) hf.2 h2
    exact⟨λq=>m1 q+n1 q,n2,.cons h1 k1 λ_=>rfl,k2,λq=>by rw[h3,k3];show _=m1 q+n1 q+n2 q;omega⟩
  | true=>
   cases r with
   | @bor _ _ _ _ m1 _ h1 h2 h3=>
    obtain⟨n1,n2,k1,k2,k3⟩:=TmR.reps (by simpa using hl) hf.2 h3
    have e:f=.z:=Fr.ZaE (by simpa using hf.1)
    subst e
    exact⟨n1,n2,.cons h1 k1 λq=>by rw[h1.z0];omega,k2,k3⟩
theorem Rl.frzL {vs:List V}{ts:List (Fr × Bool × D)}(R:Rl G g env st (mkT vs ts++T) σ H)(hl:vs.length=ts.length)(hk:keeps ts=true):
  RlB G g env st T σ H λFz am=>Reps G Fz am H (zs ts.length) vs (ts.map λt=>t.2.2) (λ_=>0):=by
 obtain⟨Fz,am,ne,nt,ns,h1,h2,h3,h4,h5⟩:=R
 obtain⟨n1,n2,k1,k2,k3⟩:=h2.reps hl hk
 have E:Ext Fz am H (Fro Fz n1) am H:=Ext.shared λp z=>.inl z
 refine⟨Fro Fz n1,am,ne,n2,ns,h1.ext E λ_ _ _ h=>h,k2.ext E (λ_ _ _ h=>h) λ_ _ _ h=>h,Reps.ext E h3 λ_ _ _ h=>h,h4.froz λq=>by rw[k3];omega,?_⟩
 have:=k1.frz (Fz':=Fro Fz n1) (λp z=>.inl z) λp z=>.inr z
 simpa using this
theorem Rl.own {vs:List V}{ts:List (Fr × Bool × D)}(R:Rl G g env st (mkT vs ts++T) σ H)(hl:vs.length=ts.length)(hk:keeps ts=true):
  ∃ Fz am ne n1 n2 ns,Reps G Fz am H (ts.map (·.1)) vs (ts.map λt=>t.2.2) n1∧EnvR G Fz am H env σ ne∧TmR G Fz am H ne T n2∧StoR G Fz am H st ns∧Rel0 G g Fz am H λp=>n1 p+(ne p+n2 p+ns p):=by
 obtain⟨Fz,am,ne,nt,ns,h1,h2,h3,h4,h5⟩:=R
 obtain⟨n1,n2,k1,k2,k3⟩:=h2.reps hl hk
 exact⟨Fz,am,ne,n1,n2,ns,k1,h1,k2,h3,h4.less λq=>by rw[k3];omega⟩
theorem RlB.new {v:V}{f:Fr}{d:D}{n:Fp}(R:RlB G g env st T σ H B)(s:Same H H')(nn:Newp H H' n)(h:∀ Fz am,Ext Fz am H Fz am H' -> B Fz am->Rep G Fz am H' f v d n):Rl G g env st (⟨v,f,d,false⟩ :: T) σ H':=by
 obtain⟨Fz,am,ne,nt,ns,h1,h2,h3,h4,h5⟩:=R
 have E:Ext Fz am H Fz am H':=Ext.same s λ_ h=>h
 exact⟨Fz,am,ne,λq=>n q+nt q,ns,h1.ext E λp o _ h=>s _ _ h,.own (h Fz am E h5) (h2.ext E (λp o _ h=>s _ _ h) λp o _ h=>s _ _ h) λ_=>rfl,Reps.ext E h3 λp o _ h=>s _ _ h,h4.grow s nn λq=>by show ne q+(n q+nt q)+ns q=_;omega,trivial⟩
theorem Vb {p:Addr}{o:HO}(h:H p=none):Same H (upd H p o):=λb x e=>by
 rw[upd_ne (ne_of_none e h)]
 exact e
def one1 (p:Addr):Fp:=λq=>if q=p then 1 else 0
theorem newp1 {p:Addr}{o:HO}(h:H p=none)(k:OwnK o):Newp H (upd H p o) (one1 p):=λq hq=>by
 unfold one1 at hq ⊢
 by_cases e:q=p
 ·subst e
  exact⟨if_pos rfl,h,o,upd_same,k⟩
 ·rw[if_neg e] at hq
  omega
theorem rep_lst {Fz:Addr->Prop}{am:List Addr}{p:Addr}{vs:List V}{ds:List D}(E:Ext Fz am H Fz am (upd H p (.lst vs)))(h:Reps G Fz am H (zs ds.length) vs ds (λ_=>0)):Rep G Fz am (upd H p (.lst vs)) (.c .z) (.ref p) (.con .lst ds) (one1 p):=
 .cc ⟨⟨by decide,by decide⟩,_,upd_same,rfl⟩ (Reps.ext E h λq o hq=>absurd hq (Nat.lt_irrefl 0)) λq=>by unfold one1;simp
theorem rep_tup {Fz:Addr->Prop}{am:List Addr}{p:Addr}{vs:List V}{ds:List D}(E:Ext Fz am H Fz am (upd H p (.tup vs)))(h:Reps G Fz am H (zs ds.length) vs ds (λ_=>0)):Rep G Fz am (upd H p (.tup vs)) .z (.ref p) (.con .tup ds) (λ_=>0):=
 .zz (k:=.tup) (SqT.of upd_same) (Reps.ext E h λq o hq=>absurd hq (Nat.lt_irrefl 0)) λ_=>rfl
end
@[simp] def dTup (as:DenL):Den:=λenv st=>match as env st with
 | .ok ts st1=>bif keeps ts&&ts.length.ble 1000 then .ok .z false (.con .tup (ts.map λt=>t.2.2)) st1 else .stuck
 | .exc c ds st1=>.exc c ds st1
 | .stuck=>.stuck
@[simp] def dLst (as:DenL):Den:=λenv st=>match as env st with
 | .ok ts st1=>bif keeps ts&&ts.length.ble 1000 then .ok (.c .z) false (.con .lst (ts.map λt=>t.2.2)) st1 else .stuck
 | .exc c ds st1=>.exc c ds st1
 | .stuck=>.stuck
theorem ZaW {n:Nat}(h:n.ble 1000=true):n<=sizeLine:=Nat.le_trans (Nat.le_of_ble_eq_true h) (by decide)
section
variable {S:Sx}{e a b:Expr}{es:List Expr}{da db:Den}{das:DenL}{pos:Pos}
theorem Wa {x1}(ha:DA S es das):DE S (.Tuple es x1 pos) (dTup das):=λW=>by
 obtain⟨t,p,q⟩:=ha W
 refine⟨_,λX hX tk=>pe_tup (p X hX tk),λg env st T σ H Q hT R h=>q g env st T σ H _ hT R ?_⟩
 unfold dTup at h
 cases e:das env st with
 | stuck=>rw[e] at h;exact h.elim
 | exc c ds st1=>rw[e] at h;exact h
 | ok ts st1=>
  rw[e] at h
  obtain⟨hc,h⟩:=bifT h id
  rw[Bool.and_eq_true] at hc
  intro vs H1 hl R1
  refine⟨by rw[hl];exact ZaW hc.2,λpA hp=>h _ _ ?_⟩
  exact RlB.new (R1.frzL hl hc.1) (Vb hp) Va λFz am E k=>rep_tup E (by simpa using k)
theorem VF (ha:DA S es das):DE S (.List es pos) (dLst das):=λW=>by
 obtain⟨t,p,q⟩:=ha W
 refine⟨_,λX hX tk=>pe_lst (p X hX tk),λg env st T σ H Q hT R h=>q g env st T σ H _ hT R ?_⟩
 unfold dLst at h
 cases e:das env st with
 | stuck=>rw[e] at h;exact h.elim
 | exc c ds st1=>rw[e] at h;exact h
 | ok ts st1=>
  rw[e] at h
  obtain⟨hc,h⟩:=bifT h id
  rw[Bool.and_eq_true] at hc
  intro vs H1 hl R1
  refine⟨by rw[hl];exact ZaW hc.2,λpA hp=>h _ _ ?_⟩
  exact RlB.new (R1.frzL hl hc.1) (Vb hp) (newp1 hp trivial) λFz am E k=>rep_lst E (by simpa using k)
end
section
variable {G:Sg}{g:Gd}{env:Env}{st st':Zd}{T T':List Tm}{σ:St}{H H':Hp}{B B':(Addr->Prop)->List Addr->Prop}
theorem Rel0.base {Fz:Addr->Prop}{am:List Addr}{na ne nt ns:Fp}(h:Rel0 G g Fz am H λp=>na p+(ne p+nt p+ns p)):Rel0 G ⟨H,λp=>0<na p+ns p,Fz,am⟩ Fz am H (λp=>na p+ns p) where
 n1:=λp=>by have:=h.n1 p;omega
 nz:=λp hp=>h.nz p (by omega)
 th:=λp hp=>h.th p (by omega)
 zt:=h.zt
 k:=λp o _ e _=>.inl e
 f:=λp hp=>.inl hp
 z0:=λ_ z=>z
 z1:=λ_ z=>.inl z
 a:=λ_ _ z=>z
 tb:=h.tb
 hm:=h.home λq=>by omega
 kt:=λp o t e _=>⟨o,e,t⟩
theorem after {Fz:Addr->Prop}{am:List Addr}{na ne nt ns:Fp}(h0:Rel0 G g Fz am H λp=>na p+(ne p+nt p+ns p))(hE:EnvR G Fz am H env σ ne)(hT:TmR G Fz am H ne T nt){T1:List Tm}
  (R:RlB G ⟨H,λp=>0<na p+ns p,Fz,am⟩ [] st' T1 [] H' B):∃ Fz' am' nt' ns',B Fz' am' ∧ EnvR G Fz' am' H' env σ ne∧TmR G Fz' am' H' ne T nt∧TmR G Fz' am' H' (λ_=>0) T1 nt' ∧ StoR G Fz' am' H' st' ns' ∧ Rel0 G g Fz' am' H' λp=>nt' p+(ne p+nt p+ns' p):=by
 obtain⟨Fz',am',ne',nt',ns',k1,k2,k3,k4,k5⟩:=R
 have hne':∀ q,ne' q=0:=by cases k1 with | nil h=>exact h
 have notA:∀ p,0<ne p+nt p->¬ 0<na p+ns p:=λp hp z=>by have:=h0.n1 p;omega
 have own:∀ p o,0<ne p+nt p->H p=some o->H' p=some o:=λp o hp e=>by
  obtain⟨o1,e1,ow⟩:=h0.th p (by show 0<na p+(ne p+nt p+ns p);omega)
  rw[e] at e1;cases e1
  exact (k4.k p o ow.nt e (notA p hp)).nf λz=>h0.nz p (by show 0<na p+(ne p+nt p+ns p);omega) z
 have E:Ext Fz am H Fz' am' H':=⟨k4.z0,λi p e=>k4.a i p e,λp u z r=>by
   have na':¬ 0<na p+ns p:=λq=>h0.nz p (by show 0<na p+(ne p+nt p+ns p);omega) z
   obtain⟨o1,e1,nt1⟩:=h0.zt p z
   exact r.elim (λe=>by rw[e] at e1;cases e1;exact (k4.k _ _ (pl_nt nt1) e na').rd) λ⟨o,e⟩=>.inr ⟨o,(k4.k _ _ rfl e na').nd rfl⟩,λp u z e nd=>by
   have na':¬ 0<na p+ns p:=λq=>h0.nz p (by show 0<na p+(ne p+nt p+ns p);omega) z
   obtain⟨o1,e1,nt1⟩:=h0.zt p z
   rw[e] at e1;cases e1
   exact (k4.k _ _ (pl_nt nt1) e na').nd (dk_dct nd),λp xs r=>by
   have na':¬ 0<na p+ns p:=λq=>by
    obtain⟨o,e,ok⟩:=h0.th p (by show 0<na p+(ne p+nt p+ns p);omega)
    rcases r with r | ⟨_,r⟩
    ·rw[r] at e;cases e;exact ok
    ·rw[r] at e;cases e;exact ok
   exact r.imp (λe=>(k4.k _ _ rfl e na').nd rfl) λ⟨o,e⟩=>⟨o,(k4.k _ _ rfl e na').nd rfl⟩⟩
 refine⟨Fz',am',nt',ns',k5,hE.ext E λp o hp e=>own p o (by omega) e,hT.ext E (λp o hp e=>own p o (by omega) e) λp o hp e=>own p o (by omega) e,?_,k3,?_⟩
 ·have e0:ne'=λ_=>0:=funext hne'
  rw[<- e0]
  exact k2
 ·have there:∀ p,0<ne p+nt p->∃ o,H p=some o∧OwnK o:=λp hp=>h0.th p (by show 0<na p+(ne p+nt p+ns p);omega)
  have disj:∀ p,0<ne p+nt p->nt' p+ns' p=0:=λp hp=>by
   rcases Nat.eq_zero_or_pos (nt' p+ns' p) with z | z
   ·exact z
   ·rcases k4.f p (by show 0<ne' p+nt' p+ns' p;omega) with q | q
    ·exact absurd q (notA p hp)
    ·obtain⟨o,e,_⟩:=there p hp
     rw[show H p=none from q] at e;cases e
  refine⟨λp=>?_,λp hp z=>?_,λp hp=>?_,k4.zt,λp o nt e na'=>?_,λp hp=>?_,λp z=>k4.z0 p (h0.z0 p z),λp z=>?_,λi p e=>k4.a i p (h0.a i p e),k4.tb,h0.hm,λp o t e na'=>?_⟩
  ·show nt' p+(ne p+nt p+ns' p)<=1
   by_cases q:0<ne p+nt p
   ·have:=disj p q
    have:=h0.n1 p
    omega
   ·have:=k4.n1 p
    omega
  ·by_cases q:0<ne p+nt p
   ·rcases k4.z1 p z with y | y | y
    ·exact h0.nz p (by show 0<na p+(ne p+nt p+ns p);omega) y
    ·exact notA p q y
    ·obtain⟨o,e,_⟩:=there p q
     rw[show H p=none from y] at e;cases e
   ·exact k4.nz p (by omega) z
  ·by_cases q:0<ne p+nt p
   ·obtain⟨o,e,ok⟩:=there p q
    exact⟨o,own p o q e,ok⟩
   ·exact k4.th p (by omega)
  ·have nA:¬ (0<na p+ns p):=λq=>by
    rcases h0.f p (by have q:0<na p+ns p:=q;show 0<na p+(ne p+_+ns p);omega) with y | y
    ·exact na' y
    ·rw[y] at e;cases e
   ·rcases h0.k p o nt e na' with e1 | ⟨f1,d1,ob,e1⟩
    ·rcases k4.k p o nt e1 nA with e2 | ⟨f2,d2,ob,e2⟩
     ·exact .inl e2
     ·refine .inr ⟨?_,d2,ob,e2⟩
      rcases h0.z1 p f2 with y | y | y
      ·exact y
      ·exact absurd y na'
      ·rw[y] at e;cases e
    ·exact .inr ⟨f1,d1,ob,(k4.k p _ rfl e1 nA).nd rfl⟩
  ·by_cases q:0<ne p+nt p
   ·exact h0.f p (by show 0<na p+(ne p+nt p+ns p);omega)
   ·rcases k4.f p (by omega) with y | y
    ·exact h0.f p (by have y:0<na p+ns p:=y;show 0<na p+(ne p+nt p+ns p);omega)
    ·exact h0.new y
  ·rcases k4.z1 p z with y | y | y
   ·exact h0.z1 p y
   ·exact .inr (h0.f p (by have y:0<na p+ns p:=y;show 0<na p+(ne p+nt p+ns p);omega))
   ·exact .inr (h0.new y)
  ·obtain⟨o1,e1,t1⟩:=h0.kt p o t e na'
   refine k4.kt p o1 t1 e1 λq=>?_
   obtain⟨o2,e2,ow⟩:=h0.th p (by have q:0<na p+ns p:=q;show 0<na p+(ne p+_+ns p);omega)
   rw[e1] at e2;cases e2
   rw[ow.nt] at t1;cases t1
end
section
variable {G:Sg}{g:Gd}{env:Env}{st st':Zd}{T T':List Tm}{σ:St}{H H':Hp}{B B':(Addr->Prop)->List Addr->Prop}
theorem TmR.up {Fz:Addr->Prop}{am:List Addr}{ne ne' nt:Fp}(r:TmR G Fz am H ne T nt)(h:∀ q,ne q<=ne' q):TmR G Fz am H ne' T nt:=by
 induction r with
 | nil h=>exact .nil h
 | own h1 h2 h3 ih=>exact .own h1 ih h3
 | bor h1 h2 h3 ih=>exact .bor h1 (λq=>Nat.le_trans (h2 q) (h q)) ih
theorem TmR.app {Fz:Addr->Prop}{am:List Addr}{ne n2:Fp}(r2:TmR G Fz am H ne T n2):∀ {l:List Tm} {n1 n:Fp},TmR G Fz am H ne l n1->(∀ q,n q=n1 q+n2 q)->TmR G Fz am H ne (l++T) n:=by
 intro l n1 n r hn
 induction r generalizing n with
 | nil h=>
  have e:n=n2:=funext λq=>by rw[hn,h];simp
  rw[e]
  exact r2
 | @own f v d T' m1 m2 m h1 h2 h3 ih=>exact .own h1 (ih (n:=λq=>m2 q+n2 q) λq=>rfl) λq=>by rw[hn,h3];omega
 | @bor f v d T' m1 m h1 h2 h3 ih=>exact .bor h1 h2 (ih hn)
theorem join {Fz:Addr->Prop}{am:List Addr}{na ne nt ns:Fp}(h0:Rel0 G g Fz am H λp=>na p+(ne p+nt p+ns p))(hE:EnvR G Fz am H env σ ne)(hT:TmR G Fz am H ne T nt){T1:List Tm}
  (R:RlB G ⟨H,λp=>0<na p+ns p,Fz,am⟩ [] st' T1 [] H' B):RlB G g env st' (T1++T) σ H' B:=by
 obtain⟨Fz',am',nt',ns',h1,h2,h3,h4,h5,h6⟩:=after h0 hE hT R
 exact⟨Fz',am',ne,λq=>nt' q+nt q,ns',h2,TmR.app h3 (h4.up λq=>Nat.zero_le _) λ_=>rfl,h5,h6.less λq=>by show ne q+(nt' q+nt q)+ns' q<=_;omega,h1⟩
theorem Reps.app {Fz:Addr->Prop}{am:List Addr}{fs':List Fr}{vs':List V}{ds':List D}(r2:Reps G Fz am H fs' vs' ds' (λ_=>0)):∀ {fs:List Fr} {vs:List V} {ds:List D} {n:Fp},Reps G Fz am H fs vs ds n->Reps G Fz am H (fs++fs') (vs++vs') (ds++ds') n
 | _,_,_,_,.nil h=>r2.fp λq=>(h q).symm
 | _,_,_,_,.cons h1 h2 h3=>.cons h1 (Reps.app r2 h2) h3
end
structure Good (S:Sx)(x:Str)(n:Nat)(F:Fn)(dd:List D)(k:Nat):Prop where
 ex:∃ f fd ps ds dvs,FnOk S.P S.w S.G.K S.mg S.base (L2.CX S.P S.w) k f fd ps (SpF S.G n F)∧S.mg x=some (.ref f)∧PySem.W.keepIn S.G.K (.ref f)=true∧Binds S.G.K fd ps ds∧Vals dvs ds ∧
  ∀ Fz am H,Reps S.G Fz am H (zs dd.length) dvs dd (λ_=>0)
@[simp] def fin:Res->Res
 | .ok f false d st=>.ok f false d st
 | .ok _ true _ _=>.stuck
 | r=>r
@[simp] def zd (ds:List D):List (Fr × D):=ds.map λd=>(.z,d)
@[simp] def Zu (F:Fn)(dd:List D)(as:DenL):Den:=λenv st=>match as env st with
 | .ok ts st1=>bif keeps ts then fin (F (zd ((ts.map λt=>t.2.2)++dd)) st1) else .stuck
 | .exc c ds st1=>.exc c ds st1
 | .stuck=>.stuck
theorem zd_fst (ds:List D):(zd ds).map (·.1)=zs ds.length:=by
 induction ds with
 | nil=>rfl
 | cons d ds ih=>show Fr.z :: (zd ds).map (·.1)=zs (ds.length+1);rw[ih];rfl
theorem zd_snd (ds:List D):(zd ds).map (·.2)=ds:=by
 induction ds with
 | nil=>rfl
 | cons d ds ih=>show d :: (zd ds).map (·.2)=_;rw[ih]
section
variable {S:Sx}{e a b:Expr}{es:List Expr}{da db:Den}{das:DenL}{pos:Pos}
theorem sp_of {n:Nat}{F:Fn}{g:Gd}{env:Env}{st:Zd}{T:List Tm}{σ:St}{H:Hp}{Q:VK}{W:WX}{vs:List V}{ts:List (Fr × Bool × D)}{dd:List D}{dvs:List V}
  (hd:∀ Fz am H,Reps S.G Fz am H (zs dd.length) dvs dd (λ_=>0)) (hn:ts.length+dd.length=n) (R:Rl S.G g env st (mkT vs ts++T) σ H) (hl:vs.length=ts.length) (hk:keeps ts=true)
  (h:Wz S.G g env T σ W Q (fin (F (zd ((ts.map λt=>t.2.2)++dd)) st))):SpF S.G n F (vs++dvs) H Q (WE W σ):=by
 obtain⟨Fz,am,ne,nt,ns,h1,h2,h3,h4,h5⟩:=Rl.frzL R hl hk
 have hd0:=hd Fz am H
 refine⟨by rw[List.length_append,hl,(hd0.len).2,hn],Fz,am,zd ((ts.map λt=>t.2.2)++dd),st,λ_=>0,ns,?_,h3,?_,?_⟩
 ·rw[zd_fst,zd_snd,List.length_append,List.length_map]
  rw[show zs (ts.length+dd.length)=zs ts.length++zs dd.length by unfold zs;rw[List.replicate_append_replicate]]
  exact Reps.app hd0 h5
 ·exact Rel0.base (g:=g) (ne:=ne) (nt:=nt) (h4.less λq=>by omega)
 ·have h4':Rel0 S.G g Fz am H λp=>(λ_=>0) p+(ne p+nt p+ns p):=h4.less λq=>by show 0+(ne q+nt q+ns q)<=_;omega
  cases e:F (zd ((ts.map λt=>t.2.2)++dd)) st with
  | stuck=>rw[e] at h;exact h.elim
  | exc c ds st1=>
   rw[e] at h
   exact λcls dx H' R1=>h cls dx H' (join (T:=T) h4' h1 h2 R1).notmp
  | ok f b d st1=>
   rw[e] at h
   cases b with
   | true=>exact h.elim
   | false=>exact⟨rfl,λv H' R1=>h v H' (join h4' h1 h2 R1)⟩
theorem Zs {x:Str}{p:Pos}{n k:Nat}{F:Fn}{dd:List D}(hG:Good S x n F dd k)(hk:k<=S.k)(hg:S.sc.names.lookup x=some .globalImplicit)(hdb:(x==("__debug__":Str))=false)(ha:DA S (e :: es) das)(hp:ZD (e :: es)=true)(hn:(e :: es).length+dd.length=n)(hlen:∀ env st ts st1,das env st=.ok ts st1->ts.length=(e :: es).length):
  DE S (.Call (.Name x p) (e :: es) [] pos) (Zu F dd das):=λW=>by
 obtain⟨ta,pa,qa⟩:=ha W
 obtain⟨f,fd,ps,ds,dvs,hF,hm,hkp,hb,hv,hd⟩:=hG.ex
 have h1:=Zv hp
 have hF':∀ X,Stx S X->FnOk X.prog X.w X.K X.mg X.base (L2.CX X.prog X.w) k f fd ps (SpF S.G n F):=λX hX=>by rw[hX.pr,hX.w,hX.mg,hX.base,hX.K];exact hF
 refine⟨_,λX hX tk=>pe_callSD (E:=WE W) (hF' X hX) (hX.room.mono hk) (show X.env.scope.names.lookup x=some .globalImplicit by rw[hX.sc];exact hg) (by rw[hX.mg];exact hm) (by rw[hX.K];exact hkp) (by rw[hX.K];exact hb) hv (λσ=>passAt tk σ) (pa X hX tk) hdb
  (Wo (h1 e List.mem_cons_self)) (noStar λy hy=>h1 y (List.mem_cons_of_mem _ hy)),λg env st T σ H Q hT R h=>qa g env st T σ H _ hT R ?_⟩
 unfold Zu at h
 cases e1:das env st with
 | stuck=>rw[e1] at h;exact h.elim
 | exc c ds st1=>rw[e1] at h;exact h
 | ok ts st1=>
  rw[e1] at h
  obtain⟨hc,h⟩:=bifT h id
  intro vs H1 hl R1
  exact sp_of hd (by rw[hlen env st ts st1 e1];exact hn) R1 hl hc h
theorem ZP {n:Nat}(h:∀ env st ts st1,das env st=.ok ts st1->ts.length=n):∀ env st ts st1,Zb da das env st=.ok ts st1->ts.length=n+1:=λenv st ts st1 e=>by
 unfold Zb at e
 cases e1:da env st with
 | stuck=>rw[e1] at e;cases e
 | exc c ds s=>rw[e1] at e;cases e
 | ok f b d s=>
  rw[e1] at e
  dsimp only at e
  cases hb:(!b||f.isz) with
  | false=>rw[hb] at e;cases e
  | true=>
  rw[hb] at e
  dsimp only[cond_true] at e
  cases e2:das env s with
  | stuck=>rw[e2] at e;cases e
  | exc c ds s=>rw[e2] at e;cases e
  | ok ts' s'=>
   rw[e2] at e
   injection e with e3 e4
   rw[<- e3,List.length_cons,h env s ts' s' e2]
theorem Zl:∀ env st ts st1,Za da env st=.ok ts st1->ts.length=1:=λenv st ts st1 e=>by
 unfold Za at e
 cases e1:da env st with
 | stuck=>rw[e1] at e;cases e
 | exc c ds s=>rw[e1] at e;cases e
 | ok f b d s=>
  rw[e1] at e
  injection e with e3 e4
  rw[<- e3];rfl
end
inductive ResS
 | nx (env:Env) (st:Zd) | rt (f:Fr) (d:D) (st:Zd) | bk (env:Env) (st:Zd) | ct (env:Env) (st:Zd)
 | exc (c:Nat) (ds:List D) (env:Env) (st:Zd) | stuck
abbrev Zi:=Env->Zd->ResS
section
variable (G:Sg)(g:Gd)(T:List Tm)(W:WX)
def UQ (D:Ends):ResS->Prop
 | .nx env st=>∀ σ' H',Rl G g env st T σ' H' -> D.nx σ' H'
 | .rt f d st=>∀ v H',Rl G g [] st [⟨v,f,d,false⟩] [] H' -> D.rt v H'
 | .bk env st=>∀ σ' H',Rl G g env st T σ' H' -> D.bk σ' H'
 | .ct env st=>∀ σ' H',Rl G g env st T σ' H' -> D.ct σ' H'
 | .exc c ds env st=>∀ σ',ExcP G g env σ' W c ds st
 | .stuck=>False
end
def DS (S:Sx)(s:Stmt)(den:Zi):Prop:=∀ W:WX,∃ t:TS,(∀ X,Stx S X->Takes X W->PS X s t) ∧
 ∀ g env st T σ H D,ZL T->Rl S.G g env st T σ H->UQ S.G g T W D (den env st)->t D σ H
def DSs (S:Sx)(s:List Stmt)(den:Zi):Prop:=∀ W:WX,∃ t:TS,(∀ X,Stx S X->Takes X W->PSs X s t) ∧
 ∀ g env st T σ H D,ZL T->Rl S.G g env st T σ H->UQ S.G g T W D (den env st)->t D σ H
section
variable {G:Sg}{g:Gd}{env:Env}{st st':Zd}{T T':List Tm}{σ:St}{H H':Hp}{B B':(Addr->Prop)->List Addr->Prop}
theorem TmR.nb {Fz:Addr->Prop}{am:List Addr}{ne ne' nt:Fp}(r:TmR G Fz am H ne T nt)(h:ZL T):TmR G Fz am H ne' T nt:=by
 induction r with
 | nil h0=>exact .nil h0
 | own h1 h2 h3 ih=>exact .own h1 (ih λa ha=>h a (List.mem_cons_of_mem _ ha)) h3
 | bor h1 h2 h3 ih=>exact absurd (h _ List.mem_cons_self) (by simp)
theorem Rl.ret {v:V}{f:Fr}{b:Bool}{d:D}(R:Rl G g env st (⟨v,f,d,b⟩ :: T) σ H)(hb:(!b||f.isz)=true):Rl G g [] st [⟨v,f,d,false⟩] [] H:=by
 obtain⟨Fz,am,ne,nt,ns,h1,h2,h3,h4,h5⟩:=R
 cases h2 with
 | @own _ _ _ _ n1 n2 _ k1 k2 k3=>exact⟨Fz,am,λ_=>0,n1,ns,.nil λ_=>rfl,.own k1 (.nil (n:=λ_=>0) λ_=>rfl) λq=>by simp,h3,h4.less λq=>by show 0+n1 q+ns q<=_;rw[k3];omega,trivial⟩
 | @bor _ _ _ _ n1 _ k1 k2 k3=>
  have e:f=.z:=Fr.ZaE (by simpa using hb)
  subst e
  exact⟨Fz,am,λ_=>0,n1,ns,.nil λ_=>rfl,.own k1 (.nil (n:=λ_=>0) λ_=>rfl) λq=>by simp,h3,h4.less λq=>by show 0+n1 q+ns q<=_;rw[k1.z0];omega,trivial⟩
theorem Rl.store {v:V}{f:Fr}{b:Bool}{d:D}(R:Rl G g env st (⟨v,f,d,b⟩ :: T) σ H)(hb:(!b||f.isz)=true)(hT:ZL T)(i:Nat):Rl G g (env.set i (some (f,d))) st T (σ.set i (some v)) H:=by
 obtain⟨Fz,am,ne,nt,ns,h1,h2,h3,h4,h5⟩:=R
 cases h2 with
 | @own _ _ _ _ n1 n2 _ k1 k2 k3=>
  obtain⟨n',r1,r2⟩:=EnvR.set k1 h1 i
  exact⟨Fz,am,n',n2,ns,r1,k2.nb hT,h3,h4.less λq=>by rw[k3];have:=r2 q;omega,trivial⟩
 | @bor _ _ _ _ n1 _ k1 k2 k3=>
  have e:f=.z:=Fr.ZaE (by simpa using hb)
  subst e
  obtain⟨n',r1,r2⟩:=EnvR.set k1 h1 i
  exact⟨Fz,am,n',nt,ns,r1,k3.nb hT,h3,h4.less λq=>by have:=r2 q;rw[k1.z0] at this;omega,trivial⟩
theorem Rl.kill (R:Rl G g env st T σ H)(hT:ZL T)(i:Nat):Rl G g (env.set i none) st T σ H:=by
 obtain⟨Fz,am,ne,nt,ns,h1,h2,h3,h4,h5⟩:=R
 obtain⟨n',r1,r2⟩:=h1.kill i σ rfl λj _=>rfl
 exact⟨Fz,am,n',nt,ns,r1,h2.nb hT,h3,h4.less λq=>by have:=r2 q;omega,trivial⟩
def Uj (ks:List Nat)(env:Env):Env:=ks.foldl (λe i=>e.set i none) env
theorem Rl.kills (hT:ZL T):∀ {ks:List Nat} {env:Env},Rl G g env st T σ H->Rl G g (Uj ks env) st T σ H
 | [],_,R=>R
 | k :: ks,env,R=>Rl.kills hT (ks:=ks) (env:=env.set k none) (R.kill hT k)
theorem Rl.frzS {i:Nat}{f:Fr}{d:D}(R:Rl G g env st T σ H)(hT:ZL T)(e:env[i]?=some (some (f,d))):Rl G g (env.set i (some (.z,d))) st T σ H:=by
 obtain⟨Fz,am,ne,nt,ns,h1,h2,h3,h4,h5⟩:=R
 obtain⟨m,n',r1,r2⟩:=h1.frz e
 have E:Ext Fz am H (Fro Fz m) am H:=Ext.shared λp z=>.inl z
 exact⟨Fro Fz m,am,n',nt,ns,r2 _ (λp z=>.inl z) λp z=>.inr z,(h2.nb (ne':=n') hT).ext E (λ_ _ _ h=>h) λ_ _ _ h=>h,Reps.ext E h3 λ_ _ _ h=>h,h4.froz λq=>by rw[r1];omega,trivial⟩
end
@[simp] def Wj:Zi:=λenv st=>.nx env st
@[simp] def dSeq (a b:Zi):Zi:=λenv st=>match a env st with
 | .nx env1 st1=>b env1 st1
 | r=>r
section
variable {S:Sx}{e a b:Expr}{es:List Expr}{da db:Den}{das:DenL}{pos:Pos}{s:Stmt}{ss:List Stmt}{ts tr:Zi}
theorem ZH:DSs S [] Wj:=λW=>⟨_,λX hX tk=>pss_nil,λg env st T σ H D hT R h=>h σ H R⟩
theorem UQ.seq {G:Sg}{g:Gd}{T:List Tm}{W:WX}{D:Ends}{t:TS}{r:ResS}{k:Zi}(h:UQ G g T W D (match r with | .nx env1 st1=>k env1 st1 | r=>r))
  (q:∀ env st σ H,Rl G g env st T σ H->UQ G g T W D (k env st)->t D σ H):UQ G g T W { D with nx:=t D } r:=by
 cases r with
 | nx env1 st1=>exact λσ' H' R=>q env1 st1 σ' H' R h
 | rt f d st1=>exact h
 | bk env1 st1=>exact h
 | ct env1 st1=>exact h
 | exc c ds env1 st1=>exact h
 | stuck=>exact h
theorem Zg (hs:DS S s ts)(hr:DSs S ss tr):DSs S (s :: ss) (dSeq ts tr):=λW=>by
 obtain⟨t,p,q⟩:=hs W
 obtain⟨t2,p2,q2⟩:=hr W
 refine⟨_,λX hX tk=>pss_cons (p X hX tk) (p2 X hX tk),λg env st T σ H D hT R h=>q g env st T σ H _ hT R ?_⟩
 exact UQ.seq h λenv st σ H R h=>q2 g env st T σ H D hT R h
theorem Zm (hs:DS S s ts):DSs S [s] ts:=λW=>by
 obtain⟨t,p,q⟩:=hs W
 exact⟨_,λX hX tk=>pss_one (p X hX tk),q⟩
def dFrz (i:Nat)(k:Zi):Zi:=λenv st=>match env[i]? with
 | some (some (_,d))=>k (env.set i (some (.z,d))) st
 | _=>.stuck
theorem dss_frz {i:Nat}(hr:DSs S ss tr):DSs S ss (dFrz i tr):=λW=>by
 obtain⟨t,p,q⟩:=hr W
 refine⟨t,p,λg env st T σ H D hT R h=>?_⟩
 unfold dFrz at h
 split at h
 ·rename_i f d e
  exact q g _ st T σ H D hT (R.frzS hT e) h
 ·exact h.elim
@[simp] def dRet (a:Den):Zi:=λenv st=>match a env st with
 | .ok f b d st1=>bif !b||f.isz then .rt f d st1 else .stuck
 | .exc c ds st1=>.exc c ds env st1
 | .stuck=>.stuck
@[simp] def ZN (a:Den):Zi:=λenv st=>match a env st with
 | .ok f b d st1=>bif !b||f.isz then .rt .z d st1 else .stuck
 | .exc c ds st1=>.exc c ds env st1
 | .stuck=>.stuck
theorem ds_ret (ha:DE S a da):DS S (.Return (some a) pos) (dRet da):=λW=>by
 obtain⟨t,p,q⟩:=ha W
 refine⟨_,λX hX tk=>ps_ret (p X hX tk),λg env st T σ H D hT R h=>q g env st T σ H _ hT R ?_⟩
 unfold dRet at h
 cases e:da env st with
 | stuck=>rw[e] at h;exact h.elim
 | exc c ds st1=>rw[e] at h;exact h σ
 | ok f b d st1=>
  rw[e] at h
  obtain⟨hc,h⟩:=bifT h id
  exact λv H1 R1=>h v H1 (R1.ret hc)
theorem Zr (ha:DE S a da):DS S (.Return (some a) pos) (ZN da):=λW=>by
 obtain⟨t,p,q⟩:=ha W
 refine⟨_,λX hX tk=>ps_ret (p X hX tk),λg env st T σ H D hT R h=>q g env st T σ H _ hT R ?_⟩
 unfold ZN at h
 cases e:da env st with
 | stuck=>rw[e] at h;exact h.elim
 | exc c ds st1=>rw[e] at h;exact h σ
 | ok f b d st1=>
  rw[e] at h
  obtain⟨hc,h⟩:=bifT h id
  exact λv H1 R1=>h v H1 (R1.ret hc).frz
def notComp:Expr->Bool
 | .ListComp _ _ _ _=>false
 | .SetComp _ _ _ _=>false
 | .DictComp _ _ _ _ _=>false
 | _=>true
theorem swaps_no {e:Expr}{t:Option Expr}{l:Nat}{env:PySem.Env}(h:notComp e=true):swapsWith e t l env=pure false:=by
 cases e<;>first | rfl | cases h
@[simp] def dIfS (c:DenB)(a b:Zi):Zi:=λenv st=>match c env st with
 | .ok true st1=>a env st1
 | .ok false st1=>b env st1
 | .exc c ds st1=>.exc c ds env st1
 | .stuck=>.stuck
theorem Wi {c:Expr}{tc:DenB}{sa sb:List Stmt}{ta tb:Zi}(hc:DT S c tc)(ha:DSs S sa ta)(hb:DSs S sb tb):DS S (.If c sa sb pos) (dIfS tc ta tb):=λW=>by
 obtain⟨t,p,q⟩:=hc W
 obtain⟨t2,p2,q2⟩:=ha W
 obtain⟨t3,p3,q3⟩:=hb W
 refine⟨_,λX hX tk=>ps_if (p X hX tk) (p2 X hX tk) (p3 X hX tk),λg env st T σ H D hT R h=>q g env st T σ H _ hT R ?_⟩
 unfold dIfS at h
 cases e:tc env st with
 | stuck=>rw[e] at h;exact h.elim
 | exc c ds st1=>rw[e] at h;exact h σ
 | ok c st1=>
  rw[e] at h
  intro H1 R1
  cases c with
  | true=>exact iteT (q2 _ _ _ _ _ _ _ hT R1 h)
  | false=>exact iteF (q3 _ _ _ _ _ _ _ hT R1 h)
@[simp] def dSet (i:Nat)(a:Den):Zi:=λenv st=>match a env st with
 | .ok f b d st1=>bif !b||f.isz then .nx (env.set i (some (f,d))) st1 else .stuck
 | .exc c ds st1=>.exc c ds env st1
 | .stuck=>.stuck
@[simp] def ZG (i:Nat)(a:Den):Zi:=λenv st=>match a env st with
 | .ok f b d st1=>bif !b||f.isz then .nx (env.set i (some (.z,d))) st1 else .stuck
 | .exc c ds st1=>.exc c ds env st1
 | .stuck=>.stuck
theorem dset_run {i:Nat}{W:WX}{t:TE}(q:∀ g env st T σ H Q,ZL T->Rl S.G g env st T σ H->Wz S.G g env T σ W Q (da env st)->t σ H Q)
  (g:Gd) (env:Env) (st:Zd) (T:List Tm) (σ:St) (H:Hp) (D:Ends) (hT:ZL T) (R:Rl S.G g env st T σ H) (h:UQ S.G g T W D (dSet i da env st)):tAsg t (gName i) D σ H:=by
 refine q g env st T σ H _ hT R ?_
 unfold dSet at h
 cases e:da env st with
 | stuck=>rw[e] at h;exact h.elim
 | exc c ds st1=>rw[e] at h;exact h σ
 | ok f b d st1=>
  rw[e] at h
  obtain⟨hc,h⟩:=bifT h id
  exact λv H1 R1=>h _ H1 (R1.store hc hT i)
theorem dsetZ_run {i:Nat}{W:WX}{t:TE}(q:∀ g env st T σ H Q,ZL T->Rl S.G g env st T σ H->Wz S.G g env T σ W Q (da env st)->t σ H Q)
  (g:Gd) (env:Env) (st:Zd) (T:List Tm) (σ:St) (H:Hp) (D:Ends) (hT:ZL T) (R:Rl S.G g env st T σ H) (h:UQ S.G g T W D (ZG i da env st)):tAsg t (gName i) D σ H:=by
 refine q g env st T σ H _ hT R ?_
 unfold ZG at h
 cases e:da env st with
 | stuck=>rw[e] at h;exact h.elim
 | exc c ds st1=>rw[e] at h;exact h σ
 | ok f b d st1=>
  rw[e] at h
  obtain⟨hc,h⟩:=bifT h id
  intro v H1 R1
  refine h _ H1 ?_
  cases b with
  | false=>exact Rl.store (b:=false) R1.frz rfl hT i
  | true=>
   have e:f=.z:=Fr.ZaE (by simpa using hc)
   subst e
   exact Rl.store R1 rfl hT i
theorem stx_fn {X:Cx}(hX:Stx S X){x:Str}(hf:S.fnA=true∨S.sc.names.lookup x=some .local):X.fn x=true∨X.env.scope.names.lookup x=some .local:=by
 rcases hf with h | h
 ·exact .inl (hX.fn h x)
 ·rw[hX.sc];exact .inr h
theorem ds_set {i:Nat}{x:Str}{p:Pos}(hN:S.N[i]?=some x)(hx:Loc S.sc x)(hf:S.fnA=true∨S.sc.names.lookup x=some .local)(ha:DE S a da)(hc:notComp a=true):DS S (.Assign [.Name x p] a pos) (dSet i da):=λW=>by
 obtain⟨t,p,q⟩:=ha W
 exact⟨_,λX hX tk=>ps_set hX.nd (by rw[hX.N];exact hN) (by rw[hX.sc];exact hx) (p X hX tk) (swaps_no hc) (stx_fn hX hf),λg env st T σ H D hT R h=>dset_run q g env st T σ H D hT R h⟩
theorem Zw {i:Nat}{x:Str}{p:Pos}(hN:S.N[i]?=some x)(hx:Loc S.sc x)(hf:S.fnA=true∨S.sc.names.lookup x=some .local)(ha:DE S a da)(hc:notComp a=true):DS S (.Assign [.Name x p] a pos) (ZG i da):=λW=>by
 obtain⟨t,p,q⟩:=ha W
 exact⟨_,λX hX tk=>ps_set hX.nd (by rw[hX.N];exact hN) (by rw[hX.sc];exact hx) (p X hX tk) (swaps_no hc) (stx_fn hX hf),λg env st T σ H D hT R h=>dsetZ_run q g env st T σ H D hT R h⟩
end
inductive Pat
 | nm (i:Nat) | tp (ps:List Pat)
@[simp] def kidsP:Fr->D->Option (List Fr × List D)
 | .z,.con .tup ds=>some (zs ds.length,ds)
 | .t fs,.con .tup ds=>some (fs,ds)
 | .z,.con .lst ds=>some (zs ds.length,ds)
 | .c f,.con .lst ds=>some (List.replicate ds.length f,ds)
 | _,_=>none
mutual
@[simp] def ZX:Pat->Fr->D->Env->Option Env
 | .nm i,f,d,env=>some (env.set i (some (f,d)))
 | .tp ps,f,d,env=>match kidsP f d with
  | some (fs,ds)=>ZS ps fs ds env
  | none=>none
@[simp] def ZS:List Pat->List Fr->List D->Env->Option Env
 | [],[],[],env=>some env
 | p :: ps,f :: fs,d :: ds,env=>(ZX p f d env).bind λenv1=>ZS ps fs ds env1
 | _,_,_,_=>none
end
mutual
def Pat.slots:Pat->List Nat
 | .nm i=>[i]
 | .tp ps=>Pat.slotsL ps
def Pat.slotsL:List Pat->List Nat
 | []=>[]
 | p :: ps=>p.slots++Pat.slotsL ps
end
def Dif (l:List Nat)(σ σ':St):Prop:=σ'.length=σ.length∧∀ j,j ∉ l->σ'[j]?=σ[j]?
def DG (S:Sx)(tg:Expr)(p:Pat):Prop:=∃ t:TG,(∀ X,Stx S X->PG X tg t) ∧
 ∀ g env st T σ H v f d env' Q,ZL T->Rl S.G g env st (⟨v,f,d,false⟩ :: T) σ H->ZX p f d env=some env' -> (∀ σ' H',Dif p.slots σ σ' -> Rl S.G g env' st T σ' H' -> Q σ' H')->t v σ H Q
def mkF:List V->List Fr->List D->List Tm
 | v :: vs,f :: fs,d :: ds=>⟨v,f,d,false⟩ :: mkF vs fs ds
 | _,_,_=>[]
def DGs (S:Sx)(tgs:List Expr)(ps:List Pat):Prop:=∃ t:TGs,(∀ X,Stx S X->PGs X tgs t) ∧
 ∀ g env st T σ H vs fs ds env' Q,ZL T->vs.length=ds.length->Rl S.G g env st (mkF vs fs ds++T) σ H->ZS ps fs ds env=some env' -> (∀ σ' H',Dif (Pat.slotsL ps) σ σ' -> Rl S.G g env' st T σ' H' -> Q σ' H')->t vs σ H Q
theorem mkF_nb:∀ {vs:List V} {fs:List Fr} {ds:List D},ZL (mkF vs fs ds)
 | v :: vs,f :: fs,d :: ds=>λa ha=>by
  rcases List.mem_cons.mp (show a∈⟨v,f,d,false⟩ :: mkF vs fs ds from ha) with e | e
  ·rw[e]
  ·exact mkF_nb a e
 | [],_,_=>λa ha=>by cases ha
 | _ :: _,[],_=>λa ha=>by cases ha
 | _ :: _,_ :: _,[]=>λa ha=>by cases ha
theorem nb_app {T T':List Tm}(h:ZL T)(h':ZL T'):ZL (T++T'):=λa ha=>(List.mem_append.mp ha).elim (h a) (h' a)
section
variable {S:Sx}
theorem Dif.refl {l:List Nat}{σ:St}:Dif l σ σ:=⟨rfl,λ_ _=>rfl⟩
theorem Dif.app {l l':List Nat}{σ σ1 σ2:St}(h:Dif l σ σ1)(h':Dif l' σ1 σ2):Dif (l++l') σ σ2:=⟨h'.1.trans h.1,λj hj=>by
 rw[List.mem_append,not_or] at hj
 rw[h'.2 j hj.2,h.2 j hj.1]⟩
theorem Wy {i:Nat}{x:Str}{p:Pos}(hN:S.N[i]?=some x)(hx:Loc S.sc x)(hf:S.fnA=true∨S.sc.names.lookup x=some .local):DG S (.Name x p) (.nm i):=
 ⟨_,λX hX=>pg_name hX.nd (by rw[hX.N];exact hN) (by rw[hX.sc];exact hx) (stx_fn hX hf),λg env st T σ H v f d env' Q hT R e h=>by
  cases e
  exact h _ H ⟨by simp,λj hj=>List.getElem?_set_ne λz=>hj (by rw[<- z];exact List.mem_singleton.mpr rfl)⟩ (R.store rfl hT i)⟩
theorem dgs_nil:DGs S [] []:=⟨_,λX hX=>pgs_nil,λg env st T σ H vs fs ds env' Q hT hl R e h=>by
 cases ds with
 | cons d ds=>cases fs<;>simp[ZS] at e
 | nil=>
  have:vs=[]:=List.length_eq_zero_iff.mp hl
  subst this
  cases fs with
  | cons f fs=>simp[ZS] at e
  | nil=>
   simp[ZS] at e
   subst e
   exact⟨rfl,h σ H Dif.refl R⟩⟩
theorem assignNo {tg:Expr}{tgs:List Expr}{env:PySem.Env}(h:∀ x p,tg ≠ .Starred x p):assignEach (tg :: tgs) env=(false,assign tg env) :: assignEach tgs env:=by
 cases tg<;>first | rfl | exact absurd rfl (h _ _)
theorem Zbl {env:PySem.Env}:∀ {tgs:List Expr},(∀ e∈tgs,∀ x p,e ≠ .Starred x p)->(assignEach tgs env).length=tgs.length∧(assignEach tgs env).findIdx? (·.1)=none
 | [],_=>⟨rfl,rfl⟩
 | tg :: tgs,h=>by
  obtain⟨h1,h2⟩:=Zbl (env:=env) (tgs:=tgs) λe he=>h e (List.mem_cons_of_mem _ he)
  rw[assignNo (h tg List.mem_cons_self)]
  refine⟨by rw[List.length_cons,List.length_cons,h1],?_⟩
  rw[List.findIdx?_cons,h2]
  rfl
theorem VQ {tg:Expr}{tgs:List Expr}{p:Pat}{ps:List Pat}(h1:DG S tg p)(h2:DGs S tgs ps)(hs:∀ x q,tg ≠ .Starred x q):DGs S (tg :: tgs) (p :: ps):=by
 obtain⟨t,pt,q⟩:=h1
 obtain⟨t2,pt2,q2⟩:=h2
 refine⟨_,λX hX=>pgs_cons (pt X hX) (pt2 X hX) (by rw[assignNo hs];rfl),λg env st T σ H vs fs ds env' Q hT hl R e h=>?_⟩
 cases fs with
 | nil=>cases ds<;>simp[ZS] at e
 | cons f fs=>
  cases ds with
  | nil=>simp[ZS] at e
  | cons d ds=>
   cases vs with
   | nil=>simp at hl
   | cons v vs=>
    rw[ZS] at e
    obtain⟨env1,e1,e2⟩:=Option.bind_eq_some_iff.mp e
    refine⟨v,vs,rfl,q g env st (mkF vs fs ds++T) σ H v f d env1 _ (nb_app mkF_nb hT) R e1 λσ' H' D' R'=>?_⟩
    exact q2 g env1 st T σ' H' vs fs ds env' Q hT (by simpa using hl) R' e2 λσ2 H2 D2 R2=>h σ2 H2 (D'.app D2) R2
theorem VS {G:Sg}{Fz:Addr->Prop}{am:List Addr}{H:Hp}{ne n2:Fp}{T:List Tm}(h:TmR G Fz am H ne T n2):∀ {fs:List Fr} {vs:List V} {ds:List D} {n1 n:Fp},Reps G Fz am H fs vs ds n1->(∀ q,n q=n1 q+n2 q)->TmR G Fz am H ne (mkF vs fs ds++T) n
 | _,_,_,n1,n,.nil h0,hn=>by
  have e:n=n2:=funext λq=>by rw[hn,h0];simp
  rw[e];exact h
 | _,_,_,n1,n,.cons (n2:=m2) h1 h2 h3,hn=>.own h1 (VS h h2 (n:=λq=>m2 q+n2 q) λ_=>rfl) λq=>by rw[hn,h3];omega
theorem Rl.open {G:Sg}{g:Gd}{env:Env}{st:Zd}{T:List Tm}{σ:St}{H:Hp}{v:V}{f:Fr}{ds:List D}(R:Rl G g env st (⟨v,f,.con .tup ds,false⟩ :: T) σ H):
  ∃ a vs fs,v=.ref a∧SqT G.K H a vs∧vs.length=ds.length∧((f=.z∧fs=zs ds.length)∨f=.t fs)∧Rl G g env st (mkF vs fs ds++T) σ H:=by
 obtain⟨Fz,am,ne,nt,ns,h1,h2,h3,h4,h5⟩:=R
 cases h2 with
 | @own _ _ _ _ n1 n2 _ k1 k2 k3=>
  cases k1 with
  | sc h _=>cases v<;>exact h.elim
  | @zz p k vs _ n a1 a2 a3=>exact⟨p,vs,zs ds.length,rfl,a1,a2.len.2,.inl ⟨rfl,rfl⟩,Fz,am,ne,nt,ns,h1,VS k2 a2 k3,h3,h4,trivial⟩
  | @tp p vs _ fs n a1 a2=>exact⟨p,vs,fs,rfl,a1,a2.len.2,.inr rfl,Fz,am,ne,nt,ns,h1,VS k2 a2 k3,h3,h4,trivial⟩
  | cc a1 _ _=>exact absurd rfl a1.1.1
theorem Rl.openL {G:Sg}{g:Gd}{env:Env}{st:Zd}{T:List Tm}{σ:St}{H:Hp}{v:V}{f:Fr}{ds:List D}(R:Rl G g env st (⟨v,f,.con .lst ds,false⟩ :: T) σ H):
  ∃ a vs f0,v=.ref a∧SqL G.K H a vs∧vs.length=ds.length∧((f=.z∧f0=.z)∨f=.c f0)∧Rl G g env st (mkF vs (List.replicate ds.length f0) ds++T) σ H:=by
 obtain⟨Fz,am,ne,nt,ns,h1,h2,h3,h4,h5⟩:=R
 cases h2 with
 | @own _ _ _ _ n1 n2 _ k1 k2 k3=>
  cases k1 with
  | sc h _=>cases v<;>exact h.elim
  | @zz p k vs _ n a1 a2 a3=>
   obtain⟨_,o,b1,b2⟩:=a1
   subst b2
   exact⟨p,vs,.z,rfl,SqL.of b1,a2.len.2,.inl ⟨rfl,rfl⟩,Fz,am,ne,nt,ns,h1,VS k2 a2 k3,h3,h4,trivial⟩
  | @cc p k vs _ f0 n m a1 a2 a3=>
   obtain⟨_,o,b1,b2⟩:=a1
   subst b2
   exact⟨p,vs,f0,rfl,SqL.of b1,a2.len.2,.inr rfl,Fz,am,ne,λq=>m q+n2 q,ns,h1,VS k2 a2 λ_=>rfl,h3,h4.less λq=>by show ne q+(m q+n2 q)+ns q<=_;rw[k3,a3];omega,trivial⟩
theorem PG.or {X:Cx}{tg:Expr}{t t':TG}(h:PG X tg t)(h':PG X tg t'):PG X tg λv σ H Q=>t v σ H Q∨t' v σ H Q:=
 ⟨λpins s σ H v u Q I r hw=>hw.elim (h.run pins s σ H v u Q I r) (h'.run pins s σ H v u Q I r)⟩
theorem Zbw:∀ {ps:List Pat} {fs:List Fr} {ds:List D} {env env':Env},ZS ps fs ds env=some env' -> ps.length=ds.length
 | [],[],[],_,_,_=>rfl
 | p :: ps,f :: fs,d :: ds,env,env',h=>by
  rw[ZS] at h
  obtain⟨env1,_,e2⟩:=Option.bind_eq_some_iff.mp h
  rw[List.length_cons,List.length_cons,Zbw e2]
 | [],[],_ :: _,_,_,h=>by simp[ZS] at h
 | [],_ :: _,_,_,_,h=>by simp[ZS] at h
 | _ :: _,[],_,_,_,h=>by simp[ZS] at h
 | _ :: _,_ :: _,[],_,_,h=>by simp[ZS] at h
theorem dg_tup {es:List Expr}{k:Nat}{p:Pos}{ps:List Pat}(h:DGs S es ps)(hp:ZD es=true)(hl:es.length=ps.length):DG S (.Tuple es k p) (.tp ps):=by
 obtain⟨t,pt,q⟩:=h
 have aa:=λenv=>Zbl (env:=env) (Zv hp)
 refine⟨λv σ H Q=>gTup S.G.K es.length t v σ H Q∨gUnl S.G.K es.length t v σ H Q,λX hX=>by rw[<- hX.K];exact PG.or (pg_tup hX.calm (pt X hX) (aa X.env).1 (aa X.env).2) (pg_unl hX.calm (pt X hX) (aa X.env).1 (aa X.env).2),λg env st T σ H v f d env' Q hT R e hq=>?_⟩
 cases d with
 | con kd ds=>
  cases kd with
  | tup=>
   obtain⟨a,vs,fs,e1,e2,e3,e4,R1⟩:=R.open
   have eb:ZS ps fs ds env=some env':=by
    rcases e4 with ⟨rfl,rfl⟩ | rfl<;>simpa [ZX,kidsP] using e
   exact .inl ⟨a,vs,e1,e2,by rw[e3,hl,Zbw eb],q g env st T σ H vs fs ds env' Q hT e3 R1 eb hq⟩
  | lst=>
   obtain⟨a,vs,f0,e1,e2,e3,e4,R1⟩:=R.openL
   have eb:ZS ps (List.replicate ds.length f0) ds env=some env':=by
    rcases e4 with ⟨rfl,rfl⟩ | rfl<;>simpa [ZX,kidsP,zs] using e
   exact .inr ⟨a,vs,e1,e2,by rw[e3,hl,Zbw eb],q g env st T σ H vs _ ds env' Q hT e3 R1 eb hq⟩
  | _=>cases f<;>simp[ZX,kidsP] at e
 | _=>cases f<;>simp[ZX,kidsP] at e
@[simp] def dUnp (p:Pat)(a:Den):Zi:=λenv st=>match a env st with
 | .ok f b d st1=>bif !b||f.isz then (match ZX p f d env with
  | some env1=>.nx env1 st1
  | none=>.stuck) else .stuck
 | .exc c ds st1=>.exc c ds env st1
 | .stuck=>.stuck
def noSwap:Expr->Bool
 | .Tuple _ _ _=>false
 | _=>true
theorem noSwap_ok {ts:List Expr}{e:Expr}{env:PySem.Env}(h:noSwap e=true):swappedStores ts e env=pure none:=by
 unfold swappedStores
 cases e<;>first | exact Bool.noConfusion h | (cases ts with
  | nil=>rfl
  | cons t ts=>cases ts<;>cases t<;>rfl)
end
inductive ResI
 | ok (items:List D) (st:Zd) | exc (c:Nat) (ds:List D) (st:Zd) | stuck
abbrev DenI:=Env->Zd->ResI
structure ItOk (G:Sg)(g:Gd)(J:It)(keep:List Tm)(items:List D):Prop where
 nb:ZL keep
 go:∀ i env st T σ H,Rl G g env st (keep++T) σ H->i<items.length->J.go i H
 yld:∀ i env st T σ H x H' d,Rl G g env st (keep++T) σ H->J.yld i H x H' -> items[i]?=some d->Rl G g env st (⟨x,.z,d,false⟩ :: (keep++T)) σ H'
 stop:∀ i env st T σ H,Rl G g env st (keep++T) σ H->i=items.length->J.stop i H
def Gle (G:Sg)(g' g:Gd):Prop:=∀ Fz am H tot,Rel0 G g' Fz am H tot->Rel0 G g Fz am H tot
theorem Gle.refl {G:Sg}{g:Gd}:Gle G g g:=λ_ _ _ _ h=>h
theorem RlB.back {G:Sg}{g g':Gd}{env:Env}{st:Zd}{T:List Tm}{σ:St}{H:Hp}{B:(Addr->Prop)->List Addr->Prop}(b:Gle G g' g)(R:RlB G g' env st T σ H B):RlB G g env st T σ H B:=by
 obtain⟨Fz,am,ne,nt,ns,h1,h2,h3,h4,h5⟩:=R
 exact⟨Fz,am,ne,nt,ns,h1,h2,h3,b _ _ _ _ h4,h5⟩
def PostI (G:Sg)(g:Gd)(env:Env)(T:List Tm)(σ:St)(W:WX)(R:It->Hp->Prop):ResI->Prop
 | .ok items st=>∀ J H' keep g',Gle G g' g->ItOk G g' J keep items->Rl G g' env st (keep++T) σ H' -> R J H'
 | .exc c ds st=>ExcP G g env σ W c ds st
 | .stuck=>False
def DI (S:Sx)(tg it:Expr)(den:DenI):Prop:=∀ W:WX,∃ wi:TI,(∀ X,Stx S X->Takes X W->PI X tg it wi) ∧
 ∀ g env st T σ H R,ZL T->Rl S.G g env st T σ H->PostI S.G g env T σ W R (den env st)->wi σ H R
theorem PI.or {X:Cx}{tg e:Expr}{w1 w2:TI}(h1:PI X tg e w1)(h2:PI X tg e w2):PI X tg e λσ H R=>w1 σ H R∨w2 σ H R:=
 ⟨λpins s σ H R I h=>h.elim (h1.run pins s σ H R I) (h2.run pins s σ H R I)⟩
theorem UU {G:Sg}{Fz:Addr->Prop}{am:List Addr}{H:Hp}:∀ {k:Nat} {vs:List V} {ds:List D} {n:Fp} {i:Nat} {v:V} {d:D},Reps G Fz am H (zs k) vs ds n->vs[i]?=some v->ds[i]?=some d->Rep G Fz am H .z v d (λ_=>0)
 | 0,_,_,_,i,v,d,r,e1,e2=>by
  cases r with
  | nil h=>simp at e2
 | k+1,_,_,_,i,v,d,r,e1,e2=>by
  have e:zs (k+1)=.z :: zs k:=List.replicate_succ
  rw[e] at r
  cases r with
  | cons h1 h2 h3=>
   cases i with
   | zero=>
    simp at e1 e2
    subst e1 e2
    exact h1.fp h1.z0
   | succ i=>exact UU (i:=i) h2 (by simpa using e1) (by simpa using e2)
section
variable {G:Sg}{g:Gd}{env:Env}{st st':Zd}{T T':List Tm}{σ:St}{H H':Hp}
theorem Rl.pz {v:V}{d:D}(R:Rl G g env st T σ H)(h:∀ Fz am ne nt,EnvR G Fz am H env σ ne->TmR G Fz am H ne T nt->Rep G Fz am H .z v d (λ_=>0)):Rl G g env st (⟨v,.z,d,false⟩ :: T) σ H:=by
 obtain⟨Fz,am,ne,nt,ns,h1,h2,h3,h4,h5⟩:=R
 exact⟨Fz,am,ne,nt,ns,h1,.own (h Fz am ne nt h1 h2) h2 (n1:=λ_=>0) λq=>by simp,h3,h4,trivial⟩
theorem lst_at {a:Addr}{ds:List D}(R:Rl G g env st (⟨.ref a,.z,.con .lst ds,false⟩ :: T) σ H):∃ vs,H a=some (.lst vs)∧vs.length=ds.length:=by
 obtain⟨Fz,am,ne,nt,ns,h1,h2,h3,h4,h5⟩:=R
 cases h2 with
 | own k1 k2 k3=>
  cases k1 with
  | sc h _=>exact h.elim
  | zz a1 a2 a3=>
   obtain⟨_,o,b1,b2⟩:=a1
   subst b2
   exact⟨_,b1,a2.len.2⟩
theorem lst_item {a:Addr}{ds:List D}{vs:List V}{i:Nat}{x:V}{d:D}(R:Rl G g env st (⟨.ref a,.z,.con .lst ds,false⟩ :: T) σ H)(ha:H a=some (.lst vs))(e1:vs[i]?=some x)(e2:ds[i]?=some d):Rl G g env st (⟨x,.z,d,false⟩ :: (⟨.ref a,.z,.con .lst ds,false⟩ :: T)) σ H:=
 R.pz λFz am ne nt _ h2=>by
  cases h2 with
  | own k1 k2 k3=>
   cases k1 with
   | sc h _=>exact h.elim
   | zz a1 a2 a3=>
    obtain⟨_,o,b1,b2⟩:=a1
    subst b2
    have b1:H a=some (.lst _):=b1
    rw[ha] at b1
    cases b1
    exact UU a2 e1 e2
theorem it_list {a:Addr}{ds:List D}:ItOk G g (Itl G.K a) [⟨.ref a,.z,.con .lst ds,false⟩] ds where
 nb:=λx hx=>by rw[List.mem_singleton.mp hx]
 go:=λi env st T σ H R hi=>by
  obtain⟨vs,e1,e2⟩:=lst_at R
  exact⟨_,_,SqL.of e1,List.getElem?_eq_getElem (by rw[e2];exact hi)⟩
 yld:=λi env st T σ H x H' d R y e=>by
  obtain⟨rfl,y⟩:=y
  obtain⟨vs,e1,e2⟩:=lst_at R
  exact lst_item R e1 (y _ (SqL.of e1)) e
 stop:=λi env st T σ H R he=>by
  have hi:=Nat.le_of_eq he.symm
  obtain⟨vs,e1,e2⟩:=lst_at R
  exact⟨_,SqL.of e1,by rw[e2];exact hi⟩
theorem tup_at {a:Addr}{ds:List D}(R:Rl G g env st (⟨.ref a,.z,.con .tup ds,false⟩ :: T) σ H):∃ vs,SqT G.K H a vs∧vs.length=ds.length∧∀ (i:Nat) (x:V) (d:D),vs[i]?=some x->ds[i]?=some d->Rl G g env st (⟨x,.z,d,false⟩ :: (⟨.ref a,.z,.con .tup ds,false⟩ :: T)) σ H:=by
 obtain⟨Fz,am,ne,nt,ns,h1,h2,h3,h4,h5⟩:=R
 cases id h2 with
 | own k1 k2 k3=>
  cases k1 with
  | sc h _=>exact h.elim
  | @zz _ _ vs _ _ a1 a2 a3=>
   exact⟨vs,a1,a2.len.2,λi x d e1 e2=>⟨Fz,am,ne,nt,ns,h1,.own (UU a2 e1 e2) h2 (n1:=λ_=>0) λq=>by simp,h3,h4,trivial⟩⟩
theorem it_tup {a:Addr}{ds:List D}:ItOk G g (Itt G.K a) [⟨.ref a,.z,.con .tup ds,false⟩] ds where
 nb:=λx hx=>by rw[List.mem_singleton.mp hx]
 go:=λi env st T σ H R hi=>by
  obtain⟨vs,e1,e2,_⟩:=tup_at R
  exact⟨_,_,e1,List.getElem?_eq_getElem (by rw[e2];exact hi)⟩
 yld:=λi env st T σ H x H' d R y e=>by
  obtain⟨rfl,y⟩:=y
  obtain⟨vs,e1,e2,e3⟩:=tup_at R
  exact e3 i x d (y _ e1) e
 stop:=λi env st T σ H R he=>by
  have hi:=Nat.le_of_eq he.symm
  obtain⟨vs,e1,e2,_⟩:=tup_at R
  exact⟨_,e1,by rw[e2];exact hi⟩
theorem it_rng {lo:Int}{n:Nat}:ItOk G g (Itr lo n) [] ((List.range n).map λ(i:Nat)=>D.int (lo+(i:Int))) where
 nb:=λx hx=>by cases hx
 go:=λi env st T σ H R hi=>by show i<n;simpa using hi
 yld:=λi env st T σ H x H' d R y e=>by
  obtain⟨rfl,rfl⟩:=y
  obtain⟨h1,h2⟩:=List.getElem?_eq_some_iff.mp e
  simp at h2
  subst h2
  exact Rl.scal R rfl
 stop:=λi env st T σ H R he=>by
  have hi:=Nat.le_of_eq he.symm
  show n<=i;simpa using hi
end
@[simp] def dIvS (a:Den):DenI:=λenv st=>match a env st with
 | .ok f b (.con .lst ds) st1=>bif !b||f.isz then .ok ds st1 else .stuck
 | .ok f b (.con .tup ds) st1=>bif !b||f.isz then .ok ds st1 else .stuck
 | .ok _ _ _ _=>.stuck
 | .exc c ds st1=>.exc c ds st1
 | .stuck=>.stuck
section
variable {S:Sx}{e a b tg:Expr}{es:List Expr}{da db:Den}{das:DenL}{pos p:Pos}
theorem ZbH {n:Nat}(h:n.ble 16777216=true):n<=sizeLine:=Nat.le_trans (Nat.le_of_ble_eq_true h) (by decide)
theorem di_val (ha:DE S a da):DI S tg a (dIvS da):=λW=>by
 obtain⟨t,p,q⟩:=ha W
 refine⟨λσ H R=>iList S.G.K t σ H R∨iTup S.G.K t σ H R,λX hX tk=>by rw[<- hX.K];exact PI.or (pi_list (p X hX tk)) (pi_tup (p X hX tk)),λg env st T σ H R0 hT R h=>?_⟩
 unfold dIvS at h
 cases e:da env st with
 | stuck=>rw[e] at h;exact h.elim
 | exc c ds st1=>rw[e] at h;exact .inl (q g env st T σ H _ hT R (by rw[e];exact h))
 | ok f b d st1=>
  rw[e] at h
  cases d with
  | con k ds=>
   cases k with
   | lst=>
    obtain⟨hc,h⟩:=bifT h id
    refine .inl (q g env st T σ H _ hT R ?_)
    rw[e]
    intro v H1 R1
    have R2:=(R1.unb hc).frz
    obtain⟨a,vs,f0,rfl,e2,_⟩:=Rl.openL R2
    exact⟨a,rfl,⟨vs,e2⟩,h _ H1 _ g .refl it_list R2⟩
   | tup=>
    obtain⟨hc,h⟩:=bifT h id
    refine .inr (q g env st T σ H _ hT R ?_)
    rw[e]
    intro v H1 R1
    have R2:=(R1.unb hc).frz
    obtain⟨a,vs,f0,rfl,e2,_⟩:=Rl.open R2
    exact⟨a,rfl,⟨vs,e2⟩,h _ H1 _ g .refl it_tup R2⟩
   | _=>exact h.elim
  | _=>exact h.elim
def Zt (lo hi:Int):List D:=(List.range (hi - lo).toNat).map λ(i:Nat)=>D.int (lo+(i:Int))
def Wq (j:Int):Bool:=decide (-16777216<=j)&&decide (j<=16777216)
@[simp] def ZaL (as:DenL):DenI:=λenv st=>match as env st with
 | .ok ts st1=>(match ts with
  | [(_,_,.int j)]=>bif Wq j then .ok (Zt 0 j) st1 else .stuck
  | _=>.stuck)
 | .exc c ds st1=>.exc c ds st1
 | .stuck=>.stuck
@[simp] def dRng2 (as:DenL):DenI:=λenv st=>match as env st with
 | .ok ts st1=>(match ts with
  | [(_,_,.int i),(_,_,.int j)]=>bif Wq i&&Wq j then .ok (Zt i j) st1 else .stuck
  | _=>.stuck)
 | .exc c ds st1=>.exc c ds st1
 | .stuck=>.stuck
theorem Rl.int {G:Sg}{g:Gd}{env:Env}{st:Zd}{T:List Tm}{σ:St}{H:Hp}{v:V}{f:Fr}{b:Bool}{c:Int}(R:Rl G g env st (⟨v,f,.int c,b⟩ :: T) σ H):v=.int c:=by
 obtain⟨Fz,am,ne,nt,ns,h1,h2,h3,h4,h5⟩:=R
 have key:∀ {n:Fp},Rep G Fz am H f v (.int c) n->v=.int c:=λ{n} r=>by
  cases r with
  | sc h _=>cases v<;>first | exact congrArg V.int h | exact h.elim
 cases h2 with
 | own h _ _=>exact key h
 | bor h _ _=>exact key h
theorem ZbM {j:Int}(h:Wq j=true):(-(2 ^ 62)<=j∧j<2 ^ 62)∧(-16777216<=j∧j<=16777216):=by
 unfold Wq at h
 rw[Bool.and_eq_true] at h
 have h1:=of_decide_eq_true h.1
 have h2:=of_decide_eq_true h.2
 omega
theorem Zal (ha:DA S [a] das)(hs:∀ x q,a ≠ .Starred x q)(hg:S.sc.names.lookup ("range":Str)=some .globalImplicit)(hm:S.mg "range"=none):DI S tg (.Call (.Name "range" p) [a] [] pos) (ZaL das):=λW=>by
 obtain⟨t,pt,q⟩:=ha W
 refine⟨_,λX hX tk=>pi_range1 (show X.env.scope.names.lookup ("range":Str)=some .globalImplicit by rw[hX.sc];exact hg) (by rw[hX.mg];exact hm) (pt X hX tk) (by rw[Wo hs];rfl),λg env st T σ H R0 hT R h=>q g env st T σ H _ hT R ?_⟩
 unfold ZaL at h
 cases e:das env st with
 | stuck=>rw[e] at h;exact h.elim
 | exc c ds st1=>rw[e] at h;exact h
 | ok ts st1=>
  rw[e] at h
  intro vs H1 hl R1
  dsimp only at h
  split at h
  ·rename_i f b j
   obtain⟨hc,h⟩:=bifT h id
   match vs,hl with
   | [v],_=>
    have ev:v=.int j:=Rl.int R1
    subst ev
    have hb:=(ZbM hc).1
    refine⟨j,rfl,hb.1,hb.2,?_⟩
    have it:=it_rng (G:=S.G) (g:=g) (lo:=0) (n:=j.toNat)
    unfold Zt at h
    rw[show (j - 0).toNat=j.toNat by congr 1;omega] at h
    exact h _ H1 [] g .refl it (RlB.drop R1)
  ·exact h.elim
theorem di_rng2 (ha:DA S [a,b] das)(hs:∀ x q,a ≠ .Starred x q)(hs2:∀ x q,b ≠ .Starred x q)(hg:S.sc.names.lookup ("range":Str)=some .globalImplicit)(hm:S.mg "range"=none):DI S tg (.Call (.Name "range" p) [a,b] [] pos) (dRng2 das):=λW=>by
 obtain⟨t,pt,q⟩:=ha W
 refine⟨_,λX hX tk=>pi_range2 (show X.env.scope.names.lookup ("range":Str)=some .globalImplicit by rw[hX.sc];exact hg) (by rw[hX.mg];exact hm) (pt X hX tk) (by rw[Wo hs,Wo hs2];rfl) (by rw[Wo hs2];rfl),λg env st T σ H R0 hT R h=>q g env st T σ H _ hT R ?_⟩
 unfold dRng2 at h
 cases e:das env st with
 | stuck=>rw[e] at h;exact h.elim
 | exc c ds st1=>rw[e] at h;exact h
 | ok ts st1=>
  rw[e] at h
  intro vs H1 hl R1
  dsimp only at h
  split at h
  ·rename_i f b i f2 b2 j
   obtain⟨hc,h⟩:=bifT h id
   rw[Bool.and_eq_true] at hc
   match vs,hl with
   | [v,v2],_=>
    have ev:v=.int i:=Rl.int R1
    have ev2:v2=.int j:=Rl.int (RlB.drop R1)
    subst ev ev2
    have hb:=(ZbM hc.1).1
    have hb2:=(ZbM hc.2).1
    refine⟨i,j,rfl,⟨hb.1,hb.2,hb2.1,hb2.2⟩,?_⟩
    exact h _ H1 [] g .refl (it_rng (G:=S.G) (g:=g) (lo:=i) (n:=(j - i).toNat)) (RlB.drop (RlB.drop R1))
  ·exact h.elim
def WK (p:Pat)(body:Zi)(ks:List Nat):List D->Zi
 | [],env,st=>.nx env st
 | d :: ds,env,st=>match ZX p .z d env with
  | none=>.stuck
  | some env1=>match body env1 st with
   | .nx env2 st2=>WK p body ks ds (Uj ks env2) st2
   | .ct env2 st2=>WK p body ks ds (Uj ks env2) st2
   | .bk env2 st2=>.nx (Uj ks env2) st2
   | r=>r
def dFor (it:DenI)(p:Pat)(body:Zi)(ks:List Nat):Zi:=λenv st=>match it env st with
 | .ok items st1=>WK p body ks items env st1
 | .exc c ds st1=>.exc c ds env st1
 | .stuck=>.stuck
theorem ZaQ {e:Expr}{env:PySem.Env}(h:Ww e=true)(x:Value):foldedSetIterable e env x=pure x:=by
 cases e<;>first | rfl | cases h
theorem ds_for {it:Expr}{di:DenI}{p:Pat}{body:List Stmt}{db:Zi}{ks:List Nat}(hi:DI S tg it di)(hg:DG S tg p)(hb:DSs S body db)(hs:Ww it=true):DS S (.For tg it body [] pos) (dFor di p db ks):=λW=>by
 obtain⟨wi,pi,qi⟩:=hi W
 obtain⟨tg',pg,qg⟩:=hg
 obtain⟨tb,pb,qb⟩:=hb W
 refine⟨tFor wi tg' tb,λX hX tk=>ps_for hX.po hX.calm (pi X hX tk) (pg X hX) (pb X hX tk) (ZaQ hs),λg env st T σ H D hT R h=>qi g env st T σ H _ hT R ?_⟩
 unfold dFor at h
 cases e:di env st with
 | stuck=>rw[e] at h;exact h.elim
 | exc c ds st1=>rw[e] at h;exact h σ
 | ok items st1=>
  rw[e] at h
  intro J H1 keep g' bk IO R1
  have nbT:ZL (keep++T):=nb_app IO.nb hT
  refine⟨λi m σ H=>∃ env st,m=items.length - i∧i<=items.length∧Rl S.G g' env st (keep++T) σ H∧UQ S.G g T W D (WK p db ks (items.drop i) env st),⟨items.length,env,st1,by omega,Nat.zero_le _,R1,by simpa using h⟩,?_⟩
  rintro i m σ H ⟨env,st,rfl,hi,R,h⟩
  by_cases hlt:i<items.length
  ·refine .inr ⟨IO.go i env st T σ H R hlt,λσ' H'=>∃ env st,i+1<=items.length∧Rl S.G g' env st (keep++T) σ' H' ∧ UQ S.G g T W D (WK p db ks (items.drop (i+1)) env st),λσ' H' ⟨env,st,h1,h2,h3⟩=>⟨items.length - (i+1),by omega,env,st,rfl,h1,h2,h3⟩,λx H' y=>?_⟩
   have ei:items[i]?=some items[i]:=List.getElem?_eq_getElem hlt
   have R2:=IO.yld i env st T σ H x H' _ R y ei
   rw[List.drop_eq_getElem_cons hlt] at h
   unfold WK at h
   cases eb:ZX p .z items[i] env with
   | none=>rw[eb] at h;exact h.elim
   | some env1=>
    rw[eb] at h
    refine qg g' env st (keep++T) σ H' x .z items[i] env1 _ nbT R2 eb λσ' H'' _ R3=>?_
    refine qb g' env1 st (keep++T) σ' H'' _ nbT R3 ?_
    dsimp only at h
    cases er:db env1 st with
    | stuck=>rw[er] at h;exact h.elim
    | rt f d st2=>rw[er] at h;exact λv H3 R4=>h v H3 (R4.back bk)
    | exc c ds env2 st2=>rw[er] at h;exact λσ3 cls dx H3 R4=>h σ3 cls dx H3 (R4.back bk)
    | nx env2 st2=>rw[er] at h;exact λσ3 H3 R4=>⟨_,st2,hlt,R4.kills nbT,h⟩
    | ct env2 st2=>rw[er] at h;exact λσ3 H3 R4=>⟨_,st2,hlt,R4.kills nbT,h⟩
    | bk env2 st2=>rw[er] at h;exact λσ3 H3 R4=>h σ3 H3 (Rl.kills hT (RlB.tail (R4.back bk)))
  ·have e:i=items.length:=by omega
   subst e
   rw[List.drop_length] at h
   exact .inl ⟨IO.stop _ env st T σ H R rfl,h σ H (RlB.tail (R.back bk))⟩
def dYes:DenB:=λ_ st=>.ok true st
def lcGo (p:Pat)(c:DenB)(el:Den):List D->Env->Zd->List D->Res
 | [],_,st,acc=>.ok (.c .z) false (.con .lst acc) st
 | d :: ds,env,st,acc=>match ZX p .z d env with
  | none=>.stuck
  | some env1=>match c env1 st with
   | .ok false st1=>lcGo p c el ds env st1 acc
   | .ok true st1=>(match el env1 st1 with
    | .ok f b d' st2=>bif !b||f.isz then lcGo p c el ds env st2 (acc ++ [d']) else .stuck
    | _=>.stuck)
   | _=>.stuck
def Zy (own:List Nat)(env:Env):Bool:=own.all λi=>match env[i]? with
 | some none=>true
 | _=>false
def dLc (it:DenI)(own:List Nat)(p:Pat)(c:DenB)(el:Den):Den:=λenv st=>match it env st with
 | .ok items st1=>bif Zy own env&&items.length.ble 16777215 then lcGo p c el items env st1 [] else .stuck
 | .exc c ds st1=>.exc c ds st1
 | .stuck=>.stuck
def Sx.blk (S:Sx)(scope:Scope):Sx:={ S with sc:=relS scope S.sc,fnA:=false,lmk:=none,fnC:=λx=>scope.names.lookup x==some .cell }
theorem ZaV {X:Cx}(hX:Stx S X)(s:Shared)(H:Hp)(scope:Scope)(C:Addr)(cl:List (Str × Addr))(fp:List Addr):Stx (S.blk scope) (X.blk s H scope (compEnvC scope cl C X.env) fp) where
 pr:=hX.pr
 w:=hX.w
 mg:=hX.mg
 base:=hX.base
 K:=hX.K
 N:=hX.N
 sc:=by show relS scope X.env.scope=relS scope S.sc;rw[hX.sc]
 nd:=hX.nd
 calm:=hX.calm
 room:=hX.room
 po:=PassesOwn.never
 fn:=λh=>Bool.noConfusion h
 stk:=λh=>Bool.noConfusion h
 lmk:=λc q h=>nomatch h
 fnC:=λx h=>h
theorem wipe_at {j:Nat}:∀ (τ:St) (ow:List Nat),j∈ow->(wipe τ ow)[j]?=if j<τ.length then some none else none:=by
 intro τ ow
 induction ow with
 | nil=>intro h;cases h
 | cons v vs ih=>
  intro h
  unfold wipe
  by_cases e:v=j
  ·subst e
   rw[List.getElem?_set]
   simp[wipe_length]
  ·rw[List.getElem?_set_ne e]
   rcases List.mem_cons.mp h with z | z
   ·exact absurd z.symm e
   ·exact ih z
theorem wipe_dif {σ σ2:St}{l own:List Nat}(h:Dif l σ σ2)(hl:∀ i∈l,i∈own):wipe σ2 own=wipe σ own:=by
 apply List.ext_getElem?
 intro j
 by_cases hj:j∈own
 ·rw[wipe_at σ2 own hj,wipe_at σ own hj,h.1]
 ·rw[wipe_out hj,wipe_out hj]
  exact h.2 j λz=>hj (hl j z)
theorem EnvR.resig {G:Sg}{Fz:Addr->Prop}{am:List Addr}{H:Hp}{env:Env}{σ:St}{n:Fp}(r:EnvR G Fz am H env σ n):∀ {σ':St},σ'.length=σ.length->(∀ (i:Nat) x,env[i]?=some (some x)->σ'[i]?=σ[i]?)->EnvR G Fz am H env σ' n:=by
 induction r with
 | nil h=>
  intro σ' hl _
  have e:σ'=[]:=List.length_eq_zero_iff.mp hl
  subst e
  exact .nil h
 | @som f d v env σ n1 n2 n h1 h2 h3 ih=>
  intro σ' hl hs
  cases σ' with
  | nil=>simp at hl
  | cons y σ'=>
   have e:y=some v:=by simpa using hs 0 (f,d) (by simp)
   subst e
   exact .som h1 (ih (by simpa using hl) λi x e=>by simpa using hs (i+1) x (by simpa using e)) h3
 | @non x env σ n h ih=>
  intro σ' hl hs
  cases σ' with
  | nil=>simp at hl
  | cons y σ'=>exact .non (ih (by simpa using hl) λi x e=>by simpa using hs (i+1) x (by simpa using e))
theorem EnvR.weak {G:Sg}{Fz:Addr->Prop}{am:List Addr}{H:Hp}{env:Env}{σ:St}{n:Fp}(r:EnvR G Fz am H env σ n):∀ {env':Env} {σ'':St},env'.length=env.length->σ''.length=σ.length ->
  (∀ (i:Nat) x,env'[i]?=some (some x)->env[i]?=some (some x)∧σ''[i]?=σ[i]?)->∃ n',EnvR G Fz am H env' σ'' n' ∧ ∀ q,n' q<=n q:=by
 induction r with
 | nil h=>
  intro env' σ'' h1 h2 _
  have e:σ''=[]:=List.length_eq_zero_iff.mp h2
  have e2:env'=[]:=List.length_eq_zero_iff.mp h1
  subst e e2
  exact⟨_,.nil h,λ_=>Nat.le_refl _⟩
 | @som f d v env σ n1 n2 n h1 h2 h3 ih=>
  intro env' σ'' hl hs hx
  cases σ'' with
  | nil=>simp at hs
  | cons y σ''=>
  cases env' with
  | nil=>simp at hl
  | cons w env'=>
   obtain⟨n',k1,k2⟩:=ih (env':=env') (σ'':=σ'') (by simpa using hl) (by simpa using hs) λi x e=>by simpa using hx (i+1) x (by simpa using e)
   cases w with
   | none=>exact⟨n',.non k1,λq=>by have:=k2 q;rw[h3];omega⟩
   | some w=>
    obtain⟨e1,e2⟩:=hx 0 w (by simp)
    simp at e1 e2
    subst e1 e2
    exact⟨_,.som h1 k1 (n:=λq=>n1 q+n' q) λ_=>rfl,λq=>by have:=k2 q;rw[h3];omega⟩
 | @non x env σ n h ih=>
  intro env' σ'' hl hs hx
  cases σ'' with
  | nil=>simp at hs
  | cons y σ''=>
  cases env' with
  | nil=>simp at hl
  | cons w env'=>
   obtain⟨n',k1,k2⟩:=ih (env':=env') (σ'':=σ'') (by simpa using hl) (by simpa using hs) λi x e=>by simpa using hx (i+1) x (by simpa using e)
   cases w with
   | none=>exact⟨n',.non k1,k2⟩
   | some w=>
    obtain⟨e1,e2⟩:=hx 0 w (by simp)
    simp at e1
mutual
theorem bindP_dif:∀ (p:Pat) {f:Fr} {d:D} {env env':Env},ZX p f d env=some env' -> env'.length=env.length∧∀ j,j ∉ p.slots->env'[j]?=env[j]?
 | .nm i,f,d,env,env',h=>by
  cases h
  exact⟨by simp,λj hj=>List.getElem?_set_ne λz=>hj (by rw[<- z];exact List.mem_singleton.mpr rfl)⟩
 | .tp ps,f,d,env,env',h=>by
  unfold ZX at h
  cases e:kidsP f d with
  | none=>rw[e] at h;cases h
  | some x=>rw[e] at h;exact Zeo ps h
theorem Zeo:∀ (ps:List Pat) {fs:List Fr} {ds:List D} {env env':Env},ZS ps fs ds env=some env' -> env'.length=env.length∧∀ j,j ∉ Pat.slotsL ps->env'[j]?=env[j]?
 | [],[],[],env,env',h=>by
  simp[ZS] at h
  subst h
  exact⟨rfl,λ_ _=>rfl⟩
 | p :: ps,f :: fs,d :: ds,env,env',h=>by
  rw[ZS] at h
  obtain⟨env1,e1,e2⟩:=Option.bind_eq_some_iff.mp h
  have a:=bindP_dif p e1
  have b:=Zeo ps e2
  refine⟨b.1.trans a.1,λj hj=>?_⟩
  have hj':j ∉ p.slots++Pat.slotsL ps:=hj
  rw[List.mem_append,not_or] at hj'
  rw[b.2 j hj'.2,a.2 j hj'.1]
 | [],[],_ :: _,_,_,h=>by simp[ZS] at h
 | [],_ :: _,_,_,_,h=>by simp[ZS] at h
 | _ :: _,[],_,_,_,h=>by simp[ZS] at h
 | _ :: _,_ :: _,[],_,_,h=>by simp[ZS] at h
end
theorem Zek {own:List Nat}{env:Env}(h:Zy own env=true)(σ:St):∀ (i:Nat) x,env[i]?=some (some x)->(wipe σ own)[i]?=σ[i]?:=λi x e=>wipe_out λhi=>by
 have:=List.all_eq_true.mp h i hi
 rw[e] at this
 cases this
theorem TmR.dim {G:Sg}{Fz:Addr->Prop}{am:List Addr}{H:Hp}{ne:Fp}{T:List Tm}{a:Tm}:∀ {l:List Tm} {nt:Fp},TmR G Fz am H ne (a :: (l++T)) nt->TmR G Fz am H ne (l++a :: T) nt
 | [],_,r=>r
 | b :: l,_,r=>by
  cases r with
  | @own _ _ _ _ n1 n2 _ h1 h2 h3=>
   cases h2 with
   | @own _ _ _ _ m1 m2 _ k1 k2 k3=>exact .own k1 (TmR.dim (.own h1 k2 (n:=λq=>n1 q+m2 q) λ_=>rfl)) λq=>by rw[h3,k3];omega
   | @bor _ _ _ _ m1 _ k1 k2 k3=>exact .bor k1 k2 (TmR.dim (.own h1 k3 h3))
  | bor h1 h2 h3=>
   cases h3 with
   | own k1 k2 k3=>exact .own k1 (TmR.dim (.bor h1 h2 k2)) k3
   | bor k1 k2 k3=>exact .bor k1 k2 (TmR.dim (.bor h1 h2 k3))
theorem wipe_wipe {σ σ2:St}{l own:List Nat}(h:Dif l (wipe σ own) σ2)(hl:∀ i∈l,i∈own):wipe σ2 own=wipe σ own:=by
 rw[wipe_dif h hl]
 apply List.ext_getElem?
 intro j
 by_cases hj:j∈own
 ·rw[wipe_at _ _ hj,wipe_at _ _ hj,wipe_length]
 ·rw[wipe_out hj]
theorem Rl.resig {G:Sg}{g:Gd}{env:Env}{st:Zd}{T:List Tm}{σ σ':St}{H:Hp}(R:Rl G g env st T σ H)(hl:σ'.length=σ.length)(hs:∀ (i:Nat) x,env[i]?=some (some x)->σ'[i]?=σ[i]?):Rl G g env st T σ' H:=by
 obtain⟨Fz,am,ne,nt,ns,h1,h2,h3,h4,h5⟩:=R
 exact⟨Fz,am,ne,nt,ns,h1.resig hl hs,h2,h3,h4,h5⟩
end
section
variable {G:Sg}{g:Gd}{env:Env}{st st':Zd}{T T':List Tm}{σ:St}{H H':Hp}{Fz:Addr->Prop}{am:List Addr}{tot:Fp}{A:Addr}{o:HO}
theorem Rel0.wext (r:Rel0 G g Fz am H tot)(hA:0<tot A):Ext Fz am H Fz am (upd H A o):=by
 have nz:∀ p,Fz p->p≠A:=λp z e=>r.nz A hA (by rw[<- e];exact z)
 obtain⟨oA,eA,kA⟩:=r.th A hA
 refine⟨λ_ h=>h,λ_ _ h=>h,λp u z h=>?_,λp u z h _=>?_,λp xs h=>?_⟩
 ·exact h.imp (λh=>by rw[upd_ne (nz p z)];exact h) λ⟨w,h⟩=>⟨w,by rw[upd_ne (nz p z)];exact h⟩
 ·rw[upd_ne (nz p z)];exact h
 ·have ne:p≠A:=λe=>by
   subst e
   rcases h with h | ⟨_,h⟩
   ·rw[eA] at h;cases h;exact kA
   ·rw[eA] at h;cases h;exact kA
  exact h.imp (λh=>by rw[upd_ne ne];exact h) λ⟨w,h⟩=>⟨w,by rw[upd_ne ne];exact h⟩
theorem Rel0.wrel (r:Rel0 G g Fz am H tot)(hA:0<tot A)(ok:OwnK o):Rel0 G g Fz am (upd H A o) tot:=by
 have out:∀ p u,¬ OwnK u->H p=some u->upd H A o p=some u:=λp u nu e=>by
  obtain⟨oA,eA,kA⟩:=r.th A hA
  rw[upd_ne λq=>by subst q;rw[eA] at e;cases e;exact nu kA]
  exact e
 refine⟨r.n1,r.nz,λp hp=>?_,λp z=>?_,λp u nt e na=>?_,r.f,r.z0,r.z1,r.a,λx hx=>?_,r.hm,λp u t e na=>?_⟩
 ·by_cases e:p=A
  ·subst e;exact⟨o,upd_same,ok⟩
  ·rw[upd_ne e];exact r.th p hp
 ·rw[upd_ne λe=>r.nz A hA (by rw[<- e];exact z)];exact r.zt p z
 ·have h:=r.k p u nt e na
  by_cases q:p=A
  ·subst q
   rcases r.f p hA with y | y
   ·exact absurd y na
   ·rw[y] at e;cases e
  ·exact h.map λu _ k=>by rw[upd_ne q];exact k
 ·obtain⟨ps,a1,a2,a3⟩:=r.tb x hx
  refine⟨ps,out _ _ (λz=>z) a1,a2,λp' cv z=>?_⟩
  obtain⟨c,e1,e2⟩:=a3 p' cv z
  exact⟨c,e1,out _ _ (λz=>by unfold LamX.CodeO at z;exact z) e2⟩
 ·obtain⟨o',e1,t1⟩:=r.kt p u t e na
  exact⟨o',out _ _ (λz=>by rw[z.nt] at t1;cases t1) e1,t1⟩
theorem Wl {n:Fp}(h:n A=0):∀ p u,0<n p->H p=some u->upd H A o p=some u:=λp u hp e=>by
 rw[upd_ne λq=>by subst q;omega];exact e
theorem Reps.snoc {fs:List Fr}{vs:List V}{ds:List D}{n m k:Fp}{f:Fr}{v:V}{d:D}(h:Reps G Fz am H fs vs ds n)(r:Rep G Fz am H f v d m)(hk:∀ q,k q=n q+m q):Reps G Fz am H (fs ++ [f]) (vs ++ [v]) (ds ++ [d]) k:=by
 match fs,vs,ds,h with
 | [],[],[],.nil h0=>exact .cons r (.nil (n:=λ_=>0) λ_=>rfl) λq=>by rw[hk,h0];simp
 | _ :: _,_ :: _,_ :: _,.cons (n1:=n1) (n2:=n2) h1 h2 h3=>exact .cons h1 (Reps.snoc h2 r (k:=λq=>n2 q+m q) λ_=>rfl) λq=>by rw[hk,h3];omega
theorem Rl.appT {x:V}{ds:List D}{d:D}(R:Rl G g env st (⟨.ref A,.c .z,.con .lst ds,false⟩ :: ⟨x,.z,d,false⟩ :: T) σ H):
  ∃ acc,H A=some (.lst acc)∧acc.length=ds.length∧Rl G g env st (⟨.ref A,.c .z,.con .lst (ds ++ [d]),false⟩ :: T) σ (upd H A (.lst (acc ++ [x]))):=by
 obtain⟨Fz,am,ne,nt,ns,h1,h2,h3,h4,h5⟩:=R
 cases h2 with
 | @own _ _ _ _ n1 n2 _ k1 k2 k3=>
  cases k2 with
  | @own _ _ _ _ m1 m2 _ j1 j2 j3=>
   cases k1 with
   | @cc _ _ vs _ _ _ m a1 a2 a3=>
    obtain⟨_,o,b1,b2⟩:=a1
    subst b2
    have hA:0<ne A+nt A+ns A:=by rw[k3,a3];simp;omega
    have le:=h4.n1 A
    have zA:ne A=0∧m2 A=0∧ns A=0∧m A=0:=by rw[k3,a3,j3] at le;simp at le;omega
    have E:=h4.wext (o:=.lst (vs ++ [x])) hA
    have m0:=Reps.z0 (k:=ds.length) a2
    refine⟨vs,b1,a2.len.2,Fz,am,ne,λq=>n1 q+m2 q,ns,h1.ext E (Wl zA.1),.own (.cc (m:=λ_=>0) ⟨by decide,_,upd_same,rfl⟩ ?_ λq=>by rw[a3,m0]) (j2.ext E (Wl zA.2.1) (Wl zA.1)) λ_=>rfl,Reps.ext E h3 (Wl zA.2.2.1),(h4.wrel (o:=.lst (vs ++ [x])) hA trivial).less λq=>by show ne q+(n1 q+m2 q)+ns q<=_;rw[k3,j3];omega,trivial⟩
    have s:=Reps.snoc (k:=λ_=>0) (a2.fp m0 (m:=λ_=>0)) (j1.fp j1.z0 (m:=λ_=>0)) λ_=>rfl
    have s2:=Reps.ext E s λp u hp=>absurd hp (Nat.lt_irrefl 0)
    have e:List.replicate ds.length Fr.z ++ [Fr.z]=List.replicate (ds ++ [d]).length Fr.z:=by rw[List.length_append];exact List.replicate_append_replicate (n:=ds.length) (m:=1)
    rw[<- e]
    exact s2
end
section
variable {S:Sx}{e a b tg:Expr}{es:List Expr}{da db:Den}{das:DenL}{pos p:Pos}
theorem lc_run {di:DenI}{p:Pat}{own:List Nat}{c:DenB}{el:Den}{W:WX}{wi:TI}{tg':TG}{tt:TT}{te:TE}
  (qi:∀ g env st T σ H R,ZL T->Rl S.G g env st T σ H->PostI S.G g env T σ W R (di env st)->wi σ H R)
  (qg:∀ g env st T σ H v f d env' Q,ZL T->Rl S.G g env st (⟨v,f,d,false⟩ :: T) σ H->ZX p f d env=some env' -> (∀ σ' H',Dif p.slots σ σ' -> Rl S.G g env' st T σ' H' -> Q σ' H')->tg' v σ H Q)
  (qt:∀ g env st T σ H Q,ZL T->Rl S.G g env st T σ H->PostB S.G g env T σ (λ_ _ _ _=>False) Q (c env st)->tt σ H Q)
  (qe:∀ g env st T σ H Q,ZL T->Rl S.G g env st T σ H->Wz S.G g env T σ (λ_ _ _ _=>False) Q (el env st)->te σ H Q)
  (ho:∀ i∈p.slots,i∈own)
  (g:Gd) (env:Env) (st:Zd) (T:List Tm) (σ:St) (H:Hp) (Q:VK) (hT:ZL T) (R:Rl S.G g env st T σ H) (h:Wz S.G g env T σ W Q (dLc di own p c el env st)):tLc wi tg' tt te own σ H Q:=by
 refine qi g env st T σ H _ hT R ?_
 unfold dLc at h
 cases e:di env st with
 | stuck=>rw[e] at h;exact h.elim
 | exc c ds st1=>rw[e] at h;exact h
 | ok items st1=>
  rw[e] at h
  obtain⟨hc,h⟩:=bifT h id
  rw[Bool.and_eq_true] at hc
  intro J H1 keep g' bk IO R1 A hA
  have nbA:∀ ds,ZL (keep++(⟨.ref A,.c .z,.con .lst ds,false⟩ :: T)):=λds=>nb_app IO.nb (Vd hT)
  have line:16777215<sizeLine:=by decide
  have hlen:=Nat.le_of_ble_eq_true hc.2
  have outside:∀ (i:Nat) x,env[i]?=some (some x)->i ∉ own:=λi x e hi=>by
   have:=List.all_eq_true.mp hc.1 i hi
   rw[e] at this
   cases this
  have R2:Rl S.G g' env st1 (keep++(⟨.ref A,.c .z,.con .lst [],false⟩ :: T)) (wipe σ own) (upd H1 A (.lst [])):=by
   have r:=RlB.new (B:=λ_ _=>True) (v:=.ref A) (f:=.c .z) (d:=.con .lst []) (n:=one1 A) R1 (Vb hA) (newp1 (o:=.lst []) hA trivial) λFz am E _=>rep_lst E (.nil λ_=>rfl)
   have r2:Rl S.G g' env st1 (keep++(⟨.ref A,.c .z,.con .lst [],false⟩ :: T)) σ (upd H1 A (.lst [])):=by
    obtain⟨Fz,am,ne,nt,ns,h1,h2,h3,h4,h5⟩:=r
    exact⟨Fz,am,ne,nt,ns,h1,h2.dim,h3,h4,h5⟩
   exact r2.resig (wipe_length _ _) (Zek hc.1 σ)
  refine⟨λi m H=>∃ st acc,m=items.length - i∧i<=items.length∧acc.length<=i∧Rl S.G g' env st (keep++(⟨.ref A,.c .z,.con .lst acc,false⟩ :: T)) (wipe σ own) H∧Wz S.G g env T σ W Q (lcGo p c el (items.drop i) env st acc),
   ⟨items.length,st1,[],by omega,Nat.zero_le _,Nat.le_refl _,R2,by simpa using h⟩,?_⟩
  rintro i m H ⟨st,acc,rfl,hi,hacc,R,h⟩
  by_cases hlt:i<items.length
  ·refine .inr ⟨IO.go i env st _ _ H R hlt,λH'=>∃ st acc,i+1<=items.length∧acc.length<=i+1∧Rl S.G g' env st (keep++(⟨.ref A,.c .z,.con .lst acc,false⟩ :: T)) (wipe σ own) H' ∧ Wz S.G g env T σ W Q (lcGo p c el (items.drop (i+1)) env st acc),
    λH' ⟨st,acc,h1,h2,h3,h4⟩=>⟨items.length - (i+1),by omega,st,acc,rfl,h1,h2,h3,h4⟩,λx H' y=>?_⟩
   have ei:items[i]?=some items[i]:=List.getElem?_eq_getElem hlt
   have R3:=IO.yld i env st _ _ H x H' _ R y ei
   rw[List.drop_eq_getElem_cons hlt] at h
   unfold lcGo at h
   cases eb:ZX p .z items[i] env with
   | none=>rw[eb] at h;exact h.elim
   | some env1=>
    rw[eb] at h
    refine qg g' env st _ _ H' x .z items[i] env1 _ (nbA acc) R3 eb λσ' H'' D' R4=>⟨wipe_wipe D' ho,?_⟩
    refine qt g' env1 st _ σ' H'' _ (nbA acc) R4 ?_
    dsimp only at h
    cases ec:c env1 st with
    | stuck=>rw[ec] at h;exact h.elim
    | exc c ds st2=>rw[ec] at h;exact h.elim
    | ok b st2=>
     rw[ec] at h
     intro H3 R5
     have back:∀ {st:Zd} {ds:List D} {H4:Hp},Rl S.G g' env1 st (keep++(⟨.ref A,.c .z,.con .lst ds,false⟩ :: T)) σ' H4->Rl S.G g' env st (keep++(⟨.ref A,.c .z,.con .lst ds,false⟩ :: T)) (wipe σ own) H4:=λ{st ds H4} r=>by
      obtain⟨Fz,am,ne,nt,ns,h1,h2,h3,h4,h5⟩:=r
      have bd:=bindP_dif p eb
      obtain⟨n',k1,k2⟩:=h1.weak (env':=env) (σ'':=wipe σ own) bd.1.symm D'.1.symm λi x e=>⟨by rw[bd.2 i λz=>outside i x e (ho i z)];exact e,(D'.2 i λz=>outside i x e (ho i z)).symm⟩
      exact⟨Fz,am,n',nt,ns,k1,h2.nb (nbA ds),h3,h4.less λq=>by have:=k2 q;omega,trivial⟩
     cases b with
     | false=>exact iteF ⟨st2,acc,hlt,by omega,back R5,h⟩
     | true=>
      refine iteT (qe g' env1 st2 _ σ' H3 _ (nbA acc) R5 ?_)
      dsimp only at h
      cases ee:el env1 st2 with
      | stuck=>rw[ee] at h;exact h.elim
      | exc c ds st3=>rw[ee] at h;exact h.elim
      | ok f b d' st3=>
       rw[ee] at h
       obtain⟨hb,h⟩:=bifT h id
       intro y' H4 R6
       have R7:=(R6.unb hb).frz
       obtain⟨vs,e1,e2,R8⟩:=Rl.appT (RlB.mid (l:=⟨y',.z,d',false⟩ :: keep) R7)
       refine⟨vs,e1,by rw[e2];omega,st3,acc ++ [d'],hlt,by rw[List.length_append];simp;omega,back (by
        obtain⟨Fz,am,ne,nt,ns,h1,h2,h3,h4,h5⟩:=R8
        exact⟨Fz,am,ne,nt,ns,h1,h2.dim,h3,h4,h5⟩),h⟩
  ·have e:i=items.length:=by omega
   subst e
   rw[List.drop_length] at h
   refine .inl ⟨IO.stop _ env st _ _ H R rfl,h _ H ?_⟩
   exact Rl.resig (RlB.tail (R.back bk)) (by rw[wipe_length]) λi x e=>(Zek hc.1 σ i x e).symm
end
section
variable {S:Sx}{e a b tg it elt:Expr}{ifs:List Expr}{es:List Expr}{da db el:Den}{das:DenL}{pos p':Pos}{p:Pat}{di:DenI}{c:DenB}{scope:Scope}{own:List (Str × Nat)}
def DIf (S:Sx)(ifs:List Expr)(c:DenB):Prop:=∃ tt:TT,(∀ X,Stx S X->Takes X (λ_ _ _ _=>False)->PTs X ifs tt) ∧
 ∀ g env st T σ H Q,ZL T->Rl S.G g env st T σ H->PostB S.G g env T σ (λ_ _ _ _=>False) Q (c env st)->tt σ H Q
theorem Wt:DIf S [] dYes:=⟨_,λX hX tk=>pts_nil,λg env st T σ H Q hT R h=>h H R⟩
theorem Zbo (hi:DI S tg it di)(hg:DG (S.blk scope) tg p)(hc:DIf (S.blk scope) ifs c)(he:DE (S.blk scope) elt el)(ok:BlkOk S.N S.sc scope own)(ho:∀ i∈p.slots,i∈own.map (·.2))(hs:Ww it=true):
  DE S (.ListComp elt [⟨tg,it,ifs,0⟩] scope pos) (dLc di (own.map (·.2)) p c el):=λW=>by
 obtain⟨wi,pi,qi⟩:=hi W
 obtain⟨tg',pg,qg⟩:=hg
 obtain⟨tt,pt,qt⟩:=hc
 obtain⟨te,pe,qe⟩:=he λ_ _ _ _=>False
 refine⟨tLc wi tg' tt te (own.map (·.2)),λX hX tk=>pe_lc hX.calm hX.nd (pi X hX tk) (by rw[hX.N,hX.sc];exact ok) (λs H C cl fp=>pg _ (ZaV hX s H scope C cl fp)) (λs H C cl fp=>pt _ (ZaV hX s H scope C cl fp) L2.takes0) (λs H C cl fp=>pe _ (ZaV hX s H scope C cl fp) L2.takes0) (ZaQ hs),
  λg env st T σ H Q hT R h=>lc_run qi qg qt qe ho g env st T σ H Q hT R h⟩
theorem lcset_pre (hi:DI S tg it di)(hg:DG (S.blk scope) tg p)(hc:DIf (S.blk scope) ifs c)(he:DE (S.blk scope) elt el)(ok:BlkOk S.N S.sc scope own)(ho:∀ i∈p.slots,i∈own.map (·.2))(hs:Ww it=true)
  {i:Nat} {y:Str} {py spos:Pos} (hN:S.N[i]?=some y) (hyl:S.sc.names.lookup y=some .local) (hl:(py.line==pos.line)=true) (hk:S.sc.kind=.function) (ha:(scope.names.any λ(n,k)=>n==y&&(k == .local||k == .cell))=false) (W:WX) :
  ∃ te:TE,(∀ X,Stx S X->Takes X W->PS X (.Assign [.Name y py] (.ListComp elt [⟨tg,it,ifs,0⟩] scope pos) spos) (tAsg te (gName i))) ∧
   ∀ g env st T σ H Q,ZL T->Rl S.G g env st T σ H->Wz S.G g env T σ W Q (dLc di (own.map (·.2)) p c el env st)->te σ H Q:=by
 obtain⟨wi,pi,qi⟩:=hi W
 obtain⟨tg',pg,qg⟩:=hg
 obtain⟨tt,pt,qt⟩:=hc
 obtain⟨te,pe,qe⟩:=he λ_ _ _ _=>False
 refine⟨tLc wi tg' tt te (own.map (·.2)),λX hX tk=>ps_setLc hX.calm hX.nd (by rw[hX.N];exact hN) (by rw[hX.sc];exact hyl) (sw_true (by rw[hX.sc];exact hk) (by rw[hX.sc];exact hyl) hl ha) (pi X hX tk) (by rw[hX.N,hX.sc];exact ok) (λs H C cl fp=>pg _ (ZaV hX s H scope C cl fp)) (λs H C cl fp=>pt _ (ZaV hX s H scope C cl fp) L2.takes0) (λs H C cl fp=>pe _ (ZaV hX s H scope C cl fp) L2.takes0) (ZaQ hs),
  λg env st T σ H Q hT R h=>lc_run qi qg qt qe ho g env st T σ H Q hT R h⟩
theorem Vl (hi:DI S tg it di)(hg:DG (S.blk scope) tg p)(hc:DIf (S.blk scope) ifs c)(he:DE (S.blk scope) elt el)(ok:BlkOk S.N S.sc scope own)(ho:∀ i∈p.slots,i∈own.map (·.2))(hs:Ww it=true)
  {i:Nat} {y:Str} {py spos:Pos} (hN:S.N[i]?=some y) (hyl:S.sc.names.lookup y=some .local) (hl:(py.line==pos.line)=true) (hk:S.sc.kind=.function) (ha:(scope.names.any λ(n,k)=>n==y&&(k == .local||k == .cell))=false) :
  DS S (.Assign [.Name y py] (.ListComp elt [⟨tg,it,ifs,0⟩] scope pos) spos) (ZG i (dLc di (own.map (·.2)) p c el)):=λW=>by
 obtain⟨te,p,q⟩:=lcset_pre hi hg hc he ok ho hs hN hyl hl hk ha W
 exact⟨_,p,λg env st T σ H D hT R h=>dsetZ_run q g env st T σ H D hT R h⟩
end
@[simp] def ZbA (n:Nat)(as:List (Fr × D)):Env:=as.map some++List.replicate (n - as.length) none
@[simp] def WB (n:Nat)(b:Zi):Fn:=λas st=>match b (ZbA n as) st with
 | .rt f d st1=>.ok f false d st1
 | .nx _ st1=>.ok .z false .non st1
 | .exc c ds _ st1=>.exc c ds st1
 | _=>.stuck
theorem env_start {G:Sg}{Fz:Addr->Prop}{am:List Addr}{H:Hp}{m:Nat}:∀ {as:List (Fr × D)} {vs:List V} {n:Fp},Reps G Fz am H (as.map (·.1)) vs (as.map (·.2)) n ->
  EnvR G Fz am H (as.map some++List.replicate m none) (vs.map some++List.replicate m none) n:=by
 intro as
 induction as with
 | nil=>
  intro vs n r
  cases r with
  | nil h=>
   show EnvR G Fz am H (List.replicate m none) (List.replicate m none) n
   induction m with
   | zero=>exact .nil h
   | succ m ih=>rw[List.replicate_succ,List.replicate_succ];exact .non ih
 | cons a as ih=>
  intro vs n r
  obtain⟨f,d⟩:=a
  cases r with
  | cons h1 h2 h3=>exact .som h1 (ih h2) h3
theorem ok_fn {S:Sx}{x qual:Str}{params:Arguments}{body:List Stmt}{dvs:List V}{kws:List (Str × V)}{f:Addr}{fd:FuncData}{ps:List Str}{db:Zi}(F:FunD S.G.K x qual params body S.sc dvs kws f fd)(Sc:FnScope S.N ps S.sc)(hb:DSs S body db)(hf:S.fnA=true)(hmk:S.lmk=none:=by rfl):
  FnOk S.P S.w S.G.K S.mg S.base (L2.CX S.P S.w) (S.k+1) f fd ps (SpF S.G ps.length (WB S.N.length db)):=by
 refine F.ok Sc (λvs H Q E h=>h.1) λcdv A outer s H vs Q E hr h=>?_
 obtain⟨hl,Fz,am,as,st,na,ns,h1,h2,h3,h4⟩:=h
 obtain⟨t,pt,qt⟩:=hb λcls d _ H=>E cls d H
 have hX:Stx S (cxOf (L2.CX S.P S.w) S.P S.w S.G.K S.mg S.base S.N qual S.sc f cdv A outer s H E):=⟨rfl,rfl,rfl,rfl,rfl,rfl,rfl,Sc.nd,rfl,hr,passes_of rfl,λ_ _=>rfl,λ_=>⟨rfl,rfl⟩,λc q h=>(by rw[hmk] at h;cases h),λ_ _=>rfl⟩
 refine⟨t,pt _ hX (takes_of rfl rfl rfl rfl),?_⟩
 have la:as.length=vs.length:=by have:=h1.len;simpa using this.2.symm
 refine qt ⟨H,λp=>0<na p+ns p,Fz,am⟩ (ZbA S.N.length as) st [] (L2.start S.N vs) H _ (λa ha=>by cases ha) ⟨Fz,am,na,λ_=>0,ns,?_,.nil λ_=>rfl,h2,h3.less λq=>by show na q+0+ns q<=_;omega,trivial⟩ ?_
 ·unfold ZbA L2.start
  rw[la]
  exact env_start h1
 ·unfold WB at h4
  cases e:db (ZbA S.N.length as) st with
  | stuck=>rw[e] at h4;exact h4.elim
  | bk env1 st1=>rw[e] at h4;exact h4.elim
  | ct env1 st1=>rw[e] at h4;exact h4.elim
  | rt f d st1=>rw[e] at h4;exact h4.2
  | nx env1 st1=>rw[e] at h4;exact λσ' H' R=>h4.2 .non H' (Rl.ret (b:=false) (Rl.scal (v:=.non) (d:=.non) R trivial) rfl)
  | exc c ds env1 st1=>
   rw[e] at h4
   intro σ' cls dx H' R
   refine h4 cls dx H' ?_
   obtain⟨Fz',am',ne,nt,ns',k1,k2,k3,k4,k5⟩:=R
   cases k2 with
   | nil h0=>exact⟨Fz',am',λ_=>0,λ_=>0,ns',.nil λ_=>rfl,.nil λ_=>rfl,k3,k4.less λq=>by show 0+0+ns' q<=_;omega,k5⟩
section
variable {G:Sg}{Fz:Addr->Prop}{am:List Addr}{H H':Hp}{v:V}
theorem View.int {i:Int}(h:View G Fz am H v (.int i)):v=.int i:=by
 cases v<;>first | exact congrArg V.int h | exact h.elim
theorem View.bl {i:Bool}(h:View G Fz am H v (.bl i)):v=.bl i:=by
 cases v<;>first | exact congrArg V.bl h | exact h.elim
theorem View.str {i:Str}(h:View G Fz am H v (.str i)):v=.str i:=by
 cases v<;>first | exact congrArg V.str h | exact h.elim
theorem View.non (h:View G Fz am H v .non):v=.non:=by
 cases v<;>first | rfl | exact h.elim
theorem View.fnv {k:Addr}{j:Nat}(h:View G Fz am H v (.fnv k j)):v=.ref k:=by
 cases v<;>exact h
theorem View.tup {ds:List D}(h:View G Fz am H v (.con .tup ds)):∃ p vs,v=.ref p∧SqT G.K H p vs∧Reps G Fz am H (zs ds.length) vs ds (λ_=>0):=h
def Kd.seq:Kd->Bool
 | .tup=>true
 | .lst=>true
 | .frl=>true
 | _=>false
def Kd.sq:Kd->Bool
 | .lst=>true
 | .frl=>true
 | _=>false
theorem View.sq {k:Kd}{ds:List D}(hk:k.sq=true)(h:View G Fz am H v (.con k ds)):∃ p vs,v=.ref p∧SqL G.K H p vs∧Reps G Fz am H (zs ds.length) vs ds (λ_=>0):=by
 obtain⟨p,vs,e,r,s⟩:=h
 cases k with
 | lst=>
  obtain⟨o,r1,r2⟩:=r
  have e2:o=.lst vs:=r2
  subst e2
  exact⟨p,vs,e,.inl (.inl r1),s⟩
 | frl=>exact⟨p,vs,e,r,s⟩
 | _=>cases hk
theorem View.seq {k:Kd}{ds:List D}(hk:k.seq=true)(h:View G Fz am H v (.con k ds)):∃ p vs,v=.ref p∧(SqL G.K H p vs∨SqT G.K H p vs)∧Reps G Fz am H (zs ds.length) vs ds (λ_=>0):=by
 cases k with
 | tup=>
  obtain⟨p,vs,e,r,s⟩:=h.tup
  exact⟨p,vs,e,.inr r,s⟩
 | lst=>
  obtain⟨p,vs,e,r,s⟩:=h.sq rfl
  exact⟨p,vs,e,.inl r,s⟩
 | frl=>
  obtain⟨p,vs,e,r,s⟩:=h.sq rfl
  exact⟨p,vs,e,.inl r,s⟩
 | _=>cases hk
theorem View.lst {ds:List D}(h:View G Fz am H v (.con .lst ds)):∃ p vs,v=.ref p∧H p=some (.lst vs)∧Reps G Fz am H (zs ds.length) vs ds (λ_=>0):=by
 obtain⟨p,vs,e,⟨o,r1,r2⟩,s⟩:=h
 have e2:o=.lst vs:=r2
 subst e2
 exact⟨p,vs,e,r1,s⟩
theorem View.nonI {d:D}(h:View G Fz am H v d)(hf:∀ k j,d ≠ .fnv k j):(v=.non)=(d=.non):=by
 cases d with
 | non=>rw[h.non];simp
 | fnv k j=>exact absurd rfl (hf k j)
 | con k ds=>obtain⟨p,vs,e,_⟩:=h;subst e;simp
 | ref i=>obtain⟨p,e,_⟩:=h;subst e;simp
 | int i=>rw[h.int];simp
 | bl i=>rw[h.bl];simp
 | str i=>rw[h.str];simp
theorem Vws.two {vs:List V}{a b:D}(h:Vws G Fz am H vs [a,b]):∃ v w,vs=[v,w]∧View G Fz am H v a∧View G Fz am H w b:=by
 cases h with
 | cons h1 h2=>
  cases h2 with
  | cons h3 h4=>cases h4;exact⟨_,_,rfl,h1,h3⟩
theorem Vws.one {vs:List V}{a:D}(h:Vws G Fz am H vs [a]):∃ v,vs=[v]∧View G Fz am H v a:=by
 cases h with
 | cons h1 h2=>cases h2;exact⟨_,rfl,h1⟩
theorem reps_at {ds:List D}{vs:List V}{d:D}{i:Int}(r:Reps G Fz am H (zs ds.length) vs ds (λ_=>0))(h:atI ds i=some d):∃ v,atI vs i=some v∧Rep G Fz am H .z v d (λ_=>0):=by
 unfold atI at h ⊢
 rw[r.len.2]
 cases e:ixN ds.length i with
 | none=>rw[e] at h;cases h
 | some j=>
  rw[e] at h
  have h2:ds[j]?=some d:=h
  have hj:j<vs.length:=by rw[r.len.2];exact (List.getElem?_eq_some_iff.mp h2).1
  exact⟨vs[j],List.getElem?_eq_getElem hj,UU r (List.getElem?_eq_getElem hj) h2⟩
end
section
variable {G:Sg}
@[simp] def oI2 (f:Int->Int->Option D):Op:=λds=>match ds with
 | [.int i,.int j]=>(f i j).map λd=>(.z,d)
 | _=>none
theorem v_I2 {C:Int->Int->Prop}{g:Int->Int->V}{f:Int->Int->Option D}(hf:∀ i j d,f i j=some d->C i j∧Scal G (g i j) d):VOp G (l2 (rI C g)) (oI2 f):=λFz am H vs ds fr d Q h1 h2 h3=>by
 unfold oI2 at h2
 split at h2
 ·obtain⟨v,w,rfl,a,b⟩:=h1.two
  obtain⟨d',e1,e2⟩:=Option.map_eq_some_iff.mp h2
  cases e2
  obtain⟨c,s⟩:=hf _ _ _ e1
  exact⟨_,_,a.int,b.int,c,h3 _ H _ (same_refl H) Va (.sc s λ_=>rfl)⟩
 ·cases h2
theorem v_I0 {g:Int->Int->V}{f:Int->Int->Option D}(hf:∀ i j d,f i j=some d->Scal G (g i j) d):VOp G (l2 (rI0 g)) (oI2 f):=
 (v_I2 (C:=λ_ _=>True) λi j d e=>⟨trivial,hf i j d e⟩).imp λvs H Q ⟨i,j,a,b,_,q⟩=>⟨i,j,a,b,q⟩
@[simp] def oS1 (f:D->Option D):Op:=λds=>match ds with
 | [a]=>(f a).map λd=>(.z,d)
 | _=>none
@[simp] def oS2 (f:D->D->Option D):Op:=λds=>match ds with
 | [a,b]=>(f a b).map λd=>(.z,d)
 | _=>none
theorem v_S2 {r:R2}{f:D->D->Option D}(hf:∀ Fz am H v w a b d Q,View G Fz am H v a->View G Fz am H w b->f a b=some d->(∀ x,Scal G x d->Q x H)->r v w H Q):VOp G (l2 r) (oS2 f):=λFz am H vs ds fr d Q h1 h2 h3=>by
 unfold oS2 at h2
 split at h2
 ·obtain⟨v,w,rfl,a,b⟩:=h1.two
  obtain⟨d',e1,e2⟩:=Option.map_eq_some_iff.mp h2
  cases e2
  exact hf _ _ _ _ _ _ _ _ _ a b e1 λx s=>h3 _ H _ (same_refl H) Va (.sc s λ_=>rfl)
 ·cases h2
theorem v_C1 {r:List V->Hp->VK->Prop}{f:D->Option D}(hf:∀ Fz am H v a d Q,View G Fz am H v a->f a=some d->(∀ x,Scal G x d->Q x H)->r [v] H Q):VOp G r (oS1 f):=λFz am H vs ds fr d Q h1 h2 h3=>by
 unfold oS1 at h2
 split at h2
 ·obtain⟨v,rfl,a⟩:=h1.one
  obtain⟨d',e1,e2⟩:=Option.map_eq_some_iff.mp h2
  cases e2
  exact hf _ _ _ _ _ _ _ a e1 λx s=>h3 _ H _ (same_refl H) Va (.sc s λ_=>rfl)
 ·cases h2
@[simp] def oAddI:Op:=oI2 λi j=>some (.int (i+j))
@[simp] def oSubI:Op:=oI2 λi j=>some (.int (i - j))
def Zas (i j:Int):Bool:=decide (i.natAbs.log2+j.natAbs.log2<1000000)
@[simp] def oMulI:Op:=oI2 λi j=>bif Zas i j then some (.int (i * j)) else none
def divOk (j:Int):Bool:=decide (j≠0)&&decide (j.natAbs.log2<9000)
@[simp] def oFdiv:Op:=oI2 λi j=>bif divOk j then some (.int (i.fdiv j)) else none
@[simp] def oMod:Op:=oI2 λi j=>bif decide (j≠0) then some (.int (i.fmod j)) else none
def powOk (i j:Int):Bool:=decide (0<=j)&&decide (j<=1000000)&&decide (i.natAbs<18446744073709551616)
@[simp] def oPow:Op:=oI2 λi j=>bif powOk i j then some (.int (i ^ j.toNat)) else none
theorem v_addI:VOp G (l2 (rI0 λi j=>.int (i+j))) oAddI:=v_I0 λi j d e=>by cases e;rfl
theorem v_subI:VOp G (l2 (rI0 λi j=>.int (i - j))) oSubI:=v_I0 λi j d e=>by cases e;rfl
theorem bifS {α:Type}{c:Bool}{a b:α}(h:(bif c then some a else none)=some b):c=true∧a=b:=by
 cases c with
 | true=>exact⟨rfl,Option.some.inj h⟩
 | false=>cases h
theorem v_mulI:VOp G (l2 (rI CMulW λi j=>.int (i * j))) oMulI:=v_I2 λi j d e=>by
 obtain⟨c,e⟩:=bifS e
 subst e
 exact⟨by simpa [Zas,CMulW] using c,rfl⟩
def CDivF (_ j:Int):Prop:=j≠0∧j.natAbs.log2<9000
theorem op_fdivF {X:Cx}:OpR X (binaryOp .FloorDiv) (rI CDivF λi j=>.int (i.fdiv j)):=opI λi j _ _ _ _ _ hc q=>floordiv_int hc.1 q (.inl (PyProof.noPylong_of_log2 hc.2))
theorem v_fdiv:VOp G (l2 (rI CDivF λi j=>.int (i.fdiv j))) oFdiv:=v_I2 λi j d e=>by
 obtain⟨c,e⟩:=bifS e
 subst e
 simp only[divOk,Bool.and_eq_true,decide_eq_true_eq] at c
 exact⟨c,rfl⟩
theorem v_mod:VOp G (l2 (rI (λ_ j=>j≠0) λi j=>.int (i.fmod j))) oMod:=v_I2 λi j d e=>by
 obtain⟨c,e⟩:=bifS e
 subst e
 exact⟨of_decide_eq_true c,rfl⟩
theorem v_pow:VOp G (l2 (rI CPow λi j=>.int (i ^ j.toNat))) oPow:=v_I2 λi j d e=>by
 obtain⟨c,e⟩:=bifS e
 subst e
 simp only[powOk,Bool.and_eq_true,decide_eq_true_eq] at c
 exact⟨⟨c.1.1,c.1.2,by have:=c.2;omega⟩,rfl⟩
@[simp] def oLt:Op:=oI2 λi j=>some (.bl (decide (i<j)))
@[simp] def oLe:Op:=oI2 λi j=>some (.bl (decide (i<=j)))
@[simp] def oGt:Op:=oI2 λi j=>some (.bl (decide (j<i)))
@[simp] def oGe:Op:=oI2 λi j=>some (.bl (decide (j<=i)))
theorem v_lt:VOp G (l2 (rI0 λi j=>.bl (decide (i<j)))) oLt:=v_I0 λi j d e=>by cases e;rfl
theorem v_le:VOp G (l2 (rI0 λi j=>.bl (decide (i<=j)))) oLe:=v_I0 λi j d e=>by cases e;rfl
theorem v_gt:VOp G (l2 (rI0 λi j=>.bl (decide (j<i)))) oGt:=v_I0 λi j d e=>by cases e;rfl
theorem v_ge:VOp G (l2 (rI0 λi j=>.bl (decide (j<=i)))) oGe:=v_I0 λi j d e=>by cases e;rfl
def rSubB:R2:=λx y H Q=>∃ i j,x=.bl i∧y=.bl j∧Q (.int ((if i then 1 else 0) - (if j then 1 else 0))) H
theorem op_subB {X:Cx}:OpR X (binaryOp .Sub) rSubB:=by
 intro pins s σ H x y v u Q I rx ry h
 obtain⟨i,j,rfl,rfl,q⟩:=h
 cases rx
 cases ry
 exact sub_bool ⟨.int _,H,I.tok _,⟨_,rfl⟩,q⟩
@[simp] def oSubB:Op:=oS2 λa b=>match a,b with
 | .bl i,.bl j=>some (.int ((if i then 1 else 0) - (if j then 1 else 0)))
 | _,_=>none
theorem v_subB:VOp G (l2 rSubB) oSubB:=v_S2 λFz am H v w a b d Q h1 h2 e q=>by
 split at e
 ·cases e;rw[h1.bl,h2.bl];exact⟨_,_,rfl,rfl,q _ rfl⟩
 ·cases e
@[simp] def oSub:Op:=orOp oSubI oSubB
mutual
def D.py:D->Option PyData
 | .non=>some .none
 | .bl b=>some (.bool b)
 | .int i=>some (.int i)
 | .str s=>some (.str s)
 | .con .tup ds=>(D.pys ds).map PyData.tuple
 | .con .lst ds=>(D.pys ds).map PyData.list
 | .con .frl ds=>(D.pys ds).map PyData.list
 | _=>none
def D.pys:List D->Option (List PyData)
 | []=>some []
 | d :: ds=>match D.py d,D.pys ds with
  | some a,some b=>some (a :: b)
  | _,_=>none
end
section
variable {Fz:Addr->Prop}{am:List Addr}{H:Hp}
mutual
theorem rep_dp:∀ (d:D) {f:Fr} {v:V} {n:Fp} {e:PyData},Rep G Fz am H f v d n->d.py=some e->Dp G.K H v e
 | .non,f,v,n,e,r,h=>by
  cases r with
  | sc s _=>unfold D.py at h;cases h;cases v<;>first | exact .non | exact s.elim
 | .bl b,f,v,n,e,r,h=>by
  cases r with
  | sc s _=>unfold D.py at h;cases h;cases v<;>first | (cases (show _=b from s);exact .bl _) | exact s.elim
 | .int b,f,v,n,e,r,h=>by
  cases r with
  | sc s _=>unfold D.py at h;cases h;cases v<;>first | (cases (show _=b from s);exact .int _) | exact s.elim
 | .str b,f,v,n,e,r,h=>by
  cases r with
  | sc s _=>unfold D.py at h;cases h;cases v<;>first | (cases (show _=b from s);exact .str _) | exact s.elim
 | .fnv k j,f,v,n,e,r,h=>by unfold D.py at h;cases h
 | .ref k,f,v,n,e,r,h=>by unfold D.py at h;cases h
 | .con .tup ds,f,v,n,e,r,h=>by
  unfold D.py at h
  obtain⟨es,e1,e2⟩:=Option.map_eq_some_iff.mp h
  subst e2
  cases r with
  | sc s _=>cases v<;>exact s.elim
  | zz a b c=>exact .tup a (Ui ds b e1)
  | tp a b=>exact .tup a (Ui ds b e1)
  | cc a b c=>exact absurd rfl a.1.1
 | .con .lst ds,f,v,n,e,r,h=>by
  unfold D.py at h
  obtain⟨es,e1,e2⟩:=Option.map_eq_some_iff.mp h
  subst e2
  cases r with
  | sc s _=>cases v<;>exact s.elim
  | zz a b c=>
   obtain⟨_,o,a1,a2⟩:=a
   have e2:o=.lst _:=a2
   subst e2
   exact .lst (.inl (.inl a1)) (Ui ds b e1)
  | cc a b c=>
   obtain⟨_,o,a1,a2⟩:=a
   have e2:o=.lst _:=a2
   subst e2
   exact .lst (.inl (.inl a1)) (Ui ds b e1)
 | .con .frl ds,f,v,n,e,r,h=>by
  unfold D.py at h
  obtain⟨es,e1,e2⟩:=Option.map_eq_some_iff.mp h
  subst e2
  cases r with
  | sc s _=>cases v<;>exact s.elim
  | zz a b c=>
   refine .lst ?_ (Ui ds b e1)
   rcases a with ⟨_,h⟩ | (h | ⟨_,h⟩) | h
   ·exact .inl h
   ·cases h
   ·cases h
   ·exact .inr h
  | cc a b c=>exact absurd rfl a.1.2
 | .con (.dik ks) ds,f,v,n,e,r,h=>by unfold D.py at h;cases h
 | .con (.dit ks) ds,f,v,n,e,r,h=>by unfold D.py at h;cases h
 | .con (.ins c) ds,f,v,n,e,r,h=>by unfold D.py at h;cases h
theorem Ui:∀ (ds:List D) {fs:List Fr} {vs:List V} {n:Fp} {es:List PyData},Reps G Fz am H fs vs ds n->D.pys ds=some es->DpAll G.K H vs es
 | [],fs,vs,n,es,r,h=>by
  cases r
  unfold D.pys at h
  cases h
  exact .nil
 | d :: ds,fs,vs,n,es,r,h=>by
  unfold D.pys at h
  split at h
  ·rename_i a b ea eb
   cases h
   cases r with
   | cons r1 r2 _=>exact .cons (rep_dp d r1 ea) (Ui ds r2 eb)
  ·cases h
end
theorem Ug {d:D}{v:V}{e:PyData}(h:View G Fz am H v d)(he:d.py=some e):Dp G.K H v e:=by
 have main:∀ {k:Kd} {ds:List D},k.seq=true->View G Fz am H v (.con k ds)->∀ {es},D.pys ds=some es->((k=.tup->Dp G.K H v (.tuple es))∧(k.sq=true->Dp G.K H v (.list es))):=λ{k ds} hk h {es} e1=>by
  constructor
  ·intro e
   subst e
   obtain⟨p,vs,rfl,r,s⟩:=h.tup
   exact .tup r (Ui ds s e1)
  ·intro e
   obtain⟨p,vs,rfl,r,s⟩:=h.sq e
   exact .lst r (Ui ds s e1)
 cases d with
 | non=>unfold D.py at he;cases he;rw[h.non];exact .non
 | bl b=>unfold D.py at he;cases he;rw[h.bl];exact .bl _
 | int b=>unfold D.py at he;cases he;rw[h.int];exact .int _
 | str b=>unfold D.py at he;cases he;rw[h.str];exact .str _
 | fnv k j=>unfold D.py at he;cases he
 | ref k=>unfold D.py at he;cases he
 | con k ds=>
  cases k with
  | tup=>
   unfold D.py at he
   obtain⟨es,e1,e2⟩:=Option.map_eq_some_iff.mp he
   subst e2
   exact (main rfl h e1).1 rfl
  | lst=>
   unfold D.py at he
   obtain⟨es,e1,e2⟩:=Option.map_eq_some_iff.mp he
   subst e2
   exact (main rfl h e1).2 rfl
  | frl=>
   unfold D.py at he
   obtain⟨es,e1,e2⟩:=Option.map_eq_some_iff.mp he
   subst e2
   exact (main rfl h e1).2 rfl
  | dik ks=>unfold D.py at he;cases he
  | dit ks=>unfold D.py at he;cases he
  | ins c=>unfold D.py at he;cases he
end
def eqD (a b:D):Option Bool:=match a.py,b.py with
 | some x,some y=>bif SeqAt.shaped x&&SeqAt.shaped y then some (PyData.eqv x y) else none
 | _,_=>none
@[simp] def oEq:Op:=oS2 λa b=>(eqD a b).map D.bl
@[simp] def oNe:Op:=oS2 λa b=>(eqD a b).map λc=>D.bl (!c)
theorem Zcu {a b:D}{c:Bool}(h:eqD a b=some c):∃ x y,a.py=some x∧b.py=some y∧SeqAt.shaped x=true∧SeqAt.shaped y=true∧PyData.eqv x y=c:=by
 unfold eqD at h
 split at h
 ·rename_i x y e1 e2
  obtain⟨c1,c2⟩:=bifS h
  rw[Bool.and_eq_true] at c1
  exact⟨x,y,e1,e2,c1.1,c1.2,c2⟩
 ·cases h
theorem v_eq:VOp G (l2 (rEqD G.K)) oEq:=v_S2 λFz am H v w a b d Q h1 h2 e q=>by
 obtain⟨c,e1,e2⟩:=Option.map_eq_some_iff.mp e
 subst e2
 obtain⟨x,y,a1,a2,a3,a4,a5⟩:=Zcu e1
 exact⟨x,y,Ug h1 a1,Ug h2 a2,a3,a4,q _ a5⟩
theorem v_ne:VOp G (l2 (rNeD G.K)) oNe:=v_S2 λFz am H v w a b d Q h1 h2 e q=>by
 obtain⟨c,e1,e2⟩:=Option.map_eq_some_iff.mp e
 subst e2
 obtain⟨x,y,a1,a2,a3,a4,a5⟩:=Zcu e1
 refine⟨x,y,Ug h1 a1,Ug h2 a2,a3,a4,q _ ?_⟩
 rw[a5]
 exact rfl
@[simp] def isN (a:D):Option Bool:=match a with
 | .non=>some true
 | .fnv _ _=>none
 | _=>some false
@[simp] def oIsN:Op:=oS2 λa b=>match b with
 | .non=>(isN a).map D.bl
 | _=>none
@[simp] def oNotN:Op:=oS2 λa b=>match b with
 | .non=>(isN a).map λc=>D.bl (!c)
 | _=>none
theorem isN_some {a:D}{c:Bool}(h:isN a=some c):(∀ k j,a ≠ .fnv k j)∧(a=.non↔c=true):=by
 cases a<;>simp_all [isN]
theorem v_isN:VOp G (l2 λx y H Q=>y=.non∧Q (.bl (decide (x=.non))) H) oIsN:=v_S2 λFz am H v w a b d Q h1 h2 e q=>by
 split at e
 ·obtain⟨c,e1,e2⟩:=Option.map_eq_some_iff.mp e
  subst e2
  obtain⟨a1,a2⟩:=isN_some e1
  refine⟨h2.non,q _ ?_⟩
  have:=h1.nonI a1
  show decide (v=.non)=c
  cases c<;>simp_all
 ·cases e
theorem v_notN:VOp G (l2 λx y H Q=>y=.non∧Q (.bl (!decide (x=.non))) H) oNotN:=v_S2 λFz am H v w a b d Q h1 h2 e q=>by
 split at e
 ·obtain⟨c,e1,e2⟩:=Option.map_eq_some_iff.mp e
  subst e2
  obtain⟨a1,a2⟩:=isN_some e1
  refine⟨h2.non,q _ ?_⟩
  have:=h1.nonI a1
  show (!decide (v=.non))=!c
  cases c<;>simp_all
 ·cases e
@[simp] def oIxS:Op:=λds=>match ds with
 | [.con k xs,.int i]=>bif k.seq then (atI xs i).map λd=>(.z,d) else none
 | _=>none
theorem v_ix:VOp G (l2 (rIx G.K)) oIxS:=λFz am H vs ds fr d Q h1 h2 h3=>by
 unfold oIxS at h2
 split at h2
 ·rename_i k xs i
  obtain⟨v,w,rfl,a,b⟩:=h1.two
  cases hk:k.seq with
  | false=>rw[hk] at h2;cases h2
  | true=>
   rw[hk] at h2
   obtain⟨d',e1,e2⟩:=Option.map_eq_some_iff.mp h2
   cases e2
   obtain⟨p,ys,e,r,s⟩:=a.seq hk
   obtain⟨x,e3,r3⟩:=reps_at s e1
   have q:=h3 x H _ (same_refl H) Va r3
   rcases r with r | r
   ·exact .inl ⟨p,ys,i,x,e,b.int,r,e3,q⟩
   ·exact .inr (.inl ⟨p,ys,i,x,e,b.int,r,e3,q⟩)
 ·cases h2
@[simp] def oLenS:Op:=oS1 λa=>match a with
 | .con k xs=>bif k.seq then some (.int xs.length) else none
 | _=>none
theorem v_len:VOp G (λxs H Q=>∃ p ys,xs=[.ref p]∧(SqL G.K H p ys∨SqT G.K H p ys)∧Q (.int ys.length) H) oLenS:=v_C1 λFz am H v a d Q h e q=>by
 split at e
 ·rename_i k xs
  obtain⟨hk,e2⟩:=bifS e
  subst e2
  obtain⟨p,ys,rfl,r,s⟩:=h.seq hk
  refine⟨p,ys,rfl,r,q _ ?_⟩
  show (ys.length:Int)=xs.length
  rw[s.len.2]
 ·cases e
theorem UL {Fz:Addr->Prop}{am:List Addr}{H:Hp}{vs:List V}{ds:List D}{Q:VK}(s:Reps G Fz am H (zs ds.length) vs ds (λ_=>0))
  (h:∀ v H' n,Same H H' -> Newp H H' n->Rep G Fz am H' (.c .z) v (.con .lst ds) n->Q v H'):∀ p,H p=none->Q (.ref p) (upd H p (.lst vs)):=λp hp=>
 h (.ref p) _ (one1 p) (Vb hp) (newp1 hp trivial) (rep_lst (Ext.same (Vb hp) λ_ h=>h) s)
theorem UT {Fz:Addr->Prop}{am:List Addr}{H:Hp}{vs:List V}{ds:List D}{Q:VK}(s:Reps G Fz am H (zs ds.length) vs ds (λ_=>0))
  (h:∀ v H' n,Same H H' -> Newp H H' n->Rep G Fz am H' .z v (.con .tup ds) n->Q v H'):∀ p,H p=none->Q (.ref p) (upd H p (.tup vs)):=λp hp=>
 h (.ref p) _ (λ_=>0) (Vb hp) Va (rep_tup (Ext.same (Vb hp) λ_ h=>h) s)
@[simp] def oList:Op:=λds=>match ds with
 | [.con k xs]=>bif k.seq then some (.c .z,.con .lst xs) else none
 | _=>none
theorem v_list:VOp G (λxs H Q=>∃ p ys,xs=[.ref p]∧(SqL G.K H p ys∨SqT G.K H p ys)∧∀ l,H l=none->Q (.ref l) (upd H l (.lst ys))) oList:=λFz am H vs ds fr d Q h1 h2 h3=>by
 unfold oList at h2
 split at h2
 ·rename_i k xs
  obtain⟨v,rfl,a⟩:=h1.one
  obtain⟨hk,e2⟩:=bifS h2
  cases e2
  obtain⟨p,ys,rfl,r,s⟩:=a.seq hk
  exact⟨p,ys,rfl,r,UL s h3⟩
 ·cases h2
@[simp] def WN:Op:=λds=>match ds with
 | [.con k xs]=>bif k.seq then some (.z,.con .tup xs) else none
 | _=>none
theorem v_tuple:VOp G (λxs H Q=>∃ p ys,xs=[.ref p]∧((SqL G.K H p ys∧∀ l,H l=none->Q (.ref l) (upd H l (.tup ys)))∨(SqT G.K H p ys∧Q (.ref p) H))) WN:=λFz am H vs ds fr d Q h1 h2 h3=>by
 unfold WN at h2
 split at h2
 ·rename_i k xs
  obtain⟨v,rfl,a⟩:=h1.one
  obtain⟨hk,e2⟩:=bifS h2
  cases e2
  cases k with
  | tup=>
   obtain⟨p,ys,rfl,r,s⟩:=a.tup
   exact⟨p,ys,rfl,.inr ⟨r,h3 _ H _ (same_refl H) Va (.zz (k:=.tup) r s λ_=>rfl)⟩⟩
  | lst=>
   obtain⟨p,ys,rfl,r,s⟩:=a.sq rfl
   exact⟨p,ys,rfl,.inl ⟨r,UT s h3⟩⟩
  | frl=>
   obtain⟨p,ys,rfl,r,s⟩:=a.sq rfl
   exact⟨p,ys,rfl,.inl ⟨r,UT s h3⟩⟩
  | _=>cases hk
 ·cases h2
@[simp] def oAddS:Op:=oS2 λa b=>match a,b with
 | .str x,.str y=>bif (x.length+y.length).ble 16777216 then some (.str (x++y)) else none
 | _,_=>none
theorem v_addS:VOp G (l2 λx y H Q=>∃ i j,x=.str i∧y=.str j∧i.length+j.length<=sizeLine∧Q (.str (i++j)) H) oAddS:=v_S2 λFz am H v w a b d Q h1 h2 e q=>by
 split at e
 ·obtain⟨hk,e2⟩:=bifS e
  subst e2
  exact⟨_,_,h1.str,h2.str,ZbH hk,q _ rfl⟩
 ·cases e
@[simp] def oAddL:Op:=λds=>match ds with
 | [.con .lst xs,.con .lst ys]=>bif (xs.length+ys.length).ble 16777216 then some (.c .z,.con .lst (xs++ys)) else none
 | _=>none
theorem Reps.cat {Fz:Addr->Prop}{am:List Addr}{H:Hp}{vs ws:List V}{xs ys:List D}(s:Reps G Fz am H (zs xs.length) vs xs (λ_=>0))(s2:Reps G Fz am H (zs ys.length) ws ys (λ_=>0)):Reps G Fz am H (zs (xs++ys).length) (vs++ws) (xs++ys) (λ_=>0):=by
 have:=Reps.app s2 s
 have e:zs xs.length++zs ys.length=zs (xs++ys).length:=by
  unfold zs
  rw[List.replicate_append_replicate,List.length_append]
 rw[e] at this
 exact this
theorem v_addL:VOp G (l2 rCat) oAddL:=λFz am H vs ds fr d Q h1 h2 h3=>by
 unfold oAddL at h2
 split at h2
 ·rename_i xs ys
  obtain⟨v,w,rfl,a,b⟩:=h1.two
  obtain⟨hk,e2⟩:=bifS h2
  cases e2
  obtain⟨p,as,e,r,s⟩:=a.lst
  obtain⟨p2,bs,e',r2,s2⟩:=b.lst
  exact⟨p,p2,as,bs,e,e',r,r2,by rw[s.len.2,s2.len.2];exact ZbH hk,UL (s.cat s2) h3⟩
 ·cases h2
@[simp] def oAddT:Op:=λds=>match ds with
 | [.con .tup xs,.con .tup ys]=>bif (xs.length+ys.length).ble 16777216 then some (.z,.con .tup (xs++ys)) else none
 | _=>none
theorem Reps.nilD {Fz:Addr->Prop}{am:List Addr}{H:Hp}{fs:List Fr}{n:Fp}{vs:List V}{xs:List D}(s:Reps G Fz am H fs vs xs n):vs=[]↔xs=[]:=by
 constructor<;>intro e<;>subst e<;>cases s<;>rfl
theorem v_addT:VOp G (l2 (rCatA G.K)) oAddT:=λFz am H vs ds fr d Q h1 h2 h3=>by
 unfold oAddT at h2
 split at h2
 ·rename_i xs ys
  obtain⟨v,w,rfl,a,b⟩:=h1.two
  obtain⟨hk,e2⟩:=bifS h2
  cases e2
  obtain⟨p,as,e,r,s⟩:=a.tup
  obtain⟨p2,bs,e',r2,s2⟩:=b.tup
  refine⟨p,p2,as,bs,e,e',r,r2,by rw[s.len.2,s2.len.2];exact ZbH hk,λz=>?_,λz z2=>?_,λ_ _=>UT (s.cat s2) h3⟩
  ·have z':=s.nilD.mp z
   subst z'
   exact h3 _ H _ (same_refl H) Va (.zz (k:=.tup) r2 s2 λ_=>rfl)
  ·have z':=s2.nilD.mp z2
   subst z'
   rw[List.append_nil] at h3
   exact h3 _ H _ (same_refl H) Va (.zz (k:=.tup) r s λ_=>rfl)
 ·cases h2
@[simp] def oAdd:Op:=orOp oAddI (orOp oAddS (orOp oAddL oAddT))
@[simp] def oMulL:Op:=λds=>match ds with
 | [.con .lst xs,.int k]=>bif decide (-16777216<=k)&&decide (k<=16777216)&&(xs.length * k.toNat).ble 16777216 then some (.c .z,.con .lst (List.replicate k.toNat xs).flatten) else none
 | _=>none
theorem Reps.rep {Fz:Addr->Prop}{am:List Addr}{H:Hp}{vs:List V}{xs:List D}(s:Reps G Fz am H (zs xs.length) vs xs (λ_=>0)):∀ k:Nat,Reps G Fz am H (zs (List.replicate k xs).flatten.length) (List.replicate k vs).flatten (List.replicate k xs).flatten (λ_=>0)
 | 0=>.nil λ_=>rfl
 | k+1=>by
  rw[List.replicate_succ,List.replicate_succ,List.flatten_cons,List.flatten_cons]
  exact s.cat (Reps.rep s k)
theorem v_mulL:VOp G (l2 rRep) oMulL:=λFz am H vs ds fr d Q h1 h2 h3=>by
 unfold oMulL at h2
 split at h2
 ·rename_i xs k
  obtain⟨v,w,rfl,a,b⟩:=h1.two
  obtain⟨hk,e2⟩:=bifS h2
  cases e2
  simp only[Bool.and_eq_true,decide_eq_true_eq] at hk
  obtain⟨p,as,e,r,s⟩:=a.lst
  exact⟨p,k,as,e,b.int,r,by omega,by omega,by rw[s.len.2];exact ZbH hk.2,UL (s.rep _) h3⟩
 ·cases h2
@[simp] def oMul:Op:=orOp oMulI oMulL
@[simp] def UN:Op:=oI2 λi j=>some (.int (if j<i then j else i))
theorem v_min2:VOp G (λxs H Q=>∃ i j,xs=[.int i,.int j]∧Q (.int (if j<i then j else i)) H) UN:=λFz am H vs ds fr d Q h1 h2 h3=>by
 unfold UN oI2 at h2
 split at h2
 ·cases h2
  obtain⟨v,w,rfl,a,b⟩:=h1.two
  rw[a.int,b.int]
  exact⟨_,_,rfl,h3 _ H _ (same_refl H) Va (.sc rfl λ_=>rfl)⟩
 ·cases h2
@[simp] def oInt1:Op:=oS1 λa=>match a with
 | .int i=>some (.int i)
 | .bl k=>some (.int (if k then 1 else 0))
 | _=>none
theorem v_int1:VOp G (λxs H Q=>(∃ i,xs=[.int i]∧Q (.int i) H)∨∃ k,xs=[.bl k]∧Q (.int (if k then 1 else 0)) H) oInt1:=v_C1 λFz am H v a d Q h e q=>by
 split at e
 ·cases e;rw[h.int];exact .inl ⟨_,rfl,q _ rfl⟩
 ·cases e;rw[h.bl];exact .inr ⟨_,rfl,q _ rfl⟩
 ·cases e
theorem scal_bl {v:V}{b:Bool}(h:Scal G v (.bl b)):v=.bl b:=by cases v<;>first | exact congrArg V.bl h | exact h.elim
@[simp] def bools:List D->Option (List Bool)
 | []=>some []
 | .bl b :: ds=>(bools ds).map (b :: ·)
 | _=>none
theorem ZdN {Fz:Addr->Prop}{am:List Addr}{H:Hp}:∀ {ds:List D} {fs:List Fr} {vs:List V} {n:Fp} {bs:List Bool},Reps G Fz am H fs vs ds n->bools ds=some bs->vs=bs.map V.bl
 | [],_,_,_,bs,r,h=>by cases r;cases h;rfl
 | .bl b :: ds,_,_,_,bs,r,h=>by
  obtain⟨bs',e1,e2⟩:=Option.map_eq_some_iff.mp h
  subst e2
  cases r with
  | cons r1 r2 _=>
   rw[ZdN r2 e1]
   cases r1 with
   | sc s _=>rw[scal_bl s];rfl
@[simp] def oAll:Op:=oS1 λa=>match a with
 | .con k xs=>bif k.sq then (bools xs).map λbs=>.bl (bs.all id) else none
 | _=>none
theorem v_all:VOp G (rAll G.K) oAll:=v_C1 λFz am H v a d Q h e q=>by
 split at e
 ·rename_i k xs
  cases hk:k.sq with
  | false=>rw[hk] at e;cases e
  | true=>
   rw[hk] at e
   obtain⟨bs,e1,e2⟩:=Option.map_eq_some_iff.mp e
   subst e2
   obtain⟨p,vs,rfl,r,s⟩:=h.sq hk
   exact⟨p,bs,rfl,ZdN s e1▸r,q _ rfl⟩
 ·cases e
end
section
variable {G:Sg}{g:Gd}{env:Env}{st st':Zd}{T T':List Tm}{σ:St}{H H':Hp}{Fz:Addr->Prop}{am:List Addr}
theorem Reps.updAt:∀ {fs:List Fr} {vs:List V} {ds:List D} {n:Fp} {i:Nat} {xs:List D},Reps G Fz am H fs vs ds n->(∀ q,n q<=1)->fs[i]?=some (.c .z)->ds[i]?=some (.con .lst xs) ->
  ∃ A acc,vs[i]?=some (.ref A)∧H A=some (.lst acc)∧Reps G Fz am H (zs xs.length) acc xs (λ_=>0)∧0<n A ∧
   ∀ acc' xs',Reps G Fz am H (zs xs'.length) acc' xs' (λ_=>0)->Ext Fz am H Fz am (upd H A (.lst acc'))->Reps G Fz am (upd H A (.lst acc')) fs vs (ds.set i (.con .lst xs')) n
 | [],_,_,_,i,xs,r,_,e1,e2=>by simp at e1
 | f0 :: fs,_,_,_,i,xs,r,hn,e1,e2=>by
  cases r with
  | @cons _ _ _ _ _ _ n1 n2 _ h1 h2 h3=>
   cases i with
   | zero=>
    simp at e1 e2
    subst e1 e2
    cases h1 with
    | @cc A _ acc _ _ _ m a1 a2 a3=>
     obtain⟨_,o,b1,b2⟩:=a1
     have e0:o=.lst acc:=b2
     subst e0
     have m0:=Reps.z0 (k:=xs.length) a2
     have hA:0<n1 A:=by rw[a3];simp
     have z2:n2 A=0:=by have:=hn A;rw[h3] at this;omega
     refine⟨A,acc,by simp,b1,a2.fp m0,by rw[h3];omega,λacc' xs' s E=>?_⟩
     refine .cons (.cc (m:=λ_=>0) ⟨by decide,_,upd_same,rfl⟩ (Reps.ext E s λp u hp=>absurd hp (Nat.lt_irrefl 0)) λq=>by rw[a3,m0]) (Reps.ext E h2 (Wl z2)) h3
   | succ i=>
    obtain⟨A,acc,a,b,c,d,k⟩:=Reps.updAt (i:=i) (xs:=xs) h2 (λq=>by have:=hn q;rw[h3] at this;omega) (by simpa using e1) (by simpa using e2)
    have z1:n1 A=0:=by have:=hn A;rw[h3] at this;omega
    exact⟨A,acc,by simpa using a,b,c,by rw[h3];omega,λacc' xs' s E=>.cons (Rep.ext E h1 (Wl z1)) (k acc' xs' s E) h3⟩
theorem StoR.updAt {ns:Fp}{c:Nat}{xs:List D}(r:StoR G Fz am H st ns)(hn:∀ q,ns q<=1)(e:st[c]?=some (.c .z,.con .lst xs)):
  ∃ A acc,am[c]?=some A∧H A=some (.lst acc)∧Reps G Fz am H (zs xs.length) acc xs (λ_=>0)∧0<ns A ∧
   ∀ acc' xs',Reps G Fz am H (zs xs'.length) acc' xs' (λ_=>0)->Ext Fz am H Fz am (upd H A (.lst acc'))->StoR G Fz am (upd H A (.lst acc')) (st.set c (.c .z,.con .lst xs')) ns:=by
 obtain⟨A,acc,a,b,s,d,k⟩:=Reps.updAt (i:=c) (xs:=xs) r hn (by simp[e]) (by simp[e])
 refine⟨A,acc,?_,b,s,d,λacc' xs' s' E=>?_⟩
 ·rw[List.getElem?_map] at a
  obtain⟨p,a1,a2⟩:=Option.map_eq_some_iff.mp a
  cases a2
  exact a1
 ·have:=k acc' xs' s' E
  unfold StoR
  rw[List.map_set,List.map_set]
  have e1:(st.map (·.1)).set c (.c .z)=st.map (·.1):=by
   apply List.ext_getElem?
   intro j
   rw[List.getElem?_set]
   split
   ·rename_i h
    subst h
    split
    ·simp[e]
    ·rename_i h;rw[List.getElem?_eq_none (by simpa using h)]
   ·rfl
  show Reps G Fz am _ ((st.map (·.1)).set c (.c .z)) _ _ _
  rw[e1]
  exact this
theorem Rl.wrc {x v:V}{fv:Fr}{bv:Bool}{c:Nat}{xs xs':List D}{d:D}{fV:List V->List V}(R:Rl G g env st (⟨v,fv,.ref c,bv⟩ :: ⟨x,.z,d,false⟩ :: T) σ H)(e:st[c]?=some (.c .z,.con .lst xs))
  (up:∀ Fz am acc,Reps G Fz am H (zs xs.length) acc xs (λ_=>0)->Rep G Fz am H .z x d (λ_=>0)->Reps G Fz am H (zs xs'.length) (fV acc) xs' (λ_=>0)) :
  ∃ A acc,v=.ref A∧H A=some (.lst acc)∧acc.length=xs.length∧Rl G g env (st.set c (.c .z,.con .lst xs')) T σ (upd H A (.lst (fV acc))):=by
 obtain⟨Fz,am,ne,nt,ns,h1,h2,h3,h4,h5⟩:=R
 obtain⟨A,acc,a1,a2,a3,a4,a5⟩:=StoR.updAt h3 (λq=>by have:=h4.n1 q;omega) e
 have hv:v=.ref A∧∃ nt',TmR G Fz am H ne (⟨x,.z,d,false⟩ :: T) nt' ∧ ∀ q,nt' q<=nt q:=by
  have key:∀ {n:Fp},Rep G Fz am H fv v (.ref c) n->v=.ref A:=λ{n} r=>by
   cases r with
   | sc s _=>cases v<;>exact s.elim
   | rf s _=>rw[a1] at s;cases s;rfl
  cases h2 with
  | own k1 k2 k3=>exact⟨key k1,_,k2,λq=>by rw[k3];omega⟩
  | bor k1 k2 k3=>exact⟨key k1,_,k3,λq=>Nat.le_refl _⟩
 obtain⟨hv,nt',k,kl⟩:=hv
 cases k with
 | @own _ _ _ _ n1 n2 _ j1 j2 j3=>
  have hA:0<ne A+nt A+ns A:=by omega
  have le:=h4.n1 A
  have z1:ne A=0:=by omega
  have z2:n2 A=0:=by have:=kl A;rw[j3] at this;omega
  have E:=h4.wext (o:=.lst (fV acc)) hA
  refine⟨A,acc,hv,a2,a3.len.2,Fz,am,ne,n2,ns,h1.ext E (Wl z1),j2.ext E (Wl z2) (Wl z1),a5 _ _ (up _ _ _ a3 (j1.fp j1.z0)) E,(h4.wrel (o:=.lst (fV acc)) hA trivial).less λq=>?_,trivial⟩
  show ne q+n2 q+ns q<=_
  have:=kl q;rw[j3] at this;omega
theorem EnvR.updAt {ne:Fp}(r:EnvR G Fz am H env σ ne):(∀ q,ne q<=1)->∀ {i:Nat} {xs:List D},env[i]?=some (some (.c .z,.con .lst xs)) ->
  ∃ A acc,σ[i]?=some (some (.ref A))∧H A=some (.lst acc)∧Reps G Fz am H (zs xs.length) acc xs (λ_=>0)∧0<ne A ∧
   ∀ acc' xs',Reps G Fz am H (zs xs'.length) acc' xs' (λ_=>0)->Ext Fz am H Fz am (upd H A (.lst acc'))->EnvR G Fz am (upd H A (.lst acc')) (env.set i (some (.c .z,.con .lst xs'))) σ ne:=by
 induction r with
 | nil h=>intro _ i xs e;simp at e
 | @som f' d' v env σ n1 n2 n h1 h2 h3 ih=>
  intro hn i xs e
  cases i with
  | zero=>
   simp at e
   obtain⟨rfl,rfl⟩:=e
   cases h1 with
   | @cc A _ acc _ _ _ m a1 a2 a3=>
    obtain⟨_,o,b1,b2⟩:=a1
    have e0:o=.lst acc:=b2
    subst e0
    have m0:=Reps.z0 (k:=xs.length) a2
    have hA:0<n1 A:=by rw[a3];simp
    have z2:n2 A=0:=by have:=hn A;rw[h3] at this;omega
    refine⟨A,acc,by simp,b1,a2.fp m0,by rw[h3];omega,λacc' xs' s E=>?_⟩
    exact .som (.cc (m:=λ_=>0) ⟨by decide,_,upd_same,rfl⟩ (Reps.ext E s λp u hp=>absurd hp (Nat.lt_irrefl 0)) λq=>by rw[a3,m0]) (h2.ext E (Wl z2)) h3
  | succ i=>
   obtain⟨A,acc,a,b,c,d,k⟩:=ih (λq=>by have:=hn q;rw[h3] at this;omega) (i:=i) (xs:=xs) (by simpa using e)
   have z1:n1 A=0:=by have:=hn A;rw[h3] at this;omega
   exact⟨A,acc,by simpa using a,b,c,by rw[h3];omega,λacc' xs' s E=>.som (Rep.ext E h1 (Wl z1)) (k acc' xs' s E) h3⟩
 | @non x env σ n h ih=>
  intro hn i xs e
  cases i with
  | zero=>simp at e
  | succ i=>
   obtain⟨A,acc,a,b,c,d,k⟩:=ih hn (i:=i) (xs:=xs) (by simpa using e)
   exact⟨A,acc,by simpa using a,b,c,d,λacc' xs' s E=>.non (k acc' xs' s E)⟩
theorem Rl.wre {x:V}{i:Nat}{xs xs':List D}{d:D}{fV:List V->List V}(R:Rl G g env st (⟨x,.z,d,false⟩ :: T) σ H)(hT:ZL T)(e:env[i]?=some (some (.c .z,.con .lst xs)))
  (up:∀ Fz am acc,Reps G Fz am H (zs xs.length) acc xs (λ_=>0)->Rep G Fz am H .z x d (λ_=>0)->Reps G Fz am H (zs xs'.length) (fV acc) xs' (λ_=>0)) :
  ∃ A acc,σ[i]?=some (some (.ref A))∧H A=some (.lst acc)∧acc.length=xs.length∧Rl G g (env.set i (some (.c .z,.con .lst xs'))) st T σ (upd H A (.lst (fV acc))):=by
 obtain⟨Fz,am,ne,nt,ns,h1,h2,h3,h4,h5⟩:=R
 obtain⟨A,acc,a1,a2,a3,a4,a5⟩:=EnvR.updAt h1 (λq=>by have:=h4.n1 q;omega) e
 cases h2 with
 | @own _ _ _ _ n1 n2 _ j1 j2 j3=>
  have hA:0<ne A+nt A+ns A:=by omega
  have le:=h4.n1 A
  have z1:ns A=0:=by omega
  have z2:n2 A=0:=by have:=h4.n1 A;rw[j3] at this;omega
  have E:=h4.wext (o:=.lst (fV acc)) hA
  refine⟨A,acc,a1,a2,a3.len.2,Fz,am,ne,n2,ns,a5 _ _ (up _ _ _ a3 (j1.fp j1.z0)) E,?_,Reps.ext E h3 (Wl z1),(h4.wrel (o:=.lst (fV acc)) hA trivial).less λq=>?_,trivial⟩
  ·exact (j2.nb hT).ext (ne:=λ_=>0) E (Wl z2) (λ_ _ hp=>absurd hp (Nat.lt_irrefl 0)) |>.nb hT
  ·show ne q+n2 q+ns q<=_
   rw[j3];omega
theorem Rl.pub {i:Nat}{f:Fr}{k:Kd}{ds:List D}(R:Rl G g env st T σ H)(hT:ZL T)(e:env[i]?=some (some (f,.con k ds))):Rl G g (env.set i (some (.z,.ref st.length))) (st ++ [(f,.con k ds)]) T σ H:=by
 obtain⟨Fz,am,ne,nt,ns,h1,h2,h3,h4,h5⟩:=R
 obtain⟨v,m,n',a1,a2,a3,a4⟩:=h1.take e
 obtain⟨p,rfl⟩:∃ p,v=.ref p:=by
  cases a2 with
  | sc s _=>cases v<;>exact s.elim
  | zz a b c=>exact⟨_,rfl⟩
  | tp a b=>exact⟨_,rfl⟩
  | cc a b c=>exact⟨_,rfl⟩
  | oo a b c=>exact⟨_,rfl⟩
 have hl:am.length=st.length:=by have:=h3.len.2;simpa using this
 have E:Ext Fz am H Fz (am ++ [p]) H:=⟨λ_ h=>h,λj q h=>by
  have:j<am.length:=(List.getElem?_eq_some_iff.mp h).1
  rw[List.getElem?_append_left this];exact h,λ_ _ _ h=>h,λ_ _ _ h _=>h,λ_ _ h=>h⟩
 have id':∀ {n:Fp},∀ (p:Addr) (o:HO),0<n p->H p=some o->H p=some o:=λ{n} _ _ _ h=>h
 obtain⟨n2,b1,b2⟩:=EnvR.set (i:=i) (v:=.ref p) (f:=.z) (d:=.ref st.length) (m:=λ_=>0) (G:=G) (Fz:=Fz) (am:=am ++ [p]) (H:=H) (.rf (by rw[<- hl];simp) λ_=>rfl) (a4.ext E id')
 have hσ:σ.set i (some (.ref p))=σ:=by
  apply List.ext_getElem?
  intro j
  rw[List.getElem?_set]
  split
  ·rename_i h
   subst h
   split
   ·rw[a1]
   ·rename_i h
    rw[List.getElem?_eq_none (by simpa using h)] at a1
    cases a1
  ·rfl
 rw[hσ,List.set_set] at b1
 have h4':Rel0 G g Fz (am ++ [p]) H (λp=>ne p+nt p+ns p):=⟨h4.n1,h4.nz,h4.th,h4.zt,h4.k,h4.f,h4.z0,h4.z1,λj q h=>E.cl _ _ (h4.a j q h),h4.tb,h4.hm,h4.kt⟩
 refine⟨Fz,am ++ [p],n2,nt,λq=>ns q+m q,b1,((h2.nb (ne':=n2) hT).ext E id' id'),?_,h4'.less λq=>?_,trivial⟩
 ·show Reps G Fz (am ++ [p]) H ((st++_).map (·.1)) ((am ++ [p]).map V.ref) ((st++_).map (·.2)) _
  rw[List.map_append,List.map_append,List.map_append]
  exact Reps.snoc (Reps.ext E h3 id') (a2.ext E id') λ_=>rfl
 ·have:=b2 q;have:=a3 q
  show n2 q+nt q+(ns q+m q)<=ne q+nt q+ns q
  omega
end
section
variable {S:Sx}{e a b:Expr}{es:List Expr}{da db de di:Den}{das:DenL}{pos p:Pos}{ss:List Stmt}{tr:Zi}
@[simp] def dPub (i:Nat)(k:Zi):Zi:=λenv st=>match env[i]? with
 | some (some (f,.con kd ds))=>k (env.set i (some (.z,.ref st.length))) (st ++ [(f,.con kd ds)])
 | _=>.stuck
theorem dss_pub {i:Nat}(hr:DSs S ss tr):DSs S ss (dPub i tr):=λW=>by
 obtain⟨t,p,q⟩:=hr W
 refine⟨t,p,λg env st T σ H D hT R h=>?_⟩
 unfold dPub at h
 split at h
 ·rename_i f kd ds e
  exact q _ _ _ _ _ _ _ hT (R.pub hT e) h
 ·exact h.elim
theorem reps_set {G:Sg}{Fz:Addr->Prop}{am:List Addr}{H:Hp}{x:V}{d:D}(hx:Rep G Fz am H .z x d (λ_=>0)):∀ {xs:List D} {acc:List V} (j:Nat),Reps G Fz am H (zs xs.length) acc xs (λ_=>0)->Reps G Fz am H (zs (xs.set j d).length) (acc.set j x) (xs.set j d) (λ_=>0)
 | [],acc,j,r=>by cases r;exact .nil λ_=>rfl
 | y :: xs,acc,j,r=>by
  have e:zs (y :: xs).length=.z :: zs xs.length:=List.replicate_succ
  rw[e] at r
  cases r with
  | cons r1 r2 h3=>
   have z1:=r1.z0
   have z2:=Reps.z0 r2
   cases j with
   | zero=>
    show Reps G Fz am H (zs (d :: xs).length) _ _ _
    rw[show zs (d :: xs).length=.z :: zs xs.length from List.replicate_succ]
    exact .cons hx r2 λq=>by rw[z2]
   | succ j=>
    show Reps G Fz am H (zs (y :: xs.set j d).length) _ _ _
    rw[show zs (y :: xs.set j d).length=.z :: zs (xs.set j d).length from List.replicate_succ]
    exact .cons (r1.fp z1 (m:=λ_=>0)) (reps_set hx j (r2.fp z2)) λq=>rfl
@[simp] def dPutC (a i e:Den):Zi:=λenv st=>match e env st with
 | .ok fe be xe st1=>bif !be||fe.isz then (match a env st1 with
  | .ok _ ba (.ref c) st2=>bif !ba then (match i env st2 with
   | .ok _ _ (.int k) st3=>(match st3[c]? with
    | some (.c .z,.con .lst xs)=>(match ixN xs.length k with
     | some j=>.nx env (st3.set c (.c .z,.con .lst (xs.set j xe)))
     | none=>.stuck)
    | _=>.stuck)
   | .ok _ _ _ _=>.stuck
   | .exc c ds st1=>.exc c ds env st1
   | .stuck=>.stuck) else .stuck
  | .ok _ _ _ _=>.stuck
  | .exc c ds st1=>.exc c ds env st1
  | .stuck=>.stuck) else .stuck
 | .exc c ds st1=>.exc c ds env st1
 | .stuck=>.stuck
theorem asgSub {o i:Expr}{p:Pos}{env:PySem.Env}(h:VB i=true):∀ v,assign (.Subscript o i p) env v=(do
   let ov <- holding [v] (eval o env)
   let iv <- holding [v,ov] (eval i env)
   standAt p
   holding [v,ov,iv] (setItem ov iv v)
   release [v,ov,iv] []):=λv=>by
 cases i<;>first | rfl | cases h
theorem Zao {o i e:Expr}{do_:Den}(ho:DE S o do_)(hi:DE S i di)(he:DE S e de)(hn:VB i=true)(hc:notComp e=true)(hw:noSwap e=true):DS S (.Assign [.Subscript o i p] e pos) (dPutC do_ di de):=λW=>by
 obtain⟨to,po,qo⟩:=ho W
 obtain⟨ti,pi,qi⟩:=hi W
 obtain⟨te,pe,qe⟩:=he W
 refine⟨_,λX hX tk=>by
  have hs:swapsWithSole [.Subscript o i p] e pos.line X.env=pure false:=swaps_no (t:=some (.Subscript o i p)) (l:=pos.line) (env:=X.env) hc
  exact ps_asg (pe X hX tk) (pg_sub (po X hX tk) (pi X hX tk) set_list (asgSub hn)) hs (noSwap_ok hw),λg env st T σ H D hT R h=>?_⟩
 refine qe g env st T σ H _ hT R ?_
 unfold dPutC at h
 cases e1:de env st with
 | stuck=>rw[e1] at h;exact h.elim
 | exc c ds st1=>rw[e1] at h;exact h σ
 | ok fe be xe st1=>
 rw[e1] at h
 dsimp only at h
 obtain⟨hb,h⟩:=bifT h id
 intro x H1 R1
 have R1':=(R1.unb hb).frz
 refine qo g env st1 _ σ H1 _ (Vd hT) R1' ?_
 cases e2:do_ env st1 with
 | stuck=>rw[e2] at h;exact h.elim
 | exc c ds st2=>rw[e2] at h;exact h σ
 | ok fo bo xo st2=>
 rw[e2] at h
 cases xo with
 | ref c=>
  dsimp only at h
  obtain⟨hb2,h⟩:=bifT h id
  intro v H2 R2
  have hb2':bo=false:=by simpa using hb2
  subst hb2'
  refine qi g env st2 _ σ H2 _ (Vd (Vd hT)) R2 ?_
  cases e3:di env st2 with
  | stuck=>rw[e3] at h;exact h.elim
  | exc c ds st3=>rw[e3] at h;exact h σ
  | ok fi bi xi st3=>
  rw[e3] at h
  cases xi with
  | int k=>
   dsimp only at h
   intro kv H3 R3
   have ek:=R3.int
   have R4:=R3.drop
   split at h
   ·rename_i xs es
    split at h
    ·rename_i j ej
     obtain⟨A,acc,a1,a2,a3,R5⟩:=Rl.wrc (xs':=xs.set j xe) (fV:=λacc=>acc.set j x) R4 es λFz am acc r hx=>reps_set hx j r
     exact⟨A,acc,k,j,a1,ek,a2,by rw[a3];exact ej,h _ _ R5⟩
    ·exact h.elim
   ·exact h.elim
  | _=>exact h.elim
 | _=>exact h.elim
theorem PE.or {X:Cx}{e:Expr}{t1 t2:TE}(h1:PE X e t1)(h2:PE X e t2):PE X e λσ H Q=>t1 σ H Q∨t2 σ H Q:=⟨λpins s σ H Q I h=>h.elim (h1.run pins s σ H Q I) (h2.run pins s σ H Q I)⟩
theorem PT.or {X:Cx}{e:Expr}{t1 t2:TT}(h1:PT X e t1)(h2:PT X e t2):PT X e λσ H Q=>t1 σ H Q∨t2 σ H Q:=⟨λpins s σ H Q I h=>h.elim (h1.run pins s σ H Q I) (h2.run pins s σ H Q I)⟩
theorem dOp_or {a b:Op}{as:DenL}{env:Env}{st:Zd}:dOp (orOp a b) as env st=dOp a as env st∨dOp (orOp a b) as env st=dOp b as env st:=by
 unfold dOp
 cases as env st with
 | stuck=>exact .inl rfl
 | exc c ds st1=>exact .inl rfl
 | ok ts st1=>
  dsimp only
  cases flats ts with
  | false=>exact .inl rfl
  | true=>
   dsimp only[orOp,cond_true]
   cases e:a (ts.map λt=>lk st1 t.2.2) with
   | some r=>exact .inl rfl
   | none=>exact .inr rfl
theorem VD {S:Sx}{e:Expr}{a b:Op}{as:DenL}(h1:DE S e (dOp a as))(h2:DE S e (dOp b as)):DE S e (dOp (orOp a b) as):=λW=>by
 obtain⟨t1,p1,q1⟩:=h1 W
 obtain⟨t2,p2,q2⟩:=h2 W
 refine⟨_,λX hX tk=>PE.or (p1 X hX tk) (p2 X hX tk),λg env st T σ H Q hT R h=>?_⟩
 rcases dOp_or (a:=a) (b:=b) (as:=as) (env:=env) (st:=st) with e | e
 ·rw[e] at h;exact .inl (q1 g env st T σ H Q hT R h)
 ·rw[e] at h;exact .inr (q2 g env st T σ H Q hT R h)
theorem ZcQ {S:Sx}{e:Expr}{a b:Op}{as:DenL}(h1:DT S e (dB (dOp a as)))(h2:DT S e (dB (dOp b as))):DT S e (dB (dOp (orOp a b) as)):=λW=>by
 obtain⟨t1,p1,q1⟩:=h1 W
 obtain⟨t2,p2,q2⟩:=h2 W
 refine⟨_,λX hX tk=>PT.or (p1 X hX tk) (p2 X hX tk),λg env st T σ H Q hT R h=>?_⟩
 have k:dB (dOp (orOp a b) as) env st=dB (dOp a as) env st∨dB (dOp (orOp a b) as) env st=dB (dOp b as) env st:=by
  rcases dOp_or (a:=a) (b:=b) (as:=as) (env:=env) (st:=st) with e | e
  ·exact .inl (by unfold dB;rw[e])
  ·exact .inr (by unfold dB;rw[e])
 rcases k with e | e
 ·rw[e] at h;exact .inl (q1 g env st T σ H Q hT R h)
 ·rw[e] at h;exact .inr (q2 g env st T σ H Q hT R h)
def keyOf:D->Option Key
 | .int i=>some (.inl i)
 | .str x=>some (.inr x)
 | _=>none
@[simp] theorem keyOf_int {i:Int}:keyOf (.int i)=some (.inl i):=rfl
@[simp] theorem keyOf_str {i:Str}:keyOf (.str i)=some (.inr i):=rfl
def getK:List Key->List D->Key->Option D
 | k :: ks,d :: ds,key=>if k=key then some d else getK ks ds key
 | _,_,_=>none
section
variable {G:Sg}{Fz:Addr->Prop}{am:List Addr}{H:Hp}{v:V}
theorem View.dik {ks:List Key}{ds:List D}(h:View G Fz am H v (.con (.dik ks) ds)):∃ p vs,v=.ref p∧Rd H p (.dK (ks.zip vs))∧ks.length=vs.length∧Reps G Fz am H (zs ds.length) vs ds (λ_=>0):=by
 obtain⟨p,vs,e,⟨o,r1,r2⟩,s⟩:=h
 obtain⟨e2,e3⟩:=r2
 subst e2
 exact⟨p,vs,e,r1,e3,s⟩
theorem View.key {d:D}{k:Key}(h:View G Fz am H v d)(e:keyOf d=some k):v=kV k:=by
 cases d with
 | int i=>cases e;exact h.int
 | str i=>cases e;exact h.str
 | _=>cases e
theorem getK_at:∀ {ks:List Key} {ds:List D} {vs:List V} {k:Key} {d:D},ks.length=vs.length->Reps G Fz am H (zs ds.length) vs ds (λ_=>0)->getK ks ds k=some d->∃ x,valV (ks.zip vs) k=some x∧Rep G Fz am H .z x d (λ_=>0)
 | [],ds,vs,k,d,_,_,e=>by cases ds<;>cases e
 | k0 :: ks,[],vs,k,d,_,_,e=>by cases e
 | k0 :: ks,d0 :: ds,[],k,d,hl,_,e=>by simp at hl
 | k0 :: ks,d0 :: ds,v0 :: vs,k,d,hl,r,e=>by
  rw[show zs (d0 :: ds).length=.z :: zs ds.length from List.replicate_succ] at r
  cases r with
  | cons r1 r2 h3=>
   unfold getK at e
   rw[List.zip_cons_cons]
   unfold valV
   rw[List.find?_cons]
   by_cases c:k0=k
   ·rw[if_pos c] at e
    cases e
    exact⟨v0,by simp[c],r1.fp r1.z0⟩
   ·rw[if_neg c] at e
    obtain⟨x,e1,e2⟩:=getK_at (by simpa using hl) (r2.fp (Reps.z0 r2)) e
    exact⟨x,by simpa [c,valV] using e1,e2⟩
end
@[simp] def oIxK:Op:=λds=>match ds with
 | [.con (.dik ks) xs,k]=>(keyOf k).bind λkey=>(getK ks xs key).map λd=>(.z,d)
 | _=>none
def rDGet:R2:=λx y H Q=>∃ a v,x=.ref a∧DGet H a y (some v)∧Q v H
theorem v_ixK {G:Sg}:VOp G (l2 rDGet) oIxK:=λFz am H vs ds fr d Q h1 h2 h3=>by
 unfold oIxK at h2
 split at h2
 ·rename_i ks xs k
  obtain⟨v,w,rfl,a,b⟩:=h1.two
  obtain⟨key,e1,e2⟩:=Option.bind_eq_some_iff.mp h2
  obtain⟨d',e3,e4⟩:=Option.map_eq_some_iff.mp e2
  cases e4
  obtain⟨p,ys,rfl,rd,hl,s⟩:=a.dik
  obtain⟨x,g1,g2⟩:=getK_at hl s e3
  exact⟨p,x,rfl,.inl ⟨_,key,rd,b.key e1,g1.symm⟩,h3 x H _ (same_refl H) Va g2⟩
 ·cases h2
@[simp] def oIxT:Op:=λds=>match ds with
 | [.str x,.int i]=>bif x.length.ble 16777216 then (atI x.cps.toList i).map λc=>(.z,.str ⟨#[c]⟩) else none
 | _=>none
theorem v_ixT {G:Sg}:VOp G (l2 (rIx G.K)) oIxT:=λFz am H vs ds fr d Q h1 h2 h3=>by
 unfold oIxT at h2
 split at h2
 ·rename_i x i
  obtain⟨v,w,rfl,a,b⟩:=h1.two
  cases hk:x.length.ble 16777216 with
  | false=>rw[hk] at h2;cases h2
  | true=>
  rw[hk] at h2
  obtain⟨c,e1,e2⟩:=Option.map_eq_some_iff.mp h2
  cases e2
  exact .inr (.inr ⟨x,i,c,a.str,b.int,ZbH hk,e1,h3 _ H _ (same_refl H) Va (.sc rfl λ_=>rfl)⟩)
 ·cases h2
@[simp] def oIx:Op:=λds=>orOp oIxS (orOp oIxK oIxT) ds
theorem unitsOk {X:Cx}(hX:Stx S X):X.A.units+64<cLine:=by have:=hX.room.un;omega
theorem de_ixK (ha:DE S a da)(hb:DE S b db)(hm:VB b=true):DE S (.Subscript a b pos) (dOp oIxK (Zb da (Za db))):=λW=>by
 obtain⟨ta,pa,qa⟩:=ha W
 obtain⟨tb,pb,qb⟩:=hb W
 refine⟨tOp rDGet ta tb,λX hX tk=>pe_dget (by have:=unitsOk hX;omega) (pa X hX tk) (pb X hX tk) λov iv=>(by cases b<;>first | rfl | cases hm),λg env st T σ H Q hT R h=>run2 v_ixK qa qb g env st T σ H Q hT R h⟩
@[simp] def oLenK:Op:=oS1 λa=>match a with
 | .con (.dik ks) xs=>some (.int ks.length)
 | .str x=>bif x.length.ble 16777216 then some (.int x.length) else none
 | _=>none
theorem call_lenR {X:Cx}:CallR X (.builtin "len") (λxs H Q=>∃ a kvs,xs=[V.ref a]∧Rd H a (.dK kvs)∧Q (.int kvs.length) H):=by
 intro pins s σ H xs us Q I r h
 obtain⟨a,kvs,rfl,ha,q⟩:=h
 obtain⟨u,rfl,ru⟩:=vals1 r
 cases ru
 exact d_len I ha λt s' I'=>⟨.int kvs.length,H,I',⟨t,rfl⟩,q⟩
theorem v_lenK {G:Sg}:VOp G (λxs H Q=>(∃ a kvs,xs=[V.ref a]∧Rd H a (.dK kvs)∧Q (.int kvs.length) H)∨(∃ z,xs=[.str z]∧z.length<=sizeLine∧Q (.int z.length) H)) oLenK:=v_C1 λFz am H v a d Q h e q=>by
 split at e
 ·cases e
  obtain⟨p,vs,rfl,rd,hl,s⟩:=h.dik
  refine .inl ⟨p,_,rfl,rd,q _ ?_⟩
  show ((List.zip _ vs).length:Int)=_
  rw[List.length_zip,<- hl,Nat.min_self]
 ·obtain⟨hk,e2⟩:=bifS e
  subst e2
  rw[h.str]
  exact .inr ⟨_,rfl,ZbH hk,q _ rfl⟩
 ·cases e
@[simp] def oLen:Op:=λds=>orOp oLenS oLenK ds
section
variable {X:Cx}
end
theorem Zx (ha:DE S a da)(hb:DE S b db):DE S (.BinOp a .Add b pos) (dOp oAdd (Zb da (Za db))):=
 ZbO (r:=λx y H Q=>rI0 (λi j=>.int (i+j)) x y H Q∨((∃ i j,x=.str i∧y=.str j∧i.length+j.length<=sizeLine∧Q (.str (i++j)) H)∨(rCat x y H Q∨rCatA S.G.K x y H Q)))
  (λX hX=>op_add.or (op_add_str.or (op_cat.or (hX.K▸op_catA)))) (VOp.or v_addI (VOp.or v_addS (VOp.or v_addL v_addT))) ha hb
theorem de_sub (ha:DE S a da)(hb:DE S b db):DE S (.BinOp a .Sub b pos) (dOp oSub (Zb da (Za db))):=
 ZbO (r:=λx y H Q=>rI0 (λi j=>.int (i - j)) x y H Q∨rSubB x y H Q) (λX hX=>op_sub.or op_subB) (VOp.or v_subI v_subB) ha hb
theorem Zab (ha:DE S a da)(hb:DE S b db):DE S (.BinOp a .Mult b pos) (dOp oMul (Zb da (Za db))):=
 ZbO (r:=λx y H Q=>rI CMulW (λi j=>.int (i * j)) x y H Q∨rRep x y H Q) (λX hX=>op_mulW.or op_rep) (VOp.or v_mulI v_mulL) ha hb
theorem de_fdiv (ha:DE S a da)(hb:DE S b db):DE S (.BinOp a .FloorDiv b pos) (dOp oFdiv (Zb da (Za db))):=ZbO (λX hX=>op_fdivF) v_fdiv ha hb
theorem Zam (ha:DE S a da)(hb:DE S b db):DE S (.BinOp a .Mod b pos) (dOp oMod (Zb da (Za db))):=ZbO (λX hX=>op_modN) v_mod ha hb
theorem de_pow (ha:DE S a da)(hb:DE S b db):DE S (.BinOp a .Pow b pos) (dOp oPow (Zb da (Za db))):=ZbO (λX hX=>op_pow) v_pow ha hb
theorem ZA (ha:DE S a da)(hb:DE S b db)(hm:VB b=true):DE S (.Subscript a b pos) (dOp oIx (Zb da (Za db))):=VD (de_ix (λX hX=>hX.K▸ix_seq) v_ix ha hb hm) (VD (de_ixK ha hb hm) (de_ix (λX hX=>hX.K▸ix_seq) v_ixT ha hb hm))
structure CmpI (S:Sx)(o:CmpOp)(op:Op):Prop where
 ex:∃ r:R2,(∀ X,Stx S X->OpR X (compareOp o) r)∧VOp S.G (l2 r) op
theorem ci_lt:CmpI S .Lt oLt:=⟨_,λX hX=>op_lt,v_lt⟩
theorem ci_le:CmpI S .LtE oLe:=⟨_,λX hX=>op_le,v_le⟩
theorem ci_gt:CmpI S .Gt oGt:=⟨_,λX hX=>op_gt,v_gt⟩
theorem ci_ge:CmpI S .GtE oGe:=⟨_,λX hX=>op_ge,v_ge⟩
theorem Wu:CmpI S .Eq oEq:=⟨_,λX hX=>hX.K▸op_eqD (unitsOk hX),v_eq⟩
theorem ci_ne:CmpI S .NotEq oNe:=⟨_,λX hX=>hX.K▸op_neD (unitsOk hX),v_ne⟩
theorem Ud:CmpI S .Is oIsN:=⟨_,λX hX=>op_isN,v_isN⟩
theorem ci_isnot:CmpI S .IsNot oNotN:=⟨_,λX hX=>op_notN,v_notN⟩
theorem de_c {o:CmpOp}{op:Op}(ci:CmpI S o op)(ha:DE S a da)(hb:DE S b db)(hm:Ww b=true):DE S (.Compare a [o] [b] pos) (dOp op (Zb da (Za db))):=by
 obtain⟨r,h1,h2⟩:=ci.ex
 exact de_cmp h1 h2 ha hb hm
theorem dt_c {o:CmpOp}{op:Op}(ci:CmpI S o op)(ha:DE S a da)(hb:DE S b db)(hm:Ww b=true):DT S (.Compare a [o] [b] pos) (dB (dOp op (Zb da (Za db)))):=by
 obtain⟨r,h1,h2⟩:=ci.ex
 exact dt_cmp h1 h2 ha hb hm
theorem bi_len (hg:S.sc.names.lookup ("len":Str)=some .globalImplicit)(hm:S.mg "len"=none)(ha:DE S a da)(hp:ZD [a]=true):DE S (.Call (.Name "len" p) [a] [] pos) (dOp oLen (Za da)):=
 VD (de_bi (id:="len") (λX hX=>hX.K▸call_len_seq) v_len hg hm (by rfl) (by decide) (by decide) (Zh ha (Zv hp _ (by simp))) hp)
  (de_bi (id:="len") (λX hX=>call_lenR.or call_len_str) v_lenK hg hm (by rfl) (by decide) (by decide) (Zh ha (Zv hp _ (by simp))) hp)
theorem bi_list (hg:S.sc.names.lookup ("list":Str)=some .globalImplicit)(hm:S.mg "list"=none)(ha:DE S a da)(hp:ZD [a]=true):DE S (.Call (.Name "list" p) [a] [] pos) (dOp oList (Za da)):=
 de_ty (id:="list") (λX hX=>hX.K▸call_list_of) v_list hg hm (by rfl) (by decide) (by decide) (Zh ha (Zv hp _ (by simp))) hp
theorem WG (hg:S.sc.names.lookup ("tuple":Str)=some .globalImplicit)(hm:S.mg "tuple"=none)(ha:DE S a da)(hp:ZD [a]=true):DE S (.Call (.Name "tuple" p) [a] [] pos) (dOp WN (Za da)):=
 de_ty (id:="tuple") (λX hX=>hX.K▸call_tuple_of) v_tuple hg hm (by rfl) (by decide) (by decide) (Zh ha (Zv hp _ (by simp))) hp
theorem bi_int (hg:S.sc.names.lookup ("int":Str)=some .globalImplicit)(hm:S.mg "int"=none)(ha:DE S a da)(hp:ZD [a]=true):DE S (.Call (.Name "int" p) [a] [] pos) (dOp oInt1 (Za da)):=
 de_ty (id:="int") (λX hX=>call_int1) v_int1 hg hm (by rfl) (by decide) (by decide) (Zh ha (Zv hp _ (by simp))) hp
theorem bi_all (hg:S.sc.names.lookup ("all":Str)=some .globalImplicit)(hm:S.mg "all"=none)(ha:DE S a da)(hp:ZD [a]=true):DE S (.Call (.Name "all" p) [a] [] pos) (dOp oAll (Za da)):=
 de_bi (id:="all") (λX hX=>hX.K▸cr_all hX.calm) v_all hg hm (by rfl) (by decide) (by decide) (Zh ha (Zv hp _ (by simp))) hp
theorem bi_min2 (hg:S.sc.names.lookup ("min":Str)=some .globalImplicit)(hm:S.mg "min"=none)(ha:DE S a da)(hb:DE S b db)(hp:ZD [a,b]=true):DE S (.Call (.Name "min" p) [a,b] [] pos) (dOp UN (Zb da (Za db))):=
 de_bi (id:="min") (λX hX=>call_min2 hX.calm) v_min2 hg hm (by rfl) (by decide) (by decide) (Zj ha (Zh hb (Zv hp _ (by simp))) (Zv hp _ (by simp))) hp
end
section
variable {S:Sx}{e a b c tg:Expr}{es:List Expr}{da db dc de di:Den}{das:DenL}{pos p:Pos}{ss:List Stmt}{tr:Zi}
def rSl (K:PySem.W.Frag):V->Option Int->Option Int->Hp->VK->Prop:=λx lo hi H Q=>rSlL K x lo hi H Q∨rSlA K x lo hi H Q
theorem sl_seq {X:Cx}:SlR X (rSl X.K):=sl_list.or sl_tupA
def cutD (xs:List D)(lo hi:Option Int):List D:=(xs.drop (HT.sIx xs.length 0 lo)).take (HT.sIx xs.length xs.length hi - HT.sIx xs.length 0 lo)
theorem reps_drop {G:Sg}{Fz:Addr->Prop}{am:List Addr}{H:Hp}:∀ {xs:List D} {vs:List V} (k:Nat),Reps G Fz am H (zs xs.length) vs xs (λ_=>0)->Reps G Fz am H (zs (xs.drop k).length) (vs.drop k) (xs.drop k) (λ_=>0)
 | [],vs,k,r=>by cases r;simpa using (show Reps G Fz am H (zs 0) [] [] (λ_=>0) from .nil λ_=>rfl)
 | x :: xs,vs,0,r=>r
 | x :: xs,vs,k+1,r=>by
  have e:zs (x :: xs).length=.z :: zs xs.length:=List.replicate_succ
  rw[e] at r
  cases r with
  | cons r1 r2 h3=>exact reps_drop k (r2.fp (Reps.z0 r2))
theorem reps_take {G:Sg}{Fz:Addr->Prop}{am:List Addr}{H:Hp}:∀ {xs:List D} {vs:List V} (k:Nat),Reps G Fz am H (zs xs.length) vs xs (λ_=>0)->Reps G Fz am H (zs (xs.take k).length) (vs.take k) (xs.take k) (λ_=>0)
 | [],vs,k,r=>by cases r;simpa using (show Reps G Fz am H (zs 0) [] [] (λ_=>0) from .nil λ_=>rfl)
 | x :: xs,vs,0,r=>by simpa using (show Reps G Fz am H (zs 0) [] [] (λ_=>0) from .nil λ_=>rfl)
 | x :: xs,vs,k+1,r=>by
  have e:zs (x :: xs).length=.z :: zs xs.length:=List.replicate_succ
  rw[e] at r
  cases r with
  | cons r1 r2 h3=>
   show Reps G Fz am H (zs (x :: xs.take k).length) _ (x :: xs.take k) _
   rw[show zs (x :: xs.take k).length=.z :: zs (xs.take k).length from List.replicate_succ]
   exact .cons (r1.fp r1.z0 (m:=λ_=>0)) (reps_take k (r2.fp (Reps.z0 r2))) λq=>rfl
theorem reps_cut {G:Sg}{Fz:Addr->Prop}{am:List Addr}{H:Hp}{xs:List D}{vs:List V}(lo hi:Option Int)(r:Reps G Fz am H (zs xs.length) vs xs (λ_=>0)):Reps G Fz am H (zs (cutD xs lo hi).length) (cutV vs lo hi) (cutD xs lo hi) (λ_=>0):=by
 unfold cutV cutD
 rw[r.len.2]
 exact reps_take _ (reps_drop _ r)
@[simp] def slD (lo hi:Option Int):D->Option (Fr × D)
 | .con .tup xs=>some (.z,.con .tup (cutD xs lo hi))
 | .con k xs=>bif k.sq then some (.c .z,.con .lst (cutD xs lo hi)) else none
 | _=>none
theorem sl_view {G:Sg}{Fz:Addr->Prop}{am:List Addr}{H:Hp}{v:V}{a:D}{lo hi:Option Int}{f:Fr}{d:D}{Q:VK}(h:View G Fz am H v a)(e:slD lo hi a=some (f,d))
  (h3:∀ v H' n,Same H H' -> Newp H H' n->Rep G Fz am H' f v d n->Q v H'):rSl G.K v lo hi H Q:=by
 have lst:∀ {k:Kd} {xs:List D},k.sq=true->View G Fz am H v (.con k xs)->f=.c .z->d=.con .lst (cutD xs lo hi)->rSl G.K v lo hi H Q:=λ{k xs} hk h e1 e2=>by
  subst e1 e2
  obtain⟨p,vs,rfl,r,s⟩:=h.sq hk
  exact .inl ⟨p,vs,rfl,r,UL (reps_cut lo hi s) h3⟩
 cases a with
 | con k xs=>
  cases k with
  | tup=>
   cases e
   obtain⟨p,vs,rfl,r,s⟩:=h.tup
   refine .inr ⟨p,vs,rfl,r,λw=>?_,λ_=>UT (reps_cut lo hi s) h3⟩
   have ec:cutD xs lo hi=xs:=by
    unfold cutD
    rw[s.len.2] at w
    rw[w.1,w.2]
    simp
   rw[ec] at h3
   exact h3 _ H _ (same_refl H) Va (.zz (k:=.tup) r s λ_=>rfl)
  | lst=>cases e;exact lst rfl h rfl rfl
  | frl=>cases e;exact lst rfl h rfl rfl
  | _=>cases e
 | _=>cases e
@[simp] def oSlL:Op:=λds=>match ds with
 | [a,.int i]=>slD (some i) none a
 | _=>none
@[simp] def oSlH:Op:=λds=>match ds with
 | [a,.int i]=>slD none (some i) a
 | _=>none
theorem v_slL {G:Sg}:VOp G (l2 λx y H Q=>∃ i,y=.int i∧rSl G.K x (some i) none H Q) oSlL:=λFz am H vs ds fr d Q h1 h2 h3=>by
 unfold oSlL at h2
 split at h2
 ·obtain⟨v,w,rfl,a,b⟩:=h1.two
  exact⟨_,b.int,sl_view a h2 h3⟩
 ·cases h2
theorem v_slH {G:Sg}:VOp G (l2 λx y H Q=>∃ i,y=.int i∧rSl G.K x none (some i) H Q) oSlH:=λFz am H vs ds fr d Q h1 h2 h3=>by
 unfold oSlH at h2
 split at h2
 ·obtain⟨v,w,rfl,a,b⟩:=h1.two
  exact⟨_,b.int,sl_view a h2 h3⟩
 ·cases h2
theorem de_slL {p2:Pos}(ha:DE S a da)(hb:DE S b db):DE S (.Subscript a (.Slice (some b) none none p2) pos) (dOp oSlL (Zb da (Za db))):=λW=>by
 obtain⟨ta,pa,qa⟩:=ha W
 obtain⟨tb,pb,qb⟩:=hb W
 exact⟨_,λX hX tk=>pe_slice (r:=rSl S.G.K) (hX.K▸sl_seq) (pa X hX tk) (po_some (pb X hX tk)) po_none,λg env st T σ H Q hT R h=>run2 v_slL qa qb g env st T σ H Q hT R h⟩
theorem ZbB {p2:Pos}(ha:DE S a da)(hb:DE S b db):DE S (.Subscript a (.Slice none (some b) none p2) pos) (dOp oSlH (Zb da (Za db))):=λW=>by
 obtain⟨ta,pa,qa⟩:=ha W
 obtain⟨tb,pb,qb⟩:=hb W
 exact⟨_,λX hX tk=>pe_slice (r:=rSl S.G.K) (hX.K▸sl_seq) (pa X hX tk) po_none (po_some (pb X hX tk)),λg env st T σ H Q hT R h=>run2 v_slH qa qb g env st T σ H Q hT R h⟩
inductive Ty7
 | non | bl | int | str | tup | lst | dct
 deriving DecidableEq
def Ty7.nm:Ty7->String
 | .non=>"NoneType" | .bl=>"bool" | .int=>"int" | .str=>"str" | .tup=>"tuple" | .lst=>"list" | .dct=>"dict"
@[simp] def Ty7.isa (t u:Ty7):Bool:=decide (t=u)||(decide (t=.bl)&&decide (u=.int))
theorem kit1 {K:PySem.W.Frag}(t u:Ty7):PySem.W.kitOne K (.type t.nm) (.type u.nm)=some (t.isa u):=by
 cases t<;>cases u<;>rfl
theorem kitN {K:PySem.W.Frag}(t:Ty7):∀ us:List Ty7,PySem.W.kitAny K (.type t.nm) (us.map λu=>.type u.nm)=some (us.any t.isa)
 | []=>rfl
 | u :: us=>by
  show (match PySem.W.kitOne K (.type t.nm) (.type u.nm) with
   | some true=>some true
   | some false=>PySem.W.kitAny K (.type t.nm) (us.map λ(u:Ty7)=>.type u.nm)
   | none=>none)=_
  rw[kit1,kitN t us,List.any_cons]
  cases t.isa u<;>rfl
@[simp] def tyD:D->Option Ty7
 | .non=>some .non
 | .bl _=>some .bl
 | .int _=>some .int
 | .str _=>some .str
 | .con .tup _=>some .tup
 | .con .lst _=>some .lst
 | .con .frl _=>some .lst
 | .con (.dik _) _=>some .dct
 | _=>none
theorem tyx_of {G:Sg}{Fz:Addr->Prop}{am:List Addr}{H:Hp}{v:V}{d:D}{t:Ty7}(h:View G Fz am H v d)(e:tyD d=some t):TyX G.K H v (.type t.nm):=by
 cases d with
 | non=>cases e;rw[h.non];exact .base .non
 | bl b=>cases e;rw[h.bl];exact .base (.bl _)
 | int b=>cases e;rw[h.int];exact .base (.int _)
 | str b=>cases e;rw[h.str];exact .base (.str _)
 | fnv k j=>cases e
 | ref k=>cases e
 | con k ds=>
  have sq:∀ {p:Addr} {vs:List V},SqL G.K H p vs->TyX G.K H (.ref p) (.type Ty7.lst.nm):=λ{p vs} r=>by
   rcases r with (r | ⟨o,r⟩) | ⟨o,its,n,r,c,_⟩
   ·exact .base (.lst r)
   ·exact .base (.frz r)
   ·exact .kList r c
  cases k with
  | tup=>
   cases e
   obtain⟨p,vs,rfl,r,s⟩:=h.tup
   rcases r with (r | ⟨o,r⟩) | ⟨o,its,n,r,c,_⟩
   ·exact .base (.tup r)
   ·exact .fTuple r
   ·exact .kTuple r c
  | lst=>
   cases e
   obtain⟨p,vs,rfl,r,s⟩:=View.sq (k:=.lst) rfl h
   exact sq r
  | frl=>
   cases e
   obtain⟨p,vs,rfl,r,s⟩:=View.sq (k:=.frl) rfl h
   exact sq r
  | dik ks=>
   cases e
   obtain⟨p,vs,rfl,⟨o,r1,r2⟩,s⟩:=h
   obtain⟨r2,_⟩:=r2
   subst r2
   rcases r1 with r1 | ⟨o,r1⟩
   ·exact .base (.dK r1)
   ·exact .fDict r1
  | dit ks=>cases e
  | ins c=>cases e
def TyNs (S:Sx)(es:List Expr)(us:List Ty7):Prop:=∀ X,Stx S X->PA X es λ_ H Q=>Q (us.map λ(u:Ty7)=>V.ty u.nm) H
theorem tyns_nil:TyNs S [] []:=λX hX=>pa_nil
theorem ZcX {x:Str}{u:Ty7}{us:List Ty7}(hg:S.sc.names.lookup x=some .globalImplicit)(hm:S.mg x=none)(hb:bootBuiltins x=some (.type u.nm))(hn:x ≠ "__name__")(hdb:(x==("__debug__":Str))=false)(hr:TyNs S es us):TyNs S (.Name x p :: es) (u :: us):=λX hX=>
 pa_cons (pe_bltn (show X.env.scope.names.lookup x=some .globalImplicit by rw[hX.sc];exact hg) (by rw[hX.mg];exact hm) hb (v:=.ty u.nm) rfl hn hdb) (hr X hX)
@[simp] def dIsi (us:List Ty7)(a:Den):Den:=λenv st=>match a env st with
 | .ok f b d st1=>bif f.flat then (match tyD (lk st1 d) with
  | some t=>.ok .z false (.bl (us.any t.isa)) st1
  | none=>.stuck) else .stuck
 | .exc c ds st1=>.exc c ds st1
 | .stuck=>.stuck
theorem clsv:∀ us:List Ty7,Paired ClsV (us.map λu=>V.ty u.nm) (us.map λu=>Value.type u.nm)
 | []=>.nil
 | u :: us=>.cons (.ty _) (clsv us)
theorem Rl.view1 {G:Sg}{g:Gd}{env:Env}{st:Zd}{T:List Tm}{σ:St}{H:Hp}{v:V}{f:Fr}{b:Bool}{d:D}(R:Rl G g env st (⟨v,f,d,b⟩ :: T) σ H)(hf:f.flat=true):∃ Fz am,View G Fz am H v (lk st d):=by
 obtain⟨Fz,am,ne,nt,ns,h1,h2,h3,h4,h5⟩:=R
 have key:∀ {n:Fp},Rep G Fz am H f v d n->View G Fz am H v (lk st d):=λ{n} r=>by
  have h:=Vws.lk h3 (vs:=[v]) (ds:=[d]) (.cons (r.view hf) .nil)
  cases h with
  | cons h _=>exact h
 cases h2 with
 | own k1 _ _=>exact⟨_,_,key k1⟩
 | bor k1 _ _=>exact⟨_,_,key k1⟩
theorem UA {x:Str}{q:Pos}{u:Ty7}(hg:S.sc.names.lookup ("isinstance":Str)=some .globalImplicit)(hm:S.mg "isinstance"=none)(ha:DE S a da)(hp:ZD [a]=true)
  (hg2:S.sc.names.lookup x=some .globalImplicit) (hm2:S.mg x=none) (hb:bootBuiltins x=some (.type u.nm)) (hn:x ≠ "__name__") (hdb:(x==("__debug__":Str))=false) :
  DE S (.Call (.Name "isinstance" p) [a,.Name x q] [] pos) (dIsi [u] da):=λW=>by
 obtain⟨ta,pa,qa⟩:=ha W
 refine⟨_,λX hX tk=>pe_callB (r:=rIsi S.G.K) (hX.K▸call_isi) (show X.env.scope.names.lookup ("isinstance":Str)=some .globalImplicit by rw[hX.sc];exact hg) (by rw[hX.mg];exact hm) (by rfl)
  (pa_cons (pa X hX tk) (ZcX (p:=q) hg2 hm2 hb hn hdb tyns_nil X hX) (Wo (Zv hp a (by simp)))) (by decide) (by decide) (Wo (Zv hp a (by simp))),λg env st T σ H Q hT R h=>qa g env st T σ H _ hT R ?_⟩
 unfold dIsi at h
 cases e1:da env st with
 | stuck=>rw[e1] at h;exact h.elim
 | exc c ds st1=>rw[e1] at h;exact h
 | ok f b d st1=>
  rw[e1] at h
  obtain⟨hf,h⟩:=bifT h id
  intro v H1 R1
  split at h
  ·rename_i t et
   obtain⟨Fz,am,vw⟩:=R1.view1 hf
   exact⟨v,.ty u.nm,.type t.nm,.type u.nm,[u].any t.isa,rfl,.ty _,tyx_of vw et,by rw[kit1];simp,h _ H1 (Rl.scal R1.drop rfl)⟩
  ·exact h.elim
theorem de_isiT {es:List Expr}{k:Nat}{q:Pos}{us:List Ty7}(hg:S.sc.names.lookup ("isinstance":Str)=some .globalImplicit)(hm:S.mg "isinstance"=none)(ha:DE S a da)(hp:ZD [a]=true)
  (hl:us.length.ble 1000=true) (ht:TyNs S es us):DE S (.Call (.Name "isinstance" p) [a,.Tuple es k q] [] pos) (dIsi us da):=λW=>by
 obtain⟨ta,pa,qa⟩:=ha W
 refine⟨_,λX hX tk=>pe_callB (r:=rIsiT S.G.K) (hX.K▸call_isiT) (show X.env.scope.names.lookup ("isinstance":Str)=some .globalImplicit by rw[hX.sc];exact hg) (by rw[hX.mg];exact hm) (by rfl)
  (pa_cons (pa X hX tk) (pa_cons (pe_tup (ht X hX)) pa_nil) (Wo (Zv hp a (by simp)))) (by decide) (by decide) (Wo (Zv hp a (by simp))),λg env st T σ H Q hT R h=>qa g env st T σ H _ hT R ?_⟩
 unfold dIsi at h
 cases e1:da env st with
 | stuck=>rw[e1] at h;exact h.elim
 | exc c ds st1=>rw[e1] at h;exact h
 | ok f b d st1=>
  rw[e1] at h
  obtain⟨hf,h⟩:=bifT h id
  intro v H1 R1
  split at h
  ·rename_i t et
   refine⟨by simpa using ZaW hl,λp hp=>?_⟩
   have R2:Rl S.G g env st1 (⟨v,f,d,b⟩ :: T) σ (upd H1 p (.tup (us.map λu=>V.ty u.nm))):=by
    have R3:=RlB.new (v:=.non) (f:=.z) (d:=.non) (n:=λ_=>0) (H':=upd H1 p (.tup (us.map λu=>V.ty u.nm))) R1 (Vb hp) Va λFz am E k=>.sc trivial λ_=>rfl
    exact R3.drop
   obtain⟨Fz,am,vw⟩:=R2.view1 hf
   exact⟨v,p,us.map λu=>V.ty u.nm,.type t.nm,us.map λu=>.type u.nm,us.any t.isa,rfl,upd_same,clsv us,tyx_of vw et,kitN t us,h _ _ (Rl.scal R2.drop rfl)⟩
  ·exact h.elim
theorem Rl.dup {G:Sg}{g:Gd}{env:Env}{st:Zd}{T:List Tm}{σ:St}{H:Hp}{v:V}{d:D}(R:Rl G g env st (⟨v,.z,d,false⟩ :: T) σ H):Rl G g env st (⟨v,.z,d,false⟩ :: ⟨v,.z,d,false⟩ :: T) σ H:=by
 obtain⟨Fz,am,ne,nt,ns,h1,h2,h3,h4,h5⟩:=R
 cases h2 with
 | @own _ _ _ _ n1 n2 _ k1 k2 k3=>exact⟨Fz,am,ne,nt,ns,h1,.own (k1.fp k1.z0 (m:=λ_=>0)) (.own k1 k2 k3) λq=>by simp,h3,h4,trivial⟩
@[simp] def dChain (o o':Op)(a b c:Den):Den:=λenv st=>match a env st with
 | .ok fa ba xa st1=>bif !ba||fa.isz then (match b env st1 with
  | .ok fb bb xb st2=>bif fa.flat&&fb.isz then (match o [lk st2 xa,lk st2 xb] with
   | some (.z,.bl true)=>(match c env st2 with
    | .ok fc bc xc st3=>bif fc.flat then (match o' [lk st3 xb,lk st3 xc] with
     | some (f,d)=>.ok f false d st3
     | none=>.stuck) else .stuck
    | .exc c ds st1=>.exc c ds st1
    | .stuck=>.stuck)
   | some (.z,.bl false)=>.ok .z false (.bl false) st2
   | _=>.stuck) else .stuck
  | .exc c ds st1=>.exc c ds st1
  | .stuck=>.stuck) else .stuck
 | .exc c ds st1=>.exc c ds st1
 | .stuck=>.stuck
theorem chain_run {r r':R2}{o o':Op}{W:WX}{ta tb tc:TE}(hv:VOp S.G (l2 r) o)(hv':VOp S.G (l2 r') o')
  (qa:∀ g env st T σ H Q,ZL T->Rl S.G g env st T σ H->Wz S.G g env T σ W Q (da env st)->ta σ H Q)
  (qb:∀ g env st T σ H Q,ZL T->Rl S.G g env st T σ H->Wz S.G g env T σ W Q (db env st)->tb σ H Q)
  (qc:∀ g env st T σ H Q,ZL T->Rl S.G g env st T σ H->Wz S.G g env T σ W Q (dc env st)->tc σ H Q)
  (g:Gd) (env:Env) (st:Zd) (T:List Tm) (σ:St) (H:Hp) (Q:VK) (hT:ZL T) (R:Rl S.G g env st T σ H) (h:Wz S.G g env T σ W Q (dChain o o' da db dc env st)):tChain r r' ta tb tc σ H Q:=by
 refine qa g env st T σ H _ hT R ?_
 unfold dChain at h
 cases e1:da env st with
 | stuck=>rw[e1] at h;exact h.elim
 | exc c ds st1=>rw[e1] at h;exact h
 | ok fa ba xa st1=>
 rw[e1] at h
 dsimp only at h
 obtain⟨hb,h⟩:=bifT h id
 intro v H1 R1
 refine qb g env st1 _ σ H1 _ (Vd hT) (R1.unb hb) ?_
 cases e2:db env st1 with
 | stuck=>rw[e2] at h;exact h.elim
 | exc c ds st2=>rw[e2] at h;exact h
 | ok fb bb xb st2=>
 rw[e2] at h
 dsimp only at h
 obtain⟨hf,h'⟩:=bifT h id
 clear h
 have h:=h'
 clear h'
 rw[Bool.and_eq_true] at hf
 have ez:=Fr.ZaE hf.2
 subst ez
 intro w H2 R2
 have R3:=(R2.unb (by simp[Fr.isz])).dup
 have R4:Rl S.G g env st2 (mkT [v,w] [(fa,false,xa),(.z,false,xb)]++(⟨w,.z,xb,false⟩ :: T)) σ H2:=by
  have:=RlB.mid (l:=[⟨w,.z,xb,false⟩,⟨w,.z,xb,false⟩]) R3
  obtain⟨Fz,am,ne,nt,ns,h1,h2,h3,h4,h5⟩:=this
  exact⟨Fz,am,ne,nt,ns,h1,h2,h3,h4,h5⟩
 have fl:flats [(fa,false,xa),(Fr.z,false,xb)]=true:=by
  show (fa.flat&&(Fr.z.flat&&true))=true
  rw[hf.1]
  rfl
 cases e3:o [lk st2 xa,lk st2 xb] with
 | none=>rw[e3] at h;exact h.elim
 | some x=>
  obtain⟨f',d'⟩:=x
  rw[e3] at h
  refine Rl.op (vs:=[v,w]) hv R4 rfl fl e3 λz H3 R5=>?_
  split at h
  ·rename_i es
   cases es
   refine⟨true,R5.bl,?_⟩
   rw[if_pos rfl]
   refine qc g env st2 _ σ H3 _ (Vd hT) R5.drop ?_
   cases e4:dc env st2 with
   | stuck=>rw[e4] at h;exact h.elim
   | exc c ds st3=>rw[e4] at h;exact h
   | ok fc bc xc st3=>
    rw[e4] at h
    dsimp only at h
    obtain⟨hf2,h'⟩:=bifT h id
    clear h
    have h:=h'
    clear h'
    intro u H4 R6
    have R7:Rl S.G g env st3 (mkT [w,u] [(.z,false,xb),(fc,bc,xc)]++T) σ H4:=RlB.mid (l:=[_]) R6
    cases e5:o' [lk st3 xb,lk st3 xc] with
    | none=>rw[e5] at h;exact h.elim
    | some y=>
     obtain⟨f2,d2⟩:=y
     rw[e5] at h
     exact Rl.op (vs:=[w,u]) hv' R7 rfl (by
      show (Fr.z.flat&&(fc.flat&&true))=true
      rw[hf2]
      rfl) e5 h
  ·rename_i es
   cases es
   refine⟨false,R5.bl,?_⟩
   rw[if_neg (by decide)]
   exact h _ H3 (Rl.scal R5.drop.drop rfl)
  ·exact h.elim
theorem lm2 {o o':CmpOp}(hb:Ww b=true)(hc:Ww c=true):lastMarks [o,o'] [b,c]=false:=marks (o:=o') hc
theorem dt_chain {o o':CmpOp}{op op':Op}(ci:CmpI S o op)(ci':CmpI S o' op')(ha:DE S a da)(hb:DE S b db)(hc:DE S c dc)(nb:Ww b=true)(nc:Ww c=true):DT S (.Compare a [o,o'] [b,c] pos) (dB (dChain op op' da db dc)):=λW=>by
 obtain⟨r,h1,h2⟩:=ci.ex
 obtain⟨r',h1',h2'⟩:=ci'.ex
 obtain⟨ta,pa,qa⟩:=ha W
 obtain⟨tb,pb,qb⟩:=hb W
 obtain⟨tc,pc,qc⟩:=hc W
 exact⟨_,λX hX tk=>pt_chain (h1 X hX) (h1' X hX) (pa X hX tk) (pb X hX tk) (pc X hX tk) (lm2 nb nc),λg env st T σ H Q hT R h=>chain_run h2 h2' qa qb qc g env st T σ H _ hT R (postB h)⟩
theorem reps_snoc {G:Sg}{Fz:Addr->Prop}{am:List Addr}{H:Hp}{x:V}{d:D}{xs:List D}{acc:List V}(r:Reps G Fz am H (zs xs.length) acc xs (λ_=>0))(hx:Rep G Fz am H .z x d (λ_=>0)):Reps G Fz am H (zs (xs ++ [d]).length) (acc ++ [x]) (xs ++ [d]) (λ_=>0):=
 r.cat (.cons (n1:=λ_=>0) (n2:=λ_=>0) hx (.nil λ_=>rfl) λ_=>rfl)
def dApp (i:Nat)(a:Den):Zi:=λenv st=>match env[i]? with
 | some (some (.c .z,.con .lst xs))=>(match a env st with
  | .ok f b d st1=>bif (!b||f.isz)&&xs.length.ble 1000000 then .nx (env.set i (some (.c .z,.con .lst (xs ++ [d])))) st1 else .stuck
  | .exc c ds st1=>.exc c ds env st1
  | .stuck=>.stuck)
 | _=>.stuck
theorem len7 {n:Nat}(h:n.ble 1000000=true):n<sizeLine:=Nat.lt_of_le_of_lt (Nat.le_of_ble_eq_true h) (by decide)
theorem ds_app {i:Nat}{x:Str}{q apos:Pos}(hN:S.N[i]?=some x)(hv:Vis S.sc x)(hd:(x==("__debug__":Str))=false)(hcd:(x==("__classdict__":Str))=false)(hl:(apos.endLine==p.line)=true)(ha:DE S a da)(hp:ZD [a]=true):
  DS S (.Expr (.Call (.Attribute (.Name x q) "append" apos) [a] [] p) pos) (dApp i da):=λW=>by
 obtain⟨ta,pa,qa⟩:=ha W
 have hs:=Zv hp a (by simp)
 have pk:∀ X,Stx S X->Takes X W->PE X (.Call (.Attribute (.Name x q) "append" apos) [a] [] p) (tBM S.G.K "list" rAppend (tVar i) (tCons ta tNil)):=λX hX tk=>by
  have:=pe_bm PySem.F.plainAttrs_list PySem.F.slot_list_append PySem.F.type_list_append mt_append (de_pv (p:=q) hN hv hd hcd hX) (pa_cons (pa X hX tk) pa_nil (Wo hs)) (by rfl) (by rw[Wo hs];rfl) hl (Wo hs)
  rw[hX.K] at this
  exact this
 refine⟨_,λX hX tk=>ps_expr (pk X hX tk),λg env st T σ H D hT R h=>?_⟩
 unfold dApp at h
 split at h
 ·rename_i xs ei
  have ei':=ei
  obtain⟨v,ev,R0⟩:=R.pushb ei
  have hsq:∃ A acc,v=.ref A∧SqL S.G.K H A acc:=by
   obtain⟨Fz,am,vw⟩:=R0.view1 rfl
   obtain⟨A,acc,e1,e2,_⟩:=View.sq (k:=.lst) rfl vw
   exact⟨A,acc,e1,e2⟩
  obtain⟨A,acc,rfl,sq⟩:=hsq
  refine⟨_,ev,.inl ⟨rfl,_,sq⟩,?_⟩
  refine qa g env st T σ H _ hT R ?_
  cases e1:da env st with
  | stuck=>rw[e1] at h;exact h.elim
  | exc c ds st1=>rw[e1] at h;exact h σ
  | ok f b d st1=>
   rw[e1] at h
   obtain⟨hc,h⟩:=bifT h id
   rw[Bool.and_eq_true] at hc
   intro x H1 R1
   obtain⟨A',acc',a1,a2,a3,R2⟩:=Rl.wre (xs':=xs ++ [d]) (fV:=λacc=>acc ++ [x]) (R1.unb hc.1).frz hT ei λFz am acc r hx=>reps_snoc r hx
   rw[ev] at a1
   cases a1
   exact⟨A,acc',x,rfl,rfl,a2,by rw[a3];exact len7 hc.2,h _ _ R2⟩
 ·exact h.elim
theorem ds_unpT {es:List Expr}{k:Nat}{q:Pos}{p:Pat}(hg:DG S (.Tuple es k q) p)(ha:DE S e da)(hw:noSwap e=true):DS S (.Assign [.Tuple es k q] e pos) (dUnp p da):=λW=>by
 obtain⟨t,pt,q⟩:=ha W
 obtain⟨t2,pt2,q2⟩:=hg
 refine⟨_,λX hX tk=>ps_asg (pt X hX tk) (pt2 X hX) (by cases e<;>rfl) (noSwap_ok hw) (by rfl),λg env st T σ H D hT R h=>q g env st T σ H _ hT R ?_⟩
 unfold dUnp at h
 cases e:da env st with
 | stuck=>rw[e] at h;exact h.elim
 | exc c ds st1=>rw[e] at h;exact h σ
 | ok f b d st1=>
  rw[e] at h
  obtain⟨hc,h⟩:=bifT h id
  cases e2:ZX p f d env with
  | none=>rw[e2] at h;exact h.elim
  | some env1=>
   rw[e2] at h
   exact λv H1 R1=>q2 g env st1 T σ H1 v f d env1 _ hT (R1.unb hc) e2 λσ' H' _ R'=>h σ' H' R'
end
@[reducible] def Sx.at (S:Sx)(N:List Str)(sc:Scope)(k:Nat):Sx:=⟨S.P,S.w,S.mg,S.base,S.G,N,sc,k,true,S.lok,none,λ_=>false⟩
theorem Good.at {S:Sx}{x:Str}{n:Nat}{F:Fn}{dd:List D}{k:Nat}(h:Good S x n F dd k){N:List Str}{sc:Scope}{j:Nat}:Good (S.at N sc j) x n F dd k:=⟨h.ex⟩
theorem Good.blk {S:Sx}{x:Str}{n:Nat}{F:Fn}{dd:List D}{k:Nat}(h:Good S x n F dd k){sc:Scope}:Good (S.blk sc) x n F dd k:=⟨h.ex⟩
structure Kn (S:Sx)(x:Str)(st:Stmt):Prop where
 ex:∃ f fd,FunD S.G.K x x (defArgs st) (defBody st) (defScope st) [] [] f fd∧S.mg x=some (.ref f)
def Wv (x:Str)(st:Stmt)(ps:List Str):Prop:=∀ (kV doc pm:Value) (an:Option Addr) (cdv ct:Value) (us:List Value),us.length=ps.length->bindArgs (PySem.W.fnOf x x (defArgs st) (defBody st) (defScope st) .none kV doc pm an cdv ct) ⟨us,[]⟩=pure (ps.zip us)
theorem lez {a b:Nat}(h:Nat.ble a b=true:=by rfl):a<=b:=Nat.le_of_ble_eq_true h
theorem fsM {N P:List Str}{sc:Scope}(a:sc.kind=.function:=by rfl)(b:sc.isCoroutine=false:=by rfl)(c:sc.isGenerator=false:=by rfl)(d:N.Nodup:=by decide +kernel)(e:N.take P.length=P:=by rfl)(f:∀ x∈P,sc.names.lookup x=some .local∨sc.names.lookup x=some .cell:=by decide +kernel)(g:∀ y∈sc.names,y.2 ≠ .free:=by decide +kernel):FnScope N P sc:=⟨a,b,c,d,e,f,g⟩
theorem bnq1 {x:Str}{st:Stmt}{p0:Str}(h:∀ (kV doc pm:Value) (an:Option Addr) (cdv ct u0:Value),bindArgs (PySem.W.fnOf x x (defArgs st) (defBody st) (defScope st) .none kV doc pm an cdv ct) ⟨[u0],[]⟩=pure ([p0].zip [u0]):=by intros;rfl):Wv x st [p0]:=λ_ _ _ _ _ _ us hl=>match us,hl with | [_],_=>h _ _ _ _ _ _ _
theorem bnq2 {x:Str}{st:Stmt}{p0 p1:Str}(h:∀ (kV doc pm:Value) (an:Option Addr) (cdv ct u0 u1:Value),bindArgs (PySem.W.fnOf x x (defArgs st) (defBody st) (defScope st) .none kV doc pm an cdv ct) ⟨[u0,u1],[]⟩=pure ([p0,p1].zip [u0,u1]):=by intros;rfl):Wv x st [p0,p1]:=λ_ _ _ _ _ _ us hl=>match us,hl with | [_,_],_=>h _ _ _ _ _ _ _ _
theorem bnq3 {x:Str}{st:Stmt}{p0 p1 p2:Str}(h:∀ (kV doc pm:Value) (an:Option Addr) (cdv ct u0 u1 u2:Value),bindArgs (PySem.W.fnOf x x (defArgs st) (defBody st) (defScope st) .none kV doc pm an cdv ct) ⟨[u0,u1,u2],[]⟩=pure ([p0,p1,p2].zip [u0,u1,u2]):=by intros;rfl):Wv x st [p0,p1,p2]:=λ_ _ _ _ _ _ us hl=>match us,hl with | [_,_,_],_=>h _ _ _ _ _ _ _ _ _
theorem bnq4 {x:Str}{st:Stmt}{p0 p1 p2 p3:Str}(h:∀ (kV doc pm:Value) (an:Option Addr) (cdv ct u0 u1 u2 u3:Value),bindArgs (PySem.W.fnOf x x (defArgs st) (defBody st) (defScope st) .none kV doc pm an cdv ct) ⟨[u0,u1,u2,u3],[]⟩=pure ([p0,p1,p2,p3].zip [u0,u1,u2,u3]):=by intros;rfl):Wv x st [p0,p1,p2,p3]:=λ_ _ _ _ _ _ us hl=>match us,hl with | [_,_,_,_],_=>h _ _ _ _ _ _ _ _ _ _
abbrev nl0:List Str:=["_law_bag_here","_law_many","_law_cell","_law_got","_law_wider"]
abbrev nl1:List Str:=["_law_bag_here","_law_number"]
abbrev nl2:List Str:=["_law_bag_here","_law_some"]
abbrev nl3:List Str:=["_law_bag_here","_law_text","_law_at","_law_sign","_law_way","_law_rows","_law_k","_law_words","_law_spot","_law_odd"]
abbrev nl4:List Str:=["_law_bag_here","_law_word_here","_law_some","_law_rows","_law_many","_law_k","_law_at"]
abbrev nl5:List Str:=["_law_deed","_law_one_here","_law_part"]
abbrev nl6:List Str:=["_law_got","_law_due","_law_k"]
abbrev nl7:List Str:=["_law_row","_law_words","_law_word_here","_law_rows","_law_good","_law_many","_law_begin","_law_end","_law_numbers","_law_tail","_law_part","_law_one_here"]
abbrev nl8:List Str:=["_law_rows","_law_at","_law_words","_law_many","_law_deed","_law_some","_law_row"]
abbrev nl9:List Str:=["_law_script","_law_bag_here","_law_step","_law_rows","_law_some","_law_text","_law_bend","_law_k"]
abbrev nl10:List Str:=["_law_script","_law_salt","_law_cell"]
abbrev nl11:List Str:=["_law_text","_law_rows","_law_deed","_law_end"]
abbrev nl12:List Str:=["_law_word_here","_law_body","_law_sign"]
abbrev nl13:List Str:=["_law_words","_law_found","_law_word_here"]
abbrev nl14:List Str:=["row","parts","found","part","one"]
abbrev nl15:List Str:=["row","word","mark","rest","many"]
abbrev nl16:List Str:=["row","words","word","choices","numbers","sift"]
abbrev nl17:List Str:=["rows","at","many","deed","found","place"]
abbrev nl18:List Str:=["text","rows","deed","end"]
abbrev nl19:List Str:=["word","bare","one"]
abbrev nl20:List Str:=["words","found","word"]
theorem We {S:Sx}{x:Str}{st:Stmt}{N ps:List Str}{n k:Nat}{db:Zi}(h:Kn S x st)(Sc:FnScope N ps (defScope st))(hb:DSs (S.at N (defScope st) k) (defBody st) db)(hbind:Wv x st ps)(hn:ps.length=n):Good S x n (WB N.length db) [] (k+1):=by
 subst hn
 obtain⟨f,fd,F,hm⟩:=h.ex
 exact⟨f,fd,ps,[],[],ok_fn (S:=S.at N (defScope st) k) F Sc hb rfl,hm,F.kp,F.bindsN hbind,.nil,λFz am H=>.nil λ_=>rfl⟩
theorem good_stuck {S:Sx}{x:Str}{st:Stmt}{N ps:List Str}{n k:Nat}(h:Kn S x st)(Sc:FnScope N ps (defScope st))(hbind:Wv x st ps)(hn:ps.length=n):Good S x n (λ_ _=>.stuck) [] (k+1):=by
 subst hn
 obtain⟨f,fd,F,hm⟩:=h.ex
 refine⟨f,fd,ps,[],[],?_,hm,F.kp,F.bindsN hbind,.nil,λFz am H=>.nil λ_=>rfl⟩
 refine F.ok Sc (λvs H Q E h=>h.1) λcdv A outer s H vs Q E hr h=>?_
 obtain⟨hl,Fz,am,as,st,na,ns,h1,h2,h3,h4⟩:=h
 exact h4.elim
def blkB (N:List Str)(sc scope:Scope)(own:List (Str × Nat)):Bool:=
 decide (scope.kind=.function)&&scope.names.all (λy=>decide (scope.names.lookup y.1=some y.2))&&own.all (λp=>decide (N[p.2]?=some p.1)) &&
 scope.names.all (λy=>!decide (y.2=.free)||(decide (sc.names.lookup y.1=some .cell)||decide (sc.names.lookup y.1=some .free))) &&
 scope.names.all (λy=>!(decide (y.2=.local)||decide (y.2=.cell))||(decide (y.1∈own.map (·.1)) || !decide (y.1∈N)))
theorem WM {N:List Str}{sc scope:Scope}{own:List (Str × Nat)}(h:blkB N sc scope own=true):BlkOk N sc scope own:=by
 unfold blkB at h
 simp only[Bool.and_eq_true,List.all_eq_true,decide_eq_true_eq] at h
 obtain⟨⟨⟨⟨h1,h2⟩,h3⟩,h4⟩,h5⟩:=h
 refine⟨h1,h2,h3,λy hy e=>?_,λy hy e=>?_⟩
 ·have:=h4 y hy
  simpa [e] using this
 ·have:=h5 y hy
  rcases e with e | e<;>simpa [e] using this
theorem law_sp {G:Sg}{F:Fn}{H:Hp}{a:Addr}{ns:List Int}{st:Zd}(hS:SqL G.K H a (ns.map V.int))(hT:LamX.Tabs G.T H)(hL:∀ j,G.lam j=none)(h:F [(.z,.con .frl (ns.map D.int))] []=.ok .z false (.bl true) st):
  SpF G 1 F [.ref a] H (λv _=>v=.bl true) λ_ _ _=>False:=by
 have its:∀ {Fz:Addr->Prop} {am:List Addr} (ns:List Int),Reps G Fz am H (zs (ns.map D.int).length) (ns.map V.int) (ns.map D.int) (λ_=>0):=λ{Fz am} ns=>by
  induction ns with
  | nil=>exact .nil λ_=>rfl
  | cons n ns ih=>
   show Reps G Fz am H (zs ((ns.map D.int).length+1)) (V.int n :: ns.map V.int) (D.int n :: ns.map D.int) _
   rw[show zs ((ns.map D.int).length+1)=.z :: zs (ns.map D.int).length from List.replicate_succ]
   exact .cons (n1:=λ_=>0) (n2:=λ_=>0) (.sc rfl λ_=>rfl) ih λ_=>rfl
 have fin:∀ g,PostF G g (λv _=>v=.bl true) (λ_ _ _=>False) (F [(.z,.con .frl (ns.map D.int))] []):=λg=>by
  rw[h]
  exact⟨rfl,λv H' R=>R.bl⟩
 have fin2:∀ Fz:Addr->Prop,(∀ p,Fz p->∃ o,H p=some o∧VZ o=true)->Shr G Fz H a .frl (ns.map V.int)->SpF G 1 F [.ref a] H (λv _=>v=.bl true) λ_ _ _=>False:=λFz hz sh=>by
  refine⟨rfl,Fz,[],[(.z,.con .frl (ns.map D.int))],[],λ_=>0,λ_=>0,?_,.nil λ_=>rfl,⟨λp=>by simp,λp hp=>absurd hp (Nat.lt_irrefl 0),λp hp=>absurd hp (Nat.lt_irrefl 0),hz,λp o _ e _=>.inl e,λp hp=>absurd hp (Nat.lt_irrefl 0),λ_ z=>z,λ_ z=>.inl z,λ_ _ z=>z,hT,⟨λp z=>⟨λq=>absurd q (Nat.lt_irrefl 0),hz p z⟩,λp q=>absurd q (Nat.lt_irrefl 0),λj l e=>by rw[hL] at e;cases e⟩,λp o t e _=>⟨o,e,t⟩⟩,fin _⟩
  exact .cons (n1:=λ_=>0) (n2:=λ_=>0) (.zz (k:=.frl) sh (its ns) λ_=>rfl) (.nil λ_=>rfl) λ_=>rfl
 rcases hS with r | r
 ·exact fin2 (λp=>p=a) (λp e=>by
   subst e
   rcases r with r | ⟨o,r⟩
   ·exact⟨_,r,rfl⟩
   ·exact⟨_,r,rfl⟩) (.inl ⟨rfl,r⟩)
 ·exact fin2 (λ_=>False) (λp e=>e.elim) (.inr (.inr r))
section
variable {S:Sx}{e a b c tg:Expr}{es:List Expr}{da db dc de di:Den}{das:DenL}{pos p:Pos}{s:Stmt}{ss:List Stmt}{tr:Zi}
end
structure GV (S:Sx)(x:Str)(d:D):Prop where
 ex:∃ v u,S.mg x=some u∧RelV v u∧∀ Fz am H,Rep S.G Fz am H .z v d (λ_=>0)
theorem GV.at {S:Sx}{x:Str}{d:D}(h:GV S x d){N:List Str}{sc:Scope}{k:Nat}:GV (S.at N sc k) x d:=⟨h.ex⟩
theorem GV.blk {S:Sx}{x:Str}{d:D}(h:GV S x d){sc:Scope}:GV (S.blk sc) x d:=⟨h.ex⟩
theorem de_glo {S:Sx}{x:Str}{p:Pos}{d:D}(h:GV S x d)(hg:S.sc.names.lookup x=some .globalImplicit)(hd:(x==("__debug__":Str))=false):DE S (.Name x p) (dC d):=λW=>by
 obtain⟨v,u,hm,r,rep⟩:=h.ex
 exact⟨_,λX hX tk=>pe_glob (show X.env.scope.names.lookup x=some .globalImplicit by rw[hX.sc];exact hg) (by rw[hX.mg];exact hm) r hd,λg env st T σ H Q hT R h=>h _ H (R.pz λFz am ne nt _ _=>rep Fz am H)⟩
def kval (K:PySem.W.Frag):Nat->Value->D->Bool
 | 0,_,_=>false
 | _+1,.none,.non=>true
 | _+1,.bool a,.bl b=>a==b
 | _+1,.int i _,.int j=>decide (i=j)
 | _+1,.str x _,.str y=>decide (x=y)
 | n+1,.ref a,.con .tup ds=>match K.lookup a with
  | some ⟨.type "tuple",_,.seq its _,_⟩=>decide (its.size<=1000)&&decide (its.size=ds.length)&&(its.toList.zip ds).all λq=>kval K n q.1 q.2
  | _=>false
 | n+1,.ref a,.con .frl ds=>match K.lookup a with
  | some ⟨.type "list",Option.none,.seq its _,_⟩=>decide (its.size<=1000)&&decide (its.size=ds.length)&&(its.toList.zip ds).all λq=>kval K n q.1 q.2
  | _=>false
 | _,_,_=>false
section
variable {G:Sg}{Fz:Addr->Prop}{am:List Addr}{H:Hp}
theorem kvals {n:Nat}(ih:∀ u d,kval G.K n u d=true->∃ v,RelV v u∧∀ Fz am H,Rep G Fz am H .z v d (λ_=>0)):∀ (us:List Value) (ds:List D),us.length=ds.length->((us.zip ds).all λq=>kval G.K n q.1 q.2)=true ->
  ∃ vs,Vals vs us∧∀ Fz am H,Reps G Fz am H (zs ds.length) vs ds (λ_=>0)
 | [],[],_,_=>⟨[],.nil,λ_ _ _=>.nil λ_=>rfl⟩
 | u :: us,d :: ds,hl,h=>by
  rw[List.zip_cons_cons,List.all_cons,Bool.and_eq_true] at h
  obtain⟨v,r,rep⟩:=ih u d h.1
  obtain⟨vs,rs,reps⟩:=kvals ih us ds (by simpa using hl) h.2
  refine⟨v :: vs,.cons r rs,λFz am H=>?_⟩
  rw[show zs (d :: ds).length=.z :: zs ds.length from List.replicate_succ]
  exact .cons (rep Fz am H) (reps Fz am H) λq=>rfl
theorem small1k {n:Nat}(h:n<=1000):n<=sizeLine:=Nat.le_trans h (by decide)
theorem ZbS:∀ (n:Nat) (u:Value) (d:D),kval G.K n u d=true->∃ v,RelV v u∧∀ Fz am H,Rep G Fz am H .z v d (λ_=>0)
 | 0,u,d,h=>by cases h
 | n+1,u,d,h=>by
  have ih:=ZbS n
  unfold kval at h
  split at h
  ·cases h
  ·exact⟨.non,rfl,λ_ _ _=>.sc trivial λ_=>rfl⟩
  ·rename_i a b e1
   have:=eq_of_beq h
   subst this
   exact⟨.bl a,rfl,λ_ _ _=>.sc rfl λ_=>rfl⟩
  ·rename_i i t j e1
   have:=of_decide_eq_true h
   subst this
   exact⟨.int i,⟨t,rfl⟩,λ_ _ _=>.sc rfl λ_=>rfl⟩
  ·rename_i i t j e1
   have:=of_decide_eq_true h
   subst this
   exact⟨.str i,⟨t,rfl⟩,λ_ _ _=>.sc rfl λ_=>rfl⟩
  ·rename_i m a ds e1
   split at h
   ·rename_i dx its n0 sl el
    simp only[Bool.and_eq_true,decide_eq_true_eq] at h
    have em:n=m:=Nat.succ.inj e1
    subst em
    obtain⟨vs,rs,reps⟩:=kvals (ZbS _) its.toList ds (by simpa using h.1.2) h.2
    exact⟨.ref a,rfl,λFz am H=>.zz (k:=.tup) (.inr ⟨_,its,n0,el,rfl,rfl,small1k h.1.1,rs⟩) (reps Fz am H) λ_=>rfl⟩
   ·cases h
  ·rename_i m a ds e1
   split at h
   ·rename_i its n0 sl el
    simp only[Bool.and_eq_true,decide_eq_true_eq] at h
    have em:n=m:=Nat.succ.inj e1
    subst em
    obtain⟨vs,rs,reps⟩:=kvals (ZbS _) its.toList ds (by simpa using h.1.2) h.2
    exact⟨.ref a,rfl,λFz am H=>.zz (k:=.frl) (.inr (.inr ⟨_,its,n0,el,rfl,rfl,rfl,small1k h.1.1,rs⟩)) (reps Fz am H) λ_=>rfl⟩
   ·cases h
  ·cases h
end
def gval (K:PySem.W.Frag)(x:Str)(d:D):Bool:=match PySem.W.nsIn K mainGlobals x with
 | some (some u)=>kval K 8 u d
 | _=>false
theorem gv_of {S:Sx}{h:Heap}(X:S.G.K.In h)(Gn:h.Ns mainGlobals S.mg){x:Str}{d:D}(c:gval S.G.K x d=true):GV S x d:=by
 unfold gval at c
 split at c
 ·rename_i u e
  obtain⟨v,r,rep⟩:=ZbS 8 u d c
  exact⟨v,u,PySem.W.mg_of X Gn e,r,rep⟩
 ·cases c
def scV:D->V
 | .bl b=>.bl b
 | .int i=>.int i
 | .str s=>.str s
 | _=>.non
def isSc:D->Bool
 | .non=>true
 | .bl _=>true
 | .int _=>true
 | .str _=>true
 | _=>false
structure KnD (S:Sx)(x:Str)(st:Stmt)(dfl:List D):Prop where
 ex:∃ f fd,FunD S.G.K x x (defArgs st) (defBody st) (defScope st) (dfl.map scV) [] f fd∧S.mg x=some (.ref f)
end Hx
set_option maxHeartbeats 0
namespace Hx
open PySem PySem.Spec L2
theorem deV (i:Nat){S:Sx}{x:Str}{p:Pos}(hN:S.N[i]?=some x:=by rfl)(hv:Vis S.sc x:=by exact .inl (by kernel_rfl))(hd:(x==("__debug__":Str))=false:=by kernel_rfl)(hcd:(x==("__classdict__":Str))=false:=by kernel_rfl):DE S (.Name x p) (Ze i):=ZK hN hv hd hcd
end Hx
namespace Hx
open PySem PySem.Spec L2
open PyProof.Rows hiding St
structure XCls (K:PySem.W.Frag)(C:Addr):Prop where
 ex:∃ (B newId initId:String) (bmB:List Value),ExcBaseFacts B newId initId bmB∧StoreFacts B bmB "object.__setattr__" "object" ∧ PySem.W.excInitIn K C bmB newId=true∧PySem.W.excOver K C bmB=true
 hd:PySem.W.hasDictIn K C=true
 sa:PySem.W.findIn K (.ref C) "__setattr__"=some (some (.builtin "object.__setattr__"))
 be:PySem.W.subIn K (.ref C) (.type "BaseException")=some true
 ty:PySem.W.typeIn K (.ref C)=some (.type "type")
 kp:PySem.W.keepIn K (.ref C)=true
abbrev baseV (B:String):List Value:=[.type B,.type "Exception",.type "BaseException",.type "object"]
def xbase (K:PySem.W.Frag)(C:Addr)(B n:String):Bool:=PySem.W.excInitIn K C (baseV B) n&&PySem.W.excOver K C (baseV B)
def xclsB (K:PySem.W.Frag)(C:Addr):Bool:=
 (xbase K C "ValueError" "ValueError.__new__" || (xbase K C "LookupError" "LookupError.__new__" || xbase K C "RuntimeError" "RuntimeError.__new__")) &&
 (PySem.W.hasDictIn K C&&(decide (PySem.W.findIn K (.ref C) "__setattr__"=some (some (.builtin "object.__setattr__")))&&(decide (PySem.W.subIn K (.ref C) (.type "BaseException")=some true)&&(decide (PySem.W.typeIn K (.ref C)=some (.type "type"))&&PySem.W.keepIn K (.ref C)))))
theorem xcls_of {K:PySem.W.Frag}{C:Addr}(h:xclsB K C=true):XCls K C:=by
 unfold xclsB xbase at h
 simp only[Bool.and_eq_true,Bool.or_eq_true,decide_eq_true_eq] at h
 obtain⟨h0,h1,h2,h3,h4,h5⟩:=h
 refine⟨?_,h1,h2,h3,h4,h5⟩
 rcases h0 with ⟨a,b⟩ | ⟨a,b⟩ | ⟨a,b⟩
 ·exact⟨_,_,_,_,F.excBase_ValueError,F.store_ValueError,a,b⟩
 ·exact⟨_,_,_,_,F.excBase_LookupError,F.store_LookupError,a,b⟩
 ·exact⟨_,_,_,_,F.excBase_RuntimeError,F.store_RuntimeError,a,b⟩
abbrev xrec (C t1:Addr)(d:Option Addr):Obj:={ cls:=.ref C,dict:=d,data:=.fields #[.ref t1,.none,.none,.none,.bool false,.none] }
section
variable {prog:Program}{w:World}{A:Around}{E:Value->Shared->Prop}{hp:Heap}{g:Array GenState}{dr:Drawn}{tk0:Nat}{os:OsState}
open Builtin Builtin.ObjectAttr
theorem put_first {K:PySem.W.Frag}{C a t1:Addr}{f:Str}{u:Value}{Q:Unit->Shared->Prop}(T:XCls K C)(X:K.In hp)(ho:hp.get? a=some (xrec C t1 none))(ht:PySem.W.takerIn K C f=some none)
  (h:∀ h' tk' dx,(∀ b o,b≠a->hp.get? b=some o->h'.get? b=some o)->hp.objs.size<=dx->dx≠a->h'.get? a=some (xrec C t1 (some dx))->h'.Ns1 dx (λy=>if y=f then some u else none)->Q () ⟨h',g,dr,tk',os⟩) :
  wpAny (model prog w) A (setAttr (.ref a) f u) Q E ⟨hp,g,dr,tk0,os⟩:=by
 obtain⟨B,ni,ii,bmB,FB,SF,k1,k2⟩:=T.ex
 refine PySem.W.set_plain X (ox:=xrec C t1 none) (od:=none) ⟨ho,rfl,rfl,trivial⟩ T.sa ?_
 refine PySem.W.osa_openX (od:=none) SF X ⟨ho,rfl,rfl,trivial⟩ k2 ht λb=>?_
 obtain⟨cd,hc,hd⟩:=PySem.W.any_some T.hd
 have hcls:PySem.W.Looks (model prog w) hp (classData C) cd:=PySem.W.looks_clsIn X hc
 have nxs:a≠hp.objs.size:=Nat.ne_of_lt (Heap.lt_size ho)
 obtain⟨nm,bs,mro,ns,qn,hdd,sn,sb,ab,col,del⟩:=cd
 dsimp only at hd
 subst hd
 unfold storeInOwnDict ownDictForStores
 repeat (first | with_reducible refine PySem.HandSPX.store_in_new ?nd ?st | with_reducible refine wpAny_loadPart_at ho ?_ | with_reducible refine hcls.at ?_ | wp_step)
 case nd=>exact⟨_,#[],_,(Heap.get?_update_ne _ _ _ _ nxs.symm).trans (Heap.get?_push_at rfl rfl),rfl,λe he=>absurd he (by simp),λ_=>rfl⟩
 case st=>
  intro h' tk' hn' hs
  have ho1:(hp.push { cls:=.type "dict",data:=.dict #[] }).get? a=some (xrec C t1 none):=Heap.get?_push_of_some _ ho
  refine h h' tk' hp.objs.size (λb o hb hbo=>?_) (Nat.le_refl _) nxs.symm ?_ hn'
  ·exact (hs.2 b (Nat.ne_of_lt (Heap.lt_size hbo))).trans ((Heap.get?_update_ne _ _ _ _ hb).trans (Heap.get?_push_of_some _ hbo))
  ·exact (hs.2 a nxs).trans (Heap.get?_update_self _ ho1 rfl)
theorem put_next {K:PySem.W.Frag}{C a t1 dx:Addr}{f:Str}{u:Value}{Q:Unit->Shared->Prop}{m0:Str->Option Value}{nl:List Str}(T:XCls K C)(X:K.In hp)(ho:hp.get? a=some (xrec C t1 (some dx)))(hns:hp.Ns1 dx m0)(hw:Within m0 nl)(hz:nl.length<=1000)
  (ht:PySem.W.takerIn K C f=some none) (h:∀ h' tk',(∀ b o,b≠dx->hp.get? b=some o->h'.get? b=some o)->h'.Ns1 dx (λy=>if y=f then some u else m0 y)->Q () ⟨h',g,dr,tk',os⟩) :
  wpAny (model prog w) A (setAttr (.ref a) f u) Q E ⟨hp,g,dr,tk0,os⟩:=by
 obtain⟨B,ni,ii,bmB,FB,SF,k1,k2⟩:=T.ex
 obtain⟨oD,eD,pD,hoD,hdD,_⟩:=hns.count hw
 refine PySem.W.set_plain X (ox:=xrec C t1 (some dx)) (od:=some oD) ⟨ho,rfl,rfl,hoD⟩ T.sa ?_
 refine PySem.W.osa_openX (od:=some oD) SF X ⟨ho,rfl,rfl,hoD⟩ k2 ht λb=>?_
 obtain⟨cd,hc,hd⟩:=PySem.W.any_some T.hd
 have hcls:PySem.W.Looks (model prog w) hp (classData C) cd:=PySem.W.looks_clsIn X hc
 obtain⟨nm,bs,mro,ns,qn,hdd,sn,sb,ab,col,del⟩:=cd
 dsimp only at hd
 subst hd
 unfold storeInOwnDict ownDictForStores
 repeat (first | with_reducible refine PySem.OEX.store_in_old hns hw hz ?st | with_reducible refine wpAny_loadPart_at ho ?_ | with_reducible refine hcls.at ?_ | wp_step)
 case st=>
  intro h' tk' hn' hs
  exact h h' tk' (λb o hb hbo=>(hs.2 b hb).trans hbo) hn'
end
section
variable {X:Cx}{pins:List (Addr × Obj)}{σ:St}{H:Hp}{s:Shared}{a C dx:Addr}{f:Str}{y:V}{u:Value}{fs:List (Str × V)}{Q:Unit->Shared->Prop}{E:Value->Shared->Prop}{A:Around}
theorem fld_new (T:XCls X.K C)(I:Inv X pins σ H s)(e:H a=some (exo a C none))(ht:PySem.W.takerIn X.K C f=some none)(ry:RelV y u)
    (h:∀ dx s',H dx=none->dx≠a->Inv X pins σ (upd (upd H dx (exd dx [(f,y)])) a (exo a C (some dx))) s' -> Q () s'):wpAny (model X.prog X.w) A (setAttr (.ref a) f u) Q E s:=by
  obtain⟨t1,ho⟩:=exo_at I.hok e
  obtain⟨hp,g,d,t,os⟩:=s
  refine put_first T I.kIn ho ht λh' tk' dx k dn dne hx hn=>?_
  have hnd:H dx=none:=I.hok.fresh dn
  have lo:∀ {b:Addr} {o:Obj},hp.get? b=some o->b≠dx:=λ{b o} q=>Nat.ne_of_lt (Nat.lt_of_lt_of_le (Heap.lt_size q) dn)
  have na:∀ {b:Addr},H b=none->b≠a:=λ{b} n z=>by rw[z,e] at n;cases n
  have old:∀ {b:Addr} {v:HO},H b=some v->v≠exo a C none->upd (upd H dx (exd dx [(f,y)])) a (exo a C (some dx)) b=some v:=λ{b v} q ne=>by
    rw[upd_ne λz=>ne (by rw[z,e] at q;exact (Option.some.inj q).symm),upd_ne (ne_of_none q hnd)];exact q
  have U:Un X.fs [] H (upd (upd H dx (exd dx [(f,y)])) a (exo a C (some dx))) hp h':=
    ⟨λb o q n _ _=>k b o (na n) q,λb o q n _ _=>⟨o.slots,k b o (na n) q⟩,λb o q n _=>by rw[upd_ne (na n),upd_ne (lo q)];exact n,
     λb o q _=>if hb:b=a then ⟨_,hb▸hx⟩ else ⟨o,k b o hb q⟩,λb xs q=>old q λz=>exo_tup z.symm,λb o v q=>old q λz=>exo_frz z.symm,λb ps q=>⟨#[],by rw[old q λz=>exo_tbl z.symm];simp⟩⟩
  refine h dx _ hnd dne (I.un (t':=tk') U λb o q=>?_)
  by_cases hb:b=a
  · subst hb;rw[upd_same] at q;cases q;exact exo_ok hx
  by_cases hd:b=dx
  · subst hd;rw[upd_ne hb,upd_same] at q;cases q;exact exd_ok hn (relO_put (fs:=[]) ry λg=>True.intro)
  rw[upd_ne hb,upd_ne hd] at q
  refine (I.hok b o q).stay (λc v hc z=>k c v (λw=>?_) z) (λc hc=>old hc λz=>exo_own z.symm) λc xs hc=>old hc λz=>exo_tup z.symm
  rcases hc with hc | hc
  · exact hb (hc▸w)
  · rw[w,e] at hc;exact exo_own (Option.some.inj hc)
theorem fld_old (T:XCls X.K C)(I:Inv X pins σ H s)(e:H a=some (exo a C (some dx)))(ed:H dx=some (exd dx fs))(hl:fs.length<=900)(ht:PySem.W.takerIn X.K C f=some none)(ry:RelV y u)
  (h:∀ s',Inv X pins σ (upd H dx (exd dx ((f,y) :: fs))) s' -> Q () s'):wpAny (model X.prog X.w) A (setAttr (.ref a) f u) Q E s:=by
 obtain⟨t1,ho⟩:=exo_at I.hok e
 obtain⟨mA,hns,rel⟩:=exd_at I.hok ed
 have hw:=within_of rel
 obtain⟨hp,g,d,t,os⟩:=s
 refine put_next T I.kIn ho hns hw (by rw[List.length_map];omega) ht λh' tk' k hn=>?_
 have there:∃ o,h'.get? dx=some o:=by
  obtain⟨o,_,_,e',_⟩:=hn
  exact⟨o,e'⟩
 exact h _ (I.write (t':=tk') (x:=dx) (e:=dx) (o:=exd dx ((f,y) :: fs)) (by rw[ed];trivial) (.inl rfl) k there (exd_ok hn (relO_put ry rel)))
end
def tFld (K:PySem.W.Frag)(f:Str)(to te:TE):TS:=λD σ H=>te σ H λy H1=>to σ H1 λx H2=>∃ a C:Addr,x=.ref a∧XCls K C∧PySem.W.takerIn K C f=some none ∧
 ((H2 a=some (exo a C none)∧∀ dx,H2 dx=none->dx≠a->D.nx σ (upd (upd H2 dx (exd dx [(f,y)])) a (exo a C (some dx)))) ∨
  ∃ (dx:Addr) (fs:List (Str × V)),H2 a=some (exo a C (some dx))∧H2 dx=some (exd dx fs)∧fs.length<=900∧D.nx σ (upd H2 dx (exd dx ((f,y) :: fs))))
section
variable {X:Cx}{o e:Expr}{es:List Expr}{to te:TE}{ta:TA}{f:Str}{p p' p1 p2 pos:Pos}
theorem ps_fld (ho:PE X o to)(he:PE X e te)(hs:swapsWith e (some (.Attribute o f p')) pos.line X.env=pure false:=by rfl):PS X (.Assign [.Attribute o f p'] e pos) (tFld X.K f to te):=by
 refine⟨λpins s σ H D I h=>?_⟩
 refine plainObj_wpAny_Assign_Attribute (thn (he.run pins s σ H _ I h) λv s1 ⟨y,H1,I1,r1,q1⟩=>thn (ho.run pins s1 σ H1 _ I1 q1) λu s2 ⟨x,H2,I2,r2,a,C,ex,T,ht,q⟩=>?_) hs
 subst ex
 obtain rfl:u=Value.ref a:=r2
 rcases q with ⟨ea,q⟩ | ⟨dx,fs,ea,ed,hl,q⟩
 ·exact fld_new T I2 ea ht r1 λdx s' n ne J=>⟨σ,_,J,q dx n ne⟩
 ·exact fld_old T I2 ea ed hl ht r1 λs' J=>⟨σ,_,J,q⟩
def mkX (C:Addr)(sp:Sp)(dvs:List V)(vs:List V)(H1:Hp)(Q:XK):Prop:=vs.length<=1000∧∀ a,H1 a=none->sp (.ref a :: (vs++dvs)) (upd H1 a (exo a C none))
 (λv H2=>v=.non∧∃ (d:Addr) (fs:List (Str × V)),H2 a=some (exo a C (some d))∧H2 d=some (exd d fs)∧H1 d=none∧Q (.ref C) (some d) (upd (del H2 a) d (.xd fs))) (λ_ _ _=>False)
theorem mk_run {CX:CXT}{C fI:Addr}{k:Nat}{fd:FuncData}{ps:List Str}{sp:Sp}{ds:List Value}{dvs:List V}{pins:List (Addr × Obj)}{σ:St}{s1:Shared}{us:List Value}{vs:List V}{H1:Hp}{Q:XK}(T:XCls X.K C)
  (iC:PySem.W.findIn X.K (.ref C) "__init__"=some (some (.ref fI))) (tI:PySem.W.typeIn X.K (.ref fI)=some (.type "function"))
  (F1:FnOk X.prog X.w X.K X.mg X.base CX k fI fd ps sp) (hr:Room (k+1) X.A) (hb:Binds X.K fd ps ds) (hd:Vals dvs ds) (hx:Passes CX X (λ_ _ _=>False)) (I1:Inv X pins σ H1 s1) (r1:Vals vs us) (q1:mkX C sp dvs vs H1 Q) :
  wpAny (model X.prog X.w) X.A (call (.ref C) us) (MkP X pins σ Q) X.xe s1:=by
 obtain⟨hz,q1⟩:=q1
 obtain⟨B,ni,ii,bmB,FB,SF,k1,k2⟩:=T.ex
 obtain⟨nm,N,qn,bs,bm,hdct,sn,sub,ab,col,dd,k0,k1',k2',k3,k5,hC,hT⟩:=PySem.W.excInit_of I1.kIn k1
 obtain⟨hp,g,dr,tk,os⟩:=s1
 have hsz:hp.objs.size<=hp.objs.size+1:=Nat.le_succ _
 have hn:H1 (hp.objs.size+1)=none:=I1.hok.fresh hsz
 have hq:=q1 (hp.objs.size+1) hn
 have kk:∀ b o,hp.get? b=some o->((hp.push (PySem.W.kdv_tup us)).push (PySem.HandSPX.excO C hp.objs.size)).get? b=some o:=λb o e=>Heap.get?_push_of_some _ (Heap.get?_push_of_some _ e)
 have hget:((hp.push (PySem.W.kdv_tup us)).push (PySem.HandSPX.excO C hp.objs.size)).get? (hp.objs.size+1)=some (PySem.HandSPX.excO C hp.objs.size):=by heap_get
 have I2:Inv X pins σ (upd H1 (hp.objs.size+1) (exo (hp.objs.size+1) C none)) ⟨(hp.push (PySem.W.kdv_tup us)).push (PySem.HandSPX.excO C hp.objs.size),g,dr,tk,os⟩:=
  Inv.laid (t':=tk) I1 kk hsz (exo_ok hget)
 have r2:Vals (V.ref (hp.objs.size+1) :: (vs++dvs)) (Value.ref (hp.objs.size+1) :: (us++ds)):=.cons rfl (r1.append hd)
 have hl:(Value.ref (hp.objs.size+1) :: us++ds).length=ps.length:=(r2.length.symm.trans (F1.len _ _ _ _ hq))
 have hus:us.length<=sizeLine:=by
  have:=Paired.length r1
  have:=sizeLine_eq
  omega
 refine wpAny_call (PySem.HandSPX.call_own FB hT hC (PySem.W.looks_findIn I1.kIn iC) (λself=>PySem.W.bind_fn I1.kIn self tI) hus ?_)
 refine codeAny_mono (F1.run _ X.stack _ _ ⟨Value.ref (hp.objs.size+1) :: us,[]⟩ (Value.ref (hp.objs.size+1) :: (us++ds)) _ _ (λ_ _ _=>False) (hr.make C us []) (I2.env0.make C us []) (hb _ (Value.ref (hp.objs.size+1) :: us) I2.kIn hl) r2 hq) λr s' z=>?_
 cases r with
 | error er=>exact hx pins σ _ _ er s' I2 z
 | ok fl=>
  cases fl with
  | ret u=>
   obtain⟨v,H2,os2,bare2,un2,hok2,rv,ev,d,fs,ea,ed,hd1,q2⟩:=z
   subst ev
   obtain⟨h2,g2,d2,t2,os'⟩:=s'
   exact⟨rv,mk_end (raises_own T.be T.ty) I1 hsz kk un2 hok2 os2 bare2 ea ed hd1 q2⟩
  | next=>exact z.elim
  | brk=>exact z.elim
  | cont=>exact z.elim
theorem pmk_x {CX:CXT}{x:Str}{C fI:Addr}{k:Nat}{fd:FuncData}{ps:List Str}{sp:Sp}{ds:List Value}{dvs:List V}(T:XCls X.K C)(iC:PySem.W.findIn X.K (.ref C) "__init__"=some (some (.ref fI)))(tI:PySem.W.typeIn X.K (.ref fI)=some (.type "function"))
  (F1:FnOk X.prog X.w X.K X.mg X.base CX k fI fd ps sp) (hr:Room (k+1) X.A) (hb:Binds X.K fd ps ds) (hd:Vals dvs ds) (hx:Passes CX X (λ_ _ _=>False)) (hg:Gl X x) (hm:X.mg x=some (.ref C)) (ha:PA X (e :: es) ta)
  (hdb:(x==("__debug__":Str))=false) (he:starEach (e :: es) X.env=(false,eval e X.env) :: starEach es X.env) (hpl:(backTo pos (starEach es X.env)).any (·.1)=false) :
  PMk X (.Call (.Name x p) (e :: es) [] pos) (λσ H Q=>ta σ H λvs H1=>mkX C sp dvs vs H1 Q):=by
 intro pins s σ H Q I h
 refine wpAny_Call_Name_kw (ld_glob I hg hm ?_ hdb)
 refine PySem.W.callWith_K (h₀:=X.base) I.ok.mod.kin T.kp (thn (ha.run pos pins s σ H _ I h) λus s1 ⟨vs,H1,I1,r1,q1⟩=>⟨I1.kIn,?_⟩) he hpl
 exact mk_run T iC tI F1 hr hb hd hx I1 r1 q1
end
def CellO (c:Addr)(o:Obj):HO:=.ext λh=>h.get? c=some o
def pl (H:Hp)(cs:List (Addr × Obj)):Hp:=λb=>match cs.lookup b with
 | some o=>some (CellO b o)
 | none=>H b
def mn (H:Hp)(cs:List (Addr × Obj)):Hp:=λb=>match cs.lookup b with
 | some _=>none
 | none=>H b
def CsOk (h:Heap)(H:Hp)(cs:List (Addr × Obj)):Prop:=∀ b o,cs.lookup b=some o->h.get? b=some o∧H b=none
def Has (cs:List (Addr × Obj))(H:Hp):Prop:=∀ b o,cs.lookup b=some o->H b=some (CellO b o)
section
variable {P:Program}{w:World}{H H':Hp}{h h' B:Heap}{cs:List (Addr × Obj)}{fs:List Addr}
theorem Wd {b:Addr}(e:cs.lookup b=none):pl H cs b=H b:=by unfold pl;rw[e]
theorem pl_in {b:Addr}{o:Obj}(e:cs.lookup b=some o):pl H cs b=some (CellO b o):=by unfold pl;rw[e]
theorem ZU {b:Addr}(e:cs.lookup b=none):mn H cs b=H b:=by unfold mn;rw[e]
theorem Zat {b:Addr}{o:Obj}(e:cs.lookup b=some o):mn H cs b=none:=by unfold mn;rw[e]
theorem Zcl {b:Addr}{o:Obj}{u:HO}(hne:∀ φ,u ≠ .ext φ)(e:H b=some u)(hb:Has cs H):cs.lookup b=none:=by
 cases q:cs.lookup b with
 | none=>rfl
 | some o'=>rw[hb b o' q] at e;exact absurd (Option.some.inj e).symm (hne _)
theorem CsOk.out (k:CsOk h H cs){b:Addr}{u:HO}(e:H b=some u):cs.lookup b=none:=by
 cases q:cs.lookup b with
 | none=>rfl
 | some o=>rw[(k b o q).2] at e;cases e
theorem cell_ok {b:Addr}{o:Obj}(e:h.get? b=some o):ObjOk P w H h b (CellO b o):=⟨e,⟨_,e⟩,λh1 h2 z k=>k _ z⟩
theorem hok_pl (hk:HOk P w H h)(k:CsOk h H cs):HOk P w (pl H cs) h:=λb u e=>by
 cases q:cs.lookup b with
 | some o=>rw[pl_in q] at e;cases e;exact cell_ok (k b o q).1
 | none=>
  rw[Wd q] at e
  exact (hk b u e).stay (λc v _ z=>z) (λc z=>by rw[Wd (k.out z)];exact z) λc xs z=>by rw[Wd (k.out z)];exact z
theorem hok_mn (hk:HOk P w H h)(k:Has cs H):HOk P w (mn H cs) h:=λb u e=>by
 cases q:cs.lookup b with
 | some o=>rw[Zat q] at e;cases e
 | none=>
  rw[ZU q] at e
  exact (hk b u e).stay (λc v _ z=>z) (λc z=>by rw[ZU (Zcl (o:=default) (λφ x=>by cases x) z k)];exact z) λc xs z=>by rw[ZU (Zcl (o:=default) (λφ x=>by cases x) z k)];exact z
theorem VO (hk:HOk P w H h)(k:Has cs H){b:Addr}{o:Obj}(e:cs.lookup b=some o):h.get? b=some o:=(hk b _ (k b o e)).1
theorem csok_mn (hk:HOk P w H h)(k:Has cs H):CsOk h (mn H cs) cs:=λb o e=>⟨VO hk k e,Zat e⟩
theorem un_hide (u:Un fs [] (pl H cs) H' h h')(k:CsOk h H cs)(hk:HOk P w H' h')(k':Has cs H'):Un fs [] H (mn H' cs) h h' where
 keep:=λb o e n hf hx=>by
  cases q:cs.lookup b with
  | some o'=>rw[(k b o' q).1] at e;cases e;exact VO hk k' q
  | none=>exact u.keep b o e (by rw[Wd q];exact n) hf hx
 slot:=λb o e n hf hx=>by
  cases q:cs.lookup b with
  | some o'=>rw[(k b o' q).1] at e;cases e;exact⟨o.slots,VO hk k' q⟩
  | none=>exact u.slot b o e (by rw[Wd q];exact n) hf hx
 free:=λb o e n hx=>by
  cases q:cs.lookup b with
  | some o'=>exact Zat q
  | none=>rw[ZU q];exact u.free b o e (by rw[Wd q];exact n) hx
 there:=u.there
 tups:=λb xs e=>by rw[ZU (k.out e)];exact u.tups b xs (by rw[Wd (k.out e)];exact e)
 frzs:=λb o v e=>by rw[ZU (k.out e)];exact u.frzs b o v (by rw[Wd (k.out e)];exact e)
 tbls:=λb ps e=>by rw[ZU (k.out e)];exact u.tbls b ps (by rw[Wd (k.out e)];exact e)
theorem ZbF (u:Un fs [] (mn H cs) H' h h')(hk:HOk P w H h)(k:Has cs H)(nf:∀ b o,cs.lookup b=some o->b ∉ fs):CsOk h' H' cs:=λb o e=>
 ⟨u.keep b o (VO hk k e) (Zat e) (nf b o e) (by simp),u.free b o (VO hk k e) (Zat e) (by simp)⟩
theorem un_show (u:Un fs [] (mn H cs) H' h h')(hk:HOk P w H h)(k:Has cs H)(nf:∀ b o,cs.lookup b=some o->b ∉ fs):Un fs [] H (pl H' cs) h h':=by
 have ok:=ZbF u hk k nf
 have out:∀ {b:Addr},H b=none->cs.lookup b=none:=λ{b} n=>by
  cases q:cs.lookup b with
  | none=>rfl
  | some o=>rw[k b o q] at n;cases n
 have nc:∀ {b:Addr} {v:HO},(∀ φ,v ≠ .ext φ)->H b=some v->cs.lookup b=none:=λ{b v} hne e=>Zcl (o:=default) hne e k
 exact {
  keep:=λb o e n hf hx=>u.keep b o e (by rw[ZU (out n)];exact n) hf hx
  slot:=λb o e n hf hx=>u.slot b o e (by rw[ZU (out n)];exact n) hf hx
  free:=λb o e n hx=>by rw[Wd (out n)];exact u.free b o e (by rw[ZU (out n)];exact n) hx
  there:=u.there
  tups:=λb xs e=>by
   have q:=nc (λφ z=>by cases z) e
   rw[Wd q];exact u.tups b xs (by rw[ZU q];exact e)
  frzs:=λb o v e=>by
   have q:=nc (λφ z=>by cases z) e
   rw[Wd q];exact u.frzs b o v (by rw[ZU q];exact e)
  tbls:=λb ps e=>by
   have q:=nc (λφ z=>by cases z) e
   rw[Wd q];exact u.tbls b ps (by rw[ZU q];exact e) }
theorem ub_hide (u:UB fs (pl H cs) H' h B h')(k:CsOk h H cs)(hk:HOk P w H' B)(k':Has cs H'):UB fs H (mn H' cs) h B h' where
 keep:=λb o e n hf=>by
  cases q:cs.lookup b with
  | some o'=>rw[(k b o' q).1] at e;cases e;exact VO hk k' q
  | none=>exact u.keep b o e (by rw[Wd q];exact n) hf
 slot:=u.slot
 free:=λb o e n=>by
  cases q:cs.lookup b with
  | some o'=>exact Zat q
  | none=>rw[ZU q];exact u.free b o e (by rw[Wd q];exact n)
 there:=u.there
 tups:=λb xs e=>by rw[ZU (k.out e)];exact u.tups b xs (by rw[Wd (k.out e)];exact e)
 frzs:=λb o v e=>by rw[ZU (k.out e)];exact u.frzs b o v (by rw[Wd (k.out e)];exact e)
 tbls:=λb ps e=>by rw[ZU (k.out e)];exact u.tbls b ps (by rw[Wd (k.out e)];exact e)
theorem csok_afterB (u:UB fs (mn H cs) H' h B h')(hk:HOk P w H h)(k:Has cs H)(nf:∀ b o,cs.lookup b=some o->b ∉ fs):CsOk B H' cs:=λb o e=>
 ⟨u.keep b o (VO hk k e) (Zat e) (nf b o e),u.free b o (VO hk k e) (Zat e)⟩
theorem ub_show (u:UB fs (mn H cs) H' h B h')(hk:HOk P w H h)(k:Has cs H):UB fs H (pl H' cs) h B h':=by
 have out:∀ {b:Addr},H b=none->cs.lookup b=none:=λ{b} n=>by
  cases q:cs.lookup b with
  | none=>rfl
  | some o=>rw[k b o q] at n;cases n
 have nc:∀ {b:Addr} {v:HO},(∀ φ,v ≠ .ext φ)->H b=some v->cs.lookup b=none:=λ{b v} hne e=>Zcl (o:=default) hne e k
 exact {
  keep:=λb o e n hf=>u.keep b o e (by rw[ZU (out n)];exact n) hf
  slot:=u.slot
  free:=λb o e n=>by rw[Wd (out n)];exact u.free b o e (by rw[ZU (out n)];exact n)
  there:=u.there
  tups:=λb xs e=>by
   have q:=nc (λφ z=>by cases z) e
   rw[Wd q];exact u.tups b xs (by rw[ZU q];exact e)
  frzs:=λb o v e=>by
   have q:=nc (λφ z=>by cases z) e
   rw[Wd q];exact u.frzs b o v (by rw[ZU q];exact e)
  tbls:=λb ps e=>by
   have q:=nc (λφ z=>by cases z) e
   rw[Wd q];exact u.tbls b ps (by rw[ZU q];exact e) }
theorem cr_hide {outer:List PySem.Env}{s s':Shared}{Q:VK}{E:XK}{r:Result}(k:CsOk s.heap H cs)
  (c:CR (L2.CX P w) outer P w (pl H cs) s (λv H'=>Has cs H' ∧ Q v (mn H' cs)) (λcls d H'=>Has cs H' ∧ E cls d (mn H' cs)) r s'):CR (L2.CX P w) outer P w H s Q E r s':=by
 cases r with
 | error e=>
  obtain⟨a,B,H',cls,d,rfl,fl,hok,ub,na,os,ag,k',hE⟩:=c
  refine⟨a,B,mn H' cs,cls,d,rfl,fl,hok_mn hok k',ub_hide ub k hok k',?_,os,ag,hE⟩
  cases q:cs.lookup a with
  | some o=>exact Zat q
  | none=>rw[ZU q];exact na
 | ok fl=>
  cases fl with
  | ret u=>
   obtain⟨v,H',os,bare,un,hok,rv,k',q⟩:=c
   exact⟨v,mn H' cs,os,bare,un_hide un k hok k',hok_mn hok k',rv,q⟩
  | next=>exact False.elim c
  | brk=>exact False.elim c
  | cont=>exact False.elim c
def Off (cs:List (Addr × Obj))(H:Hp):Prop:=∀ b o,cs.lookup b=some o->H b=none
theorem CsOk.off {h:Heap}{H:Hp}(k:CsOk h H cs):Off cs H:=λb o e=>(k b o e).2
theorem cr_show {outer:List PySem.Env}{s s':Shared}{Q:VK}{E:XK}{r:Result}(hk:HOk P w H s.heap)(k:Has cs H)(nf:∀ b o,cs.lookup b=some o->b ∉ frs outer)
  (c:CR (L2.CX P w) outer P w (mn H cs) s (λv H'=>Off cs H' -> Q v (pl H' cs)) (λcls d H'=>Off cs H' -> E cls d (pl H' cs)) r s'):CR (L2.CX P w) outer P w H s Q E r s':=by
 cases r with
 | error e=>
  obtain⟨a,B,H',cls,d,rfl,fl,hok,ub,na,os,ag,hE⟩:=c
  have ok:=csok_afterB ub hk k nf
  refine⟨a,B,pl H' cs,cls,d,rfl,fl,hok_pl hok ok,ub_show ub hk k,?_,os,ag,hE ok.off⟩
  have hB:B.get? a=none:=fl.2.1
  cases q:cs.lookup a with
  | some o=>rw[(ok a o q).1] at hB;cases hB
  | none=>rw[Wd q];exact na
 | ok fl=>
  cases fl with
  | ret u=>
   obtain⟨v,H',os,bare,un,hok,rv,q⟩:=c
   exact⟨v,pl H' cs,os,bare,un_show un hk k nf,hok_pl hok (ZbF un hk k nf),rv,q (ZbF un hk k nf).off⟩
  | next=>exact False.elim c
  | brk=>exact False.elim c
  | cont=>exact False.elim c
theorem env0_pl {K:PySem.W.Frag}{mg:Str->Option Value}{base:Heap}{A:Around}{outer:List PySem.Env}{s:Shared}(e:Env0 P w K mg base A outer s H)(k:CsOk s.heap H cs)(nb:∀ b o,cs.lookup b=some o->base.get? b=none)(nf:∀ b o,cs.lookup b=some o->b ∉ frs outer):Env0 P w K mg base A outer s (pl H cs):=
 ⟨e.frames,e.mod,λb o q=>⟨(e.bs b o q).1,by
  cases z:cs.lookup b with
  | some o'=>rw[nb b o' z] at q;cases q
  | none=>rw[Wd z];exact (e.bs b o q).2⟩,e.bsz,e.funs,λb hb=>by
  cases z:cs.lookup b with
  | some o'=>exact absurd hb (nf b o' z)
  | none=>rw[Wd z];exact e.frf b hb,hok_pl e.hok k,e.bare⟩
theorem env0_mn {K:PySem.W.Frag}{mg:Str->Option Value}{base:Heap}{A:Around}{outer:List PySem.Env}{s:Shared}(e:Env0 P w K mg base A outer s H)(k:Has cs H):Env0 P w K mg base A outer s (mn H cs):=
 ⟨e.frames,e.mod,λb o q=>⟨(e.bs b o q).1,by
  cases z:cs.lookup b with
  | some o'=>exact Zat z
  | none=>rw[ZU z];exact (e.bs b o q).2⟩,e.bsz,e.funs,λb hb=>by
  cases z:cs.lookup b with
  | some o'=>exact Zat z
  | none=>rw[ZU z];exact e.frf b hb,hok_mn e.hok k,e.bare⟩
end
end Hx
namespace Hx
open PySem PySem.Spec L2 LamX
open PyProof.Rows hiding St
def CloO (f:Addr)(q:Str)(params:Arguments)(body:Expr)(scope:Scope)(cl:List (Str × Addr))(c':Addr):HO:=
 .ext λh=>∃ pm ctv,h.get? f=some (PySem.W.kla_obj "<lambda>" q params body scope cl pm c' ctv)
theorem clo_ok {P:Program}{w:World}{H:Hp}{h:Heap}{f c':Addr}{q:Str}{params:Arguments}{body:Expr}{scope:Scope}{cl:List (Str × Addr)}{pm ctv:Value}(e:h.get? f=some (PySem.W.kla_obj "<lambda>" q params body scope cl pm c' ctv)):
  ObjOk P w H h f (CloO f q params body scope cl c'):=⟨⟨pm,ctv,e⟩,⟨_,e⟩,λh1 h2 ⟨a,b,z⟩ k=>⟨a,b,k _ z⟩⟩
theorem tabs_one {T:List (Addr × Str)}{H H':Hp}(t:Tabs T H)(k:∀ p∈T,TabS H p.1 p.2->TabS H' p.1 p.2):Tabs T H':=λp hp=>k p hp (t p hp)
def TblK (H H':Hp):Prop:=∀ p o,H p=some o->Vm o=true->∃ o',H' p=some o' ∧ Vm o'=true
section
variable {X:Cx}{pins:List (Addr × Obj)}{σ:L2.St}{H:Hp}{s:Shared}
theorem clo_make {T:List (Addr × Str)}{c P:Addr}{params:Arguments}{body:Expr}{scope:Scope}{pos:Pos}{E:Value->Shared->Prop}{Q:Value->Shared->Prop}(I:Inv X pins σ H s)(TB:TabB X.base X.mg c P)(hcode:X.env.code=.ref c)
  (hm:(P,X.env.qual ++ "<lambda>")∈T) (hu:∀ p∈T,p.1=P->p.2=X.env.qual ++ "<lambda>") (hT:Tabs T H) (hdef:defaultsOf params X.env=([],[])) (hfree:∀ y∈scope.names,y.2=.free->∃ c,X.env.cells.lookup y.1=some c)
  (h:∀ (f c':Addr) (H1:Hp) (s':Shared),Inv X pins σ (upd H1 f (CloO f (X.env.qual ++ "<lambda>") params body scope (cloFrom X.env.cells scope.names []) c')) s' -> ExtN H H1->TblK H H1->Tabs T H1->H1 f=none->H1 c'=some (CodeO c' (X.env.qual ++ "<lambda>"))->H f=none->Q (.ref f) s') :
  wpAny (model X.prog X.w) X.A (eval (.Lambda params body scope pos) X.env) Q E s:=by
 obtain⟨ps,tabP,trip,among⟩:=hT _ hm
 have bAt:s.heap.BuiltinsAt X.mg P:=TB.bm.keeps I.bk
 have getP:s.heap.get? P=some { cls:=.none,data:=.fields ps }:=I.hok P _ tabP
 refine PySem.W.kla_eval hdef ?_
 cases look:codeAmong pos ps.toList with
 | some cv=>
  obtain⟨c',e,code⟩:=among pos cv look
  subst e
  refine PySem.W.kla_makeFunctionHit (mg:=X.mg) (c:=c) (P:=P) (ps:=ps) (closure_ok hfree) I.ok.glob (I.mod.glob.keeps I.bk) hcode (TB.code.keeps I.bk) getP trip look bAt λctv h' tk old size=>?_
  have J:=I.kept (t':=tk) (h':=h') old
  have fr:H h'.objs.size=none:=J.hok.fresh (Nat.le_refl _)
  exact h h'.objs.size c' H _ (J.laid (t':=tk) (λb u e=>Heap.get?_push_of_some _ e) (Nat.le_refl _) (clo_ok (Heap.get?_push_size _ rfl))) (ExtN.refl H) (λp o e t=>⟨o,e,t⟩) hT fr code fr
 | none=>
  refine PySem.W.kla_makeFunction (mg:=X.mg) (c:=c) (P:=P) (ps:=ps) (closure_ok hfree) I.ok.glob (I.mod.glob.keeps I.bk) hcode (TB.code.keeps I.bk) getP trip look TB.gP bAt λc' ctv h' tk old ge lt rec_ tab=>?_
  obtain⟨c2,oc,vs,t,e2,hoc,hd,hv⟩:=rec_
  cases e2
  have freshC:H c'=none:=I.hok.fresh ge
  have J:=inv_table (t':=tk) (more:=#[rawInt pos.line,rawInt pos.col,.ref c']) (h':=h') I tabP (λb o hb e=>old b o hb e) tab ge ⟨oc,vs,t,hoc,hd,hv⟩
  have nPC:P≠c':=ne_of_none tabP freshC
  have ext:ExtN H (upd (upd H P (.tbl (ps ++ #[rawInt pos.line,rawInt pos.col,.ref c']))) c' (CodeO c' (X.env.qual ++ "<lambda>"))):=λb o e n=>by
   have nb:b≠P:=λz=>by rw[z,tabP] at e;exact n ps (Option.some.inj e).symm
   rw[upd_ne (ne_of_none e freshC),upd_ne nb];exact e
  have toL:(ps ++ #[rawInt pos.line,rawInt pos.col,.ref c']).toList=ps.toList ++ [rawInt pos.line,rawInt pos.col,.ref c']:=by simp
  have tabs:Tabs T (upd (upd H P (.tbl (ps ++ #[rawInt pos.line,rawInt pos.col,.ref c']))) c' (CodeO c' (X.env.qual ++ "<lambda>"))):=tabs_one hT λp hp old=>by
   by_cases hb:p.1=P
   ·rw[hu p hp hb,hb]
    refine⟨_,by rw[upd_ne nPC,upd_same],by rw[toL];exact PySem.TriplesOk_snoc _ _ _ _ trip,λp' cv z=>?_⟩
    rw[toL] at z
    rcases among_app _ trip z with z | z
    ·obtain⟨c0,e1,e2⟩:=among p' cv z
     exact⟨c0,e1,ext _ _ e2 codeO_ne⟩
    ·exact⟨c',z,upd_same⟩
   ·obtain⟨ps',a1,a2,a3⟩:=old
    refine⟨ps',by rw[upd_ne (ne_of_none a1 freshC),upd_ne hb];exact a1,a2,λp' cv z=>?_⟩
    obtain⟨c0,e1,e2⟩:=a3 p' cv z
    exact⟨c0,e1,ext _ _ e2 codeO_ne⟩
  have fr:=J.hok.fresh (a:=h'.objs.size) (Nat.le_refl _)
  have szS:s.heap.objs.size<=h'.objs.size:=Nat.le_of_lt (Nat.lt_of_le_of_lt ge lt)
  exact h h'.objs.size c' _ _ (J.laid (t':=tk) (λb u e=>Heap.get?_push_of_some _ e) (Nat.le_refl _) (clo_ok (Heap.get?_push_size _ rfl))) ext (λp o e t=>by
   by_cases hp:p=P
   ·exact⟨_,by rw[hp,upd_ne nPC,upd_same],rfl⟩
   ·exact⟨o,by rw[upd_ne (ne_of_none e freshC),upd_ne hp];exact e,t⟩) tabs fr upd_same (I.hok.fresh szS)
end
structure CloS (N ps:List Str)(scope:Scope):Prop where
 kind:scope.kind=.function
 co:scope.isCoroutine=false
 gen:scope.isGenerator=false
 nd:N.Nodup
 cl0:∀ y∈scope.names,y.2 ≠ .cell
 par:∀ y∈scope.names,y.2=.local->y.1∈ps
 loc:∀ y∈ps,scope.names.lookup y=some .local
 one:∀ y∈scope.names,scope.names.lookup y.1=some y.2
abbrev Zcx (q:Str)(scope:Scope)(L f c':Addr)(cl:List (Str × Addr)):PySem.Env:=PySem.W.envX q scope L f (.ref c') cl
def cloCx (P:Program)(w:World)(K:PySem.W.Frag)(mg:Str->Option Value)(base:Heap)(N:List Str)(q:Str)(scope:Scope)(f c':Addr)(cl:List (Str × Addr))(A:Around)(outer:List PySem.Env)(s:Shared)(H:Hp)(E:XK):Cx where
 prog:=P
 w:=w
 K:=K
 mg:=mg
 base:=base
 A:=A.deeper (Zcx q scope s.heap.objs.size f c' cl)
 N:=N
 s_0:=s
 H_0:=H
 env:=Zcx q scope s.heap.objs.size f c' cl
 outer:=outer
 stack:=Zcx q scope s.heap.objs.size f c' cl :: outer
 ex:=[]
 fn:=λ_=>false
 calm:=true
 pn:=[]
 xe:=λe s'=>wpAny (model P w) (A.deeper (Zcx q scope s.heap.objs.size f c' cl)) (leaving (Zcx q scope s.heap.objs.size f c' cl) e) (λ_ s''=>L2.CX P w outer H s E e s'') (λe' s''=>L2.CX P w outer H s E e' s'') s'
def CapOk (N:List Str)(scope:Scope)(cl:List (Str × Addr))(cs:List (Addr × Obj))(σ:L2.St):Prop:=
 (∀ y c,cl.lookup y=some c->∃ o v,cs.lookup c=some o∧o.data=.cell v) ∧
 ∀ (i:Nat) (y:Str) (v:V),N[i]?=some y->σ[i]?=some (some v)->scope.names.lookup y=some .free->∃ c o u,cl.lookup y=some c∧cs.lookup c=some o∧o.data=.cell (some u)∧RelV v u
section
variable {P:Program}{w:World}{K:PySem.W.Frag}{mg:Str->Option Value}{base:Heap}{N ps:List Str}{q:Str}{params:Arguments}{body:Expr}{scope:Scope}{f c':Addr}{cl:List (Str × Addr)}{cs:List (Addr × Obj)}{k:Nat}{σ:L2.St}
theorem clo_run (S:CloS N ps scope)(inj:∀ x y c,cl.lookup x=some c->cl.lookup y=some c->x=y)(has:∀ y,scope.names.lookup y=some .free->∃ c,cl.lookup y=some c)
  {A:Around} {outer:List PySem.Env} {s:Shared} {H:Hp} {args:Args} {us:List Value} {vs:List V} {Q:VK} {E:XK} {te:TE} (hr:Room (k+1) A) (e0:Env0 P w K mg base A outer s H)
  (hf:H f=some (CloO f q params body scope cl c')) (hc:H c'=some (CodeO c' q)) (hcs:Has cs H) (cap:CapOk N scope cl cs σ) (nf:∀ b o,cs.lookup b=some o->b ∉ frs outer)
  (hb:∀ pm ctv,bindArgs (PySem.W.kla_fn "<lambda>" q params body scope cl pm (.ref c') ctv) args=pure (ps.zip us)) (r:Vals vs us) (hl:vs.length=ps.length)
  (hσ:∀ (i:Nat) (y:Str) (v:V),N[i]?=some y->y∈ps->σ[i]?=some (some v)->∃ j:Nat,ps[j]?=some y∧vs[j]?=some v) (hlen:σ.length=N.length) (nps:ps.Nodup)
  (hbody:∀ (A:Around) (outer:List PySem.Env) (s:Shared) (H:Hp),Room k (A.deeper (Zcx q scope s.heap.objs.size f c' cl))->PE (cloCx P w K mg base N q scope f c' cl A outer s H λcls d H'=>Off cs H' -> E cls d (pl H' cs)) body te)
  (ht:te σ (mn H cs) λv H'=>Off cs H' -> Q v (pl H' cs)) :
  codeAny (model P w) A (.call (.ref f) args) (CR (L2.CX P w) outer P w H s Q E) s:=by
 have hok:=e0.hok
 obtain⟨⟨pm,ctv,getF⟩,_,_⟩:=hok f _ hf
 obtain⟨⟨oc,ws,t,hoc,hdc,hvc⟩,_,_⟩:=hok c' _ hc
 have e1:=env0_mn e0 hcs
 have ok:=csok_mn hok hcs
 refine codeAny_mono (R:=CR (L2.CX P w) outer P w (mn H cs) s (λv H'=>Off cs H' -> Q v (pl H' cs)) (λcls d H'=>Off cs H' -> E cls d (pl H' cs))) ?_ λr' s' z=>cr_show hok hcs nf z
 refine PySem.W.kla_callFunE hr.depth getF rfl S.co S.gen rfl ⟨c',oc,ws,t,rfl,hoc,hdc,hvc⟩ ?_
 rw[hb]
 have locs:∀ y∈ps.zip us,scope.names.lookup y.1=some .local:=λ⟨n,v⟩ hy=>S.loc n (List.of_mem_zip hy).1
 refine wpAny_pure (wpAny_newFunctionEnv (λy hy=>S.cl0 y hy) locs (λh₁ hns hsb=>⟨(e0.mod.nolimit.keeps λb o e=>(e0.bs b o e).1).fresh _ hsb,?_⟩) S.kind)
 have kp:∀ b o,s.heap.get? b=some o->h₁.get? b=some o:=λb o e=>hsb.extBut b o (Nat.ne_of_lt (Heap.lt_size e)) (Heap.get?_push_of_some _ e)
 have J:Inv (cloCx P w K mg base N q scope f c' cl A outer s (mn H cs) λcls d H'=>Off cs H' -> E cls d (pl H' cs)) [] σ (mn H cs) { s with heap:=h₁,toks:=s.toks+(ps.zip us).length }:=by
  have no:∀ {α:Prop} {b:Addr},b∈(cloCx P w K mg base N q scope f c' cl A outer s (mn H cs) λcls d H'=>Off cs H' -> E cls d (pl H' cs)).ex->α:=λ{α b} z=>absurd (show b∈([]:List Addr) from z) (by simp)
  refine⟨{ mod:=e0.mod,kind:=S.kind,glob:=rfl,blt:=rfl,above:=Nat.le_refl _,inj:=inj,has:=λy hy=>?_,cab:=λy c z=>?_,hd:=λ_=>hr.hd,frames:=Around.frames_deeper e1.frames,stk:=.inr ⟨rfl,rfl⟩,exf:=λb z=>no z,bs:=e1.bs,bsz:=e1.bsz,noex:=λb _ _ z=>no z,exfs:=λb z=>no z,funs:=e1.funs,frf:=e1.frf },
   rfl,e1.bare,Un.kept kp,⟨_,hns,λi y v e1 e2 e3=>?_⟩,λy c e=>?_,e1.hok.fresh (Nat.le_refl _),λy c e=>?_,λp hp=>absurd (show p∈([]:List (Addr × Obj)) from hp) (by simp),e1.hok.kept kp,hlen⟩
  ·have hy:scope.names.lookup y=some .cell∨scope.names.lookup y=some .free:=hy
   rcases hy with hy | hy
   ·exact absurd rfl (S.cl0 _ (PySem.mem_of_lookup hy))
   ·exact has y hy
  ·have z:false=true:=z
   cases z
  ·have e3:Vis scope y:=e3
   rcases e3 with k1 | k1 | k1
   ·have yp:=S.par _ (PySem.mem_of_lookup k1) rfl
    obtain⟨j,j1,j2⟩:=hσ i y v e1 yp e2
    obtain⟨u,hu,rv⟩:=r.get j2
    exact⟨u,rv,.inl ⟨k1,NdefX.zip_look nps j1 hu⟩⟩
   ·exact absurd rfl (S.cl0 _ (PySem.mem_of_lookup k1))
   ·obtain⟨c,o,u,a1,a2,a3,a4⟩:=cap.2 i y v e1 e2 k1
    exact⟨u,a4,.inr ⟨.inr k1,c,a1,o,kp _ _ (ok c o a2).1,a3⟩⟩
  ·obtain⟨o,v,a1,a2⟩:=cap.1 y c e
   exact⟨v,o,kp _ _ (ok c o a1).1,a2⟩
  ·obtain⟨o,v,a1,a2⟩:=cap.1 y c e
   exact Zat a1
 refine PySem.W.kla_codeExpr (wpAny_mono ((hbody A outer s (mn H cs) (hr.deeper _)).run [] _ σ (mn H cs) (λv H'=>Off cs H' -> Q v (pl H' cs)) J ht) (λv s' hq=>?_) λe s' hq=>hq)
 obtain⟨w',H',J',rv,q⟩:=hq
 exact⟨w',H',J'.os,J'.bare,J'.base,J'.hok,rv,q⟩
end
@[reducible] def Sg.wl (G:Sg)(l:Nat->Option LamD):Sg:={ G with lam:=l }
section
variable {G:Sg}{g:Gd}{env:Env}{st st':Zd}{T T':List Tm}{σ:St}{H H':Hp}{Fz:Addr->Prop}{am:List Addr}{B B':(Addr->Prop)->List Addr->Prop}
mutual
theorem Rep.wl {f:Fr}{v:V}{d:D}{n:Fp}(l:Nat->Option LamD)(r:Rep G Fz am H f v d n):Rep (G.wl l) Fz am H f v d n:=
 match r with
 | .sc h1 h2=>.sc h1 h2
 | .rf h1 h2=>.rf h1 h2
 | .zz h1 h2 h3=>.zz h1 (Reps.wl l h2) h3
 | .tp h1 h2=>.tp h1 (Reps.wl l h2)
 | .cc h1 h2 h3=>.cc h1 (Reps.wl l h2) h3
 | .oo h1 h2 h3=>.oo h1 (Reps.wl l h2) h3
theorem Reps.wl {f:List Fr}{v:List V}{d:List D}{n:Fp}(l:Nat->Option LamD)(r:Reps G Fz am H f v d n):Reps (G.wl l) Fz am H f v d n:=
 match r with
 | .nil h=>.nil h
 | .cons h1 h2 h3=>.cons (Rep.wl l h1) (Reps.wl l h2) h3
end
theorem EnvR.wl {n:Fp}(l:Nat->Option LamD)(r:EnvR G Fz am H env σ n):EnvR (G.wl l) Fz am H env σ n:=by
 induction r with
 | nil h=>exact .nil h
 | som h1 h2 h3 ih=>exact .som (h1.wl l) ih h3
 | non h ih=>exact .non ih
theorem TmR.wl {ne n:Fp}(l:Nat->Option LamD)(r:TmR G Fz am H ne T n):TmR (G.wl l) Fz am H ne T n:=by
 induction r with
 | nil h=>exact .nil h
 | own h1 h2 h3 ih=>exact .own (h1.wl l) ih h3
 | bor h1 h2 h3 ih=>exact .bor (h1.wl l) h2 ih
theorem StoR.wl {n:Fp}(l:Nat->Option LamD)(r:StoR G Fz am H st n):StoR (G.wl l) Fz am H st n:=Reps.wl l r
theorem Rel0.wl {t:Fp}{l:Nat->Option LamD}(r:Rel0 G g Fz am H t)(h:Home (G.wl l) g):Rel0 (G.wl l) g Fz am H t:=
 ⟨r.n1,r.nz,r.th,r.zt,r.k,r.f,r.z0,r.z1,r.a,r.tb,h,r.kt⟩
theorem Home.off (h:Home G g):Home G.off g:=⟨h.fz,h.a,λj l e=>by cases e⟩
theorem RlB.wl {l:Nat->Option LamD}(r:RlB G g env st T σ H B)(h:Home (G.wl l) g)(hB:∀ Fz am,B Fz am->B' Fz am):RlB (G.wl l) g env st T σ H B':=by
 obtain⟨Fz,am,ne,nt,ns,h1,h2,h3,h4,h5⟩:=r
 exact⟨Fz,am,ne,nt,ns,h1.wl l,h2.wl l,h3.wl l,h4.wl h,hB _ _ h5⟩
theorem ExcB.wl {c:Nat}{ds:List D}{cls:Value}{dx:Option Addr}(l:Nat->Option LamD)(h:ExcB G H c ds cls dx Fz am):ExcB (G.wl l) H c ds cls dx Fz am:=by
 obtain⟨hx,p,fs,vs,h1,h2,h3,h4,h5⟩:=h
 exact⟨hx,p,fs,vs,h1,h2,h3,h4.wl l,h5⟩
theorem RlB.off (r:RlB G g env st T σ H B)(hB:∀ Fz am,B Fz am->B' Fz am):RlB G.off g env st T σ H B':=by
 obtain⟨Fz,am,ne,nt,ns,h1,h2,h3,h4,h5⟩:=r
 exact RlB.wl ⟨Fz,am,ne,nt,ns,h1,h2,h3,h4,h5⟩ h4.hm.off hB
theorem Rl.home (R:RlB G g env st T σ H B):Home G g:=by
 obtain⟨Fz,am,ne,nt,ns,h1,h2,h3,h4,h5⟩:=R
 exact h4.hm
theorem RlB.on (r:RlB G.off g env st T σ H B)(h:Home G g)(hB:∀ Fz am,B Fz am->B' Fz am):RlB G g env st T σ H B':=RlB.wl (G:=G.off) (l:=G.lam) r h hB
end
abbrev LamR:=Nat->Option (Addr × Nat × Fn)
def LamD.o (l:LamD):Addr × Nat × Fn:=(l.f,l.n,l.r)
def Sg.lr (G:Sg):LamR:=λj=>(G.lam j).map LamD.o
@[simp] def dClo (lr:LamR)(i:Nat)(as:DenL):Den:=λenv st=>match env[i]? with
 | some (some (.z,.fnv f j))=>match lr j with
  | some (a,n,r)=>bif f==a then (match as env st with
   | .ok ts st1=>bif (ts.length==n)&&keeps ts then fin (r (zd (ts.map λt=>t.2.2)) st1) else .stuck
   | .exc c ds st1=>.exc c ds st1
   | .stuck=>.stuck) else .stuck
  | none=>.stuck
 | _=>.stuck
def tClo (G:Sg)(i:Nat)(W:WX)(ta:TA):TE:=λσ H Q=>∃ j l,G.lam j=some l∧σ[i]?=some (some (.ref l.f))∧(∀ e∈l.ent,H e.1=some e.2)∧ta σ H λvs H1=>(∀ e∈l.ent,H1 e.1=some e.2)∧SpL G.off l vs H1 Q (WE W σ)
section
variable {X:Cx}{G:Sg}{x:Str}{p pos:Pos}{e:Expr}{es:List Expr}{ta:TA}{W:WX}{i:Nat}
theorem clo_end {f:Addr}{ent:List (Addr × HO)}{sp:Sp}{pins:List (Addr × Obj)}{s:Shared}{σ:St}{H:Hp}{Q:VK}{us:List Value}{vs:List V}(C:CloOk X.prog X.w X.K X.mg X.base LK f ent sp)(hr:Room LK X.A)(tk:Takes X W)
  (I:Inv X pins σ H s) (r:Vals vs us) (h:sp vs H Q (WE W σ)):wpAny (model X.prog X.w) X.A (call (.ref f) us) (EP X pins σ Q) X.xe s:=by
 refine wpAny_call (codeAny_mono (C.run X.A X.stack s H us vs Q (WE W σ) hr I.env0 r h) λr s' hq=>?_)
 cases r with
 | error e=>exact passAt tk σ pins H s e s' I hq
 | ok fl=>
  cases fl with
  | ret u=>exact I.after hq
  | next=>exact False.elim hq
  | brk=>exact False.elim hq
  | cont=>exact False.elim hq
theorem pe_clo0 (lok:Zac X.prog X.w X.mg X.base G)(hK:G.K=X.K)(hr:Room LK X.A)(tk:Takes X W)(hN:X.N[i]?=some x)(hv:Vis X.env.scope x)
  (hdb:(x==("__debug__":Str))=false:=by decide) (hcd:(x==("__classdict__":Str))=false:=by decide):PE X (.Call (.Name x p) [] [] pos) (tClo G i W tNil):=by
 refine⟨λpins s σ H Q I h=>?_⟩
 obtain⟨j,l,hl,hs,hen,ht⟩:=h
 have C:=lok j l hl
 rw[hK] at C
 refine wpAny_Call_Name_kw (thn ((pe_var (pos:=p) hN hv hdb hcd).run pins s σ H (λv H1=>v=.ref l.f∧H1=H) I ⟨.ref l.f,hs,rfl,rfl⟩) λu s1 ⟨v,H1,I1,r1,q1⟩=>?_)
 obtain⟨rfl,rfl⟩:=q1
 cases r1
 exact PySem.W.callWith_F0 (C.at_ _ _ I1.hok hen) (clo_end (us:=[]) C hr tk I1 .nil ht.2)
end
section
variable {S:Sx}{e a b:Expr}{es:List Expr}{da db:Den}{das:DenL}{pos p:Pos}
theorem RlB.ents {g:Gd}{env:Env}{st:Zd}{T:List Tm}{σ:St}{H:Hp}{B:(Addr->Prop)->List Addr->Prop}{G:Sg}{j:Nat}{l:LamD}(R:RlB G g env st T σ H B)(hl:G.lam j=some l):∀ e∈l.ent,H e.1=some e.2:=by
 obtain⟨Fz,am,ne,nt,ns,h1,h2,h3,h4,h5⟩:=R
 exact λe he=>(((Rel0.home (m:=λ_=>0) h4 λq=>Nat.zero_le _).lam j l hl).1 e he).2
theorem spl_of {g:Gd}{env:Env}{st:Zd}{T:List Tm}{σ:St}{H:Hp}{Q:VK}{W:WX}{vs:List V}{ts:List (Fr × Bool × D)}{G:Sg}{j:Nat}{l:LamD}(hL:G.lam j=some l)
  (hn:ts.length=l.n) (R:Rl G g env st (mkT vs ts++T) σ H) (hl:vs.length=ts.length) (hk:keeps ts=true)
  (h:Wz G g env T σ W Q (fin (l.r (zd (ts.map λt=>t.2.2)) st))):SpL G.off l vs H Q (WE W σ):=by
 have ents:=R.ents hL
 obtain⟨Fz,am,ne,nt,ns,h1,h2,h3,h4,h5⟩:=Rl.frzL R hl hk
 have hm:=h4.hm
 have hc:=((Rel0.home (m:=λ_=>0) h4 λq=>Nat.zero_le _).lam j l hL).2
 have h4':Rel0 G.off g Fz am H λp=>(λ_=>0) p+(ne p+nt p+ns p):=(h4.less λq=>by show 0+(ne q+nt q+ns q)<=_;omega).wl hm.off
 refine⟨by rw[hl,hn],ents,Fz,am,zd (ts.map λt=>t.2.2),st,λ_=>0,ns,?_,h3.wl _,Reps.wl _ hc,Rel0.base (g:=g) (ne:=ne) (nt:=nt) h4',?_⟩
 ·rw[zd_fst,zd_snd,List.length_map]
  exact Reps.wl _ h5
 ·cases e:l.r (zd (ts.map λt=>t.2.2)) st with
  | stuck=>rw[e] at h;exact h.elim
  | exc c ds st1=>
   rw[e] at h
   exact λcls dx H' R1=>h cls dx H' (RlB.on (join (T:=T) h4' (h1.wl _) (h2.wl _) R1).notmp hm λ_ _ z=>z.wl _)
  | ok f b d st1=>
   rw[e] at h
   cases b with
   | true=>exact h.elim
   | false=>exact⟨rfl,λv H' R1=>h v H' (RlB.on (join h4' (h1.wl _) (h2.wl _) R1) hm λ_ _ z=>z)⟩
theorem EnvR.at_ {G:Sg}{Fz:Addr->Prop}{am:List Addr}{H:Hp}{env:Env}{σ:St}{n:Fp}(r:EnvR G Fz am H env σ n){i:Nat}{f:Addr}{j:Nat}(e:env[i]?=some (some (.z,.fnv f j))):σ[i]?=some (some (.ref f)):=by
 obtain⟨v,m,e1,e2,e3⟩:=r.get e
 cases e2 with
 | sc h _=>
  have:v=.ref f:=by cases v<;>exact h
  rw[<- this];exact e1
theorem stx_lok {X:Cx}(hX:Stx S X):Zac X.prog X.w X.mg X.base S.G:=by
 rw[hX.pr,hX.w,hX.mg,hX.base];exact S.lok
theorem clo_post {g:Gd}{env:Env}{st:Zd}{T:List Tm}{σ:St}{H:Hp}{Q:VK}{W:WX}{i:Nat}{ta:TA}(R:Rl S.G g env st T σ H)
  (qa:∀ Q',PostL S.G g env T σ W Q' (das env st)->ta σ H Q') (h:Wz S.G g env T σ W Q (dClo S.G.lr i das env st)):tClo S.G i W ta σ H Q:=by
 unfold dClo at h
 split at h
 ·rename_i f j e1
  split at h
  ·rename_i a n r e2
   obtain⟨l,hl,e3⟩:=Option.map_eq_some_iff.mp (show (S.G.lam j).map LamD.o=some (a,n,r) from e2)
   cases e3
   have h2:=(bifT h id).2
   have hf:=eq_of_beq (bifT h id).1
   clear h
   subst hf
   have e4:σ[i]?=some (some (.ref l.f)):=by
    obtain⟨Fz,am,ne,nt,ns,h1,_⟩:=R
    exact h1.at_ e1
   refine⟨j,l,hl,e4,R.ents hl,qa _ ?_⟩
   split at h2
   ·rename_i ts st1 e5
    obtain⟨hc,h⟩:=bifT h2 id
    rw[Bool.and_eq_true] at hc
    rw[e5]
    exact λvs H1 hv R1=>⟨(RlB.tail R1).ents hl,spl_of hl (eq_of_beq hc.1) R1 hv hc.2 h⟩
   ·rename_i c ds st1 e5
    rw[e5]
    exact h2
   ·exact h2.elim
  ·exact h.elim
 ·exact h.elim
theorem de_clo0 {x:Str}{i:Nat}(hN:S.N[i]?=some x)(hv:Vis S.sc x)(hk:LK<=S.k)
  (hdb:(x==("__debug__":Str))=false:=by decide) (hcd:(x==("__classdict__":Str))=false:=by decide):DE S (.Call (.Name x p) [] [] pos) (dClo S.G.lr i dNil):=λW=>
 ⟨_,λX hX tk=>pe_clo0 (stx_lok hX) hX.K.symm (hX.room.mono hk) tk (by rw[hX.N];exact hN) (by rw[hX.sc];exact hv) hdb hcd,
  λg env st T σ H Q hT R h=>clo_post (das:=dNil) (ta:=tNil) R (λQ' z=>show Q' [] H from (show PostL S.G g env T σ W Q' (.ok [] st) from z) [] H rfl R) h⟩
end
section
variable {G:Sg}{g:Gd}{env:Env}{st st':Zd}{T T':List Tm}{σ:St}{H H':Hp}{Fz:Addr->Prop}{am:List Addr}{tot:Fp}{B B':(Addr->Prop)->List Addr->Prop}{cs:List (Addr × Obj)}
theorem Has.out (k:Has cs H){b:Addr}{o:HO}(e:H b=some o)(h:Zap o=false):cs.lookup b=none:=by
 cases q:cs.lookup b with
 | none=>rfl
 | some o'=>rw[k b o' q] at e;cases e;cases h
theorem pl_ne {o:HO}(h:VZ o=true):Zap o=false:=by cases o<;>first | rfl | cases h
theorem Has.mn (k:Has cs H){b:Addr}{o:HO}(e:H b=some o)(h:Zap o=false):mn H cs b=some o:=by rw[ZU (k.out e h)];exact e
theorem tbl_ne {o:HO}(h:Vm o=true):Zap o=false:=by cases o<;>first | rfl | cases h
theorem ext_mn (k:Has cs H)(zt:∀ p,Fz p->∃ o,H p=some o∧VZ o=true):Ext Fz am H Fz am (mn H cs) where
 fz:=λ_ h=>h
 cl:=λ_ _ h=>h
 rd:=λp u z h=>by
  obtain⟨o,e,po⟩:=zt p z
  have q:=k.out e (pl_ne po)
  unfold Rd at h ⊢
  rw[ZU q];exact h
 st:=λp u z h _=>by
  obtain⟨o,e,po⟩:=zt p z
  rw[ZU (k.out e (pl_ne po))];exact h
 tp:=λp xs h=>h.imp (λe=>k.mn e rfl) λ⟨o,e⟩=>⟨o,k.mn e rfl⟩
theorem own_mn (k:Has cs H)(r:Rel0 G g Fz am H tot):∀ p o,0<tot p->H p=some o->mn H cs p=some o:=λp o hp e=>by
 obtain⟨o',e',ow⟩:=r.th p hp
 rw[e] at e';cases e'
 exact k.mn e (pl_ne ow.pl)
theorem tabs_mn (k:Has cs H){T:List (Addr × Str)}(t:Tabs T H)(kc:∀ c q,H c=some (CodeO c q)->cs.lookup c=none):Tabs T (mn H cs):=λp hp=>by
 obtain⟨ps,a1,a2,a3⟩:=t p hp
 refine⟨ps,k.mn a1 rfl,a2,λp' cv z=>?_⟩
 obtain⟨c,e1,e2⟩:=a3 p' cv z
 exact⟨c,e1,by rw[ZU (kc c _ e2)];exact e2⟩
def NoCode (cs:List (Addr × Obj)):Prop:=∀ c o,cs.lookup c=some o->∀ vs,o.data ≠ .fields vs
theorem nocode {P:Program}{w:World}{h:Heap}(hk:HOk P w H h)(n:NoCode cs)(k:Has cs H):∀ c q,H c=some (CodeO c q)->cs.lookup c=none:=λc q e=>by
 cases z:cs.lookup c with
 | none=>rfl
 | some o=>
  obtain⟨⟨oc,vs,t,h1,h2,h3⟩,_⟩:=hk c _ e
  rw[VO hk k z] at h1
  cases h1
  exact absurd h2 (n c o z vs)
def ZaC (cs:List (Addr × Obj))(H:Hp):Prop:=∀ c q,H c=some (CodeO c q)->cs.lookup c=none
theorem Rel0.hide0 {A0:Addr->Prop}(r:Rel0 G ⟨H,A0,Fz,am⟩ Fz am H tot)(k:Has cs H)(cf:ZaC cs H)(hl:∀ j,G.lam j=none):Rel0 G ⟨mn H cs,A0,Fz,am⟩ Fz am (mn H cs) tot where
 n1:=r.n1
 nz:=r.nz
 th:=λp hp=>by
  obtain⟨o,e,ow⟩:=r.th p hp
  exact⟨o,k.mn e (pl_ne ow.pl),ow⟩
 zt:=λp z=>by
  obtain⟨o,e,po⟩:=r.zt p z
  exact⟨o,k.mn e (pl_ne po),po⟩
 k:=λp o nt e _=>.inl e
 f:=λp hp=>(r.f p hp).imp id λe=>by
  obtain⟨o,e2,_⟩:=r.th p hp
  rw[show H p=none from e] at e2;cases e2
 z0:=r.z0
 z1:=λp z=>.inl z
 a:=r.a
 tb:=tabs_mn k r.tb cf
 hm:=⟨λp z=>by
  obtain⟨na,o,e,po⟩:=r.hm.fz p z
  exact⟨na,o,k.mn e (pl_ne po),po⟩,λp q=>by
  obtain⟨o,e,ow⟩:=r.hm.a p q
  exact⟨o,k.mn e (pl_ne ow.pl),ow⟩,λj l e=>by rw[hl] at e;cases e⟩
 kt:=λp o t e _=>⟨o,e,t⟩
theorem Off.out (k:Off cs H){b:Addr}{o:HO}(e:H b=some o):cs.lookup b=none:=by
 cases q:cs.lookup b with
 | none=>rfl
 | some o'=>rw[k b o' q] at e;cases e
theorem Off.same (k:Off cs H):Same H (pl H cs):=λb o e=>by rw[Wd (k.out e)];exact e
theorem Rel0.show0 {A0 F0:Addr->Prop}{am0:List Addr}(r:Rel0 G ⟨mn H cs,A0,F0,am0⟩ Fz am H' tot)(hm:Home G ⟨H,A0,F0,am0⟩)(k:Has cs H)(o':Off cs H'):Rel0 G ⟨H,A0,F0,am0⟩ Fz am (pl H' cs) tot where
 n1:=r.n1
 nz:=r.nz
 th:=λp hp=>by
  obtain⟨o,e,ow⟩:=r.th p hp
  exact⟨o,o'.same _ _ e,ow⟩
 zt:=λp z=>by
  obtain⟨o,e,po⟩:=r.zt p z
  exact⟨o,o'.same _ _ e,po⟩
 k:=λp o nt e na=>by
  have e:H p=some o:=e
  cases q:cs.lookup p with
  | some u=>rw[k p u q] at e;cases e;exact .inl (pl_in q)
  | none=>exact (r.k p o nt (by show mn H cs p=_;rw[ZU q];exact e) na).map λu _ k=>by rw[Wd q];exact k
 f:=λp hp=>(r.f p hp).imp id λe=>by
  obtain⟨o,e2,_⟩:=r.th p hp
  have e:mn H cs p=none:=e
  rw[ZU (o'.out e2)] at e
  exact e
 z0:=r.z0
 z1:=λp z=>by
  rcases r.z1 p z with y | y | y
  ·exact .inl y
  ·exact .inr (.inl y)
  ·obtain⟨o,e2,_⟩:=r.zt p z
   have y:mn H cs p=none:=y
   rw[ZU (o'.out e2)] at y
   exact .inr (.inr y)
 a:=r.a
 tb:=r.tb.ext o'.same
 hm:=hm
 kt:=λp o t e na=>by
  have e:H p=some o:=e
  obtain⟨u,e1,t1⟩:=r.kt p o t (k.mn e (tbl_ne t)) na
  exact⟨u,o'.same _ _ e1,t1⟩
theorem Rel0.hide (r:Rel0 G g Fz am H tot)(k:Has cs H)(cf:ZaC cs H)(hg:∀ b o,cs.lookup b=some o->g.A0 b∨g.H0 b=none):Rel0 G g Fz am (mn H cs) tot where
 n1:=r.n1
 nz:=r.nz
 th:=λp hp=>by
  obtain⟨o,e,ow⟩:=r.th p hp
  exact⟨o,k.mn e (pl_ne ow.pl),ow⟩
 zt:=λp z=>by
  obtain⟨o,e,po⟩:=r.zt p z
  exact⟨o,k.mn e (pl_ne po),po⟩
 k:=λp o nt e na=>by
  cases q:cs.lookup p with
  | none=>exact (r.k p o nt e na).map λu _ k=>by rw[ZU q];exact k
  | some u=>
   rcases hg p u q with y | y
   ·exact absurd y na
   ·rw[e] at y;cases y
 f:=r.f
 z0:=r.z0
 z1:=r.z1
 a:=r.a
 tb:=tabs_mn k r.tb cf
 hm:=r.hm
 kt:=λp o t e na=>by
  obtain⟨u,e1,t1⟩:=r.kt p o t e na
  exact⟨u,k.mn e1 (tbl_ne t1),t1⟩
theorem RlB.hide (R:RlB G g env st T σ H B)(k:Has cs H)(cf:ZaC cs H)(hg:∀ b o,cs.lookup b=some o->g.A0 b∨g.H0 b=none)(hB:∀ Fz am,Ext Fz am H Fz am (mn H cs)->B Fz am->B' Fz am):RlB G g env st T σ (mn H cs) B':=by
 obtain⟨Fz,am,ne,nt,ns,h1,h2,h3,h4,h5⟩:=R
 have E:Ext Fz am H Fz am (mn H cs):=ext_mn k h4.zt
 have ow:=own_mn k h4
 exact⟨Fz,am,ne,nt,ns,h1.ext E λp o hp e=>ow p o (by show 0<ne p+nt p+ns p;omega) e,h2.ext E (λp o hp e=>ow p o (by show 0<ne p+nt p+ns p;omega) e) λp o hp e=>ow p o (by show 0<ne p+nt p+ns p;omega) e,
  Reps.ext E h3 λp o hp e=>ow p o (by show 0<ne p+nt p+ns p;omega) e,h4.hide k cf hg,hB _ _ E h5⟩
theorem ExcB.mn {c:Nat}{ds:List D}{cls:Value}{dx:Option Addr}(k:Has cs H)(E:Ext Fz am H Fz am (mn H cs))(h:ExcB G H c ds cls dx Fz am):ExcB G (mn H cs) c ds cls dx Fz am:=by
 obtain⟨hx,p,fs,vs,h1,h2,h3,h4,h5⟩:=h
 exact⟨hx,p,fs,vs,h1,h2,k.mn h3 rfl,Reps.ext E h4 λp o hp=>absurd hp (Nat.lt_irrefl 0),h5⟩
end
theorem lk_mem {α:Type}{b:Addr}{o:α}:∀ {l:List (Addr × α)},l.lookup b=some o->(b,o)∈l
 | (k,v) :: r,h=>by
  rw[List.lookup_cons] at h
  split at h
  ·rename_i e
   cases h
   rw[eq_of_beq e]
   exact List.mem_cons_self
  ·exact List.mem_cons_of_mem _ (lk_mem h)
@[reducible] def Sx.cl (S:Sx)(N:List Str)(sc:Scope):Sx:=⟨S.P,S.w,S.mg,S.base,S.G.off,N,sc,59,false,lams0 λ_=>rfl,none,λ_=>false⟩
@[simp] def UM (db:Den)(cd:List D):Fn:=λas st=>fin (db (as.map some++cd.map λd=>some (.z,d)) st)
def entOf (f:Addr)(q:Str)(params:Arguments)(body:Expr)(scope:Scope)(cl:List (Str × Addr))(c':Addr)(cs:List (Addr × Obj)):List (Addr × HO):=
 (f,CloO f q params body scope cl c') :: (c',CodeO c' q) :: cs.map λx=>(x.1,CellO x.1 x.2)
theorem reps_env {G:Sg}{Fz:Addr->Prop}{am:List Addr}{H:Hp}:∀ {cd:List D} {cv:List V},Reps G Fz am H (zs cd.length) cv cd (λ_=>0)->EnvR G Fz am H (cd.map λd=>some (.z,d)) (cv.map some) (λ_=>0)
 | [],[],_=>.nil λ_=>rfl
 | d :: cd,v :: cv,r=>by
  rw[show zs (d :: cd).length=.z :: zs cd.length from List.replicate_succ] at r
  cases r with
  | cons h1 h2 h3=>exact .som (h1.fp h1.z0) (reps_env (h2.fp h2.z0)) (n1:=λ_=>0) (n2:=λ_=>0) λ_=>rfl
theorem env_app {G:Sg}{Fz:Addr->Prop}{am:List Addr}{H:Hp}{e2:Env}{s2:St}(r2:EnvR G Fz am H e2 s2 (λ_=>0)):∀ {as:List (Fr × D)} {vs:List V} {n:Fp},Reps G Fz am H (as.map (·.1)) vs (as.map (·.2)) n->EnvR G Fz am H (as.map some++e2) (vs.map some++s2) n
 | [],[],n,.nil h=>by
  have e:n=λ_=>0:=funext h
  rw[e];exact r2
 | (f,d) :: as,v :: vs,n,.cons h1 h2 h3=>.som h1 (env_app r2 h2) h3
section
variable {S:Sx}{ps cap:List Str}{params:Arguments}{body:Expr}{scope:Scope}{db:Den}{q:Str}{f c':Addr}{cl:List (Str × Addr)}{cs:List (Addr × Obj)}{cv:List V}{cd:List D}
theorem clo_lam (hS:CloS (ps++cap) ps scope)(hb:DE (S.cl (ps++cap) scope) body db)(hbind:∀ (q:Str) (cl:List (Str × Addr)) (pm cv ctv:Value) (us:List Value),us.length=ps.length->bindArgs (PySem.W.kla_fn "<lambda>" q params body scope cl pm cv ctv) ⟨us,[]⟩=pure (ps.zip us))
  (inj:∀ x y c,cl.lookup x=some c->cl.lookup y=some c->x=y) (has:∀ y,scope.names.lookup y=some .free->∃ c,cl.lookup y=some c) (cell:∀ y c,cl.lookup y=some c->∃ o v,cs.lookup c=some o∧o.data=.cell v)
  (hcv:cv.length=cap.length) (cap2:∀ (i:Nat) (y:Str) (v:V),cap[i]?=some y->cv[i]?=some v->∃ c o u,cl.lookup y=some c∧cs.lookup c=some o∧o.data=.cell (some u)∧RelV v u) (ncs:∀ c o,cs.lookup c=some o->∃ v,o.data=.cell v) :
  CloOk S.P S.w S.G.K S.mg S.base LK f (entOf f q params body scope cl c' cs) (SpL S.G.off ⟨f,ps.length,UM db cd,entOf f q params body scope cl c' cs,cv,cd⟩) where
 at_:=λH h hk he=>by
  obtain⟨⟨pm,ctv,g⟩,_,_⟩:=hk f _ (he _ (List.mem_cons_self))
  exact⟨_,_,_,_,g⟩
 run:=λA outer s H us vs Q E hr e0 r h=>by
  obtain⟨hl,hen,Fz,am,as,st,na,ns,h1,h2,h3,h4,h5⟩:=h
  have hl:vs.length=ps.length:=hl
  have hf:H f=some (CloO f q params body scope cl c'):=hen _ List.mem_cons_self
  have hc:H c'=some (CodeO c' q):=hen (c',CodeO c' q) (List.mem_cons_of_mem _ List.mem_cons_self)
  have hcs:Has cs H:=λb o e=>hen (b,CellO b o) (List.mem_cons_of_mem _ (List.mem_cons_of_mem _ (List.mem_map.mpr ⟨(b,o),lk_mem e,rfl⟩)))
  have ndN:=hS.nd
  obtain⟨te,pt,qt⟩:=hb λcls d _ H'=>Off cs H' -> E cls d (pl H' cs)
  have sub:∀ (i:Nat) (y:Str),(ps++cap)[i]?=some y->y∈ps->i<ps.length:=λi y e hy=>by
   rcases Nat.lt_or_ge i ps.length with z | z
   ·exact z
   ·rw[List.getElem?_append_right z] at e
    exact absurd (List.mem_of_getElem? e) ((List.nodup_append.mp ndN).2.2 y hy y · rfl)
  refine clo_run (k:=59) (σ:=vs.map some++cv.map some) (te:=te) hS inj has hr e0 hf hc hcs ⟨cell,λi y v e1 e2 e3=>?_⟩ (λb o e z=>?_) (λpm ctv=>hbind _ _ _ _ _ us (r.length.symm.trans hl)) r hl (λi y v e1 e2 e3=>?_) (by simp[hl,hcv]) (List.nodup_append.mp ndN).1 (λA outer s H hr=>pt _ ?_ ?_) ?_
  ·rcases Nat.lt_or_ge i ps.length with z | z
   ·have hy:y∈ps:=by
     rw[List.getElem?_append_left z] at e1
     exact List.mem_of_getElem? e1
    rw[hS.loc y hy] at e3;cases e3
   ·rw[List.getElem?_append_right z] at e1
    rw[List.getElem?_append_right (by simpa [hl] using z),List.getElem?_map,List.length_map,hl] at e2
    obtain⟨v',e4,e5⟩:=Option.map_eq_some_iff.mp e2
    have e5:=Option.some.inj e5
    rw[e5] at e4
    exact cap2 _ y v e1 e4
  ·have:=e0.frf b z
   rw[hcs b o e] at this;cases this
  ·have z:=sub i y e1 e2
   rw[List.getElem?_append_left (by simpa [hl] using z),List.getElem?_map] at e3
   obtain⟨v',e4,e5⟩:=Option.map_eq_some_iff.mp e3
   have e5:=Option.some.inj e5
   rw[e5] at e4
   rw[List.getElem?_append_left z] at e1
   exact⟨i,e1,e4⟩
  ·exact⟨rfl,rfl,rfl,rfl,rfl,rfl,rfl,ndN,rfl,hr,passes_of rfl,λh=>Bool.noConfusion h,λh=>Bool.noConfusion h,λc q h=>(nomatch h),λx h=>Bool.noConfusion h⟩
  ·exact takes_of rfl rfl rfl rfl
  ·have cf:ZaC cs H:=nocode e0.hok (λc o e vs z=>by
    obtain⟨v,e2⟩:=ncs c o e
    rw[e2] at z;cases z) hcs
   have R0:=Rel0.hide0 h4 hcs cf λ_=>rfl
   have E1:Ext Fz am H Fz am (mn H cs):=ext_mn hcs h4.zt
   have ow:=own_mn hcs h4
   refine qt ⟨mn H cs,λp=>0<na p+ns p,Fz,am⟩ (as.map some++cd.map λd=>some (.z,d)) st [] _ _ _ (λa ha=>by cases ha) ⟨Fz,am,na,λ_=>0,ns,?_,.nil λ_=>rfl,Reps.ext E1 h2 λp o hp e=>ow p o (by omega) e,R0.less λq=>by show na q+0+ns q<=_;omega,trivial⟩ ?_
   ·exact env_app (reps_env (Reps.ext E1 h3 λp o hp=>absurd hp (Nat.lt_irrefl 0))) (Reps.ext E1 h1 λp o hp e=>ow p o (by omega) e)
   ·have h5:PostF S.G.off ⟨H,λp=>0<na p+ns p,Fz,am⟩ Q E (fin (db (as.map some++cd.map λd=>some (.z,d)) st)):=h5
    have back:∀ {T1:List Tm} {st1:Zd} {H':Hp} {σ:St} {env:Env} {B B':(Addr->Prop)->List Addr->Prop},Off cs H' -> (∀ Fz am,Ext Fz am H' Fz am (pl H' cs)->B Fz am->B' Fz am)->(∀ a∈T1,a.bor=false)->RlB S.G.off ⟨mn H cs,λp=>0<na p+ns p,Fz,am⟩ env st1 T1 σ H' B->RlB S.G.off ⟨H,λp=>0<na p+ns p,Fz,am⟩ [] st1 T1 [] (pl H' cs) B':=λ{T1 st1 H' σ env B B'} o hB hT R=>by
     obtain⟨Fz',am',ne,nt,ns',k1,k2,k3,k4,k5⟩:=R
     have E2:Ext Fz' am' H' Fz' am' (pl H' cs):=Ext.same o.same λ_ h=>h
     refine⟨Fz',am',λ_=>0,nt,ns',.nil λ_=>rfl,(TmR.nb (ne':=λ_=>0) k2 hT).ext E2 (λp u _ e=>o.same _ _ e) (λp u _ e=>o.same _ _ e),Reps.ext E2 k3 λp u _ e=>o.same _ _ e,(Rel0.show0 k4 h4.hm hcs o).less λq=>by show 0+nt q+ns' q<=_;omega,hB _ _ E2 k5⟩
    cases e:db (as.map some++cd.map λd=>some (.z,d)) st with
    | stuck=>rw[e] at h5;exact h5.elim
    | exc c ds st1=>
     rw[e] at h5
     refine λcls dx H' R o=>h5 cls dx _ (back o (λFz am E2 z=>?_) (λa ha=>by cases ha) R)
     obtain⟨hx,p,fs,us,g1,g2,g3,g4,g5⟩:=z
     exact⟨hx,p,fs,us,g1,g2,o.same _ _ g3,Reps.ext E2 g4 λp o hp=>absurd hp (Nat.lt_irrefl 0),g5⟩
    | ok fr b d st1=>
     rw[e] at h5
     cases b with
     | true=>exact h5.elim
     | false=>exact λv H' R o=>h5.2 v _ (back o (λ_ _ _ z=>z) (λa ha=>by simp at ha;rw[ha]) R)
end
def cellsOf (cells:List (Str × Addr))(h:Heap)(names:List Str):List (Addr × Obj):=names.filterMap λy=>match cells.lookup y with
 | some c=>(h.get? c).map λo=>(c,o)
 | none=>none
theorem Vx {cells:List (Str × Addr)}{h:Heap}{names:List Str}{c:Addr}{o:Obj}(e:(cellsOf cells h names).lookup c=some o):h.get? c=some o∧∃ y,cells.lookup y=some c:=by
 obtain⟨y,_,hy⟩:=List.mem_filterMap.mp (lk_mem e)
 split at hy
 ·rename_i c2 e2
  obtain⟨o2,e3,e4⟩:=Option.map_eq_some_iff.mp hy
  cases e4
  exact⟨e3,y,e2⟩
 ·cases hy
theorem lk_of {α:Type}{b:Addr}{o:α}:∀ {l:List (Addr × α)},(b,o)∈l->(∀ x∈l,x.1=b->x.2=o)->l.lookup b=some o
 | (k,v) :: r,h,q=>by
  rw[List.lookup_cons]
  cases e:b==k with
  | true=>exact congrArg some (q (k,v) List.mem_cons_self (eq_of_beq e).symm)
  | false=>
   refine lk_of ?_ λx hx=>q x (List.mem_cons_of_mem _ hx)
   rcases List.mem_cons.mp h with z | z
   ·cases z;rw[beq_self_eq_true] at e;cases e
   ·exact z
theorem ZaI {cells:List (Str × Addr)}{h:Heap}{names:List Str}{y:Str}{c:Addr}{o:Obj}(hy:y∈names)(e1:cells.lookup y=some c)(e2:h.get? c=some o):(cellsOf cells h names).lookup c=some o:=by
 refine lk_of (List.mem_filterMap.mpr ⟨y,hy,by rw[e1];show (h.get? c).map _=_;rw[e2];rfl⟩) λx hx e=>?_
 obtain⟨z,_,hz⟩:=List.mem_filterMap.mp hx
 split at hz
 ·rename_i c2 e3
  obtain⟨o2,e4,e5⟩:=Option.map_eq_some_iff.mp hz
  cases e5
  have e:c2=c:=e
  subst e
  rw[e2] at e4
  exact (Option.some.inj e4).symm
 ·cases hz
theorem cellsOf_mem {cells:List (Str × Addr)}{h:Heap}{names:List Str}{x:Addr × Obj}(hx:x∈cellsOf cells h names):(cellsOf cells h names).lookup x.1=some x.2:=by
 obtain⟨y,hy,e⟩:=List.mem_filterMap.mp hx
 split at e
 ·rename_i c2 e2
  obtain⟨o2,e3,e4⟩:=Option.map_eq_some_iff.mp e
  cases e4
  exact ZaI hy e2 e3
 ·cases e
structure CsReal (cs:List (Addr × Obj)):Prop where
 at_:∃ h:Heap,∀ c o,cs.lookup c=some o->h.get? c=some o∧∃ v,o.data=.cell v
 mem:∀ x∈cs,cs.lookup x.1=some x.2
theorem codeFree {cs:List (Addr × Obj)}{H:Hp}(r:CsReal cs)(k:Has cs H):ZaC cs H:=λc q e=>by
 obtain⟨h,r⟩:=r.at_
 cases z:cs.lookup c with
 | none=>rfl
 | some o=>
  obtain⟨g,v,d⟩:=r c o z
  rw[k c o z] at e
  have e1:CellO c o=CodeO c q:=Option.some.inj e
  unfold CellO CodeO at e1
  injection e1 with e1
  have e2:=congrFun e1 h
  have:∃ oc vs t,h.get? c=some oc∧oc.data=.fields vs∧vs[1]?=some (.str q t):=e2▸g
  obtain⟨oc,vs,t,h1,h2,_⟩:=this
  rw[g] at h1;cases h1
  rw[d] at h2;cases h2
structure CapF (scope:Scope)(cap:List Str)(ci:List Nat)(σ:St)(cl:List (Str × Addr))(cs:List (Addr × Obj)):Prop where
 inj:∀ x y c,cl.lookup x=some c->cl.lookup y=some c->x=y
 has:∀ y,scope.names.lookup y=some .free->∃ c,cl.lookup y=some c
 cell:∀ y c,cl.lookup y=some c->∃ o v,cs.lookup c=some o∧o.data=.cell v
 val:∀ (k i:Nat) (y:Str) (v:V),cap[k]?=some y->ci[k]?=some i->σ[i]?=some (some v)->∃ c o u,cl.lookup y=some c∧cs.lookup c=some o∧o.data=.cell (some u)∧RelV v u
structure CapS (S:Sx)(scope:Scope)(cap:List Str)(ci:List Nat):Prop where
 free:∀ y∈scope.names,y.2=.free->y.1∈cap∧(S.sc.names.lookup y.1=some .cell∨S.sc.names.lookup y.1=some .free)
 cp:∀ y∈cap,scope.names.lookup y=some .free
 sl:∀ (k i:Nat) (y:Str),cap[k]?=some y->ci[k]?=some i->S.N[i]?=some y
section
variable {S:Sx}{X:Cx}{k:Nat}{f:Addr}{fd:FuncData}{ps:List Str}{sp:Sp}{dvs:List V}{ds:List Value}{W:WX}{pins:List (Addr × Obj)}{σ:St}{H:Hp}{s:Shared}{Q:VK}{scope:Scope}{cap:List Str}{ci:List Nat}
theorem cells_ok (hX:Stx S X)(hf:S.fnA=true)(I:Inv X pins σ H s):CsOk s.heap H (cellsOf X.env.cells s.heap cap)∧(∀ b o,(cellsOf X.env.cells s.heap cap).lookup b=some o->X.base.get? b=none)∧(∀ b o,(cellsOf X.env.cells s.heap cap).lookup b=some o->b ∉ frs X.stack)∧CsReal (cellsOf X.env.cells s.heap cap):=by
 have dat:∀ b o,(cellsOf X.env.cells s.heap cap).lookup b=some o->∃ v,o.data=.cell v:=λb o e=>by
  obtain⟨e1,y,e2⟩:=Vx e
  obtain⟨v,o2,e3,e4⟩:=I.cell y b e2
  rw[e1] at e3;cases e3
  exact⟨v,e4⟩
 have big:∀ b o,(cellsOf X.env.cells s.heap cap).lookup b=some o->X.s_0.heap.objs.size<=b:=λb o e=>by
  obtain⟨_,y,e2⟩:=Vx e
  exact I.ok.cab y b (hX.fn hf y) e2
 refine⟨λb o e=>?_,λb o e=>?_,λb o e z=>?_,⟨s.heap,λb o e=>⟨(Vx e).1,dat b o e⟩⟩,λx hx=>cellsOf_mem hx⟩
 ·obtain⟨e1,y,e2⟩:=Vx e
  exact⟨e1,I.freeC y b e2⟩
 ·exact Heap.get?_none_of_le (Nat.le_trans I.ok.bsz (big b o e))
 ·rcases List.mem_cons.mp (I.stkSub b z) with q | q
  ·obtain⟨m,⟨o2,es,ep,g1,g2,_⟩,_⟩:=I.loc
   obtain⟨v,d⟩:=dat b o e
   rw[<- q,(Vx e).1] at g1
   cases g1
   rw[d] at g2;cases g2
  ·obtain⟨_,o2,g1,_⟩:=I.ok.funs.mem q
   exact absurd (Heap.lt_size g1) (Nat.not_lt.mpr (big b o e))
theorem cap_f (hX:Stx S X)(C:CapS S scope cap ci)(I:Inv X pins σ H s):CapF scope cap ci σ (cloFrom X.env.cells scope.names []) (cellsOf X.env.cells s.heap cap):=by
 have free:∀ y∈scope.names,y.2=.free->∃ c,X.env.cells.lookup y.1=some c:=λy hy e=>by
  have z:=(C.free y hy e).2
  rw[<- hX.sc] at z
  exact I.ok.has _ z
 have cm:∀ {y c},(cloFrom X.env.cells scope.names []).lookup y=some c->X.env.cells.lookup y=some c∧y∈cap:=λ{y c} e=>by
  rcases cloFrom_mem (PySem.mem_of_lookup e) with hm | ⟨h1,h2⟩
  ·cases hm
  ·obtain⟨c1,hc⟩:=free _ h1 rfl
   have hc:X.env.cells.lookup y=some c1:=hc
   have e2:c=c1:=by
    rw[h2,hc]<;>rfl
   rw[e2]
   exact⟨hc,(C.free _ h1 rfl).1⟩
 have look:∀ {y},scope.names.lookup y=some .free->∃ c,(cloFrom X.env.cells scope.names []).lookup y=some c:=λ{y} hl=>by
  have hy:(y,NameKind.free)∈scope.names:=PySem.mem_of_lookup hl
  exact mem_lookup (cloFrom_has (cells:=X.env.cells) (acc:=[]) hy)
 have cellAt:∀ {y c},X.env.cells.lookup y=some c->y∈cap->∃ o v,(cellsOf X.env.cells s.heap cap).lookup c=some o∧o.data=.cell v:=λ{y c} e hy=>by
  obtain⟨v,o,e1,e2⟩:=I.cell y c e
  exact⟨o,v,ZaI hy e e1,e2⟩
 refine⟨λx y c e1 e2=>I.ok.inj x y c (cm e1).1 (cm e2).1,λy e=>look e,λy c e=>cellAt (cm e).1 (cm e).2,λk i y v e1 e2 e3=>?_⟩
 have hfr:=C.cp y (List.mem_of_getElem? e1)
 obtain⟨c,e4⟩:=look hfr
 obtain⟨m,hn,hl⟩:=I.loc
 have z:=(C.free _ (PySem.mem_of_lookup hfr) rfl).2
 have z:S.sc.names.lookup y=some .cell∨S.sc.names.lookup y=some .free:=z
 rw[<- hX.sc] at z
 obtain⟨u,ru,lk⟩:=hl i y v (by rw[hX.N];exact C.sl k i y e1 e2) e3 (.inr z)
 rcases lk with ⟨k1,_⟩ | ⟨_,c3,e5,o,e6,e7⟩
 ·have k1:X.env.scope.names.lookup y=some .local:=k1
  rcases z with z | z<;>rw[z] at k1<;>cases k1
 ·have e8:=(cm e4).1
  rw[e5] at e8
  cases e8
  exact⟨_,o,u,e4,ZaI (cm e4).2 e5 e6,e7,ru⟩
theorem run_cells {us:List Value}{vs:List V}{cs:List (Addr × Obj)}(F:FnOk X.prog X.w X.K X.mg X.base (L2.CX X.prog X.w) k f fd ps sp)(hr:Room k X.A)(hb:Binds X.K fd ps ds)(hd:Vals dvs ds)(tk:Takes X W)(I:Inv X pins σ H s)(r:Vals vs us)
  (c1:CsOk s.heap H cs) (c2:∀ b o,cs.lookup b=some o->X.base.get? b=none) (c3:∀ b o,cs.lookup b=some o->b ∉ frs X.stack)
  (h:sp (vs++dvs) (pl H cs) (λv H'=>Has cs H' ∧ Q v (mn H' cs)) (λcls d H'=>Has cs H' ∧ WE W σ cls d (mn H' cs))):wpAny (model X.prog X.w) X.A (call (.ref f) us) (EP X pins σ Q) X.xe s:=by
 have r2:Vals (vs++dvs) (us++ds):=r.append hd
 have hl:(us++ds).length=ps.length:=by rw[<- r2.length];exact F.len _ _ _ _ h
 refine wpAny_call (codeAny_mono (F.run X.A X.stack s (pl H cs) ⟨us,[]⟩ (us++ds) (vs++dvs) _ _ hr (env0_pl I.env0 c1 c2 c3) (hb s us I.kIn hl) r2 h) λr s' hq=>?_)
 have hq:=cr_hide c1 hq
 cases r with
 | error e=>exact passAt tk σ pins H s e s' I hq
 | ok fl=>
  cases fl with
  | ret u=>exact I.after hq
  | next=>exact False.elim hq
  | brk=>exact False.elim hq
  | cont=>exact False.elim hq
def tLamC (T:List (Addr × Str))(q:Str)(params:Arguments)(body:Expr)(scope:Scope)(cap:List Str)(ci:List Nat)(sp:Sp)(dvs:List V)(W:WX)(ta:TA):TE:=λσ H Q=>ta σ H λvs H1=>Tabs T H1 ∧
 ∀ (f c':Addr) (cl:List (Str × Addr)) (cs:List (Addr × Obj)) (H2:Hp),ExtN H1 H2->TblK H1 H2->Tabs T H2->H2 f=none->H1 f=none->H2 c'=some (CodeO c' q)->CapF scope cap ci σ cl cs ->
  Off cs (upd H2 f (CloO f q params body scope cl c'))->(∀ c o,cs.lookup c=some o->H1 c=none)->CsReal cs ->
  sp (vs ++ .ref f :: dvs) (pl (upd H2 f (CloO f q params body scope cl c')) cs) (λv H'=>Has cs H' ∧ Q v (mn H' cs)) (λcls d H'=>Has cs H' ∧ WE W σ cls d (mn H' cs))
variable {T:List (Addr × Str)}{x q:Str}{params:Arguments}{body a:Expr}{lpos p pos:Pos}{c P:Addr}{ta:TE}
theorem lam_end {us:List Value}{vs:List V}(hX:Stx S X)(hfA:S.fnA=true)(C:CapS S scope cap ci)(TB:TabB X.base X.mg c P)(hcode:X.env.code=.ref c)(hq:X.env.qual=q)(hm:(P,q ++ "<lambda>")∈T)(hu:∀ p∈T,p.1=P->p.2=q ++ "<lambda>")
  (hdef:defaultsOf params X.env=([],[])) (F:FnOk X.prog X.w X.K X.mg X.base (L2.CX X.prog X.w) k f fd ps sp) (hr:Room k X.A) (hb:Binds X.K fd ps ds) (hd:Vals dvs ds) (tk:Takes X W) (I:Inv X pins σ H s) (r:Vals vs us)
  (h:tLamC T (q ++ "<lambda>") params body scope cap ci sp dvs W (λ_ H1 Q1=>Q1 vs H1) σ H Q) :
  wpAny (model X.prog X.w) X.A (eval (.Lambda params body scope lpos) X.env) (λv s1=>X.K.In s1.heap∧wpAny (model X.prog X.w) X.A (call (.ref f) (us ++ [v])) (EP X pins σ Q) X.xe s1) X.xe s:=by
 subst hq
 obtain⟨hT,h⟩:=h
 have hfree:∀ y∈scope.names,y.2=.free->∃ c,X.env.cells.lookup y.1=some c:=λy hy e=>by
  have z:=(C.free y hy e).2
  rw[<- hX.sc] at z
  exact I.ok.has _ z
 refine clo_make I TB hcode hm hu hT hdef hfree λg c' H1 s' I1 eN tK T1 hfn hco hHf=>⟨I1.kIn,?_⟩
 obtain⟨c1,c2,c3,c4⟩:=cells_ok (cap:=cap) hX hfA I1
 have h:=h g c' _ _ H1 eN tK T1 hfn hHf hco (cap_f hX C I1) c1.off (λb o e=>by
  obtain⟨_,y,e2⟩:=Vx e
  exact I.freeC y b e2) c4
 have e1:vs++V.ref g :: dvs=(vs ++ [V.ref g])++dvs:=by simp
 rw[e1] at h
 exact run_cells F hr hb hd tk I1 (r.append (.cons (show RelV (V.ref g) (Value.ref g) from rfl) .nil)) c1 c2 c3 h
theorem pe_lamcall1 (hX:Stx S X)(hfA:S.fnA=true)(C:CapS S scope cap ci)(TB:TabB X.base X.mg c P)(hcode:X.env.code=.ref c)(hq:X.env.qual=q)(hm:(P,q ++ "<lambda>")∈T)(hu:∀ p∈T,p.1=P->p.2=q ++ "<lambda>")
  (hdef:defaultsOf params X.env=([],[])) (F:FnOk X.prog X.w X.K X.mg X.base (L2.CX X.prog X.w) k f fd ps sp) (hr:Room k X.A) (hb:Binds X.K fd ps ds) (hd:Vals dvs ds) (tk:Takes X W) (hg:Gl X x) (hmx:X.mg x=some (.ref f)) (hk:PySem.W.keepIn X.K (.ref f)=true) (hdb:(x==("__debug__":Str))=false) :
  PE X (.Call (.Name x p) [.Lambda params body scope lpos] [] pos) (tLamC T (q ++ "<lambda>") params body scope cap ci sp dvs W tNil):=by
 refine⟨λpins s σ H Q I h=>?_⟩
 refine wpAny_Call_Name_kw (ld_glob I hg hmx ?_ hdb)
 refine PySem.W.callWith_K (h₀:=X.base) I.ok.mod.kin hk ?_ (by rfl) (by rfl)
 show wpAny _ _ (spliced ((false,eval (.Lambda params body scope lpos) X.env) :: backTo pos (starEach [] X.env))) _ _ s
 refine Calls.spliced_cons (thn (lam_end (us:=[]) hX hfA C TB hcode hq hm hu hdef F hr hb hd tk I .nil h) λv s1 ⟨h1,h2⟩=>?_)
 exact Calls.spliced_nil ⟨h1,h2⟩
end
@[simp] def capt (env:Env):List Nat->Option (List D)
 | []=>some []
 | i :: r=>match env[i]? with
  | some (some (.z,d))=>match capt env r with
   | some ds=>some (d :: ds)
   | none=>none
  | _=>none
def oneL (f:Addr)(n:Nat)(r:Fn):LamR:=λj=>match j with
 | 0=>some (f,n,r)
 | _+1=>none
@[simp] theorem oneL_0 {f:Addr}{n:Nat}{r:Fn}:oneL f n r 0=some (f,n,r):=rfl
noncomputable def dPick (h:Addr->Res):Res:=open Classical in if ∀ f,h f=h 0 then h 0 else .stuck
@[simp] theorem dPick_c (r:Res):dPick (λ_=>r)=r:=by simp[dPick]
theorem dPick_ok {G:Sg}{g:Gd}{env:Env}{T:List Tm}{σ:St}{W:WX}{Q:VK}{h:Addr->Res}(e:Wz G g env T σ W Q (dPick h))(f:Addr):Wz G g env T σ W Q (h f):=by
 unfold dPick at e
 split at e
 ·rename_i k;rw[k f];exact e
 ·exact e.elim
@[simp] noncomputable def dLam (ci:List Nat)(n:Nat)(db:Den)(F:LamR->Fn)(as:DenL):Den:=λenv st=>match as env st with
 | .ok ts st1=>bif keeps ts then match capt env ci with
  | some cd=>dPick λf=>fin (F (oneL f n (UM db cd)) (zd (ts.map λt=>t.2.2) ++ [(.z,.fnv f 0)]) st1)
  | none=>.stuck else .stuck
 | .exc c ds st1=>.exc c ds st1
 | .stuck=>.stuck
section
variable {G:Sg}{g:Gd}{env:Env}{st st':Zd}{T T':List Tm}{σ:St}{H H':Hp}{Fz:Addr->Prop}{am:List Addr}{tot:Fp}{B B':(Addr->Prop)->List Addr->Prop}{cs:List (Addr × Obj)}
theorem capt_vs {n:Fp}(r:EnvR G Fz am H env σ n):∀ {ci:List Nat} {cd:List D},capt env ci=some cd->∃ cv:List V,cv.length=ci.length∧Reps G Fz am H (zs cd.length) cv cd (λ_=>0)∧∀ (k i:Nat) (v:V),ci[k]?=some i->cv[k]?=some v->σ[i]?=some (some v)
 | [],cd,e=>by
  cases e
  exact⟨[],rfl,.nil λ_=>rfl,λk i v e=>by simp at e⟩
 | i :: ci,cd,e=>by
  unfold capt at e
  split at e
  ·rename_i d e1
   split at e
   ·rename_i ds e2
    cases e
    obtain⟨cv,k1,k2,k3⟩:=capt_vs r e2
    obtain⟨v,m,a1,a2,a3⟩:=r.get e1
    refine⟨v :: cv,by simp[k1],?_,λk i' v' h1 h2=>?_⟩
    ·rw[show zs (d :: ds).length=.z :: zs ds.length from List.replicate_succ]
     exact .cons (a2.fp a2.z0) k2 (n1:=λ_=>0) (n2:=λ_=>0) λ_=>rfl
    ·cases k with
     | zero=>simp at h1 h2;rw[<- h1,<- h2];exact a1
     | succ k=>exact k3 k i' v' (by simpa using h1) (by simpa using h2)
   ·cases e
  ·cases e
def KeepN (H H':Hp):Prop:=∀ b o,H b=some o->Vm o=false->H' b=some o
theorem KeepN.ext (k:KeepN H H')(zt:∀ p,Fz p->∃ o,H p=some o∧VZ o=true):Ext Fz am H Fz am H' where
 fz:=λ_ h=>h
 cl:=λ_ _ h=>h
 rd:=λp u z h=>by
  obtain⟨o,e,po⟩:=zt p z
  rcases h with h | ⟨w,h⟩
  ·rw[h] at e;cases e
   exact .inl (k _ _ h (pl_nt po))
  ·exact .inr ⟨w,k _ _ h rfl⟩
 st:=λp u z h _=>by
  obtain⟨o,e,po⟩:=zt p z
  rw[h] at e;cases e
  exact k _ _ h (pl_nt po)
 tp:=λp xs h=>h.imp (λe=>k _ _ e rfl) λ⟨o,e⟩=>⟨o,k _ _ e rfl⟩
theorem Rel0.keepN (r:Rel0 G g Fz am H tot)(k:KeepN H H')(t:TblK H H')(tb:Tabs G.T H'):Rel0 G g Fz am H' tot where
 n1:=r.n1
 nz:=r.nz
 th:=λp hp=>by
  obtain⟨o,e,ow⟩:=r.th p hp
  exact⟨o,k _ _ e ow.nt,ow⟩
 zt:=λp z=>by
  obtain⟨o,e,po⟩:=r.zt p z
  exact⟨o,k _ _ e (pl_nt po),po⟩
 k:=λp o nt e na=>(r.k p o nt e na).map λu h z=>k _ _ z (h.elim (λx=>x▸nt) id)
 f:=r.f
 z0:=r.z0
 z1:=r.z1
 a:=r.a
 tb:=tb
 hm:=r.hm
 kt:=λp o tt e na=>by
  obtain⟨o',e1,t1⟩:=r.kt p o tt e na
  exact t p o' e1 t1
theorem Rel0.owned (r:Rel0 G g Fz am H tot)(k:KeepN H H'):∀ p o,0<tot p->H p=some o->H' p=some o:=λp o hp e=>by
 obtain⟨o',e',ow⟩:=r.th p hp
 rw[e] at e';cases e'
 exact k _ _ e ow.nt
theorem RlB.stands {g:Gd}(R:RlB G g env st T σ H B){b:Addr}{u:HO}(e:g.H0 b=some u)(x:Zap u=true):H b=some u:=by
 obtain⟨Fz,am,ne,nt,ns,h1,h2,h3,h4,h5⟩:=R
 refine (h4.k b u (ZcT x) e λq=>?_).nd (Zcy x)
 obtain⟨o,e1,ow⟩:=h4.hm.a b q
 rw[e] at e1;cases e1
 exact ZcY x ow
end
structure VP (S:Sx)(x:Str)(n:Nat)(F:LamR->Fn)(k:Nat):Prop where
 ex:∃ f fd ps,(∀ l,Zac S.P S.w S.mg S.base (S.G.wl l)->FnOk S.P S.w S.G.K S.mg S.base (L2.CX S.P S.w) k f fd ps (SpF (S.G.wl l) n (F (S.G.wl l).lr)))∧S.mg x=some (.ref f)∧PySem.W.keepIn S.G.K (.ref f)=true∧L2.Binds S.G.K fd ps []
def SpU (S:Sx)(n:Nat)(F:LamR->Fn):Sp:=λvs H Q E=>∃ l,Zac S.P S.w S.mg S.base (S.G.wl l)∧SpF (S.G.wl l) n (F (S.G.wl l).lr) vs H Q E
structure MkOk (S:Sx)(c P:Addr)(q:Str):Prop where
 lmk:S.lmk=some (c,q)
 tab:TabB S.base S.mg c P
 mem:(P,q ++ "<lambda>")∈S.G.T
 one:∀ p∈S.G.T,p.1=P->p.2=q ++ "<lambda>"
section
variable {S:Sx}{ps cap:List Str}{ci:List Nat}{params:Arguments}{body:Expr}{scope:Scope}{db:Den}{n k:Nat}{F:LamR->Fn}
theorem lam_post (hS:CloS (ps++cap) ps scope)(hb:DE (S.cl (ps++cap) scope) body db)(hbind:∀ (q:Str) (cl:List (Str × Addr)) (pm cv ctv:Value) (us:List Value),us.length=ps.length->bindArgs (PySem.W.kla_fn "<lambda>" q params body scope cl pm cv ctv) ⟨us,[]⟩=pure (ps.zip us))
  (hci:ci.length=cap.length) {q:Str} {g:Gd} {env:Env} {st:Zd} {T:List Tm} {σ:St} {H:Hp} {Q:VK} {W:WX} {vs:List V} {ts:List (Fr × Bool × D)} {cd:List D} (hn:ts.length+1=n)
  (R:Rl S.G g env st (mkT vs ts++T) σ H) (hl:vs.length=ts.length) (hk:keeps ts=true) (hcd:capt env ci=some cd)
  (h:Wz S.G g env T σ W Q (dPick λf=>fin (F (oneL f ps.length (UM db cd)) (zd (ts.map λt=>t.2.2) ++ [(.z,.fnv f 0)]) st))) :
  Tabs S.G.T H∧∀ (f c':Addr) (cl:List (Str × Addr)) (cs:List (Addr × Obj)) (H2:Hp),ExtN H H2->TblK H H2->Tabs S.G.T H2->H2 f=none->H f=none->H2 c'=some (CodeO c' q)->CapF scope cap ci σ cl cs ->
   Off cs (upd H2 f (CloO f q params body scope cl c'))->(∀ c o,cs.lookup c=some o->H c=none)->CsReal cs ->
   SpU S n F (vs ++ .ref f :: []) (pl (upd H2 f (CloO f q params body scope cl c')) cs) (λv H'=>Has cs H' ∧ Q v (mn H' cs)) (λcls d H'=>Has cs H' ∧ WE W σ cls d (mn H' cs)):=by
 obtain⟨Fz,am,ne,nt,ns,h1,h2,h3,h4,h5⟩:=Rl.frzL R hl hk
 refine⟨h4.tb,λf c' cl cs H2 eN tK tb hf2 hf1 hc' cf off hcs real=>?_⟩
 have h:=dPick_ok h f
 obtain⟨cv,v1,v2,v3⟩:=capt_vs h1 hcd
 let O:=CloO f q params body scope cl c'
 let ent:=entOf f q params body scope cl c' cs
 let l:Nat->Option LamD:=λj=>match j with
  | 0=>some ⟨f,ps.length,UM db cd,ent,cv,cd⟩
  | _+1=>none
 have fcs:cs.lookup f=none:=off.out (o:=O) upd_same
 have kn:KeepN H (pl (upd H2 f O) cs):=λb o e nt=>by
  have nb:b≠f:=ne_of_none e hf1
  have e2:H2 b=some o:=eN b o e λps z=>by rw[z] at nt;cases nt
  exact off.same b o (by rw[upd_ne nb];exact e2)
 have tk:TblK H (pl (upd H2 f O) cs):=λp o e t=>by
  obtain⟨o',e1,t1⟩:=tK p o e t
  exact⟨o',off.same p o' (by rw[upd_ne (ne_of_none e1 hf2)];exact e1),t1⟩
 have tb':Tabs S.G.T (pl (upd H2 f O) cs):=tb.ext λb o e=>off.same b o (by rw[upd_ne (ne_of_none e hf2)];exact e)
 have E:Ext Fz am H Fz am (pl (upd H2 f O) cs):=kn.ext h4.zt
 have ow:=h4.owned kn
 have h4s:=h4.keepN kn tk tb'
 have lok:Zac S.P S.w S.mg S.base (S.G.wl l):=λj l' e=>by
  cases j with
  | succ j=>cases e
  | zero=>
   cases e
   exact clo_lam hS hb hbind cf.inj cf.has cf.cell (v1.trans hci) (λk y v e1 e2=>by
    have hk:k<ci.length:=by
     have:=(List.getElem?_eq_some_iff.mp e1).1
     omega
    have e3:ci[k]?=some ci[k]:=List.getElem?_eq_getElem hk
    exact cf.val k _ y v e1 e3 (v3 k _ v e3 e2)) (λc o e=>by
    obtain⟨hh,r⟩:=real.at_
    exact (r c o e).2)
 have lr:(S.G.wl l).lr=oneL f ps.length (UM db cd):=by
  funext j
  cases j with
  | zero=>rfl
  | succ j=>rfl
 have h4b:Rel0 S.G g Fz am (pl (upd H2 f O) cs) λp=>(λ_=>0) p+(ne p+nt p+ns p):=h4s.less λq=>by show 0+(ne q+nt q+ns q)<=_;omega
 have B0:=Rel0.base (g:=g) (ne:=ne) (nt:=nt) h4b
 have hm':Home (S.G.wl l) ⟨pl (upd H2 f O) cs,λp=>0<(λ_=>0) p+ns p,Fz,am⟩:=⟨B0.hm.fz,B0.hm.a,λj l' e=>by
  cases j with
  | succ j=>cases e
  | zero=>
   cases e
   refine⟨λx hx=>?_,Reps.wl _ (Reps.ext E v2 λp o hp=>absurd hp (Nat.lt_irrefl 0))⟩
   rcases List.mem_cons.mp hx with z | hx
   ·rw[z]
    exact⟨rfl,off.same f O upd_same⟩
   rcases List.mem_cons.mp hx with z | hx
   ·rw[z]
    exact⟨rfl,off.same c' _ (by rw[upd_ne (ne_of_none hc' hf2)];exact hc')⟩
   ·obtain⟨y,hy,z⟩:=List.mem_map.mp hx
    rw[<- z]
    exact⟨rfl,pl_in (real.mem y hy)⟩⟩
 refine⟨l,lok,by rw[List.length_append,hl];exact hn,Fz,am,zd (ts.map λt=>t.2.2) ++ [(.z,.fnv f 0)],st,λ_=>0,ns,?_,StoR.wl l (Reps.ext E h3 λp o hp e=>ow p o (by omega) e),B0.wl hm',?_⟩
 ·rw[List.map_append,List.map_append,zd_fst,zd_snd,List.length_map]
  exact Reps.wl l (Reps.app (.cons (.sc (show Scal S.G (.ref f) (.fnv f 0) from rfl) λ_=>rfl) (.nil (n:=λ_=>0) λ_=>rfl) (n1:=λ_=>0) λ_=>rfl) (Reps.ext E h5 λp o hp=>absurd hp (Nat.lt_irrefl 0)))
 ·rw[lr]
  have e1:EnvR S.G Fz am (pl (upd H2 f O) cs) env σ ne:=h1.ext E λp o hp e=>ow p o (by omega) e
  have e2:TmR S.G Fz am (pl (upd H2 f O) cs) ne T nt:=h2.ext E (λp o hp e=>ow p o (by omega) e) λp o hp e=>ow p o (by omega) e
  have hasc:∀ {env':Env} {st':Zd} {T':List Tm} {σ':St} {H':Hp} {B:(Addr->Prop)->List Addr->Prop},RlB (S.G.wl l) ⟨pl (upd H2 f O) cs,λp=>0<(λ_=>0) p+ns p,Fz,am⟩ env' st' T' σ' H' B->Has cs H':=λR1 b o e=>R1.stands (pl_in e) rfl
  have back:∀ {st':Zd} {T1:List Tm} {H':Hp} {B B':(Addr->Prop)->List Addr->Prop},RlB (S.G.wl l) ⟨pl (upd H2 f O) cs,λp=>0<(λ_=>0) p+ns p,Fz,am⟩ [] st' T1 [] H' B->(∀ Fz am,Ext Fz am H' Fz am (mn H' cs)->B Fz am->B' Fz am)->RlB S.G g env st' (T1++T) σ (mn H' cs) B':=λ{st' T1 H' B B'} R1 hB=>by
   have k:=hasc R1
   have R2:RlB S.G _ [] st' T1 [] H' B:=RlB.wl (G:=S.G.wl l) (l:=S.G.lam) R1 B0.hm λ_ _ z=>z
   exact RlB.hide (join (T:=T) h4b e1 e2 R2) k (codeFree real k) (λb o e=>h4.new (hcs b o e)) hB
  have h:Wz S.G g env T σ W Q (fin (F (oneL f ps.length (UM db cd)) (zd (ts.map λt=>t.2.2) ++ [(.z,.fnv f 0)]) st)):=h
  cases e:F (oneL f ps.length (UM db cd)) (zd (ts.map λt=>t.2.2) ++ [(.z,.fnv f 0)]) st with
  | stuck=>rw[e] at h;exact h.elim
  | exc c ds st1=>
   rw[e] at h
   exact λcls dx H' R1=>⟨hasc R1,h cls dx _ (back R1 λFz am E z=>ExcB.mn (hasc R1) E (z.wl S.G.lam)).notmp⟩
  | ok fr b d st1=>
   rw[e] at h
   cases b with
   | true=>exact h.elim
   | false=>exact⟨rfl,λv H' R1=>⟨hasc R1,h v _ (back R1 λ_ _ _ z=>z)⟩⟩
end
@[reducible] def Sx.lamS (S:Sx)(l:Nat->Option LamD)(ok:Zac S.P S.w S.mg S.base (S.G.wl l)):Sx:=⟨S.P,S.w,S.mg,S.base,S.G.wl l,S.N,S.sc,S.k,S.fnA,ok,none,λ_=>false⟩
structure LamT (S:Sx)(ps cap:List Str)(ci:List Nat)(params:Arguments)(scope:Scope)(body:Expr):Prop where
 cs:CloS (ps++cap) ps scope
 cp:CapS S scope cap ci
 ci:ci.length=cap.length
 dfl:∀ env,defaultsOf params env=([],[])
 bind:∀ (q:Str) (cl:List (Str × Addr)) (pm cv ctv:Value) (us:List Value),us.length=ps.length->bindArgs (PySem.W.kla_fn "<lambda>" q params body scope cl pm cv ctv) ⟨us,[]⟩=pure (ps.zip us)
section
variable {S:Sx}{ps cap:List Str}{ci:List Nat}{params:Arguments}{body a:Expr}{scope:Scope}{db da:Den}{n k:Nat}{F:LamR->Fn}{x q:Str}{c P:Addr}{p lpos pos:Pos}
theorem fnu (hG:VP S x n F k):∃ f fd ps',FnOk S.P S.w S.G.K S.mg S.base (L2.CX S.P S.w) k f fd ps' (SpU S n F)∧S.mg x=some (.ref f)∧PySem.W.keepIn S.G.K (.ref f)=true∧L2.Binds S.G.K fd ps' []:=by
 obtain⟨f,fd,ps',h1,h2,h3,h4⟩:=hG.ex
 exact⟨f,fd,ps',⟨λvs H Q E ⟨l,ok,z⟩=>(h1 l ok).len vs H Q E z,λA outer s H args us vs Q E hr e0 hb r ⟨l,ok,z⟩=>(h1 l ok).run A outer s H args us vs Q E hr e0 hb r z⟩,h2,h3,h4⟩
theorem de_lam1 (hT:LamT S ps cap ci params scope body)(hb:DE (S.cl (ps++cap) scope) body db)(hG:VP S x 1 F k)(hk:k<=S.k)(hM:MkOk S c P q)(hfA:S.fnA=true)(hg:S.sc.names.lookup x=some .globalImplicit)(hdb:(x==("__debug__":Str))=false):
  DE S (.Call (.Name x p) [.Lambda params body scope lpos] [] pos) (dLam ci ps.length db F dNil):=λW=>by
 obtain⟨f,fd,ps',hF,hm,hkp,hbi⟩:=fnu hG
 refine⟨tLamC S.G.T (q ++ "<lambda>") params body scope cap ci (SpU S 1 F) [] W tNil,λX hX tk=>?_,λg env st T σ H Q hB R h=>?_⟩
 ·obtain⟨k1,k2⟩:=hX.lmk c q hM.lmk
  exact pe_lamcall1 hX hfA hT.cp (by rw[hX.base,hX.mg];exact hM.tab) k1 k2 hM.mem hM.one (hT.dfl _) (by rw[hX.pr,hX.w,hX.mg,hX.base,hX.K];exact hF) (hX.room.mono hk) (by rw[hX.K];exact hbi) .nil tk (show X.env.scope.names.lookup x=some .globalImplicit by rw[hX.sc];exact hg) (by rw[hX.mg];exact hm) (by rw[hX.K];exact hkp) hdb
 ·unfold dLam at h
  dsimp only[dNil] at h
  obtain⟨hc,h⟩:=bifT h id
  split at h
  ·rename_i cd e
   exact lam_post hT.cs hb hT.bind hT.ci (ts:=[]) (vs:=[]) rfl R rfl rfl e h
  ·exact h.elim
end
theorem goodL_fn {S:Sx}{x:Str}{st:Stmt}{N ps:List Str}{n k:Nat}{db:LamR->Zi}(h:Kn S x st)(Sc:FnScope N ps (defScope st))(hb:∀ l ok,DSs ((S.lamS l ok).at N (defScope st) k) (defBody st) (db (S.G.wl l).lr))(hbind:Wv x st ps)(hn:ps.length=n):
  VP S x n (λlr=>WB N.length (db lr)) (k+1):=by
 subst hn
 obtain⟨f,fd,F,hm⟩:=h.ex
 exact⟨f,fd,ps,λl ok=>ok_fn (S:=(S.lamS l ok).at N (defScope st) k) F Sc (hb l ok) rfl,hm,F.kp,F.bindsN hbind⟩
@[reducible] def Sx.atL (S:Sx)(N:List Str)(sc:Scope)(k:Nat)(c:Addr)(q:Str):Sx:=⟨S.P,S.w,S.mg,S.base,S.G,N,sc,k,true,S.lok,some (c,q),λ_=>false⟩
structure Mk0 (S:Sx)(x:Str)(c P:Addr):Prop where
 code:∀ f o fd,S.mg x=some (.ref f)->S.G.K.lookup f=some o->o.data=.func fd->fd.code=.ref c
 tab:TabB S.base S.mg c P
 mem:(P,x ++ ".<locals>.<lambda>")∈S.G.T
 one:∀ p∈S.G.T,p.1=P->p.2=x ++ ".<locals>.<lambda>"
theorem ok_fnT {S:Sx}{x:Str}{params:Arguments}{body:List Stmt}{dvs:List V}{kws:List (Str × V)}{f c P:Addr}{fd:FuncData}{N ps:List Str}{sc:Scope}{k:Nat}{db:Zi}(F:FunD S.G.K x x params body sc dvs kws f fd)(M:Mk0 S x c P)(hm:S.mg x=some (.ref f))(Sc:FnScope N ps sc)
  (hb:DSs (S.atL N sc k c (x ++ ".<locals>.")) body db):FnOk S.P S.w S.G.K S.mg S.base (L2.CX S.P S.w) (k+1) f fd ps (SpF S.G ps.length (WB N.length db)):=by
 obtain⟨oc,od,dV,kV,doc,pm,an,cdv,ct,osl,rfl,lk,hcd,_,_⟩:=F.ex
 have hc:cdv=.ref c:=M.code f _ _ hm lk rfl
 subst hc
 refine fn_of lk hcd Sc (λvs H Q E h=>h.1) λA outer s H vs Q E hr h=>?_
 obtain⟨hl,Fz,am,as,st,na,ns,h1,h2,h3,h4⟩:=h
 obtain⟨t,pt,qt⟩:=hb λcls d _ H=>E cls d H
 have hX:Stx (S.atL N sc k c (x ++ ".<locals>.")) (cxOf (L2.CX S.P S.w) S.P S.w S.G.K S.mg S.base N x sc f (.ref c) A outer s H E):=⟨rfl,rfl,rfl,rfl,rfl,rfl,rfl,Sc.nd,rfl,hr,passes_of rfl,λ_ _=>rfl,λ_=>⟨rfl,rfl⟩,λc' q' e=>by cases e;exact⟨rfl,rfl⟩,λ_ _=>rfl⟩
 refine⟨t,pt _ hX (takes_of rfl rfl rfl rfl),?_⟩
 have la:as.length=vs.length:=by have:=h1.len;simpa using this.2.symm
 refine qt ⟨H,λp=>0<na p+ns p,Fz,am⟩ (ZbA N.length as) st [] (L2.start N vs) H _ (λa ha=>by cases ha) ⟨Fz,am,na,λ_=>0,ns,?_,.nil λ_=>rfl,h2,h3.less λq=>by show na q+0+ns q<=_;omega,trivial⟩ ?_
 ·unfold ZbA L2.start
  rw[la]
  exact env_start h1
 ·unfold WB at h4
  cases e:db (ZbA N.length as) st with
  | stuck=>rw[e] at h4;exact h4.elim
  | bk env1 st1=>rw[e] at h4;exact h4.elim
  | ct env1 st1=>rw[e] at h4;exact h4.elim
  | rt f d st1=>rw[e] at h4;exact h4.2
  | nx env1 st1=>rw[e] at h4;exact λσ' H' R=>h4.2 .non H' (Rl.ret (b:=false) (Rl.scal (v:=.non) (d:=.non) R trivial) rfl)
  | exc c ds env1 st1=>
   rw[e] at h4
   intro σ' cls dx H' R
   refine h4 cls dx H' ?_
   obtain⟨Fz',am',ne,nt,ns',k1,k2,k3,k4,k5⟩:=R
   cases k2 with
   | nil h0=>exact⟨Fz',am',λ_=>0,λ_=>0,ns',.nil λ_=>rfl,.nil λ_=>rfl,k3,k4.less λq=>by show 0+0+ns' q<=_;omega,k5⟩
theorem mk_ok {S:Sx}{x:Str}{c P:Addr}{N:List Str}{sc:Scope}{k:Nat}(M:Mk0 S x c P)(e:(x ++ ".<locals>.") ++ "<lambda>"=x ++ ".<locals>.<lambda>"):MkOk (S.atL N sc k c (x ++ ".<locals>.")) c P (x ++ ".<locals>."):=
 ⟨rfl,M.tab,by rw[e];exact M.mem,λp hp h=>by rw[e];exact M.one p hp h⟩
end Hx
namespace Hx
open PySem PySem.Spec L2
open PyProof.Rows hiding St
inductive TestX (X:Cx):Expr->List Value->Prop
 | one {x:Str} {c:Value} {p:Pos}:Names X x c->TestX X (.Name x p) [c]
 | two {x1 x2:Str} {c1 c2:Value} {p1 p2 p:Pos} {k:Nat}:Names X x1 c1->Names X x2 c2->TestX X (.Tuple [.Name x1 p1,.Name x2 p2] k p) [c1,c2]
 | three {x1 x2 x3:Str} {c1 c2 c3:Value} {p1 p2 p3 p:Pos} {k:Nat}:Names X x1 c1->Names X x2 c2->Names X x3 c3->TestX X (.Tuple [.Name x1 p1,.Name x2 p2,.Name x3 p3] k p) [c1,c2,c3]
abbrev Zbd:=List Value × Nat × (Addr->Value->Option Addr->TS)
inductive ClsX (X:Cx):List ExceptHandler->List Zbd->Prop
 | nil:ClsX X [] []
 | cons {t:Expr} {cs:List Value} {i:Nat} {n:Str} {ts:Addr->Value->Option Addr->TS} {b₀:Stmt} {suite:List Stmt} {pos:Pos} {hds:List ExceptHandler} {l:List Zbd} (ht:TestX X t cs) (hi:X.N[i]?=some n) (hl:X.env.kindOf n=some .local)
   (hsu:∀ (a:Addr) (oe:Obj) (cls:Value) (d:Option Addr) (pn:List (Addr × Obj)),Zc cls d oe->(∃ vs,oe.data=.fields vs)->PSs (X.suite a ((a,oe) :: pn)) (b₀ :: suite) (ts a cls d)) (r:ClsX X hds l) :
   ClsX X (.ExceptHandler (some t) (some n) (b₀ :: suite) pos :: hds) ((cs,i,ts) :: l)
@[reducible] def endX (i:Nat)(D:Ends):Ends:={ nx:=λσ H=>D.nx (σ.set i none) H,rt:=D.rt,bk:=λσ H=>D.bk (σ.set i none) H,ct:=λσ H=>D.ct (σ.set i none) H }
def wX (K:PySem.W.Frag)(Wout:WX)(D:Ends):List Zbd->WX
 | []=>Wout
 | (cs,i,ts) :: l=>λcls d σ H=>∃ b,PySem.W.exmAny K cls cs=some b∧(b=true->∀ a,H a=none->ts a cls d (endX i D) (σ.set i (some (.ref a))) H)∧(b=false->wX K Wout D l cls d σ H)
theorem flyZ_kept {B h h':Heap}{l:List PySem.Env}{e:Addr}{Z:Obj->Prop}(R:HandSPX.FlyingZ B l e Z h)(k:∀ b o,h.get? b=some o->h'.get? b=some o):HandSPX.FlyingZ B l e Z h':=by
 obtain⟨f1,f2,f3,oe,vs,T,oT,ts,g1,g2,g3,g4,g5,g6,g7,g8⟩:=R
 exact⟨λb o q=>k b o (f1 b o q),f2,f3.of_keeps λb o q _=>⟨o,k b o q,rfl⟩,oe,vs,T,oT,ts,k _ _ g1,g2,g3,g4,g5,g6,k _ _ g7,g8⟩
theorem exm1 {K:PySem.W.Frag}{cls c:Value}{b:Bool}(h:PySem.W.exmAny K cls [c]=some b):PySem.W.exmOne K cls c=some b:=by
 obtain⟨b1,d1,x1,y1,z1⟩:=PySem.W.exmAny_cons h
 have w:some false=some d1:=y1
 cases w
 rw[x1,z1]
 cases b1<;>rfl
section
variable {X:Cx}{body:List Stmt}{h₀:ExceptHandler}{hds:List ExceptHandler}{l:List Zbd}{pos:Pos}{tb:WX->TS}{Wout:WX}
theorem UK {pn pins:List (Addr × Obj)}{σ:St}{H:Hp}{s:Shared}{a:Addr}{x:Str}{c:Value}{np:Pos}{Q:Value->Shared->Prop}{E:Value->Shared->Prop}(hc:Names X x c)(S3:Inv (X.suite a pn) pins σ H s)(q:Q c s):
  wpAny (model X.prog X.w) (X.A.mark (some (.ref a))) (eval (.Name x np) X.env) Q E s:=by
 obtain⟨hg,hd,hm | ⟨hm,hv,hn⟩⟩:=hc
 ·exact ld_glob (X:=X.suite a pn) S3 hg hm q hd
 ·exact ld_blt (X:=X.suite a pn) S3 hg hm hv q hn hd
theorem test_at {t:Expr}{cs:List Value}(ht:TestX X t cs){pn pins:List (Addr × Obj)}{σ:St}{H:Hp}{s:Shared}{a:Addr}{oe:Obj}{cls:Value}{b:Bool}{Q:Bool->Shared->Prop}{E:Value->Shared->Prop}(S3:Inv (X.suite a pn) pins σ H s)
  (he:s.heap.get? a=some oe) (hz:oe.cls=cls) (hx:PySem.W.exmAny X.K cls cs=some b) (q:∀ h',(∀ b o,s.heap.get? b=some o->h'.get? b=some o)->Q b { s with heap:=h' }) :
  wpAny (model X.prog X.w) (X.A.mark (some (.ref a))) (eval t X.env) (λc s1=>wpAny (model X.prog X.w) (X.A.mark (some (.ref a))) (excMatches (.ref a) c) Q E s1) E s:=by
 have kin:X.K.In s.heap:=S3.kIn
 have LT:PySem.W.Looks (model X.prog X.w) s.heap (typeOf (.ref a)) cls:=λA Q E s k q=>wpAny_typeOf_ref (k _ _ he) (by rw[hz];exact q)
 have kp:∀ (o2:Obj) b o,s.heap.get? b=some o->(s.heap.push o2).get? b=some o:=λo2 _ _ z=>Heap.get?_push_of_some _ z
 cases ht with
 | one h1=>
  exact UK h1 S3 ((PySem.W.exm_one (M:=model X.prog X.w) kin LT (exm1 hx)).here (q s.heap λ_ _ z=>z))
 | @two x1 x2 c1 c2 p1 p2 p k h1 h2=>
  refine wpAny_Tuple (wpAny_items_cons (UK h1 S3 (wpAny_items_cons (UK h2 S3 (wpAny_items_nil ⟨by size_fits,?_⟩)))))
  exact (PySem.W.exm_tup2 (M:=model X.prog X.w) (kin.keeps (kp _)) (LT.keeps (kp _)) (Heap.get?_push_size s.heap rfl) hx).here (q _ (kp _))
 | @three x1 x2 x3 c1 c2 c3 p1 p2 p3 p k h1 h2 h3=>
  refine wpAny_Tuple (wpAny_items_cons (UK h1 S3 (wpAny_items_cons (UK h2 S3 (wpAny_items_cons (UK h3 S3 (wpAny_items_nil ⟨by size_fits,?_⟩)))))))
  exact (PySem.W.exm_tup3 (M:=model X.prog X.w) (kin.keeps (kp _)) (LT.keeps (kp _)) (Heap.get?_push_size s.heap rfl) hx).here (q _ (kp _))
theorem ps_tryX (hs:X.stack=X.env :: X.outer)(hf:X.env.frame=some X.env.locals)(hN:X.N.Nodup)(tk:Takes X Wout)
  (hb:∀ (W:WX) (pn:List (Addr × Obj)) (xe:Value->Shared->Prop),Takes (X.tr pn xe) W->PassesOwn (model X.prog X.w) X.A X.env xe->PSs (X.tr pn xe) body (tb W))
  (hh:ClsX X (h₀ :: hds) l):PS X (.Try body (h₀ :: hds) [] [] pos) (λD σ H=>tb (wX X.K Wout D l) D σ H):=by
 refine⟨λpins s σ H D I h=>?_⟩
 have ok:=I.ok
 have hfr:X.A.frames=some (X.env :: X.outer):=by rw[ok.frames,hs]
 refine wpAny_Try_except (wpAny_mono ((hb (wX X.K Wout D l) (X.pn++pins) (λe s₁=>wpAny (model X.prog X.w) X.A (noteFrame e X.env) (λ_ s₂=>wpAny (model X.prog X.w) X.A (setFlight e none) (λ_ s₃=>
  wpAny (model X.prog X.w) X.A (handleBy e X.env (h₀ :: hds)) (SP X pins D) X.xe s₃) X.xe s₂) X.xe s₁) (λu s' xx=>?_) PassesOwn.looking).run [] s σ H D (I.toTry _) h) (λf s1 z=>?_) λ_ _ z=>z)
 ·obtain⟨a,B,sI,pins',σ',H',cls,d,rfl,J',nb,up,sky,na,os,ag,w⟩:=xx
  have J:Inv X pins σ' H' sI:=J'.ofTry ok
  have sky':Sky B (X.env :: X.outer) a (Zc cls d) X.env.locals s'.heap:=by rw[<- hs];exact sky
  show wpAny (model X.prog X.w) X.A (noteFrame (.ref a) X.env) _ _ _
  refine Sky.land Zc.steady hfr hf sky' λh3 fl3 up3=>?_
  have go:∀ {hds':List ExceptHandler} {l':List Zbd},ClsX X hds' l' -> wX X.K Wout D l' cls d σ' H' -> ∀ h3,HandSPX.FlyingZ B (X.env :: X.outer) a (Zc cls d) h3->s'.heap.UpToSlots h3 ->
    wpAny (model X.prog X.w) X.A (handleBy (.ref a) X.env hds') (SP X pins D) X.xe { s' with heap:=h3 }:=by
   intro hds' l' hk
   induction hk with
   | nil=>
    intro w h3 fl3 up3
    refine wpAny_handleBy_nil ?_
    obtain⟨_,_,_,oe,vs,T,oT,ts',he,hz,hd,h1,_⟩:=id fl3
    unfold PySem.passOn
    refine wpAny_bind (wpAny_field he hd h1 ?_)
    rw[if_neg (show ¬ ((Value.ref T==Value.none)=true) from by simp)]
    have out:wpAny (model X.prog X.w) X.A (setFlight (.ref a) X.env.frame) (λ_ s4=>wpAny (model X.prog X.w) X.A (throw (.ref a):Sem Flow) (SP X pins D) X.xe s4) X.xe { s' with heap:=h3 }:=by
     rw[hf]
     exact HandSPX.setFlight_upZ fl3 λh4 hh4 up4=>wpAny_throw (tk _ _ ⟨a,B,sI,pins,σ',H',cls,d,rfl,J,nb,(up.trans up3).trans up4,.inr (.inr (by rw[hs];exact hh4)),na,os,ag,w⟩)
    first
     | exact wpAny_bind (wpAny_pure (wpAny_bind out))
     | exact wpAny_bind out
   | @cons t cs i n ts b₀ suite pos' hds2 l2 ht hi hln hsu r ih=>
    intro w h3 fl3 up3
    obtain⟨b,hb1,hyes,hno⟩:=w
    have loc:Loc X.env.scope n:=.inl hln
    have J3:Inv X pins σ' H' { s' with heap:=h3 }:=J.landed nb fl3.1 (up.trans up3) os ag
    obtain⟨oe3,vs3,he3,hz3,hd3⟩:=fl3.there
    have nfr:a ∉ frs (X.env :: X.outer):=λhm=>by
     obtain⟨_,o',e',hnf⟩:=fl3.2.2.1.mem hm
     rw[he3] at e';cases e'
     exact hnf _ hd3
    have nL:a≠X.env.locals:=λz=>nfr (List.mem_filterMap.mpr ⟨X.env,List.mem_cons_self,by rw[hf,z]⟩)
    have nF:a ∉ X.fs:=λhm=>by
     obtain⟨e,he,q⟩:=List.mem_filterMap.mp hm
     exact nfr (List.mem_filterMap.mpr ⟨e,List.mem_cons_of_mem _ he,q⟩)
    refine wpAny_handleBy_cons (codeAny_handlers_test (test_at ht (J3.suite he3 hd3 na nL nF) he3 hz3.1 hb1 λh5 kp=>?_)) (by intro q;cases q)
    have fl5:=flyZ_kept fl3 kp
    have up5:=up3.trans (Heap.UpToSlots.of_keeps kp)
    cases b with
    | false=>exact ih (hno rfl) h5 fl5 up5
    | true=>
     refine codeAny_handlers_suite_as ?_
     refine HandSPX.lands_againZ fl5 λh4 fl4 up4=>?_
     have J4:Inv X pins σ' H' { s' with heap:=h4 }:=J.landed nb fl4.1 ((up.trans up5).trans up4) os ag
     obtain⟨oe4,vs4,he4,hz4,hd4⟩:=fl4.there
     refine store_ok (X:=X.suite a ((a,oe4) :: (X.pn++pins))) (v:=.ref a) (J4.suite he4 hd4 na nL nF) hN hi loc rfl (λs5 S5=>?_) (.inr hln)
     have back:∀ {s6:Shared} {σ6:St} {H6:Hp} {Q:Shared->Prop},Inv (X.suite a ((a,oe4) :: (X.pn++pins))) [] σ6 H6 s6->(∀ s7,Inv X pins (σ6.set i none) H6 s7->Q s7) ->
       wpAny (model X.prog X.w) X.A (do bindName X.env n .none;unbindBehindTheSuite X.env n pos') (λ_ s7=>Q s7) X.xe s6:=λ{s6 σ6 H6 Q} S6 hq=>gone_ok (S6.unsuite ok) hN hi hln hq
     refine wpAny_mono ((hsu a oe4 cls d (X.pn++pins) hz4 ⟨_,hd4⟩).run [] s5 _ H' _ S5 (hyes rfl a na)) (λf s6 z=>?_) (λ_ _ z=>False.elim z)
     cases f with
     | ret u=>
      obtain⟨v6,σ6,H6,S6,r6,q6⟩:=z
      exact back S6 λs7 J7=>⟨_,_,_,J7,r6,q6⟩
     | next=>obtain⟨σ6,H6,S6,q6⟩:=z;exact back S6 λs7 J7=>⟨_,_,J7,q6⟩
     | brk=>obtain⟨σ6,H6,S6,q6⟩:=z;exact back S6 λs7 J7=>⟨_,_,J7,q6⟩
     | cont=>obtain⟨σ6,H6,S6,q6⟩:=z;exact back S6 λs7 J7=>⟨_,_,J7,q6⟩
  exact go hh w h3 fl3 up3
 ·cases f with
  | ret u=>obtain⟨v,σ',H',J',r,q⟩:=z;exact⟨v,σ',H',J'.ofTry ok,r,q⟩
  | next=>obtain⟨σ',H',J',q⟩:=z;exact wpAny_execs_nil ⟨σ',H',J'.ofTry ok,q⟩
  | brk=>obtain⟨σ',H',J',q⟩:=z;exact⟨σ',H',J'.ofTry ok,q⟩
  | cont=>obtain⟨σ',H',J',q⟩:=z;exact⟨σ',H',J'.ofTry ok,q⟩
end
abbrev HdD:=List Nat × Nat × List Str
@[simp] def pickL (fl:List Str)(ds:List D):List Str->Option (List D)
 | []=>some []
 | f :: r=>match (fl.zip ds).lookup f with
  | some d=>match pickL fl ds r with
   | some vs=>some (d :: vs)
   | none=>none
  | none=>none
@[simp] def dHds (up:Nat->List Nat)(fld:Nat->List Str):List HdD->Nat->List D->Env->Zd->ResS
 | [],c,ds,env,st=>.exc c ds env st
 | (cl,i,fs) :: r,c,ds,env,st=>bif cl.any λd=>(up c).contains d then (match pickL (fld c) ds fs with
  | some vs=>bif vs.length.ble 1000&&Nat.blt i env.length then .rt .z (.con .tup vs) st else .stuck
  | none=>.stuck) else dHds up fld r c ds env st
@[simp] def dTry (up:Nat->List Nat)(fld:Nat->List Str)(b:Zi)(hs:List HdD):Zi:=λenv st=>match b env st with
 | .exc c ds env1 st1=>dHds up fld hs c ds env1 st1
 | r=>r
structure XF (K:PySem.W.Frag)(G:Sg)(up:Nat->List Nat)(fld:Nat->List Str):Prop where
 exm:∀ c∈G.xs,∀ d∈G.xs,PySem.W.exmOne K (.ref (G.cls c)) (.ref (G.cls d))=some ((up c).contains d)
 xf:∀ c∈G.xs,XfC K (G.cls c)
 no:∀ c∈G.xs,∀ f∈fld c,PySem.W.findIn K (.ref (G.cls c)) f=some none
 fl:∀ c∈G.xs,G.fld c=fld c
def tXu (K:PySem.W.Frag)(a:Addr)(cls:Value)(d:Option Addr)(i:Nat)(f:Str):TE:=λσ H Q=>∃ C dd fs v,cls=.ref C∧XfC K C∧PySem.W.findIn K (.ref C) f=some none∧σ[i]?=some (some (.ref a))∧d=some dd∧H dd=some (.xd fs)∧fs.lookup f=some v∧Q v H
def tXs (K:PySem.W.Frag)(a:Addr)(cls:Value)(d:Option Addr)(i:Nat):List Str->TA
 | []=>tNil
 | f :: r=>tCons (tXu K a cls d i f) (tXs K a cls d i r)
section
variable {X:Cx}{a:Addr}{oe:Obj}{cls:Value}{d:Option Addr}{pn:List (Addr × Obj)}{i:Nat}{n f:Str}{p pos:Pos}
theorem pe_xu (hN:X.N[i]?=some n)(hv:Vis X.env.scope n)(hz:Zc cls d oe)(hf:∃ vs,oe.data=.fields vs)(hdb:(n==("__debug__":Str))=false)(hcd:(n==("__classdict__":Str))=false)(hb:attributeBase (.Name n p) f X.env (eval (.Name n p) X.env)=eval (.Name n p) X.env):
  PE (X.suite a ((a,oe) :: pn)) (.Attribute (.Name n p) f pos) (tXu X.K a cls d i f):=by
 refine⟨λpins s σ H Q I h=>?_⟩
 obtain⟨C,dd,fs,v,e1,h1,h2,h3,h4,h5,h6,q⟩:=h
 exact (pe_xf (C:=C) h1 h2 hz hf (pe_var (i:=i) hN hv hdb hcd) hb).run pins s σ H Q I ⟨.ref a,h3,rfl,e1,dd,fs,v,h4,h5,h6,q⟩
inductive FldsX (n:Str):List Expr->List Str->Prop
 | nil:FldsX n [] []
 | cons {p pos:Pos} {f:Str} {es:List Expr} {fs:List Str}:FldsX n es fs->FldsX n (.Attribute (.Name n p) f pos :: es) (f :: fs)
theorem pa_xs (hN:X.N[i]?=some n)(hv:Vis X.env.scope n)(hz:Zc cls d oe)(hf:∃ vs,oe.data=.fields vs)(hdb:(n==("__debug__":Str))=false)(hcd:(n==("__classdict__":Str))=false){es:List Expr}{fs:List Str}(h:FldsX n es fs)
  (hb:∀ f∈fs,∀ p,attributeBase (.Name n p) f X.env (eval (.Name n p) X.env)=eval (.Name n p) X.env):PA (X.suite a ((a,oe) :: pn)) es (tXs X.K a cls d i fs):=by
 induction h with
 | nil=>exact pa_nil
 | @cons p pos f es fs h ih=>exact pa_cons (pe_xu hN hv hz hf hdb hcd (hb f List.mem_cons_self p)) (ih λg hg=>hb g (List.mem_cons_of_mem _ hg)) (by rfl)
end
theorem zip_look {fl:List Str}{ds:List D}{f:Str}{d:D}(h:(fl.zip ds).lookup f=some d):∃ i:Nat,fl[i]?=some f∧ds[i]?=some d:=by
 induction fl generalizing ds with
 | nil=>cases h
 | cons g fl ih=>
  cases ds with
  | nil=>cases h
  | cons x ds=>
   rw[List.zip_cons_cons,List.lookup_cons] at h
   split at h
   ·rename_i e
    cases h
    exact⟨0,by rw[eq_of_beq e];rfl,rfl⟩
   ·obtain⟨i,h1,h2⟩:=ih h
    exact⟨i+1,h1,h2⟩
theorem xreps_get {G:Sg}{Fz:Addr->Prop}{am:List Addr}{H:Hp}:∀ {ds:List D} {vs:List V} {i:Nat} {d:D},Reps G Fz am H (zs ds.length) vs ds (λ_=>0)->ds[i]?=some d->∃ v,vs[i]?=some v∧Rep G Fz am H .z v d (λ_=>0)
 | x :: ds,v :: vs,i,d,r,e=>by
  rw[show zs (x :: ds).length=.z :: zs ds.length from List.replicate_succ] at r
  cases r with
  | cons h1 h2 h3=>
   cases i with
   | zero=>cases e;exact⟨v,rfl,h1.fp h1.z0⟩
   | succ i=>exact xreps_get (ds:=ds) (vs:=vs) (i:=i) (h2.fp h2.z0) (by simpa using e)
section
variable {G:Sg}{K:PySem.W.Frag}{up:Nat->List Nat}{fld:Nat->List Str}
theorem xs_run {Fz:Addr->Prop}{am:List Addr}{H:Hp}{c:Nat}{ds:List D}{vs:List V}{a dd:Addr}{fs:List (Str × V)}{i:Nat}{σ:St}(F:XF K G up fld)(hc:c∈G.xs)(r:Reps G Fz am H (zs ds.length) vs ds (λ_=>0))
  (hv:∀ (i:Nat) (x:Str),(G.fld c)[i]?=some x->∀ v,vs[i]?=some v->fs.lookup x=some v) (hd:H dd=some (.xd fs)) (hσ:σ[i]?=some (some (.ref a))):∀ {l:List Str} {pd:List D},pickL (fld c) ds l=some pd ->
  ∃ pv:List V,Reps G Fz am H (zs pd.length) pv pd (λ_=>0)∧∀ Q,Q pv H->tXs K a (.ref (G.cls c)) (some dd) i l σ H Q
 | [],pd,e=>by
  cases e
  exact⟨[],.nil λ_=>rfl,λQ q=>q⟩
 | f :: l,pd,e=>by
  unfold pickL at e
  split at e
  ·rename_i d e1
   split at e
   ·rename_i ps e2
    cases e
    obtain⟨pv,k1,k2⟩:=xs_run F hc r hv hd hσ e2
    obtain⟨j,j1,j2⟩:=zip_look e1
    obtain⟨v,v1,v2⟩:=xreps_get r j2
    refine⟨v :: pv,?_,λQ q=>⟨G.cls c,dd,fs,v,rfl,F.xf c hc,F.no c hc f (List.mem_of_getElem? j1),hσ,rfl,hd,hv j f (by rw[F.fl c hc];exact j1) v v1,k2 _ q⟩⟩
    rw[show zs (d :: ps).length=.z :: zs ps.length from List.replicate_succ]
    exact .cons v2 k1 (n1:=λ_=>0) (n2:=λ_=>0) λ_=>rfl
   ·cases e
  ·cases e
theorem exm_any {c:Nat}(F:XF K G up fld)(hc:c∈G.xs):∀ {cl:List Nat},(∀ d∈cl,d∈G.xs)->PySem.W.exmAny K (.ref (G.cls c)) (cl.map λd=>Value.ref (G.cls d))=some (cl.any λd=>(up c).contains d)
 | [],_=>rfl
 | d :: cl,h=>by
  show (match PySem.W.exmOne K _ _,PySem.W.exmAny K _ _ with | some b,some d=>some (b||d) | _,_=>none)=_
  rw[F.exm c hc d (h d List.mem_cons_self),exm_any F hc λx hx=>h x (List.mem_cons_of_mem _ hx)]
  rfl
def tsX (K:PySem.W.Frag)(i:Nat)(fs:List Str):Addr->Value->Option Addr->TS:=λa cls d=>tRet (tTup (tXs K a cls d i fs))
def clsOf (K:PySem.W.Frag)(G:Sg)(hs:List HdD):List Zbd:=hs.map λh=>(h.1.map λd=>Value.ref (G.cls d),h.2.1,tsX K h.2.1 h.2.2)
theorem hds_run {g:Gd}{T:List Tm}{W:WX}{En:Ends}{c:Nat}{ds:List D}{env:Env}{st:Zd}{σ:St}(F:XF K G up fld):∀ {hs:List HdD},(∀ h∈hs,∀ d∈h.1,d∈G.xs)->UQ G g T W En (dHds up fld hs c ds env st) ->
  ∀ cls dx H',RlB G g env st [] σ H' (ExcB G H' c ds cls dx)->wX K W En (clsOf K G hs) cls dx σ H'
 | [],_,h=>λcls dx H' R=>h σ cls dx H' R
 | (cl,i,fs) :: hs,hx,h=>λcls dx H' R=>by
  have h1:=hx _ List.mem_cons_self
  obtain⟨Fz,am,ne,nt,ns,r1,r2,r3,r4,hc,p,xs,vs,b1,b2,b3,b4,b5⟩:=R
  subst b1 b2
  refine⟨_,exm_any F hc h1,λhb a na=>?_,λhb=>?_⟩
  ·unfold dHds at h
   rw[hb] at h
   dsimp only[cond_true] at h
   split at h
   ·rename_i pd e
    obtain⟨hn,h⟩:=bifT h id
    rw[Bool.and_eq_true] at hn
    have h2:i<σ.length:=r1.len▸Nat.blt_eq.mp hn.2
    obtain⟨pv,k1,k2⟩:=xs_run (a:=a) (σ:=σ.set i (some (.ref a))) F hc b4 b5 b3 (by rw[List.getElem?_set_self h2]) e
    refine k2 _ ⟨by have:=k1.len.2;rw[this];exact ZaW hn.1,λq hq=>h _ _ ?_⟩
    have z:∀ q,nt q=0:=by cases r2 with | nil h=>exact h
    have R0:RlB G g [] st [] [] H' λFz am=>Reps G Fz am H' (zs pd.length) pv pd (λ_=>0):=⟨Fz,am,λ_=>0,λ_=>0,ns,.nil λ_=>rfl,.nil λ_=>rfl,r3,r4.less λq=>by show 0+0+ns q<=_;omega,k1⟩
    exact RlB.new R0 (Vb hq) Va λFz am E k=>rep_tup E k
   ·exact h.elim
  ·refine hds_run (T:=T) F (λx hx'=>hx x (List.mem_cons_of_mem _ hx')) ?_ _ _ H' ⟨Fz,am,ne,nt,ns,r1,r2,r3,r4,hc,p,xs,vs,rfl,rfl,b3,b4,b5⟩
   unfold dHds at h
   rw[hb] at h
   exact h
end
inductive HdsT (S:Sx):List ExceptHandler->List HdD->Prop
 | nil:HdsT S [] []
 | cons {t:Expr} {cl:List Nat} {i:Nat} {n:Str} {es:List Expr} {fs:List Str} {x1:Nat} {p1 p2 pos:Pos} {hds:List ExceptHandler} {l:List HdD} (ht:∀ X,Stx S X->TestX X t (cl.map λd=>Value.ref (S.G.cls d))) (hcl:∀ d∈cl,d∈S.G.xs) (hN:S.N[i]?=some n) (hv:S.sc.names.lookup n=some .local)
   (hdb:(n==("__debug__":Str))=false) (hcd:(n==("__classdict__":Str))=false) (he:FldsX n es fs) (hb:∀ (env:PySem.Env),env.scope=S.sc->∀ f∈fs,∀ p,attributeBase (.Name n p) f env (eval (.Name n p) env)=eval (.Name n p) env) (r:HdsT S hds l) :
   HdsT S (.ExceptHandler (some t) (some n) [.Return (some (.Tuple es x1 p1)) p2] pos :: hds) ((cl,i,fs) :: l)
section
variable {S:Sx}{body:List Stmt}{h₀:ExceptHandler}{hds:List ExceptHandler}{l:List HdD}{pos:Pos}{db:Zi}{up:Nat->List Nat}{fld:Nat->List Str}
theorem stx_tr {X:Cx}(hX:Stx S X)(pn:List (Addr × Obj))(xe:Value->Shared->Prop)(po:PassesOwn (model X.prog X.w) X.A X.env xe):Stx S (X.tr pn xe):=
 ⟨hX.pr,hX.w,hX.mg,hX.base,hX.K,hX.N,hX.sc,hX.nd,hX.calm,hX.room,po,hX.fn,hX.stk,hX.lmk,hX.fnC⟩
theorem cls_ok {X:Cx}(hX:Stx S X):∀ {hds:List ExceptHandler} {l:List HdD},HdsT S hds l->ClsX X hds (clsOf S.G.K S.G l)
 | _,_,.nil=>.nil
 | _,_,.cons (n:=n) ht hcl hN hv hdb hcd he hb r=>by
  have k:X.env.scope.names.lookup n=some .local:=by rw[hX.sc];exact hv
  refine .cons (ht X hX) (by rw[hX.N];exact hN) k (λa oe cls d pn hz hf=>?_) (cls_ok hX r)
  have z:=pa_xs (X:=X) (a:=a) (pn:=pn) (by rw[hX.N];exact hN) (.inl k) hz hf hdb hcd he (λf hf p=>hb X.env hX.sc f hf p)
  rw[hX.K] at z
  exact pss_one (ps_ret (pe_tup z))
theorem hds_xs:∀ {hds:List ExceptHandler} {l:List HdD},HdsT S hds l->∀ h∈l,∀ d∈h.1,d∈S.G.xs
 | _,_,.nil,h,hm=>by cases hm
 | _,_,.cons ht hcl hN hv hdb hcd he hb r,h,hm=>by
  rcases List.mem_cons.mp hm with e | hm
  ·rw[e];exact hcl
  ·exact hds_xs r h hm
theorem ds_try (hb:DSs S body db)(hh:HdsT S (h₀ :: hds) l)(F:XF S.G.K S.G up fld)(hf:S.fnA=true):DS S (.Try body (h₀ :: hds) [] [] pos) (dTry up fld db l):=λW=>by
 let tb:WX->TS:=λW'=>Classical.choose (hb W')
 have tbs:=λW'=>Classical.choose_spec (hb W')
 refine⟨λD σ H=>tb (wX S.G.K W D (clsOf S.G.K S.G l)) D σ H,λX hX tk=>?_,λg env st T σ H D hT R h=>?_⟩
 ·have z:=ps_tryX (X:=X) (tb:=tb) (pos:=pos) (hX.stk hf).1 (hX.stk hf).2 hX.nd tk (λW pn xe tk' po=>(tbs W).1 _ (stx_tr hX pn xe po) tk') (cls_ok hX hh)
  rw[hX.K] at z
  exact z
 ·refine (tbs _).2 g env st T σ H D hT R ?_
  unfold dTry at h
  cases e:db env st with
  | exc c ds env1 st1=>
   rw[e] at h
   exact λσ' cls dx H' R1=>hds_run (T:=T) F (hds_xs hh) h cls dx H' R1
  | nx env1 st1=>rw[e] at h;exact h
  | rt f d st1=>rw[e] at h;exact h
  | bk env1 st1=>rw[e] at h;exact h
  | ct env1 st1=>rw[e] at h;exact h
  | stuck=>rw[e] at h;exact h
end
def tRows (K:PySem.W.Frag):List (Str × TE)->TS
 | []=>tNext
 | (f,te) :: r=>tSeq (tFld K f (tVar 0) te) (tRows K r)
inductive RowsX (X:Cx):List Stmt->List (Str × TE)->Prop
 | nil:RowsX X [] []
 | cons {x f:Str} {p1 p2 pos:Pos} {e:Expr} {te:TE} {ss:List Stmt} {r:List (Str × TE)} (ho:PE X (.Name x p1) (tVar 0)) (he:PE X e te) (hs:swapsWith e (some (.Attribute (.Name x p1) f p2)) pos.line X.env=pure false) (hr:RowsX X ss r) :
   RowsX X (.Assign [.Attribute (.Name x p1) f p2] e pos :: ss) ((f,te) :: r)
theorem rows_pss {X:Cx}{ss:List Stmt}{r:List (Str × TE)}(h:RowsX X ss r):PSs X ss (tRows X.K r):=by
 induction h with
 | nil=>exact pss_nil
 | cons ho he hs hr ih=>exact pss_cons (ps_fld ho he hs) ih
theorem upd_id {H:Hp}{a:Addr}{o:HO}(e:H a=some o):upd H a o=H:=by
 funext b
 by_cases h:b=a
 ·subst h;rw[upd_same,e]
 ·rw[upd_ne h]
theorem upd_upd {H:Hp}{a:Addr}{o u:HO}:upd (upd H a o) a u=upd H a u:=by
 funext b
 by_cases h:b=a
 ·subst h;rw[upd_same,upd_same]
 ·rw[upd_ne h,upd_ne h,upd_ne h]
theorem rows_run {K:PySem.W.Frag}{C a dx:Addr}(T:XCls K C){σ:St}(hσ:σ[0]?=some (some (.ref a))){D:Ends}(hne:dx≠a):∀ {r:List (Str × TE)} {vs:List V} {fs:List (Str × V)} {H:Hp},vs.length=r.length->(∀ (i:Nat) f te v,r[i]?=some (f,te)->vs[i]?=some v->∀ H Q,Q v H->te σ H Q) ->
  (∀ x∈r,PySem.W.takerIn K C x.1=some none)->H a=some (exo a C (some dx))->H dx=some (exd dx fs)->fs.length+r.length<=900->D.nx σ (upd H dx (exd dx (((r.map (·.1)).zip vs).reverse++fs)))->tRows K r D σ H
 | [],vs,fs,H,hl,hv,ht,ha,hd,hn,h=>by
  have e:upd H dx (exd dx fs)=H:=upd_id hd
  have h:D.nx σ (upd H dx (exd dx fs)):=h
  rw[e] at h
  exact h
 | (f,te) :: r,v :: vs,fs,H,hl,hv,ht,ha,hd,hn,h=>by
  have hn:fs.length+(r.length+1)<=900:=hn
  show tFld K f (tVar 0) te _ σ H
  refine hv 0 f te v rfl rfl _ _ ⟨.ref a,hσ,a,C,rfl,T,ht _ List.mem_cons_self,.inr ⟨dx,fs,ha,hd,by omega,?_⟩⟩
  refine rows_run T hσ hne (r:=r) (vs:=vs) (fs:=(f,v) :: fs) (by simpa using hl) (λi g te' w e1 e2=>hv (i+1) g te' w (by simpa using e1) (by simpa using e2)) (λx hx=>ht x (List.mem_cons_of_mem _ hx)) (by rw[upd_ne hne.symm];exact ha) upd_same (by simp;omega) ?_
  rw[upd_upd]
  have e:((r.map (·.1)).zip vs).reverse++(f,v) :: fs=((((f,te) :: r).map (·.1)).zip (v :: vs)).reverse++fs:=by simp
  rw[e]
  exact h
def spX (C:Addr)(n:Nat)(fl:List Str)(val:List V->List V):Sp:=λvs H Q _=>∃ a rest,vs=.ref a :: rest∧rest.length=n∧H a=some (exo a C none) ∧
 ∀ dx,H dx=none->dx≠a->Q .non (upd (upd (upd H dx (exd dx [])) a (exo a C (some dx))) dx (exd dx (fl.zip (val rest)).reverse))
theorem rows_first {K:PySem.W.Frag}{C a:Addr}(T:XCls K C){σ:St}(hσ:σ[0]?=some (some (.ref a))){D:Ends}{f:Str}{te:TE}{r:List (Str × TE)}{v:V}{vs:List V}{H:Hp}(hl:vs.length=r.length)(hv:∀ (i:Nat) g te' w,((f,te) :: r)[i]?=some (g,te')->(v :: vs)[i]?=some w->∀ H Q,Q w H->te' σ H Q)
  (ht:∀ x∈(f,te) :: r,PySem.W.takerIn K C x.1=some none) (ha:H a=some (exo a C none)) (hn:r.length<=800)
  (h:∀ dx,H dx=none->dx≠a->D.nx σ (upd (upd (upd H dx (exd dx [])) a (exo a C (some dx))) dx (exd dx ((((f,te) :: r).map (·.1)).zip (v :: vs)).reverse))):tRows K ((f,te) :: r) D σ H:=by
 show tFld K f (tVar 0) te _ σ H
 refine hv 0 f te v rfl rfl _ _ ⟨.ref a,hσ,a,C,rfl,T,ht _ List.mem_cons_self,.inl ⟨ha,λdx n ne=>?_⟩⟩
 refine rows_run T hσ (dx:=dx) ne (r:=r) (vs:=vs) (fs:=[(f,v)]) hl (λi g te' w e1 e2=>hv (i+1) g te' w (by simpa using e1) (by simpa using e2)) (λx hx=>ht x (List.mem_cons_of_mem _ hx)) upd_same (by rw[upd_ne ne,upd_same]) (by simp;omega) ?_
 have e1:upd (upd (upd H dx (exd dx [(f,v)])) a (exo a C (some dx))) dx (exd dx (((r.map (·.1)).zip vs).reverse ++ [(f,v)]))=upd (upd (upd H dx (exd dx [])) a (exo a C (some dx))) dx (exd dx ((((f,te) :: r).map (·.1)).zip (v :: vs)).reverse):=by
  have e2:((r.map (·.1)).zip vs).reverse ++ [(f,v)]=((((f,te) :: r).map (·.1)).zip (v :: vs)).reverse:=by simp
  rw[e2]
  funext b
  by_cases h1:b=dx
  ·subst h1;rw[upd_same,upd_same]
  ·rw[upd_ne h1,upd_ne h1]
   by_cases h2:b=a
   ·subst h2;rw[upd_same,upd_same]
   ·rw[upd_ne h2,upd_ne h2,upd_ne h1,upd_ne h1]
 rw[e1]
 exact h dx n ne
structure XR (S:Sx)(x:Str)(c n:Nat)(w:Str):Prop where
 mem:c∈S.G.xs
 mg:S.mg x=some (.ref (S.G.cls c))
 cl:XCls S.G.K (S.G.cls c)
 nd:(S.G.fld c).Nodup
 len:(S.G.fld c).length=n+1
 ini:∃ fI fd ps,PySem.W.findIn S.G.K (.ref (S.G.cls c)) "__init__"=some (some (.ref fI))∧PySem.W.typeIn S.G.K (.ref fI)=some (.type "function") ∧
  FnOk S.P S.w S.G.K S.mg S.base (L2.CX S.P S.w) 1 fI fd ps (spX (S.G.cls c) n (S.G.fld c) (λr=>.str w :: r))∧L2.Binds S.G.K fd ps []
theorem zip_take:∀ {fl:List Str} {vs:List V},(fl.zip vs).map (·.1)=fl.take vs.length
 | [],vs=>by simp
 | a :: fl,[]=>by simp
 | a :: fl,b :: vs=>by simp[zip_take (fl:=fl) (vs:=vs)]
theorem zip_rev_look {fl:List Str}{vs:List V}(nd:fl.Nodup){i:Nat}{x:Str}{v:V}(h1:fl[i]?=some x)(h2:vs[i]?=some v):((fl.zip vs).reverse).lookup x=some v:=by
 have uni:∀ {l:List (Str × V)},(l.map (·.1)).Nodup->(x,v)∈l->l.lookup x=some v:=by
  intro l
  induction l with
  | nil=>intro _ h;cases h
  | cons a l ih=>
   intro nd h
   obtain⟨y,u⟩:=a
   rw[List.lookup_cons]
   rcases List.mem_cons.mp h with e | h
   ·cases e;rw[beq_self_eq_true]
   ·have nd':=List.nodup_cons.mp (show (y :: l.map (·.1)).Nodup from nd)
    have ne:(x==y)=false:=by
     cases e:x==y with
     | false=>rfl
     | true=>exact absurd (eq_of_beq e▸List.mem_map.mpr ⟨(x,v),h,rfl⟩) nd'.1
    rw[ne]
    exact ih nd'.2 h
 refine uni ?_ (List.mem_reverse.mpr (List.mem_of_getElem? (i:=i) (by rw[List.getElem?_zip_eq_some];exact⟨h1,h2⟩)))
 rw[List.map_reverse]
 refine (List.reverse_perm _).nodup_iff.mpr (List.Nodup.sublist ?_ nd)
 rw[zip_take]
 exact List.take_sublist _ _
@[simp] def UD (c:Nat)(w:Str)(as:DenL):Zi:=λenv st=>match as env st with
 | .ok ts st1=>bif keeps ts&&ts.length.ble 900 then .exc c (.str w :: ts.map λt=>t.2.2) env st1 else .stuck
 | .exc c' ds st1=>.exc c' ds env st1
 | .stuck=>.stuck
section
variable {S:Sx}{x w:Str}{c n:Nat}{g:Gd}{env:Env}{st:Zd}{T:List Tm}{σ:St}{H:Hp}{W:WX}{vs:List V}{ts:List (Fr × Bool × D)}
theorem raise_post (R:XR S x c n w)(hn:ts.length=n)(hT:ZL T)(R0:Rl S.G g env st (mkT vs ts++T) σ H)(hl:vs.length=ts.length)(hk:keeps ts=true)(hs:ts.length.ble 900=true){D:Ends}
  (h:UQ S.G g T W D (.exc c (.str w :: ts.map λt=>t.2.2) env st)):mkX (S.G.cls c) (spX (S.G.cls c) n (S.G.fld c) (λr=>.str w :: r)) [] vs H λcls d H'=>W cls d σ H':=by
 refine⟨by have:=Nat.le_of_ble_eq_true hs;omega,λa na=>?_⟩
 rw[List.append_nil]
 refine⟨a,vs,rfl,by rw[hl,hn],upd_same,λdx ndx hne=>⟨rfl,dx,((S.G.fld c).zip (.str w :: vs)).reverse,by rw[upd_ne hne.symm,upd_same],upd_same,?_,?_⟩⟩
 ·rw[upd_ne hne] at ndx;exact ndx
 ·rw[upd_ne hne] at ndx
  have same:Same H (upd (del (upd (upd (upd (upd H a (exo a (S.G.cls c) none)) dx (exd dx [])) a (exo a (S.G.cls c) (some dx))) dx (exd dx ((S.G.fld c).zip (.str w :: vs)).reverse)) a) dx (.xd ((S.G.fld c).zip (.str w :: vs)).reverse)):=λb o e=>by
   have n1:b≠dx:=ne_of_none e ndx
   have n2:b≠a:=ne_of_none e na
   rw[upd_ne n1,del_ne n2,upd_ne n1,upd_ne n2,upd_ne n1,upd_ne n2]
   exact e
  obtain⟨Fz,am,ne,nt,ns,h1,h2,h3,h4,h5⟩:=Rl.frzL R0 hl hk
  have E:Ext Fz am H Fz am (upd (del (upd (upd (upd (upd H a (exo a (S.G.cls c) none)) dx (exd dx [])) a (exo a (S.G.cls c) (some dx))) dx (exd dx ((S.G.fld c).zip (.str w :: vs)).reverse)) a) dx (.xd ((S.G.fld c).zip (.str w :: vs)).reverse)):=Ext.same same λ_ z=>z
  refine h σ _ _ _ ⟨Fz,am,ne,λ_=>0,ns,h1.ext E λp o _ e=>same _ _ e,.nil λ_=>rfl,Reps.ext E h3 λp o _ e=>same _ _ e,(h4.grow same (m:=λ_=>0) (λp hp=>absurd hp (Nat.lt_irrefl 0)) (t':=λp=>ne p+nt p+ns p) λq=>by simp).less λq=>by show ne q+0+ns q<=_;omega,R.mem,dx,_,.str w :: vs,rfl,rfl,upd_same,?_,λi y e1 v e2=>zip_rev_look R.nd e1 e2⟩
  show Reps S.G Fz am _ (zs ((ts.map λt=>t.2.2).length+1)) _ _ _
  rw[show zs ((ts.map λt=>t.2.2).length+1)=.z :: zs (ts.map λt=>t.2.2).length from List.replicate_succ,List.length_map]
  exact .cons (.sc (show Scal S.G (.str w) (.str w) from rfl) λ_=>rfl) (Reps.ext E h5 λp o hp=>absurd hp (Nat.lt_irrefl 0)) (n1:=λ_=>0) (n2:=λ_=>0) λ_=>rfl
end
section
variable {S:Sx}{x w:Str}{c n:Nat}{e:Expr}{es:List Expr}{das:DenL}{p pos pos2:Pos}
theorem Zcc (R:XR S x c n w)(hk:2<=S.k)(hg:S.sc.names.lookup x=some .globalImplicit)(hdb:(x==("__debug__":Str))=false)(ha:DA S (e :: es) das)(hp:ZD (e :: es)=true)(hlen:∀ env st ts st1,das env st=.ok ts st1->ts.length=n):
  DS S (.Raise (some (.Call (.Name x p) (e :: es) [] pos)) none pos2) (UD c w das):=λW=>by
 obtain⟨fI,fd,ps,i1,i2,i3,i4⟩:=R.ini
 obtain⟨ta,pa,qa⟩:=ha W
 have h1:=Zv hp
 refine⟨_,λX hX tk=>ps_raise hX.calm tk (pmk_x (CX:=L2.CX X.prog X.w) (k:=1) (sp:=spX (S.G.cls c) n (S.G.fld c) (λr=>.str w :: r)) (by rw[hX.K];exact R.cl) (by rw[hX.K];exact i1) (by rw[hX.K];exact i2) (by rw[hX.pr,hX.w,hX.mg,hX.base,hX.K];exact i3) (hX.room.mono hk) (by rw[hX.K];exact i4) .nil
  (passes_call tk λ_ _ _ _ z=>z.elim) (show X.env.scope.names.lookup x=some .globalImplicit by rw[hX.sc];exact hg) (by rw[hX.mg];exact R.mg) (pa X hX tk) hdb (Wo (h1 e List.mem_cons_self)) (noStar λy hy=>h1 y (List.mem_cons_of_mem _ hy))),λg env st T σ H D hT R0 h=>?_⟩
 refine qa g env st T σ H _ hT R0 ?_
 unfold UD at h
 cases e1:das env st with
 | stuck=>rw[e1] at h;exact h.elim
 | exc c' ds st1=>rw[e1] at h;exact h σ
 | ok ts st1=>
  rw[e1] at h
  dsimp only at h
  cases hc:(keeps ts&&ts.length.ble 900) with
  | false=>rw[hc] at h;exact h.elim
  | true=>
   rw[hc] at h
   rw[Bool.and_eq_true] at hc
   exact λvs H1 hl R1=>raise_post R (hlen env st ts st1 e1) hT R1 hl hc.1 hc.2 h
end
end Hx
namespace Hx
open PySem PySem.Spec L2
abbrev P2 (x y:Int):D:=.con .tup [.int x,.int y]
theorem eqD_int {i j:Int}:eqD (.int i) (.int j)=some (i==j):=by
 simp[eqD,D.py,SeqAt.shaped,PyData.canLay0,PyData.depth,PyData.eqv]
theorem eqD_bl {i j:Bool}:eqD (.bl i) (.bl j)=some (i==j):=by
 simp[eqD,D.py,SeqAt.shaped,PyData.canLay0,PyData.depth,PyData.eqv]
def Sm (n:Nat)(i:Int):Prop:=i.natAbs<2 ^ n
theorem Sm.mono {n m:Nat}{i:Int}(h:Sm n i)(k:n<=m):Sm m i:=Nat.lt_of_lt_of_le h (Nat.pow_le_pow_right (by decide) k)
theorem Sm.mul {n m:Nat}{i j:Int}(h:Sm n i)(k:Sm m j):Sm (n+m) (i * j):=by
 unfold Sm at *
 rw[Int.natAbs_mul,Nat.pow_add]
 exact Nat.mul_lt_mul'' h k
theorem Sm.add {n m:Nat}{i j:Int}(h:Sm n i)(k:Sm m j):Sm (max n m+1) (i+j):=by
 have h':=h.mono (Nat.le_max_left n m)
 have k':=k.mono (Nat.le_max_right n m)
 unfold Sm at *
 rw[Nat.pow_succ]
 omega
theorem Sm.sub {n m:Nat}{i j:Int}(h:Sm n i)(k:Sm m j):Sm (max n m+1) (i - j):=by
 have h':=h.mono (Nat.le_max_left n m)
 have k':=k.mono (Nat.le_max_right n m)
 unfold Sm at *
 rw[Nat.pow_succ]
 omega
theorem Sm.lg {n:Nat}{i:Int}(h:Sm n i):i.natAbs.log2<=n:=Nat.lt_succ_iff.mp (PySem.Flt.log2_lt_of (Nat.succ_pos n) (h.mono (Nat.le_succ n)))
theorem Sm.ok {n m:Nat}{i j:Int}(h:Sm n i)(k:Sm m j)(a:n<=400000)(b:m<=400000):Zas i j=true:=by
 have x:=h.lg
 have y:=k.lg
 simp only[Zas,decide_eq_true_eq]
 omega
theorem divOk_of {n:Nat}{j:Int}(h:Sm n j)(h0:j≠0)(k:n<=9000)(p:0<n):divOk j=true:=by
 have x:j.natAbs.log2<n:=PySem.Flt.log2_lt_of p h
 simp only[divOk,Bool.and_eq_true,decide_eq_true_eq]
 exact⟨h0,by omega⟩
structure Bag (k:Nat)(st:Zd)(c:Nat):Prop where
 ex:∃ (xs:List Int) (i h s n:Int),st[c]?=some (.c .z,.con .lst [.con .lst (xs.map D.int),.int i,.int h,.int s,.int n])∧0<=i∧0<=h∧0<=s∧s<2147483647∧0<=n∧n<=k
theorem Bag.mono {k j:Nat}{st:Zd}{c:Nat}(b:Bag k st c)(h:k<=j):Bag j st c:=by
 obtain⟨xs,i,h',s,n,e,a1,a2,a3,a4,a5,a6⟩:=b.ex
 exact⟨xs,i,h',s,n,e,a1,a2,a3,a4,a5,by omega⟩
structure Fro1 (c:Nat)(st st':Zd):Prop where
 len:st'.length=st.length
 at_:∀ j,j≠c->st'[j]?=st[j]?
theorem Fro1.refl {c:Nat}{st:Zd}:Fro1 c st st:=⟨rfl,λ_ _=>rfl⟩
theorem Fro1.trans {c:Nat}{s1 s2 s3:Zd}(a:Fro1 c s1 s2)(b:Fro1 c s2 s3):Fro1 c s1 s3:=⟨b.len.trans a.len,λj h=>(b.at_ j h).trans (a.at_ j h)⟩
theorem Fro1.set {c:Nat}{st:Zd}{x:Fr × D}:Fro1 c st (st.set c x):=⟨List.length_set,λj h=>by rw[List.getElem?_set_ne (Ne.symm h)]⟩
theorem lk_bag {st:Zd}{c:Nat}{ds:List D}(e:st[c]?=some (.c .z,.con .lst ds)):lk st (.ref c)=.con .lst ds:=by
 simp[lk,e,Fr.flat,Fr.isz]
theorem get_set {st:Zd}{c:Nat}{x y:Fr × D}(e:st[c]?=some x):(st.set c y)[c]?=some y:=by
 have h:=(List.getElem?_eq_some_iff.mp e).1
 rw[List.getElem?_set_self h]
theorem atI_map {xs:List Int}{i:Int}(h0:0<=i)(h:i<xs.length):∃ x,atI (xs.map D.int) i=some (.int x):=by
 have hl:i.toNat<xs.length:=by omega
 refine⟨xs[i.toNat],?_⟩
 simp[atI,ixN,h0,h,hl]
section
variable {i:Nat}{a b c e o:Den}{as:DenL}{t u:DenB}{s r:Zi}{env:Env}{st:Zd}{d d':D}{ds:List D}{op op':Op}{j k:Int}
@[simp] theorem eqD_int' {i j:Int}:eqD (.int i) (.int j)=some (decide (i=j)):=by rw[eqD_int];congr 1
@[simp] theorem eqD_bl' {i j:Bool}:eqD (.bl i) (.bl j)=some (decide (i=j)):=by rw[eqD_bl];cases i<;>cases j<;>rfl
@[simp] theorem isz_z:Fr.isz .z=true:=rfl
@[simp] theorem isz_c {f:Fr}:Fr.isz (.c f)=false:=rfl
@[simp] theorem isz_t {fs:List Fr}:Fr.isz (.t fs)=false:=rfl
@[simp] theorem flat_z:Fr.flat .z=true:=rfl
@[simp] theorem flat_cz:Fr.flat (.c .z)=true:=rfl
@[simp] theorem seq_tup:Kd.seq .tup=true:=rfl
@[simp] theorem seq_lst:Kd.seq .lst=true:=rfl
@[simp] theorem seq_frl:Kd.seq .frl=true:=rfl
@[simp] theorem sq_lst:Kd.sq .lst=true:=rfl
@[simp] theorem sq_frl:Kd.sq .frl=true:=rfl
@[simp] theorem ble_dec {x y:Nat}:Nat.ble x y=decide (x<=y):=by rw[Bool.eq_iff_iff];simp[Nat.ble_eq]
@[simp] theorem lk_int:lk st (.int j)=.int j:=rfl
@[simp] theorem lk_bl {x:Bool}:lk st (.bl x)=.bl x:=rfl
@[simp] theorem lk_non:lk st .non=.non:=rfl
@[simp] theorem lk_str {x:Str}:lk st (.str x)=.str x:=rfl
@[simp] theorem lk_con {x:Kd}:lk st (.con x ds)=.con x ds:=rfl
theorem lk_set {c:Nat}{f:Fr}(hl:c<st.length)(hf:f.flat=true):lk (st.set c (f,d)) (.ref c)=d:=by
 have e:(st.set c (f,d))[c]?=some (f,d):=List.getElem?_set_self hl
 unfold lk
 dsimp only
 rw[e]
 show (bif f.flat then d else .ref c)=d
 rw[hf]
 rfl
@[simp] theorem lk_setc {c:Nat}(hl:c<st.length):lk (st.set c (.c .z,d)) (.ref c)=d:=lk_set hl rfl
@[simp] theorem at0 {x:D}{xs:List D}:atI (x :: xs) 0=some x:=by simp[atI,ixN]
@[simp] theorem at1 {x y:D}{xs:List D}:atI (x :: y :: xs) 1=some y:=by
 have:(1:Int)<(xs.length:Int)+1+1:=by omega
 simp[atI,ixN,this]
@[simp] theorem at2 {x y z:D}{xs:List D}:atI (x :: y :: z :: xs) 2=some z:=by
 have:(2:Int)<(xs.length:Int)+1+1+1:=by omega
 simp[atI,ixN,this]
@[simp] theorem at3 {x y z w:D}{xs:List D}:atI (x :: y :: z :: w :: xs) 3=some w:=by
 have:(3:Int)<(xs.length:Int)+1+1+1+1:=by omega
 simp[atI,ixN,this]
@[simp] theorem at4 {x y z w v:D}{xs:List D}:atI (x :: y :: z :: w :: v :: xs) 4=some v:=by
 have:(4:Int)<(xs.length:Int)+1+1+1+1+1:=by omega
 simp[atI,ixN,this]
end
end Hx
namespace Hx
open PySem PySem.Spec L2
open PyProof.Rows hiding St
@[reducible] def S0 (P:Program)(w:World)(K:PySem.W.Frag)(mg:Str->Option Value)(base:Heap):Sx:=
 ⟨P,w,mg,base,⟨K,λ_=>0,λ_=>[],[],λ_=>none,[]⟩,[],⟨.function,[],false,false,[]⟩,0,true,lams0 λ_=>rfl,none,λ_=>false⟩
theorem WR {fa:List He.Fa}{fn:List He.DefD}{P:Program}{w:World}{K:PySem.W.Frag}{h:Heap}{mg:Str->Option Value}{base:Heap}(c:He.SaysD fa fn K)(X:K.In h)(Gn:h.Ns mainGlobals mg)(i j:Nat){x:Str}{st:Stmt}{d:He.DefD}
  (hd:fn[i]?=some d) (hf:fa[j]?=some (.glo x)) (e:d=⟨(x,none),x,x,defArgs st,defBody st,defScope st,[],[]⟩:=by rfl):Kn (S0 P w K mg base) x st:=by
 subst e
 obtain⟨fd,F⟩:=c.def_ i hd
 exact⟨_,fd,F,He.glo_ok X Gn (c.fact j hf)⟩
def Zcn (cs:List (Str × D))(K:PySem.W.Frag):Bool:=cs.all λq=>gval K q.1 q.2
theorem Zew {cs:List (Str × D)}{K:PySem.W.Frag}(h:Zcn cs K=true)(i:Nat){x:Str}{d:D}(e:cs[i]?=some (x,d)):gval K x d=true:=
 List.all_eq_true.mp h (x,d) (List.mem_of_getElem? e)
def dvOf:D->He.Dv
 | .bl b=>.bl b
 | .int i=>.int i
 | .str s=>.str s
 | _=>.non
theorem dv_v (K:PySem.W.Frag):∀ ds:List D,(ds.map dvOf).map (He.Dv.v K)=ds.map scV
 | []=>rfl
 | d :: ds=>by
  rw[List.map_cons,List.map_cons,List.map_cons,dv_v K ds]
  cases d<;>rfl
def XNL:List Str:=["ShadeError","Missing","Crowded","BadPlace","BadLight","BadSift","BadBlock","BadPiece","BadMenu","BadChoice","BadSetting","BadSort","BadDeed","BadView","BadWish","BadText","Nought","Unknown","NoThing","NoLook","NothingLeft","Full","Looked","TooMany","House","Stand","Desk","Planner","Wisher"]
def XNM (c:Nat):Str:=XNL.getD c ""
@[simp] def XUP:Nat->List Nat
 | 0=>[0] | 1=>[1] | 2=>[2] | 3=>[3,0] | 4=>[4,0] | 5=>[5,0] | 6=>[6,0] | 7=>[7,0] | 8=>[8,0] | 9=>[9,0] | 10=>[10,0] | 11=>[11,0] | 12=>[12,0] | 13=>[13,0] | 14=>[14,0] | 15=>[15,0] | 16=>[16,0] | 17=>[17,0]
 | 18=>[18,1] | 19=>[19,1] | 20=>[20,1] | 21=>[21,2] | 22=>[22,2] | 23=>[23,2] | _=>[]
@[simp] def XFL:Nat->List Str
 | 15=>["word","row"] | 18=>["word","kind","number"] | 19=>["word","number"] | 22=>["word","number"] | 24=>["now","past","gone","held"] | 25=>["floor","menus","notes","came"] | _=>["word"]
def Vh:Nat->List Str->List (Str × TE)
 | _,[]=>[]
 | k,f :: r=>(f,tVar k) :: Vh (k+1) r
theorem Zez:∀ {fl:List Str} {k i:Nat} {f:Str} {te:TE},(Vh k fl)[i]?=some (f,te)->te=tVar (k+i)∧fl[i]?=some f
 | g :: fl,k,0,f,te,e=>by
  have e:some (g,tVar k)=some (f,te):=e
  cases e
  exact⟨rfl,rfl⟩
 | g :: fl,k,i+1,f,te,e=>by
  have e:(Vh (k+1) fl)[i]?=some (f,te):=by simpa [Vh] using e
  obtain⟨h1,h2⟩:=Zez e
  exact⟨by rw[h1];congr 1;omega,by simpa using h2⟩
theorem ZaJ:∀ {fl:List Str} {k:Nat},(Vh k fl).length=fl.length
 | [],_=>rfl
 | f :: fl,k=>congrArg Nat.succ ZaJ
theorem ZaR:∀ {fl:List Str} {k:Nat},(Vh k fl).map (·.1)=fl
 | [],_=>rfl
 | f :: fl,k=>congrArg (f :: ·) ZaR
def xsB (xs rs:List Nat)(K:PySem.W.Frag):Bool:=
 (xs.all λc=>xfB K (He.ga K (XNM c))&&(((XFL c).all λf=>decide (PySem.W.findIn K (.ref (He.ga K (XNM c))) f=some none))&&(xs.all λd=>decide (PySem.W.exmOne K (.ref (He.ga K (XNM c))) (.ref (He.ga K (XNM d)))=some ((XUP c).contains d))))) &&
 rs.all λc=>xs.contains c&&(xclsB K (He.ga K (XNM c))&&(XFL c).all λf=>decide (PySem.W.takerIn K (He.ga K (XNM c)) f=some none))
def tabsB (own:List Str)(K:PySem.W.Frag):Bool:=own.all (λx=>(PySem.W.tabIn K x).isSome) &&
 (own.all λx=>match PySem.W.tabIn K x with
  | some (_,P)=>(K.lookup P).isNone&&own.all λy=>match PySem.W.tabIn K y with
   | some (_,P')=>(x==y) || !(P==P')
   | none=>false
  | none=>false)
def tabsOf (own:List Str)(K:PySem.W.Frag):List (Addr × Str):=own.filterMap λx=>(PySem.W.tabIn K x).map λq=>(q.2,x ++ ".<locals>.<lambda>")
@[reducible] def S1 (P:Program)(w:World)(K:PySem.W.Frag)(mg:Str->Option Value)(base:Heap)(xs:List Nat)(own:List Str):Sx:=
 ⟨P,w,mg,base,⟨K,λc=>He.ga K (XNM c),XFL,tabsOf own K,λ_=>none,xs⟩,[],⟨.function,[],false,false,[]⟩,0,true,lams0 λ_=>rfl,none,λ_=>false⟩
theorem xf_of {P:Program}{w:World}{K:PySem.W.Frag}{mg:Str->Option Value}{base:Heap}{xs rs:List Nat}{own:List Str}(h:xsB xs rs K=true):XF K (S1 P w K mg base xs own).G XUP XFL:=by
 unfold xsB at h
 rw[Bool.and_eq_true] at h
 have h1:=List.all_eq_true.mp h.1
 refine⟨λc hc d hd=>?_,λc hc=>?_,λc hc f hf=>?_,λc hc=>rfl⟩
 all_goals
  have z:=h1 c hc
  simp only[Bool.and_eq_true,List.all_eq_true,decide_eq_true_eq] at z
 ·exact z.2.2 d hd
 ·exact xfB_ok z.1
 ·exact z.2.1 f hf
section
variable {fa:List He.Fa}{fn:List He.DefD}{P:Program}{w:World}{K:PySem.W.Frag}{h:Heap}{mg:Str->Option Value}{base:Heap}{xs rs:List Nat}{own:List Str}
theorem WU {x:Str}{st:Stmt}(k:Kn (S0 P w K mg base) x st):Kn (S1 P w K mg base xs own) x st:=⟨k.ex⟩
end
def noTab (q:Addr->Option Obj)(l:List Addr):List Addr:=l.filter λa=>match q a with
 | some o=>(match o.data with
  | .fields vs=>!(vs.size==0)
  | _=>true)
 | none=>true
theorem tabs_at {own:List Str}{K:PySem.W.Frag}(h:tabsB own K=true){x:Str}(hx:x∈own):∃ c P,PySem.W.tabIn K x=some (c,P)∧K.lookup P=none∧∀ y∈own,∀ c' P',PySem.W.tabIn K y=some (c',P')->P'=P->y=x:=by
 unfold tabsB at h
 rw[Bool.and_eq_true] at h
 have h1:=List.all_eq_true.mp h.1 x hx
 have h2:=List.all_eq_true.mp h.2 x hx
 obtain⟨⟨c,P⟩,e⟩:=Option.isSome_iff_exists.mp h1
 rw[e] at h2
 simp only[Bool.and_eq_true,List.all_eq_true] at h2
 refine⟨c,P,e,by simpa using h2.1,λy hy c' P' e' ep=>?_⟩
 have z:=h2.2 y hy
 rw[e'] at z
 subst ep
 exact (by simpa using z:x=y).symm
theorem mk0_of {P':Program}{w:World}{K:PySem.W.Frag}{h:Heap}{mg:Str->Option Value}{base:Heap}{xs:List Nat}{own:List Str}{x:Str}(X:K.In h)(Gn:h.Ns mainGlobals mg)(ht:tabsB own K=true)(hx:x∈own)
  (hb:∀ y c P,y∈own->PySem.W.tabIn K y=some (c,P)->LamX.TabB base mg c P):∃ c P,Mk0 (S1 P' w K mg base xs own) x c P:=by
 obtain⟨c,P,e,hn,hu⟩:=tabs_at ht hx
 refine⟨c,P,λf o fd hm ho hd=>PySem.W.law_code X Gn e hm (X _ _ ho) hd,hb x c P hx e,List.mem_filterMap.mpr ⟨x,hx,by rw[e];rfl⟩,λp hp ep=>?_⟩
 obtain⟨y,hy,e2⟩:=List.mem_filterMap.mp hp
 obtain⟨⟨c',P2⟩,e3,e4⟩:=Option.map_eq_some_iff.mp e2
 cases e4
 rw[hu y hy c' P2 e3 ep]
theorem law_endT {l:PySem.W.OpenLaw}{n k:Nat}{q:Program}{loose:List Str}{XP:(Str->Option Value)->Heap->Prop}{YP:World->Heap->Prop}{d:DefRec}{x:Str}(own:List Str)
  (hn:l.most=some n) (hn2:n<=sizeLine) (hdf:d.params.defaults=[]) (hr:Room k callerA) (hown:(own.all λx=>((recsOf q).find? λe=>e.name==x).isSome)=true)
  (F:∀ (w:World) (mg:Str->Option Value) (fa:Addr) (h:Heap),YP w h->h.Ns mainGlobals mg->mg d.name=some (.ref fa)->∃ (K:PySem.W.Frag) (fd:FuncData) (sp:Sp),K.In h∧tabsB own K=true ∧
   (∀ (s:Shared) (u:Value),BindsTo s fd ⟨[u],[]⟩ [(x,u)])∧(∀ (H:Hp) (a:Addr) (ns:List Int),ns.length<=n->LamX.Tabs (tabsOf own K) H->SqL K H a (ns.map V.int)->sp [.ref a] H (λv _=>v=.bl true) λ_ _ _=>False) ∧
   ∀ base:Heap,K.In base->base.Ns mainGlobals mg->(∀ y c P,y∈own->PySem.W.tabIn K y=some (c,P)->LamX.TabB base mg c P)->FnOk l.prog w K mg base (L2.CX l.prog w) k fa fd [x] sp) :
  PySem.W.WalkO q loose XP YP l.row.toRowW d [] (λf vs=>PySem.call f vs):=by
 refine Att.attach_callB hn hdf λw s0 s1 mg mb fa o pm cd doc a vs ns Gw Y ho hd hcd hmg hobj hints hlen hbits hg=>?_
 obtain⟨K,fd,sp,KX,ht,hb,hsp,hF⟩:=F w mg fa _ Y Gw.T.g hmg
 have tab:∀ p∈own.filterMap (PySem.W.tabIn K),PySem.W.CodeHd s1.heap p.1 p.2∧s1.heap.get? p.2=some { cls:=.none,data:=.fields #[] } ∧ K.lookup p.2=none:=λp hp=>by
  obtain⟨y,hy,e⟩:=List.mem_filterMap.mp hp
  obtain⟨r,er⟩:=Option.isSome_iff_exists.mp (List.all_eq_true.mp hown y hy)
  obtain⟨c,P,e2,hnone,_⟩:=tabs_at ht hy
  rw[e] at e2
  cases e2
  obtain⟨z1,z2⟩:=PySem.W.tab_of Gw.T KX er e
  exact⟨z1,z2,hnone⟩
 refine LamX.law_callTs (CX:=L2.CX l.prog w) (sp:=sp) (cs:=own.filterMap (PySem.W.tabIn K)) KX Gw.T.g Gw.T.b Gw.T.builtins Gw.T.nolimit hg (λp hp=>(tab p hp).2.1) (λp hp=>(tab p hp).2.2) (λp hp=>(tab p hp).1) Gw.T.bmain hobj hints (Nat.le_trans hlen hn2) hr ?_ hb ?_ ?_
 ·exact λbase h1 h2 h3=>hF base h1 h2 λy c P hy e=>h3 (c,P) (List.mem_filterMap.mpr ⟨y,hy,e⟩)
 ·refine λH hH hS=>hsp H a ns hlen (λp hp=>?_) hS
  obtain⟨y,hy,e⟩:=List.mem_filterMap.mp hp
  obtain⟨⟨c,P⟩,e1,e2⟩:=Option.map_eq_some_iff.mp e
  cases e2
  exact LamX.TabS.nil (hH (c,P) (List.mem_filterMap.mpr ⟨y,hy,e1⟩))
 ·intro H e s' z
  obtain⟨_,_,_,_,_,_,_,_,_,_,_,_,z⟩:=z
  exact z
@[reducible] def Sx.c0 (S:Sx):Sx:=S.cl [] ⟨.function,[],false,false,[]⟩
section
variable {S:Sx}{x w:Str}{n k c:Nat}{F:Fn}{dd:List D}{FL:LamR->Fn}{N N':List Str}{sc sc':Scope}{j:Nat}{st:Stmt}{d:D}{ds:List D}{l:Nat->Option LamD}
theorem Good.cl (h:Good S.c0 x n F dd k):Good (S.cl N sc) x n F dd k:=⟨h.ex⟩
theorem Good.atL {q:Str}(h:Good S x n F dd k):Good (S.atL N sc j c q) x n F dd k:=⟨h.ex⟩
theorem VP.at (h:VP S x n FL k):VP (S.at N sc j) x n FL k:=⟨h.ex⟩
theorem VP.atL {q:Str}(h:VP S x n FL k):VP (S.atL N sc j c q) x n FL k:=⟨h.ex⟩
theorem VP.blk (h:VP S x n FL k):VP (S.blk sc) x n FL k:=⟨h.ex⟩
theorem VP.on (h:VP S x n FL k):Good S x n (FL S.G.lr) [] k:=by
 obtain⟨f,fd,ps,h1,h2,h3,h4⟩:=h.ex
 exact⟨f,fd,ps,[],[],h1 S.G.lam S.lok,h2,h3,h4,.nil,λFz am H=>.nil λ_=>rfl⟩
theorem XR.at (h:XR S x c n w):XR (S.at N sc j) x c n w:=⟨h.mem,h.mg,h.cl,h.nd,h.len,h.ini⟩
theorem XR.atL {q:Str}{a:Addr}(h:XR S x c n w):XR (S.atL N sc j a q) x c n w:=⟨h.mem,h.mg,h.cl,h.nd,h.len,h.ini⟩
theorem XR.c0 (h:XR S x c n w):XR S.c0 x c n w:=⟨h.mem,h.mg,h.cl,h.nd,h.len,h.ini⟩
theorem XR.lamS {ok}(h:XR S x c n w):XR (S.lamS l ok) x c n w:=⟨h.mem,h.mg,h.cl,h.nd,h.len,h.ini⟩
theorem Kn.c0 (h:Kn S x st):Kn S.c0 x st:=⟨h.ex⟩
theorem Kn.lamS {ok}(h:Kn S x st):Kn (S.lamS l ok) x st:=⟨h.ex⟩
theorem KnD.c0 (h:KnD S x st ds):KnD S.c0 x st ds:=⟨h.ex⟩
theorem KnD.lamS {ok}(h:KnD S x st ds):KnD (S.lamS l ok) x st ds:=⟨h.ex⟩
theorem GV.c0 (h:GV S x d):GV S.c0 x d:=by
 obtain⟨v,u,h1,h2,h3⟩:=h.ex
 exact⟨v,u,h1,h2,λFz am H=>(h3 Fz am H).wl _⟩
theorem GV.lamS {ok}(h:GV S x d):GV (S.lamS l ok) x d:=by
 obtain⟨v,u,h1,h2,h3⟩:=h.ex
 exact⟨v,u,h1,h2,λFz am H=>(h3 Fz am H).wl _⟩
theorem GV.atL {q:Str}{a:Addr}(h:GV S x d):GV (S.atL N sc j a q) x d:=⟨h.ex⟩
theorem GV.cl (h:GV S.c0 x d):GV (S.cl N sc) x d:=⟨h.ex⟩
theorem XF.lamS {K:PySem.W.Frag}{G:Sg}{up fld}(h:XF K G up fld):XF K (G.wl l) up fld:=⟨h.exm,h.xf,h.no,h.fl⟩
theorem Mk0.lamS {ok}{a P:Addr}(h:Mk0 S x a P):Mk0 (S.lamS l ok) x a P:=⟨h.code,h.tab,h.mem,h.one⟩
theorem Mk0.c0 {a P:Addr}(h:Mk0 S x a P):Mk0 S.c0 x a P:=⟨h.code,h.tab,h.mem,h.one⟩
theorem Ue {X:Cx}(hX:Stx S X)(hg:S.sc.names.lookup x=some .globalImplicit)(hm:S.mg x=some (.ref (S.G.cls c)))(hdb:(x==("__debug__":Str))=false:=by decide):Names X x (.ref (S.G.cls c)):=
 ⟨show X.env.scope.names.lookup x=some .globalImplicit by rw[hX.sc];exact hg,hdb,.inl (by rw[hX.mg];exact hm)⟩
theorem mem_sub {pres cl xs:List Nat}(h:∀ d∈pres,d∈xs)(hs:(cl.all λd=>pres.contains d)=true):∀ d∈cl,d∈xs:=λd hd=>h d (by simpa using List.all_eq_true.mp hs d hd)
end
def lamTB (N:List Str)(sc:Scope)(ps cap:List Str)(ci:List Nat)(scope:Scope):Bool:=
 (decide (scope.kind=.function) && !scope.isCoroutine && !scope.isGenerator&&decide (ps++cap).Nodup) &&
 (scope.names.all λy=>!decide (y.2=.cell)&&(!decide (y.2=.local)||decide (y.1∈ps))&&decide (scope.names.lookup y.1=some y.2)&&(!decide (y.2=.free)||(decide (y.1∈cap)&&(decide (sc.names.lookup y.1=some .cell)||decide (sc.names.lookup y.1=some .free))))) &&
 (ps.all λy=>decide (scope.names.lookup y=some .local))&&(cap.all λy=>decide (scope.names.lookup y=some .free))&&decide (ci.length=cap.length)&&((cap.zip ci).all λp=>decide (N[p.2]?=some p.1))
theorem lamT_of {S:Sx}{ps cap:List Str}{ci:List Nat}{params:Arguments}{scope:Scope}{body:Expr}(h:lamTB S.N S.sc ps cap ci scope=true)(dfl:∀ env,defaultsOf params env=([],[]))
  (bind:∀ (q:Str) (cl:List (Str × Addr)) (pm cv ctv:Value) (us:List Value),us.length=ps.length->bindArgs (PySem.W.kla_fn "<lambda>" q params body scope cl pm cv ctv) ⟨us,[]⟩=pure (ps.zip us)):LamT S ps cap ci params scope body:=by
 unfold lamTB at h
 simp only[Bool.and_eq_true,List.all_eq_true,decide_eq_true_eq,Bool.not_eq_true',Bool.or_eq_true,decide_eq_false_iff_not] at h
 obtain⟨⟨⟨⟨⟨⟨⟨⟨h1,h2⟩,h3⟩,h4⟩,h5⟩,h6⟩,h7⟩,h8⟩,h9⟩:=h
 refine⟨⟨h1,h2,h3,h4,λy hy=>(h5 y hy).1.1.1,λy hy e=>?_,h6,λy hy=>(h5 y hy).1.2⟩,⟨λy hy e=>?_,h7,λk i y e1 e2=>?_⟩,h8,dfl,bind⟩
 ·rcases (h5 y hy).1.1.2 with z | z
  ·exact absurd e z
  ·exact z
 ·rcases (h5 y hy).2 with z | z
  ·exact absurd e z
  ·exact z
 ·exact h9 (y,i) (List.mem_of_getElem? (i:=k) (by rw[List.getElem?_zip_eq_some];exact⟨e1,e2⟩))
end Hx
namespace HT
open PySem PySem.Spec PyProof.Rows L2
section
variable {prog:Program}{w:World}{A:Around}{E:Value->Shared->Prop}{s:Shared}
end
end HT
namespace Hx
open PySem PySem.Spec L2
open PyProof.Rows hiding St
section
variable {X:Cx}
end
section
variable {S:Sx}{e a b c tg:Expr}{es:List Expr}{da db dc de di:Den}{das:DenL}{pos p:Pos}{ss:List Stmt}{tr:Zi}
end
end Hx
namespace HxZ
open PySem
open PySem.Sem (wp)
section
variable {prog:Program}{w:World}{A:Around}{E:Value->Shared->Prop}{s:Shared}{z TI TO i1 i2:Addr}{fp1 fp2:List Addr}{n1 n2 i:Nat}{P1 P2:Nat->Value->Prop}{St1 St2:Nat->Heap->Prop}{a1 a2:Value}{b:Bool}
end
end HxZ
namespace PySem.F
end PySem.F
namespace HxZ
open PySem PySem.Spec L2 PyProof.Rows
set_option maxHeartbeats 2000000 in
section
variable {prog:Program}{w:World}{A:Around}{E:Value->Shared->Prop}{s:Shared}
end
inductive Src
 | lst (a:Addr) | tup (a:Addr) | str (x:Str)
def Src.ok (K:PySem.W.Frag)(n:Nat):Src->Hp->Prop
 | .lst a,H=>∃ xs,SqL K H a xs∧xs.length=n
 | .tup a,H=>∃ xs,SqT K H a xs∧xs.length=n
 | .str x,_=>x.cps.size=n
def Src.un:Src->List Addr
 | .lst a=>[a]
 | .tup a=>[a]
 | .str _=>[]
def Src.st (t:Tok):Src->Addr->Nat->Heap->Prop
 | .lst a,it,i,h=>h.IsListIter it a i
 | .tup a,it,i,h=>h.IsTupleIter it a i
 | .str x,it,i,h=>h.IsStrIter it (strIterType x) x t i
def Src.v:Src->V
 | .lst a=>.ref a
 | .tup a=>.ref a
 | .str x=>.str x
section
variable {X:Cx}{pins:List (Addr × Obj)}{σ:L2.St}{H:Hp}{s:Shared}
end
end HxZ
namespace HxZ
open PySem PySem.Spec L2 PyProof.Rows
section
variable {X:Cx}{pins:List (Addr × Obj)}{σ:L2.St}{H:Hp}{s:Shared}
theorem ne' {a b:Nat}(h:a<b∨b<a):a≠b:=by omega
end
section
variable {X:Cx}
def tLk (td:TE):TE:=λσ H Q=>td σ H λx H1=>∃ d kvs,x=.ref d∧((H1 d=some (.dK kvs)∧∀ o,Q x (upd H1 d (.frz o (.dK kvs))))∨∃ o,H1 d=some (.frz o (.dK kvs))∧Q x H1)
theorem pe_lk {e:Expr}{td:TE}(h:PE X e td):PE X e (tLk td):=by
 refine⟨λpins s σ H Q I hw=>?_⟩
 refine thn (h.run pins s σ H _ I hw) λv s1 ⟨x,H1,I1,r,d,kvs,ex,q⟩=>?_
 rcases q with ⟨hd,q⟩ | ⟨o,hd,q⟩
 ·obtain⟨od,I2⟩:=I1.lock hd trivial
  exact⟨x,_,I2,r,q od⟩
 ·exact⟨x,_,I1,r,q⟩
end
end HxZ
namespace Hx
open PySem PySem.Spec L2
open PyProof.Rows hiding St
def chars (x:Str):List D:=x.cps.toList.map λc=>D.str ⟨#[c]⟩
section
variable {G:Sg}{g:Gd}{env:Env}{st st':Zd}{T T':List Tm}{σ:St}{H H':Hp}{Fz:Addr->Prop}{am:List Addr}
theorem Shr.lst {p:Addr}{vs:List V}(h:Shr G Fz H p .lst vs):SqL G.K H p vs:=by
 obtain⟨_,o,e1,e2⟩:=h
 have e2:o=.lst vs:=e2
 subst e2
 exact SqL.of e1
theorem Shr.frl {p:Addr}{vs:List V}(h:Shr G Fz H p .frl vs):SqL G.K H p vs:=by
 rcases h with ⟨_,h⟩ | (h | ⟨_,h⟩) | h
 ·exact .inl h
 ·cases h
 ·cases h
 ·exact .inr h
theorem Rl.two {v1 v2:V}{d1 d2:D}(R:Rl G g env st (⟨v1,.z,d1,false⟩ :: ⟨v2,.z,d2,false⟩ :: T) σ H){P:Prop}(h:∀ Fz am,Rep G Fz am H .z v1 d1 (λ_=>0)->Rep G Fz am H .z v2 d2 (λ_=>0)->P):P:=by
 obtain⟨Fz,am,ne,nt,ns,h1,h2,h3,h4,h5⟩:=R
 cases h2 with
 | own k1 k2 k3=>
  cases k2 with
  | own j1 j2 j3=>exact h Fz am (k1.fp k1.z0) (j1.fp j1.z0)
theorem Rl.oneD {v:V}{d:D}(R:Rl G g env st (⟨v,.z,d,false⟩ :: T) σ H){P:Prop}(h:∀ Fz am,Rep G Fz am H .z v d (λ_=>0)->P):P:=by
 obtain⟨Fz,am,ne,nt,ns,h1,h2,h3,h4,h5⟩:=R
 cases h2 with
 | own k1 k2 k3=>exact h Fz am (k1.fp k1.z0)
theorem sqRep {k:Kd}{ds:List D}{a:Addr}{n:Fp}(hk:k.seq=true)(nt:k ≠ .tup)(r:Rep G Fz am H .z (.ref a) (.con k ds) n):∃ vs,SqL G.K H a vs∧Reps G Fz am H (zs ds.length) vs ds (λ_=>0):=by
 cases r with
 | sc s _=>exact s.elim
 | zz x b c=>
  cases k with
  | lst=>exact⟨_,x.lst,b.toz⟩
  | frl=>exact⟨_,x.frl,b.toz⟩
  | tup=>exact absurd rfl nt
  | _=>cases hk
end
section
variable {S:Sx}{e a b tg:Expr}{es elts:List Expr}{da db:Den}{das:DenL}{pos p tpos:Pos}{kk:Nat}
theorem frlOpen {G:Sg}{g:Gd}{env:Env}{st:Zd}{T:List Tm}{σ:St}{H:Hp}{k:Kd}{v:V}{ds:List D}(hk:k.seq=true)(nt:k ≠ .tup)(R:Rl G g env st (⟨v,.z,.con k ds,false⟩ :: T) σ H):∃ a vs,v=.ref a∧SqL G.K H a vs∧vs.length=ds.length:=
 R.oneD (P:=_) λFz am r=>by
  have hv:∃ a,v=.ref a:=by
   cases r with
   | sc s _=>cases v<;>exact s.elim
   | zz a b c=>exact⟨_,rfl⟩
  obtain⟨a,rfl⟩:=hv
  obtain⟨vs,e1,e2⟩:=sqRep hk nt r
  exact⟨a,vs,rfl,e1,e2.len.2⟩
end
section
variable {G:Sg}{g:Gd}{env:Env}{st st':Zd}{T T':List Tm}{σ:St}{H H':Hp}{Fz:Addr->Prop}{am:List Addr}{p:Addr}{u:HO}{o:Obj}{t:Fp}{B B':(Addr->Prop)->List Addr->Prop}
theorem Ext.lock (e:H p=some u)(d:dkO u=true):Ext Fz am H Fz am (upd H p (.frz o u)):=by
 have ne:∀ q v,H q=some v->dkO v=false->q≠p:=λq v h n z=>by
  subst z
  rw[e] at h;cases h
  rw[d] at n;cases n
 refine⟨λ_ h=>h,λ_ _ h=>h,λq v _ h=>?_,λq v _ h n=>by rw[upd_ne (ne q v h n)];exact h,λq xs h=>?_⟩
 ·by_cases c:q=p
  ·subst c
   rcases h with h | ⟨o',h⟩
   ·rw[e] at h;cases h
    exact .inr ⟨o,upd_same⟩
   ·exact absurd rfl (ne q _ h rfl)
  ·exact h.imp (λh=>by rw[upd_ne c];exact h) λ⟨o',h⟩=>⟨o',by rw[upd_ne c];exact h⟩
 ·exact h.imp (λh=>by rw[upd_ne (ne q _ h rfl)];exact h) λ⟨o',h⟩=>⟨o',by rw[upd_ne (ne q _ h rfl)];exact h⟩
theorem Rel0.lock (r:Rel0 G g Fz am H t)(z:Fz p)(e:H p=some u)(d:dkO u=true):Rel0 G g Fz am (upd H p (.frz o u)) t:=by
 have ne:∀ q v,H q=some v->dkO v=false->q≠p:=λq v h n z=>by
  subst z
  rw[e] at h;cases h
  rw[d] at n;cases n
 have no:∀ q,0<t q->q≠p:=λq hq c=>r.nz q hq (by rw[c];exact z)
 refine⟨r.n1,r.nz,λq hq=>?_,λq hq=>?_,λq w nt e0 na=>?_,r.f,r.z0,r.z1,r.a,λx hx=>?_,r.hm,λq w t e0 na=>?_⟩
 ·rw[upd_ne (no q hq)];exact r.th q hq
 ·by_cases c:q=p
  ·subst c;exact⟨_,upd_same,rfl⟩
  ·rw[upd_ne c];exact r.zt q hq
 ·by_cases c:q=p
  ·subst c
   rcases r.k q w nt e0 na with h | ⟨_,dw,ob,h⟩
   ·rw[e] at h;cases h
    refine .inr ⟨?_,d,o,upd_same⟩
    rcases r.z1 q z with y | y | y
    ·exact y
    ·exact absurd y na
    ·rw[y] at e0;cases e0
   ·exact absurd rfl (ne q _ h rfl)
  ·exact (r.k q w nt e0 na).map λv _ h=>by rw[upd_ne c];exact h
 ·obtain⟨ps,a1,a2,a3⟩:=r.tb x hx
  refine⟨ps,by rw[upd_ne (ne _ _ a1 rfl)];exact a1,a2,λp' cv z=>?_⟩
  obtain⟨c,e1,e2⟩:=a3 p' cv z
  refine⟨c,e1,?_⟩
  rw[upd_ne (ne _ _ e2 (by unfold LamX.CodeO;rfl))];exact e2
 ·obtain⟨o',e1,t1⟩:=r.kt q w t e0 na
  refine⟨o',?_,t1⟩
  rw[upd_ne (ne _ _ e1 (by cases o'<;>first | rfl | cases t1))];exact e1
theorem Rl.lock (R:RlB G g env st T σ H B)(hz:∀ Fz am,B Fz am->Fz p)(e:H p=some u)(d:dkO u=true):RlB G g env st T σ (upd H p (.frz o u)) B:=by
 obtain⟨Fz,am,ne,nt,ns,h1,h2,h3,h4,h5⟩:=R
 have z:=hz _ _ h5
 have E:Ext Fz am H Fz am (upd H p (.frz o u)):=Ext.lock e d
 have ow:∀ q w,0<ne q+nt q+ns q->H q=some w->upd H p (.frz o u) q=some w:=λq w hq h=>by
  rw[upd_ne λc=>h4.nz q hq (by rw[c];exact z)];exact h
 exact⟨Fz,am,ne,nt,ns,h1.ext E λq w hq h=>ow q w (by omega) h,h2.ext E (λq w hq h=>ow q w (by omega) h) λq w hq h=>ow q w (by omega) h,Reps.ext E h3 λq w hq h=>ow q w (by omega) h,h4.lock z e d,h5⟩
def Zax (g:Gd)(p:Addr)(w:HO):Gd:=⟨upd g.H0 p w,λq=>g.A0 q∧q≠p,λq=>g.F0 q∨q=p,g.am0⟩
theorem Rel0.Zax (r:Rel0 G g Fz am H t)(z:Fz p)(e:H p=some (.frz o u))(du:dkO u=true):Rel0 G (Zax g p (.frz o u)) Fz am H t∧Gle G (Hx.Zax g p (.frz o u)) g:=by
 have c1:=r.z1 p z
 have nt0:∀ w,g.H0 p=some w->Vm w=false:=λw hw=>by
  by_cases a:g.A0 p
  ·obtain⟨w',e',k⟩:=r.hm.a p a
   rw[hw] at e';cases e'
   exact k.nt
  ·cases ht:Vm w with
   | false=>rfl
   | true=>
    obtain⟨o',e1,t1⟩:=r.kt p w ht hw a
    rw[e] at e1;cases e1;cases t1
 have c2:∀ w,g.H0 p=some w->¬ g.A0 p->(w=u∧g.F0 p)∨w=.frz o u:=λw hw a=>by
  rcases r.k p w (nt0 w hw) hw a with h | ⟨f,dw,ob,h⟩
  ·rw[e] at h;cases h;exact .inr rfl
  ·rw[e] at h;cases h;exact .inl ⟨rfl,f⟩
 have frz_of:∀ v,Rd H p v->v=u∨v=.frz o u:=λv h=>by
  rcases h with h | ⟨o',h⟩
  ·rw[e] at h;cases h;exact .inr rfl
  ·rw[e] at h;cases h;exact .inl rfl
 have hm:Home G (Hx.Zax g p (.frz o u)):=by
  refine⟨λq hq=>?_,λq hq=>?_,λj l hl=>?_⟩
  ·by_cases c:q=p
   ·subst c
    exact⟨λz=>z.2 rfl,_,upd_same,rfl⟩
   ·rcases hq with hq | hq
    ·obtain⟨na,w,e1,e2⟩:=r.hm.fz q hq
     exact⟨λz=>na z.1,w,by show upd g.H0 p _ q=_;rw[upd_ne c];exact e1,e2⟩
    ·exact absurd hq c
  ·obtain⟨w,e1,k⟩:=r.hm.a q hq.1
   exact⟨w,by show upd g.H0 p _ q=_;rw[upd_ne hq.2];exact e1,k⟩
  ·obtain⟨h1,h2⟩:=r.hm.lam j l hl
   refine⟨λx hx=>?_,h2.ext ⟨λq h=>.inl h,λ_ _ h=>h,λq v f h=>?_,λq v f h n=>?_,λq xs h=>?_⟩ λq w hq=>absurd hq (Nat.lt_irrefl 0)⟩
   ·obtain⟨a1,a3⟩:=h1 x hx
    refine⟨a1,?_⟩
    have c:x.1≠p:=λc=>by
     have na:¬ g.A0 x.1:=λq=>by
      obtain⟨w,e1,k⟩:=r.hm.a _ q
      rw[a3] at e1;cases e1
      exact ZcY a1 k
     have this:=(r.k _ _ (ZcT a1) a3 na).nd (Zcy a1)
     rw[c,e] at this
     rw[<- Option.some.inj this] at a1
     cases a1
    show upd g.H0 p _ x.1=_
    rw[upd_ne c];exact a3
   ·by_cases c:q=p
    ·subst c
     rcases frz_of v (r.ext.rd q v f h) with rfl | rfl
     ·exact .inr ⟨o,upd_same⟩
     ·exact .inl upd_same
    ·exact h.imp (λh=>by show upd g.H0 p _ q=_;rw[upd_ne c];exact h) λ⟨o',h⟩=>⟨o',by show upd g.H0 p _ q=_;rw[upd_ne c];exact h⟩
   ·by_cases c:q=p
    ·subst c
     have:=r.ext.st q v f h n
     rw[e] at this;cases this
     exact upd_same
    ·show upd g.H0 p _ q=_;rw[upd_ne c];exact h
   ·have c:q≠p:=λc=>by
     subst c
     rcases r.ext.tp q xs h with y | ⟨o',y⟩
     ·rw[e] at y;cases y
     ·rw[e] at y;cases y;cases du
    exact h.imp (λh=>by show upd g.H0 p _ q=_;rw[upd_ne c];exact h) λ⟨o',h⟩=>⟨o',by show upd g.H0 p _ q=_;rw[upd_ne c];exact h⟩
 refine⟨⟨r.n1,r.nz,r.th,r.zt,λq w nt e0 na=>?_,λq hq=>?_,λq hq=>?_,λq hq=>?_,r.a,r.tb,hm,λq w tw e0 na=>?_⟩,λFz' am' H' t' r'=>?_⟩
 ·by_cases c:q=p
  ·subst c
   have e0:upd g.H0 q _ q=some w:=e0
   rw[upd_same] at e0;cases e0
   exact .inl e
  ·have e0:upd g.H0 p _ q=some w:=e0
   rw[upd_ne c] at e0
   exact (r.k q w nt e0 λy=>na ⟨y,c⟩).imp id λ⟨f,x⟩=>⟨.inl f,x⟩
 ·have c:q≠p:=λc=>r.nz q hq (by rw[c];exact z)
  rcases r.f q hq with y | y
  ·exact .inl ⟨y,c⟩
  ·exact .inr (by show upd g.H0 p _ q=_;rw[upd_ne c];exact y)
 ·rcases hq with y | y
  ·exact r.z0 q y
  ·rw[y];exact z
 ·by_cases c:q=p
  ·exact .inl (.inr c)
  ·rcases r.z1 q hq with y | y | y
   ·exact .inl (.inl y)
   ·exact .inr (.inl ⟨y,c⟩)
   ·exact .inr (.inr (by show upd g.H0 p _ q=_;rw[upd_ne c];exact y))
 ·by_cases c:q=p
  ·subst c
   have e0:upd g.H0 q _ q=some w:=e0
   rw[upd_same] at e0;cases e0;cases tw
  ·have e0:upd g.H0 p _ q=some w:=e0
   rw[upd_ne c] at e0
   exact r.kt q w tw e0 λy=>na ⟨y,c⟩
 ·have hp:H' p=some (.frz o u):=(r'.k p (.frz o u) rfl upd_same λy=>y.2 rfl).nd rfl
  refine⟨r'.n1,r'.nz,r'.th,r'.zt,λq w nt e0 na=>?_,λq hq=>?_,λq hq=>r'.z0 q (.inl hq),λq hq=>?_,r'.a,r'.tb,r.hm,λq w tw e0 na=>?_⟩
  ·by_cases c:q=p
   ·subst c
    rcases c2 w e0 na with ⟨rfl,f⟩ | rfl
    ·exact .inr ⟨f,du,o,hp⟩
    ·exact .inl hp
   ·refine (r'.k q w nt (by show upd g.H0 p _ q=_;rw[upd_ne c];exact e0) λy=>na y.1).imp id λ⟨f,x⟩=>⟨?_,x⟩
    rcases f with f | f
    ·exact f
    ·exact absurd f c
  ·rcases r'.f q hq with y | y
   ·exact .inl y.1
   ·have y:upd g.H0 p _ q=none:=y
    by_cases c:q=p
    ·subst c;rw[upd_same] at y;cases y
    ·rw[upd_ne c] at y;exact .inr y
  ·by_cases c:q=p
   ·subst c;exact c1
   ·rcases r'.z1 q hq with y | y | y
    ·rcases y with y | y
     ·exact .inl y
     ·exact absurd y c
    ·exact .inr (.inl y.1)
    ·have y:upd g.H0 p _ q=none:=y
     rw[upd_ne c] at y;exact .inr (.inr y)
  ·by_cases c:q=p
   ·subst c
    rw[nt0 w e0] at tw;cases tw
   ·exact r'.kt q w tw (by show upd g.H0 p _ q=_;rw[upd_ne c];exact e0) λy=>na y.1
theorem Rl.locked {w:HO}(R:RlB G (Zax g p w) env st T σ H B)(nt:Vm w=false)(nd:dkO w=false):H p=some w:=by
 obtain⟨Fz,am,ne,nt',ns,h1,h2,h3,h4,h5⟩:=R
 exact (h4.k p w nt upd_same λy=>y.2 rfl).nd nd
theorem Rl.toLock (R:RlB G g env st T σ H B)(hz:∀ Fz am,B Fz am->Fz p)(e:H p=some (.frz o u))(du:dkO u=true):RlB G (Zax g p (.frz o u)) env st T σ H B∧Gle G (Zax g p (.frz o u)) g:=by
 obtain⟨Fz,am,ne,nt',ns,h1,h2,h3,h4,h5⟩:=R
 obtain⟨a,b⟩:=h4.Zax (hz _ _ h5) e du
 exact⟨⟨Fz,am,ne,nt',ns,h1,h2,h3,a,h5⟩,b⟩
def keyD:Key->D
 | .inl i=>.int i
 | .inr x=>.str x
@[simp] theorem keyD_l {i:Int}:keyD (.inl i)=.int i:=rfl
@[simp] theorem keyD_r {x:Str}:keyD (.inr x)=.str x:=rfl
theorem scal_key {k:Key}:Scal G (kV k) (keyD k):=by cases k<;>rfl
theorem Rep.dik {ks:List Key}{ds:List D}{v:V}{n:Fp}(r:Rep G Fz am H .z v (.con (.dik ks) ds) n):∃ p vs,v=.ref p∧Fz p∧Rd H p (.dK (ks.zip vs))∧ks.length=vs.length∧Reps G Fz am H (zs ds.length) vs ds (λ_=>0):=by
 cases r with
 | sc s _=>cases v<;>exact s.elim
 | zz a b c=>
  obtain⟨z,o,e1,e2,e3⟩:=a
  subst e2
  exact⟨_,_,rfl,z,e1,e3,b.toz⟩
theorem kvs_at {ks:List Key}{vs:List V}{i:Nat}{k:Key}{v:V}(e:(ks.zip vs)[i]?=some (k,v)):ks[i]?=some k∧vs[i]?=some v:=by
 rw[List.getElem?_zip_eq_some] at e
 exact e
section
variable {ks:List Key}{ds:List D}{vs:List V}
theorem it_keys (hl:ks.length=vs.length):ItOk G (Zax g p (.frz o (.dK (ks.zip vs)))) (Itk p o (ks.zip vs)) [⟨.ref p,.z,.con (.dik ks) ds,false⟩] (ks.map keyD) where
 nb:=λx hx=>by rw[List.mem_singleton.mp hx]
 go:=λi env st T σ H R hi=>⟨Rl.locked (B:=λ_ _=>True) R rfl rfl,by rw[List.length_map] at hi;rw[List.length_zip];omega⟩
 yld:=λi env st T σ H x H' d R y e=>by
  obtain⟨rfl,k,v,e1,rfl⟩:=y
  obtain⟨a,b⟩:=kvs_at e1
  rw[List.getElem?_map,a] at e
  cases e
  exact R.scal scal_key
 stop:=λi env st T σ H R hi=>⟨Rl.locked (B:=λ_ _=>True) R rfl rfl,by rw[List.length_map] at hi;rw[List.length_zip];omega⟩
end
end
@[simp] def dKeysI (a:Den):DenI:=λenv st=>match a env st with
 | .ok f b (.con (.dik ks) ds) st1=>bif !b||f.isz then .ok (ks.map keyD) st1 else .stuck
 | .ok _ _ _ _=>.stuck
 | .exc c ds st1=>.exc c ds st1
 | .stuck=>.stuck
section
variable {S:Sx}{e a b tg:Expr}{es elts:List Expr}{da db:Den}{das:DenL}{pos p tpos apos cpos:Pos}{kk:Nat}
theorem lock_post {G:Sg}{g:Gd}{env:Env}{st1:Zd}{T:List Tm}{σ:St}{H1:Hp}{v:V}{f:Fr}{b:Bool}{ks:List Key}{ds:List D}{Q:Addr->Obj->List (Key × V)->Hp->Prop}(hc:(!b||f.isz)=true)
  (k:∀ p o vs H2,ks.length=vs.length->ds.length=vs.length->H2 p=some (.frz o (.dK (ks.zip vs)))->Gle G (Zax g p (.frz o (.dK (ks.zip vs)))) g->Rl G (Zax g p (.frz o (.dK (ks.zip vs)))) env st1 ([⟨.ref p,.z,.con (.dik ks) ds,false⟩]++T) σ H2->Q p o (ks.zip vs) H2)
  (R1:Rl G g env st1 (⟨v,f,.con (.dik ks) ds,b⟩ :: T) σ H1):∃ d kvs,v=.ref d∧((H1 d=some (.dK kvs)∧∀ o,Q d o kvs (upd H1 d (.frz o (.dK kvs))))∨∃ o,H1 d=some (.frz o (.dK kvs))∧Q d o kvs H1):=by
 have R2:=(R1.unb hc).frz
 have main:∃ d vs,v=.ref d∧ks.length=vs.length∧ds.length=vs.length∧RlB G g env st1 ([⟨v,.z,.con (.dik ks) ds,false⟩]++T) σ H1 (λFz am=>Fz d)∧Rd H1 d (.dK (ks.zip vs)):=by
  obtain⟨Fz,am,ne,nt,ns,h1,h2,h3,h4,h5⟩:=R2
  cases id h2 with
  | own k1 k2 k3=>
   obtain⟨d,vs,rfl,z,rd,hl,rs⟩:=k1.dik
   exact⟨d,vs,rfl,hl,rs.len.2.symm,⟨Fz,am,ne,nt,ns,h1,h2,h3,h4,z⟩,rd⟩
 obtain⟨d,vs,rfl,hl,hd,R3,rd⟩:=main
 refine⟨d,ks.zip vs,rfl,?_⟩
 rcases rd with e | ⟨o,e⟩
 ·refine .inl ⟨e,λo=>?_⟩
  have R4:=Rl.lock (o:=o) R3 (λ_ _ z=>z) e rfl
  obtain⟨R5,b⟩:=Rl.toLock R4 (λ_ _ z=>z) upd_same rfl
  exact k d o vs _ hl hd upd_same b R5.rl
 ·refine .inr ⟨o,e,?_⟩
  obtain⟨R5,b⟩:=Rl.toLock R3 (λ_ _ z=>z) e rfl
  exact k d o vs _ hl hd e b R5.rl
theorem di_keys (ha:DE S a da):DI S tg a (dKeysI da):=λW=>by
 obtain⟨t,pt,q⟩:=ha W
 refine⟨iKeys (HxZ.tLk t),λX hX tk=>pi_keys (HxZ.pe_lk (pt X hX tk)),λg env st T σ H R0 hT R h=>q g env st T σ H _ hT R ?_⟩
 unfold dKeysI at h
 cases e:da env st with
 | stuck=>rw[e] at h;exact h.elim
 | exc c ds st1=>rw[e] at h;exact h
 | ok f b d st1=>
  rw[e] at h
  cases d with
  | con k ds=>
   cases k with
   | dik ks=>
    obtain⟨hc,h⟩:=bifT h id
    exact λv H1 R1=>lock_post (Q:=λd o kvs H2=>∃ d' o',V.ref d=.ref d' ∧ ((∃ kvs,H2 d'=some (.frz o' (.dK kvs))∧R0 (Itk d' o' kvs) H2)∨∃ kvs,H2 d'=some (.frz o' (.dT kvs))∧R0 (Itkt d' o' kvs) H2)) hc (λp o vs H2 hl hd e2 b R5=>⟨p,o,rfl,.inl ⟨_,e2,h _ H2 _ _ b (it_keys hl) R5⟩⟩) R1 |>.imp λd ⟨kvs,e,q⟩=>⟨kvs,e,by subst e;exact q⟩
   | _=>exact h.elim
  | _=>exact h.elim
end
section
variable {G:Sg}
def inS (neg:Bool):D->D->Option D
 | .str x,.str y=>match x.cps with
  | ⟨[c]⟩=>some (.bl (if neg then !decide (c∈y.cps.toList) else decide (c∈y.cps.toList)))
  | _=>none
 | _,_=>none
@[simp] def oInS (neg:Bool):Op:=oS2 (inS neg)
theorem inS_some {neg:Bool}{a b d:D}(h:inS neg a b=some d):∃ c y,a=.str ⟨#[c]⟩∧b=.str y∧d=.bl (if neg then !decide (c∈y.cps.toList) else decide (c∈y.cps.toList)):=by
 unfold inS at h
 split at h
 ·rename_i x y
  obtain⟨x⟩:=x
  split at h
  ·rename_i c e
   cases h
   have e:x=⟨[c]⟩:=e
   subst e
   exact⟨c,y,rfl,rfl,rfl⟩
  ·cases h
 ·cases h
theorem v_inS (neg:Bool):VOp G (l2 λx y H Q=>∃ (c:Nat) (z:Str),x=.str ⟨#[c]⟩∧y=.str z∧Q (.bl (if neg then !decide (c∈z.cps.toList) else decide (c∈z.cps.toList))) H) (oInS neg):=v_S2 λFz am H v w a b d Q h1 h2 e q=>by
 obtain⟨c,y,rfl,rfl,rfl⟩:=inS_some e
 rw[h1.str,h2.str]
 exact⟨c,y,rfl,rfl,q _ rfl⟩
def memK (k:Key)(ks:List Key):Bool:=ks.any λx=>decide (x=k)
@[simp] def oInK (neg:Bool):Op:=oS2 λa b=>match b with
 | .con (.dik ks) _=>(keyOf a).map λk=>.bl (if neg then !memK k ks else memK k ks)
 | _=>none
theorem valV_in:∀ {ks:List Key} {vs:List V} {k:Key},ks.length=vs.length->(valV (ks.zip vs) k).isSome=memK k ks
 | [],_,k,_=>by simp[valV,memK]
 | k0 :: ks,[],k,h=>by simp at h
 | k0 :: ks,v0 :: vs,k,h=>by
  rw[List.zip_cons_cons]
  unfold valV
  rw[List.find?_cons]
  have ih:=valV_in (ks:=ks) (vs:=vs) (k:=k) (by simpa using h)
  unfold valV at ih
  unfold memK at ih ⊢
  by_cases c:k0=k
  ·simp[c]
  ·simp only[c,decide_false,Bool.false_eq_true,if_false,List.any_cons,Bool.false_or]
   exact ih
def rDIn (neg:Bool):R2:=λy x H Q=>∃ a o,x=.ref a∧DGet H a y o∧Q (.bl (if neg then !o.isSome else o.isSome)) H
theorem v_inK (neg:Bool):VOp G (l2 (rDIn neg)) (oInK neg):=v_S2 λFz am H v w a b d Q h1 h2 e q=>by
 split at e
 ·obtain⟨k,e1,e2⟩:=Option.map_eq_some_iff.mp e
  subst e2
  obtain⟨p,vs,rfl,rd,hl,s⟩:=h2.dik
  refine⟨p,_,rfl,.inl ⟨_,k,rd,h1.key e1,rfl⟩,q _ ?_⟩
  rw[valV_in hl]
  exact rfl
 ·cases e
def inLD (a:D)(ds:List D):Option Bool:=match a.py,D.pys ds with
 | some x,some ys=>bif SeqAt.shaped x&&SeqAt.shaped (.list ys) then some (ys.any λz=>PyData.eqv z x) else none
 | _,_=>none
@[simp] def oInL (neg:Bool):Op:=oS2 λa b=>match b with
 | .con .lst ds=>(inLD a ds).map λc=>.bl (if neg then !c else c)
 | .con .frl ds=>(inLD a ds).map λc=>.bl (if neg then !c else c)
 | _=>none
def rInX (K:PySem.W.Frag)(neg:Bool):R2:=λx y H Q=>∃ d ds,Dp K H x d∧Dp K H y (.list ds)∧SeqAt.shaped d=true∧SeqAt.shaped (.list ds)=true∧Q (.bl (if neg then !(ds.any λz=>PyData.eqv z d) else ds.any λz=>PyData.eqv z d)) H
theorem inLD_some {a:D}{ds:List D}{c:Bool}(h:inLD a ds=some c):∃ x ys,a.py=some x∧D.pys ds=some ys∧SeqAt.shaped x=true∧SeqAt.shaped (.list ys)=true∧(ys.any λz=>PyData.eqv z x)=c:=by
 unfold inLD at h
 split at h
 ·rename_i x ys e1 e2
  obtain⟨c1,c2⟩:=bifS h
  rw[Bool.and_eq_true] at c1
  exact⟨x,ys,e1,e2,c1.1,c1.2,c2⟩
 ·cases h
theorem v_inL (neg:Bool):VOp G (l2 (rInX G.K neg)) (oInL neg):=v_S2 λFz am H v w a b d Q h1 h2 e q=>by
 have main:∀ {k:Kd} {ds:List D},(k=.lst∨k=.frl)->View G Fz am H w (.con k ds)->(inLD a ds).map (λc=>D.bl (if neg then !c else c))=some d->rInX G.K neg v w H Q:=λ{k ds} hk h2 e=>by
  obtain⟨c,e1,e2⟩:=Option.map_eq_some_iff.mp e
  subst e2
  obtain⟨x,ys,a1,a2,a3,a4,a5⟩:=inLD_some e1
  refine⟨x,ys,Ug h1 a1,Ug h2 ?_,a3,a4,q _ ?_⟩
  ·rcases hk with rfl | rfl<;>(unfold D.py;rw[a2];rfl)
  ·rw[a5];exact rfl
 split at e
 ·exact main (.inl rfl) h2 e
 ·exact main (.inr rfl) h2 e
 ·cases e
def flatD:D->Bool
 | .non=>true
 | .bl _=>true
 | .int _=>true
 | .str _=>true
 | _=>false
def eqF:D->D->Bool
 | .non,.non=>true
 | .bl a,.bl b=>a==b
 | .bl a,.int b=>(if a then 1 else 0)==b
 | .int a,.bl b=>a==(if b then 1 else 0)
 | .int a,.int b=>a==b
 | .str a,.str b=>a==b
 | _,_=>false
@[simp] def oInT (neg:Bool):Op:=oS2 λa b=>match b with
 | .con .tup ds=>bif flatD a&&ds.all flatD then some (.bl (if neg then !(ds.any λy=>eqF y a) else ds.any λy=>eqF y a)) else none
 | _=>none
section
variable {Fz:Addr->Prop}{am:List Addr}{H:Hp}
theorem Rep.flat' {v:V}{d:D}{n:Fp}(r:Rep G Fz am H .z v d n)(h:flatD d=true):flatV v=true∧Scal G v d:=by
 cases r with
 | sc s _=>cases v<;>cases d<;>first | exact s.elim | exact⟨rfl,s⟩ | cases h
 | rf=>cases h
 | zz=>cases h
theorem View.flat' {v:V}{d:D}(r:View G Fz am H v d)(h:flatD d=true):flatV v=true∧Scal G v d:=by
 cases d with
 | non=>rw[r.non];exact⟨rfl,trivial⟩
 | bl b=>rw[r.bl];exact⟨rfl,rfl⟩
 | int b=>rw[r.int];exact⟨rfl,rfl⟩
 | str b=>rw[r.str];exact⟨rfl,rfl⟩
 | _=>cases h
theorem eqV_eqF {v w:V}{a b:D}(h1:Scal G v a)(h2:Scal G w b)(fa:flatD a=true)(fb:flatD b=true):eqV v w=eqF a b:=by
 cases a<;>cases b<;>first | exact Bool.noConfusion fa | exact Bool.noConfusion fb | skip
 all_goals (cases v<;>first | exact h1.elim | skip)
 all_goals (cases w<;>first | exact h2.elim | skip)
 all_goals (try simp only[Scal] at h1)
 all_goals (try simp only[Scal] at h2)
 all_goals (try subst h1)
 all_goals (try subst h2)
 all_goals rfl
theorem any_eqF {w:V}{b:D}(h2:Scal G w b)(fb:flatD b=true):∀ {ds:List D} {vs:List V},Reps G Fz am H (zs ds.length) vs ds (λ_=>0)->ds.all flatD=true->(vs.all flatV=true)∧(vs.any λy=>eqV y w)=ds.any λy=>eqF y b
 | [],vs,r,_=>by cases r;exact⟨rfl,rfl⟩
 | d :: ds,vs,r,h=>by
  rw[show zs (d :: ds).length=.z :: zs ds.length from List.replicate_succ] at r
  rw[List.all_cons,Bool.and_eq_true] at h
  cases r with
  | cons r1 r2 h3=>
   obtain⟨f1,s1⟩:=r1.flat' h.1
   obtain⟨a1,a2⟩:=any_eqF h2 fb (r2.fp (Reps.z0 r2)) h.2
   exact⟨by rw[List.all_cons,f1,a1];rfl,by rw[List.any_cons,List.any_cons,a2,eqV_eqF s1 h2 h.1 fb]⟩
end
theorem v_inT (neg:Bool):VOp G (l2 (rIn G.K neg)) (oInT neg):=v_S2 λFz am H v w a b d Q h1 h2 e q=>by
 split at e
 ·rename_i ds
  obtain⟨hk,e2⟩:=bifS e
  subst e2
  rw[Bool.and_eq_true] at hk
  obtain⟨p,vs,rfl,r,s⟩:=h2.tup
  obtain⟨f1,s1⟩:=h1.flat' hk.1
  obtain⟨a1,a2⟩:=any_eqF s1 hk.1 s hk.2
  refine⟨p,vs,rfl,.inr r,f1,a1,q _ ?_⟩
  show (if neg=true then !(vs.any λy=>eqV y v) else vs.any λy=>eqV y v)=_
  rw[a2]
 ·cases e
end
@[simp] def oIn:Op:=λds=>orOp (oInK false) (orOp (oInL false) (orOp (oInT false) (oInS false))) ds
@[simp] def Wm:Op:=λds=>orOp (oInK true) (orOp (oInL true) (orOp (oInT true) (oInS true))) ds
section
variable {S:Sx}{e a b c tg:Expr}{es elts:List Expr}{da db dc:Den}{das:DenL}{pos p tpos apos cpos:Pos}{kk:Nat}
theorem un65 {X:Cx}(hX:Stx S X):X.A.units+65<cLine:=by have:=hX.room.un;omega
theorem unD {X:Cx}(hX:Stx S X):X.A.units+1<cLine:=by have:=hX.room.un;omega
theorem ci_inL:CmpI S .In (oInL false):=⟨_,λX hX=>hX.K▸op_inD (un65 hX),v_inL false⟩
theorem ci_ninL:CmpI S .NotIn (oInL true):=⟨_,λX hX=>hX.K▸op_notInD (un65 hX),v_inL true⟩
theorem ci_inT:CmpI S .In (oInT false):=⟨_,λX hX=>hX.K▸op_in_seq,v_inT false⟩
theorem ci_ninT:CmpI S .NotIn (oInT true):=⟨_,λX hX=>hX.K▸op_notIn_seq,v_inT true⟩
theorem ci_inS:CmpI S .In (oInS false):=⟨_,λX hX=>op_in_sign,v_inS false⟩
theorem ci_ninS:CmpI S .NotIn (oInS true):=⟨_,λX hX=>op_notIn_sign,v_inS true⟩
theorem de_inK (ha:DE S a da)(hb:DE S b db)(hm:Ww b=true):DE S (.Compare a [.In] [b] pos) (dOp (oInK false) (Zb da (Za db))):=λW=>by
 obtain⟨ta,pa,qa⟩:=ha W
 obtain⟨tb,pb,qb⟩:=hb W
 exact⟨tOp (rDIn false) ta tb,λX hX tk=>pe_cmp (pc_din (unD hX) (pa X hX tk) (pb X hX tk)) (marks hm),λg env st T σ H Q hT R h=>run2 (v_inK false) qa qb g env st T σ H Q hT R h⟩
theorem de_ninK (ha:DE S a da)(hb:DE S b db)(hm:Ww b=true):DE S (.Compare a [.NotIn] [b] pos) (dOp (oInK true) (Zb da (Za db))):=λW=>by
 obtain⟨ta,pa,qa⟩:=ha W
 obtain⟨tb,pb,qb⟩:=hb W
 exact⟨tOp (rDIn true) ta tb,λX hX tk=>pe_cmp (pc_dnotin (unD hX) (pa X hX tk) (pb X hX tk)) (marks hm),λg env st T σ H Q hT R h=>run2 (v_inK true) qa qb g env st T σ H Q hT R h⟩
theorem dt_inK (ha:DE S a da)(hb:DE S b db)(hm:Ww b=true):DT S (.Compare a [.In] [b] pos) (dB (dOp (oInK false) (Zb da (Za db)))):=λW=>by
 obtain⟨ta,pa,qa⟩:=ha W
 obtain⟨tb,pb,qb⟩:=hb W
 exact⟨tB (tOp (rDIn false) ta tb),λX hX tk=>pt_cmp (pc_din (unD hX) (pa X hX tk) (pb X hX tk)) (marks hm),λg env st T σ H Q hT R h=>run2 (v_inK false) qa qb g env st T σ H _ hT R (postB h)⟩
theorem dt_ninK (ha:DE S a da)(hb:DE S b db)(hm:Ww b=true):DT S (.Compare a [.NotIn] [b] pos) (dB (dOp (oInK true) (Zb da (Za db)))):=λW=>by
 obtain⟨ta,pa,qa⟩:=ha W
 obtain⟨tb,pb,qb⟩:=hb W
 exact⟨tB (tOp (rDIn true) ta tb),λX hX tk=>pt_cmp (pc_dnotin (unD hX) (pa X hX tk) (pb X hX tk)) (marks hm),λg env st T σ H Q hT R h=>run2 (v_inK true) qa qb g env st T σ H _ hT R (postB h)⟩
theorem de_in (ha:DE S a da)(hb:DE S b db)(hm:Ww b=true):DE S (.Compare a [.In] [b] pos) (dOp oIn (Zb da (Za db))):=VD (de_inK ha hb hm) (VD (de_c ci_inL ha hb hm) (VD (de_c ci_inT ha hb hm) (de_c ci_inS ha hb hm)))
theorem de_nin (ha:DE S a da)(hb:DE S b db)(hm:Ww b=true):DE S (.Compare a [.NotIn] [b] pos) (dOp Wm (Zb da (Za db))):=VD (de_ninK ha hb hm) (VD (de_c ci_ninL ha hb hm) (VD (de_c ci_ninT ha hb hm) (de_c ci_ninS ha hb hm)))
theorem dt_in (ha:DE S a da)(hb:DE S b db)(hm:Ww b=true):DT S (.Compare a [.In] [b] pos) (dB (dOp oIn (Zb da (Za db)))):=ZcQ (dt_inK ha hb hm) (ZcQ (dt_c ci_inL ha hb hm) (ZcQ (dt_c ci_inT ha hb hm) (dt_c ci_inS ha hb hm)))
theorem dt_nin (ha:DE S a da)(hb:DE S b db)(hm:Ww b=true):DT S (.Compare a [.NotIn] [b] pos) (dB (dOp Wm (Zb da (Za db)))):=ZcQ (dt_ninK ha hb hm) (ZcQ (dt_c ci_ninL ha hb hm) (ZcQ (dt_c ci_ninT ha hb hm) (dt_c ci_ninS ha hb hm)))
end
section
variable {G:Sg}
@[simp] def intsOf:List D->Option (List Int)
 | []=>some []
 | .int b :: ds=>(intsOf ds).map (b :: ·)
 | _=>none
@[simp] def strsOf:List D->Option (List Str)
 | []=>some []
 | .str b :: ds=>(strsOf ds).map (b :: ·)
 | _=>none
theorem scal_str {v:V}{b:Str}(h:Scal G v (.str b)):v=.str b:=by cases v<;>first | exact congrArg V.str h | exact h.elim
theorem strs_reps {Fz:Addr->Prop}{am:List Addr}{H:Hp}:∀ {ds:List D} {fs:List Fr} {vs:List V} {n:Fp} {bs:List Str},Reps G Fz am H fs vs ds n->strsOf ds=some bs->vs=bs.map V.str
 | [],_,_,_,bs,r,h=>by cases r;cases h;rfl
 | .str b :: ds,_,_,_,bs,r,h=>by
  obtain⟨bs',e1,e2⟩:=Option.map_eq_some_iff.mp h
  subst e2
  cases r with
  | cons r1 r2 _=>
   rw[strs_reps r2 e1]
   cases r1 with
   | sc s _=>rw[scal_str s];rfl
theorem ZcB {Fz:Addr->Prop}{am:List Addr}{H:Hp}:∀ (ns:List Str),Reps G Fz am H (zs (ns.map D.str).length) (ns.map V.str) (ns.map D.str) (λ_=>0)
 | []=>.nil λ_=>rfl
 | n :: ns=>by
  show Reps G Fz am H (zs ((ns.map D.str).length+1)) (V.str n :: ns.map V.str) (D.str n :: ns.map D.str) _
  rw[show zs ((ns.map D.str).length+1)=.z :: zs (ns.map D.str).length from List.replicate_succ]
  exact .cons (n1:=λ_=>0) (n2:=λ_=>0) (.sc rfl λ_=>rfl) (ZcB ns) λ_=>rfl
@[simp] def oSum:Op:=oS1 λa=>match a with
 | .con k xs=>bif k.sq then (intsOf xs).map λbs=>.int bs.sum else none
 | _=>none
def strOkI (i:Int):Bool:=decide (i.natAbs.log2<1920)
@[simp] def oStr:Op:=oS1 λa=>match a with
 | .int i=>bif strOkI i then some (.str (toString i)) else none
 | .str x=>some (.str x)
 | _=>none
theorem v_str:VOp G (λxs H Q=>(∃ i,xs=[.int i]∧i.natAbs.log2<1920∧Q (.str (toString i)) H)∨∃ a,xs=[.str a]∧Q (.str a) H) oStr:=v_C1 λFz am H v a d Q h e q=>by
 split at e
 ·obtain⟨hk,e2⟩:=bifS e
  subst e2
  rw[h.int]
  exact .inl ⟨_,rfl,of_decide_eq_true hk,q _ rfl⟩
 ·cases e
  rw[h.str]
  exact .inr ⟨_,rfl,q _ rfl⟩
 ·cases e
@[simp] def Wn (x:Str):Op:=oS1 λb=>match b with
 | .con k xs=>bif k.seq then (strsOf xs).bind λys=>bif ((ys.map (·.length)).sum+ys.length * x.length).ble 16777216 then some (.str (Txt.join x ys)) else none else none
 | _=>none
theorem v_join (s:Str):VOp G (λxs H Q=>(λx xs H Q=>∃ a p,∃ ys:List Str,x=V.str a∧xs=[.ref p]∧(SqL G.K H p (ys.map V.str)∨SqT G.K H p (ys.map V.str))∧(ys.map (·.length)).sum+ys.length * a.length<=16777216∧Q (.str (Txt.join a ys)) H) (.str s) xs H Q) (Wn s):=v_C1 λFz am H v a d Q h e q=>by
 split at e
 ·rename_i k xs
  cases hk:k.seq with
  | false=>rw[hk] at e;cases e
  | true=>
   rw[hk] at e
   obtain⟨ys,e1,e2⟩:=Option.bind_eq_some_iff.mp e
   obtain⟨c,e3⟩:=bifS e2
   subst e3
   obtain⟨p,vs,rfl,r,s⟩:=h.seq hk
   have ev:=strs_reps s e1
   subst ev
   exact⟨_,p,ys,rfl,rfl,r,Nat.le_of_ble_eq_true c,q _ rfl⟩
 ·cases e
@[simp] def Zq (x:Str):Op:=λds=>match ds with
 | [.str y]=>bif !(y.length==0)&&x.length.ble 1000000 then some (.c .z,.con .lst ((Txt.split x y).map D.str)) else none
 | _=>none
theorem v_split (s:Str):VOp G (λxs H Q=>(λx xs H Q=>∃ a b,x=V.str a∧xs=[.str b]∧(b.length==0)=false∧a.length+2<=sizeLine∧rNewStrs (Txt.split a b) H Q) (.str s) xs H Q) (Zq s):=λFz am H vs ds fr d Q h1 h2 h3=>by
 unfold Zq at h2
 split at h2
 ·obtain⟨v,rfl,a⟩:=h1.one
  obtain⟨hk,e⟩:=bifS h2
  cases e
  rw[Bool.and_eq_true] at hk
  rw[a.str]
  refine⟨_,_,rfl,rfl,by simpa using hk.1,?_,UL (ZcB _) h3⟩
  have:=Nat.le_of_ble_eq_true hk.2
  have hs:1000002<=sizeLine:=by decide
  omega
 ·cases h2
@[simp] def oPre (x:Str):Op:=oS1 λb=>match b with
 | .str y=>bif x.length.ble 16777216 then some (.str (Txt.removeprefix x y)) else none
 | _=>none
theorem v_pre (s:Str):VOp G (λxs H Q=>(λx xs H Q=>∃ a b,x=V.str a∧xs=[.str b]∧a.length<=sizeLine∧Q (.str (Txt.removeprefix a b)) H) (.str s) xs H Q) (oPre s):=v_C1 λFz am H v a d Q h e q=>by
 split at e
 ·obtain⟨hk,e2⟩:=bifS e
  subst e2
  rw[h.str]
  exact⟨_,_,rfl,rfl,ZbH hk,q _ rfl⟩
 ·cases e
@[simp] def Zaw (x:Str):Op:=λds=>match ds with
 | [.str y]=>bif !(y.length==0)&&x.length.ble 1000000 then some (.z,.con .tup [.str (Txt.partition x y).1,.str (Txt.partition x y).2.1,.str (Txt.partition x y).2.2]) else none
 | _=>none
theorem v_part (s:Str):VOp G (λxs H Q=>(λx xs H Q=>∃ a b,x=V.str a∧xs=[.str b]∧(b.length==0)=false∧a.length<=sizeLine∧∀ p,H p=none->Q (.ref p) (upd H p (.tup [.str (Txt.partition a b).1,.str (Txt.partition a b).2.1,.str (Txt.partition a b).2.2]))) (.str s) xs H Q) (Zaw s):=λFz am H vs ds fr d Q h1 h2 h3=>by
 unfold Zaw at h2
 split at h2
 ·obtain⟨v,rfl,a⟩:=h1.one
  obtain⟨hk,e⟩:=bifS h2
  cases e
  rw[Bool.and_eq_true] at hk
  rw[a.str]
  refine⟨_,_,rfl,rfl,by simpa using hk.1,?_,UT (vs:=[.str _,.str _,.str _]) ?_ h3⟩
  ·have:=Nat.le_of_ble_eq_true hk.2
   have hs:1000002<=sizeLine:=by decide
   omega
  ·exact ZcB [_,_,_]
 ·cases h2
end
section
variable {S:Sx}{e a b c tg:Expr}{es elts:List Expr}{da db dc:Den}{das:DenL}{pos p tpos apos cpos:Pos}{kk:Nat}{x:Str}
theorem bi_str (hg:S.sc.names.lookup ("str":Str)=some .globalImplicit)(hm:S.mg "str"=none)(ha:DE S a da)(hp:ZD [a]=true):DE S (.Call (.Name "str" p) [a] [] pos) (dOp oStr (Za da)):=
 de_ty (id:="str") (λX hX=>call_str_int.or SkE.call_str_str) v_str hg hm (by rfl) (by decide) (by decide) (Zh ha (Zv hp _ (by simp))) hp
@[simp] def dSM (op:Str->Op)(a:Den)(as:DenL):Den:=λenv st=>match a env st with
 | .ok _ _ (.str s) st1=>dOp (op s) as env st1
 | .ok _ _ _ _=>.stuck
 | .exc c ds st1=>.exc c ds st1
 | .stuck=>.stuck
theorem Rl.str {G:Sg}{g:Gd}{env:Env}{st:Zd}{T:List Tm}{σ:St}{H:Hp}{v:V}{f:Fr}{b:Bool}{c:Str}(R:Rl G g env st (⟨v,f,.str c,b⟩ :: T) σ H):v=.str c:=by
 obtain⟨Fz,am,ne,nt,ns,h1,h2,h3,h4,h5⟩:=R
 have key:∀ {n:Fp},Rep G Fz am H f v (.str c) n->v=.str c:=λ{n} r=>by
  cases r with
  | sc h _=>cases v<;>first | exact congrArg V.str h | exact h.elim
 cases h2 with
 | own h _ _=>exact key h
 | bor h _ _=>exact key h
theorem de_sm1 {m:Str}{id:String}{r:V->List V->Hp->VK->Prop}{op:Str->Op}(slot:PySem.Slot "str" m id)(hty:typeOf (.builtin id)=pure (.type "method_descriptor"))(hmt:∀ X,Stx S X->MtR X id r)(hv:∀ s,VOp S.G (λxs H Q=>r (.str s) xs H Q) (op s))
  (ha:DE S a da) (hb:DE S b db) (hl:(apos.endLine==cpos.line)=true) (hbase:∀ env,attributeBase a m env (eval a env)=eval a env) (hp:ZD [b]=true) :
  DE S (.Call (.Attribute a m apos) [b] [] cpos) (dSM op da (Za db)):=λW=>by
 obtain⟨ta,pa,qa⟩:=ha W
 obtain⟨tb,pb,qb⟩:=hb W
 have hs:=Zv hp b (by simp)
 refine⟨tBM S.G.K "str" r ta (tCons tb tNil),λX hX tk=>by
  rw[<- hX.K]
  exact pe_bm PySem.F.plainAttrs_str slot hty (hmt X hX) (pa X hX tk) (pa_cons (pb X hX tk) pa_nil (Wo hs)) (hbase _) (by rw[Wo hs];rfl) hl (Wo hs) rfl,λg env st T σ H Q hT R h=>qa g env st T σ H _ hT R ?_⟩
 unfold dSM at h
 cases e1:da env st with
 | stuck=>rw[e1] at h;exact h.elim
 | exc c ds st1=>rw[e1] at h;exact h
 | ok f b0 d st1=>
  rw[e1] at h
  cases d with
  | str s=>
   intro v H1 R1
   have ev:=R1.str
   subst ev
   exact⟨rfl,run1 (hv s) qb g env st1 T σ H1 Q hT R1.drop h⟩
  | _=>exact h.elim
theorem Ut (ha:DE S a da)(hb:DE S b db)(hl:(apos.endLine==cpos.line)=true)(hbase:∀ env,attributeBase a "join" env (eval a env)=eval a env)(hp:ZD [b]=true):DE S (.Call (.Attribute a "join" apos) [b] [] cpos) (dSM Wn da (Za db)):=
 de_sm1 PySem.F.slot_str_join PySem.F.type_str_join (λX hX=>hX.K▸mt_join) v_join ha hb hl hbase hp
theorem WS (ha:DE S a da)(hb:DE S b db)(hl:(apos.endLine==cpos.line)=true)(hbase:∀ env,attributeBase a "split" env (eval a env)=eval a env)(hp:ZD [b]=true):DE S (.Call (.Attribute a "split" apos) [b] [] cpos) (dSM Zq da (Za db)):=
 de_sm1 PySem.F.slot_str_split PySem.F.type_str_split (λX hX=>mt_split) v_split ha hb hl hbase hp
theorem de_part (ha:DE S a da)(hb:DE S b db)(hl:(apos.endLine==cpos.line)=true)(hbase:∀ env,attributeBase a "partition" env (eval a env)=eval a env)(hp:ZD [b]=true):DE S (.Call (.Attribute a "partition" apos) [b] [] cpos) (dSM Zaw da (Za db)):=
 de_sm1 PySem.F.slot_str_partition PySem.F.type_str_partition (λX hX=>mt_partition) v_part ha hb hl hbase hp
theorem de_pre (ha:DE S a da)(hb:DE S b db)(hl:(apos.endLine==cpos.line)=true)(hbase:∀ env,attributeBase a "removeprefix" env (eval a env)=eval a env)(hp:ZD [b]=true):DE S (.Call (.Attribute a "removeprefix" apos) [b] [] cpos) (dSM oPre da (Za db)):=
 de_sm1 PySem.F.slot_str_removeprefix PySem.F.type_str_removeprefix (λX hX=>mt_removeprefix) v_pre ha hb hl hbase hp
inductive DJ (S:Sx):List Expr->List Den->Prop
 | nil:DJ S [] []
 | cons {e:Expr} {d:Den} {es:List Expr} {ds:List Den} (h:DE S e d) (r:DJ S es ds):DJ S (e :: es) (d :: ds)
end
@[simp] def dIv (a:Den):DenI:=λenv st=>match a env st with
 | .ok f b (.con .lst ds) st1=>bif !b||f.isz then .ok ds st1 else .stuck
 | .ok f b (.con .tup ds) st1=>bif !b||f.isz then .ok ds st1 else .stuck
 | .ok f b (.con .frl ds) st1=>bif !b||f.isz then .ok ds st1 else .stuck
 | .ok f b (.con (.dik ks) ds) st1=>bif !b||f.isz then .ok (ks.map keyD) st1 else .stuck
 | .ok _ _ (.str x) st1=>.ok (chars x) st1
 | .ok _ _ _ _=>.stuck
 | .exc c ds st1=>.exc c ds st1
 | .stuck=>.stuck
section
variable {G:Sg}{g:Gd}{env:Env}{st st':Zd}{T T':List Tm}{σ:St}{H H':Hp}
theorem it_frl {a:Addr}{ds:List D}:ItOk G g (Itl G.K a) [⟨.ref a,.z,.con .frl ds,false⟩] ds where
 nb:=λx hx=>by rw[List.mem_singleton.mp hx]
 go:=λi env st T σ H R hi=>R.oneD (P:=_) λFz am r=>by
  obtain⟨vs,e1,e2⟩:=sqRep rfl (by decide) r
  exact⟨vs,_,e1,List.getElem?_eq_getElem (by rw[e2.len.2];exact hi)⟩
 yld:=λi env st T σ H x H' d R y e=>by
  obtain⟨rfl,q⟩:=y
  exact R.pz λFz am ne nt' _ h2=>by
   cases h2 with
   | own k1 k2 k3=>
    obtain⟨vs,a1,a2⟩:=sqRep rfl (by decide) k1
    exact UU a2 (q vs a1) e
 stop:=λi env st T σ H R hi=>R.oneD (P:=_) λFz am r=>by
  obtain⟨vs,e1,e2⟩:=sqRep rfl (by decide) r
  exact⟨vs,e1,by rw[e2.len.2];omega⟩
theorem it_str {x:Str}:ItOk G g (Its x) [] (chars x) where
 nb:=λx hx=>by cases hx
 go:=λi env st T σ H R hi=>by
  show i<x.cps.size
  simpa [chars] using hi
 yld:=λi env st T σ H y H' d R hy e=>by
  obtain⟨rfl,c,e1,rfl⟩:=hy
  unfold chars at e
  rw[List.getElem?_map,Array.getElem?_toList,e1] at e
  cases e
  exact Rl.scal R rfl
 stop:=λi env st T σ H R hi=>by
  show x.cps.size<=i
  rw[hi]
  simp[chars]
end
section
variable {S:Sx}{e a b tg it elt it1 tg1:Expr}{ifs ifs1:List Expr}{es elts:List Expr}{da db:Den}{das:DenL}{pos p' tpos apos cpos:Pos}{kk:Nat}
theorem WO (ha:DE S a da):DI S tg a (dIv da):=λW=>by
 obtain⟨w1,p1,q1⟩:=di_val (tg:=tg) ha W
 obtain⟨w2,p2,q2⟩:=di_keys (tg:=tg) ha W
 obtain⟨t,p,q⟩:=ha W
 refine⟨λσ H R=>w1 σ H R∨(w2 σ H R∨(iList S.G.K t σ H R∨iStr t σ H R)),λX hX tk=>PI.or (p1 X hX tk) (PI.or (p2 X hX tk) (PI.or (by rw[<- hX.K];exact pi_list (p X hX tk)) (pi_str (p X hX tk)))),λg env st T σ H R0 hT R h=>?_⟩
 unfold dIv at h
 cases e:da env st with
 | stuck=>rw[e] at h;exact h.elim
 | exc c ds st1=>rw[e] at h;exact .inl (q1 g env st T σ H R0 hT R (by unfold dIvS;rw[e];exact h))
 | ok f b d st1=>
  rw[e] at h
  cases d with
  | con k ds=>
   cases k with
   | lst=>exact .inl (q1 g env st T σ H R0 hT R (by unfold dIvS;rw[e];exact h))
   | tup=>exact .inl (q1 g env st T σ H R0 hT R (by unfold dIvS;rw[e];exact h))
   | dik ks=>exact .inr (.inl (q2 g env st T σ H R0 hT R (by unfold dKeysI;rw[e];exact h)))
   | frl=>
    obtain⟨hc,h⟩:=bifT h id
    refine .inr (.inr (.inl (q g env st T σ H _ hT R ?_)))
    rw[e]
    intro v H1 R1
    have R2:=(R1.unb hc).frz
    obtain⟨a,vs,rfl,e1,e2⟩:=frlOpen rfl (by decide) R2
    exact⟨a,rfl,⟨vs,e1⟩,h _ H1 _ g .refl it_frl R2⟩
   | _=>exact h.elim
  | str x=>
   refine .inr (.inr (.inr (q g env st T σ H _ hT R ?_)))
   rw[e]
   intro v H1 R1
   exact⟨x,R1.str,h _ H1 [] g .refl it_str R1.drop⟩
  | _=>exact h.elim
theorem Rl.dim {G:Sg}{g:Gd}{env:Env}{st:Zd}{l T:List Tm}{a:Tm}{σ:St}{H:Hp}(R:Rl G g env st (a :: (l++T)) σ H):Rl G g env st (l++a :: T) σ H:=by
 obtain⟨Fz,am,ne,nt,ns,h1,h2,h3,h4,h5⟩:=R
 exact⟨Fz,am,ne,nt,ns,h1,h2.dim,h3,h4,h5⟩
section
variable {di di1:DenI}{p p1:Pat}{c c1:DenB}{el:Den}{scope:Scope}{own:List (Str × Nat)}{own1:List Nat}{pos:Pos}
end
end
end Hx
namespace Hx
open PySem PySem.Spec L2
noncomputable section
@[simp] def ZfN:Zi:=
  ZG 1 (dOp oAdd (Zb (dC (.int 31)) (Za (dOp oLen (Za (dOp oSlH (Zb (Ze 0) (Za (dC (.int 63))))))))))
@[simp] def Zcr:Zi:=
  ZG 1 (dOp oMod (Zb (dOp oAdd (Zb (dOp oAdd (Zb (dOp oMul (Zb (Ze 1) (Za (dC (.int 48271))))) (Za (dOp oMod (Zb (Ze 2) (Za (dC (.int 2147483629)))))))) (Za (dC (.int 7))))) (Za (dC (.int 2147483647)))))
def Zad:Zi:=
  Zcr
@[simp] def ZfP:Zi:=
  dFor (dIv (dOp oSlH (Zb (Ze 0) (Za (dC (.int 63)))))) (.nm 2) (Zad) []
@[simp] def ZfL:Zi:=
  dRet (dLst (Zb (dOp oList (Za (dOp oSlH (Zb (Ze 0) (Za (dC (.int 63))))))) (Zb (dC (.int 0)) (Zb (dC (.int 0)) (Zb (Ze 1) (Za (dC (.int 0))))))))
@[simp] def ZdH:Zi:=
  dSeq (ZfN) (dSeq (ZfP) (ZfL))
def Zcb:Fn:=WB 3 ZdH
@[simp] def Ux:Zi:=
  ZG 2 (dOp oIx (Zb (dOp oIx (Zb (Ze 0) (Za (dC (.int 0))))) (Za (dOp oIx (Zb (Ze 0) (Za (dC (.int 1))))))))
@[simp] def Uu:Zi:=
  dPutC (Ze 0) (dC (.int 1)) (dOp oAdd (Zb (dOp oIx (Zb (Ze 0) (Za (dC (.int 1))))) (Za (dC (.int 1)))))
@[simp] def UP:Zi:=
  dPutC (Ze 0) (dC (.int 3)) (dOp oMod (Zb (dOp oAdd (Zb (dOp oAdd (Zb (dOp oMul (Zb (dOp oIx (Zb (Ze 0) (Za (dC (.int 3))))) (Za (dC (.int 40503))))) (Za (dOp oMod (Zb (Ze 2) (Za (dC (.int 2147483563)))))))) (Za (dC (.int 1))))) (Za (dC (.int 2147483629)))))
@[simp] def Uv:Zi:=
  dIfS (dB (dOp oGe (Zb (Ze 2) (Za (dOp oPow (Zb (dC (.int 10)) (Za (dC (.int 18))))))))) (dPutC (Ze 0) (dC (.int 2)) (Ze 2)) (UP)
@[simp] def WQ:Zi:=
  dIfS (dAndB (dB (dOp oEq (Zb (dOp oIx (Zb (Ze 0) (Za (dC (.int 2))))) (Za (dC (.int 0)))))) (dB (dOp oLt (Zb (dOp oIx (Zb (Ze 0) (Za (dC (.int 1))))) (Za (dOp oLen (Za (dOp oIx (Zb (Ze 0) (Za (dC (.int 0)))))))))))) (dSeq (Ux) (dSeq (Uu) (Uv))) (Wj)
@[simp] def Zbf:Zi:=
  ZG 3 (dOp oMod (Zb (dOp oIx (Zb (Ze 0) (Za (dC (.int 2))))) (Za (Ze 1))))
@[simp] def Zbp:Zi:=
  dPutC (Ze 0) (dC (.int 2)) (dOp oFdiv (Zb (dOp oIx (Zb (Ze 0) (Za (dC (.int 2))))) (Za (Ze 1))))
@[simp] def Zbx:Zi:=
  dIfS (dB (dOp oGt (Zb (dOp oIx (Zb (Ze 0) (Za (dC (.int 2))))) (Za (dC (.int 0)))))) (dSeq (Zbf) (dSeq (Zbp) (ZN (Ze 3)))) (Wj)
@[simp] def ZeK:Zi:=
  dPutC (Ze 0) (dC (.int 4)) (dOp oAdd (Zb (dOp oIx (Zb (Ze 0) (Za (dC (.int 4))))) (Za (dC (.int 1)))))
@[simp] def ZeL:Zi:=
  ZG 4 (dOp oAdd (Zb (dOp oMul (Zb (dOp oIx (Zb (Ze 0) (Za (dC (.int 3))))) (Za (dOp oIx (Zb (Ze 0) (Za (dC (.int 3)))))))) (Za (dOp oMul (Zb (dOp oMul (Zb (dC (.int 48271)) (Za (dOp oIx (Zb (Ze 0) (Za (dC (.int 4)))))))) (Za (dOp oAdd (Zb (dOp oMod (Zb (dOp oIx (Zb (Ze 0) (Za (dC (.int 3))))) (Za (dC (.int 8191))))) (Za (dC (.int 5)))))))))))
@[simp] def ZdV:Zi:=
  dPutC (Ze 0) (dC (.int 3)) (dOp oMod (Zb (dOp oAdd (Zb (dOp oAdd (Zb (Ze 4) (Za (dOp oMul (Zb (dOp oMul (Zb (dOp oIx (Zb (Ze 0) (Za (dC (.int 4))))) (Za (dOp oIx (Zb (Ze 0) (Za (dC (.int 4)))))))) (Za (dOp oIx (Zb (Ze 0) (Za (dC (.int 4))))))))))) (Za (dC (.int 12345))))) (Za (dC (.int 2147483629)))))
@[simp] def ZeF:Zi:=
  ZN (dOp oMod (Zb (dOp oAdd (Zb (dOp oFdiv (Zb (dOp oIx (Zb (Ze 0) (Za (dC (.int 3))))) (Za (dC (.int 71))))) (Za (dOp oMul (Zb (dOp oMod (Zb (dOp oIx (Zb (Ze 0) (Za (dC (.int 3))))) (Za (dC (.int 7919))))) (Za (dC (.int 37)))))))) (Za (Ze 1))))
@[simp] def ZgF:Zi:=
  dSeq (ZdV) (ZeF)
@[simp] def Zgy:Zi:=
  dSeq (ZeL) (ZgF)
@[simp] def Zgx:Zi:=
  dSeq (ZeK) (Zgy)
@[simp] def ZgN:Zi:=
  dSeq (Zbx) (Zgx)
@[simp] def ZaF:Zi:=
  dSeq (WQ) (ZgN)
def ZV:Fn:=WB 5 ZaF
@[simp] def Zbn (rec:Fn):Zi:=
  ZN (dAnd (dOp oIsN (Zb (Ze 1) (Za (dC .non)))) (dOp oIsN (Zb (Ze 0) (Za (dC .non)))))
@[simp] def VT (rec:Fn):Zi:=
  dIfS (dOrB (dB (dOp oIsN (Zb (Ze 1) (Za (dC .non))))) (dB (dOp oIsN (Zb (Ze 0) (Za (dC .non)))))) (Zbn rec) (Wj)
@[simp] def Zfo (rec:Fn):Zi:=
  ZN (dAnd (dIsi [.bl] (Ze 1)) (dAnd (dIsi [.bl] (Ze 0)) (dOp oEq (Zb (Ze 0) (Za (Ze 1))))))
@[simp] def Zag (rec:Fn):Zi:=
  dIfS (dOrB (dB (dIsi [.bl] (Ze 1))) (dB (dIsi [.bl] (Ze 0)))) (Zfo rec) (Wj)
@[simp] def UC (rec:Fn):Zi:=
  ZN (dAnd (dOp oEq (Zb (dIsi [.int] (Ze 0)) (Za (dIsi [.int] (Ze 1))))) (dOp oEq (Zb (Ze 0) (Za (Ze 1)))))
@[simp] def Zaf (rec:Fn):Zi:=
  dIfS (dB (dIsi [.int,.str] (Ze 1))) (UC rec) (Wj)
@[simp] def Zes (rec:Fn):Zi:=
  dIfS (dOrB (dB (dOp oNe (Zb (dIsi [.lst] (Ze 1)) (Za (dIsi [.lst] (Ze 0)))))) (dB (dOp oNe (Zb (dIsi [.tup] (Ze 1)) (Za (dIsi [.tup] (Ze 0))))))) (ZN (dC (.bl false))) (Wj)
@[simp] def Zeq (rec:Fn):Zi:=
  ZN (dAnd (dOp oEq (Zb (dOp oLen (Za (Ze 0))) (Za (dOp oLen (Za (Ze 1)))))) (dOp oAll (Za (dLc (ZaL (Za (dOp oLen (Za (Ze 1))))) [2] (.nm 2) (dYes) (Zu rec [] (Zb (dOp oIx (Zb (Ze 0) (Za (Ze 2)))) (Za (dOp oIx (Zb (Ze 1) (Za (Ze 2)))))))))))
@[simp] def ZgQ (rec:Fn):Zi:=
  dSeq (Zes rec) (Zeq rec)
@[simp] def Zgw (rec:Fn):Zi:=
  dSeq (Zaf rec) (ZgQ rec)
@[simp] def ZgJ (rec:Fn):Zi:=
  dSeq (Zag rec) (Zgw rec)
@[simp] def VU (rec:Fn):Zi:=
  dSeq (VT rec) (ZgJ rec)
def WH:Nat->Fn
 | 0=>λ_ _=>.stuck
 | m+1=>WB 3 (VU (WH m))
@[simp] def Zhy:Zi:=
  ZN (dOp oIx (Zb (Ze 1) (Za (Zu ZV [] (Zb (Ze 0) (Za (dOp oLen (Za (Ze 1)))))))))
@[simp] def Zgi:Zi:=
  Zhy
def Uh:Fn:=WB 2 Zgi
end
noncomputable section
end
noncomputable section
end
end Hx
namespace Hx
open PySem PySem.Spec L2 PySem.W PyProof.Rows
section
variable {prog:Program}{w:World}{A:Around}{E:Value->Shared->Prop}{s:Shared}
end
section
variable {S:Sx}{tg e:Expr}{tgs es:List Expr}{p:Pat}{ps:List Pat}{da:Den}{pos:Pos}{k i n:Nat}
end
end Hx
namespace Hx
open PySem PySem.Spec L2
open PyProof.Rows hiding St
section
variable {G:Sg}{g:Gd}{env:Env}{st st':Zd}{T T':List Tm}{σ:St}{H H':Hp}{Fz Fz':Addr->Prop}{am am':List Addr}{t:Fp}{x:Addr}{o o':HO}{B B':(Addr->Prop)->List Addr->Prop}
def Ul (g:Gd)(x:Addr)(o:HO):Gd:=⟨upd g.H0 x o,λq=>g.A0 q∧q≠x,g.F0,g.am0⟩
def Free (g:Gd)(x:Addr):Prop:=g.A0 x∨g.H0 x=none
theorem Home.ne (h:Home G g)(hx:Free g x){p:Addr}{u:HO}(e:g.H0 p=some u)(n:¬ OwnK u):p≠x:=λc=>by
 subst c
 rcases hx with a | z
 ·obtain⟨w,e1,k⟩:=h.a _ a
  rw[e] at e1;cases e1
  exact n k
 ·rw[z] at e;cases e
theorem Home.nF (h:Home G g)(hx:Free g x):¬ g.F0 x:=λf=>by
 obtain⟨na,w,e,_⟩:=h.fz x f
 rcases hx with a | z
 ·exact na a
 ·rw[z] at e;cases e
theorem Home.keep (h:Home G g)(hx:Free g x):Home G (Ul g x o):=by
 refine⟨λp f=>?_,λp a=>?_,λj l e=>?_⟩
 ·obtain⟨na,w,e,k⟩:=h.fz p f
  have c:p≠x:=λc=>h.nF hx (c▸f)
  exact⟨λz=>na z.1,w,by show upd g.H0 x o p=_;rw[upd_ne c];exact e,k⟩
 ·obtain⟨w,e,k⟩:=h.a p a.1
  exact⟨w,by show upd g.H0 x o p=_;rw[upd_ne a.2];exact e,k⟩
 ·obtain⟨h1,h2⟩:=h.lam j l e
  refine⟨λy hy=>?_,h2.ext ⟨λ_ f=>f,λ_ _ f=>f,λp u f r=>?_,λp u f e _=>?_,λp xs r=>?_⟩ λp u hp=>absurd hp (Nat.lt_irrefl 0)⟩
  ·obtain⟨a1,a2⟩:=h1 y hy
   exact⟨a1,by show upd g.H0 x o y.1=_;rw[upd_ne (h.ne hx a2 (ZcY a1))];exact a2⟩
  ·have c:p≠x:=λc=>h.nF hx (c▸f)
   exact r.imp (λe=>by show upd g.H0 x o p=_;rw[upd_ne c];exact e) λ⟨w,e⟩=>⟨w,by show upd g.H0 x o p=_;rw[upd_ne c];exact e⟩
  ·have c:p≠x:=λc=>h.nF hx (c▸f)
   show upd g.H0 x o p=_
   rw[upd_ne c];exact e
  ·exact r.imp (λe=>by show upd g.H0 x o p=_;rw[upd_ne (h.ne hx e λk=>k)];exact e) λ⟨w,e⟩=>⟨w,by show upd g.H0 x o p=_;rw[upd_ne (h.ne hx e λk=>k)];exact e⟩
theorem Rel0.keep (r:Rel0 G g Fz am H t)(hx:Free g x)(e:H x=some o)(t0:t x=0)(nz:¬ Fz x):Rel0 G (Ul g x o) Fz am H t:=by
 refine⟨r.n1,r.nz,r.th,r.zt,λp w nt e0 na=>?_,λp hp=>?_,r.z0,λp z=>?_,r.a,r.tb,r.hm.keep hx,λp w tt e0 na=>?_⟩
 ·by_cases c:p=x
  ·subst c
   have e0:upd g.H0 p o p=some w:=e0
   rw[upd_same] at e0;cases e0
   exact .inl e
  ·have e0:upd g.H0 x o p=some w:=e0
   rw[upd_ne c] at e0
   exact r.k p w nt e0 λa=>na ⟨a,c⟩
 ·have c:p≠x:=λc=>by rw[c,t0] at hp;cases hp
  rcases r.f p hp with a | z
  ·exact .inl ⟨a,c⟩
  ·exact .inr (by show upd g.H0 x o p=_;rw[upd_ne c];exact z)
 ·have c:p≠x:=λc=>nz (c▸z)
  rcases r.z1 p z with f | a | y
  ·exact .inl f
  ·exact .inr (.inl ⟨a,c⟩)
  ·exact .inr (.inr (by show upd g.H0 x o p=_;rw[upd_ne c];exact y))
 ·by_cases c:p=x
  ·subst c
   have e0:upd g.H0 p o p=some w:=e0
   rw[upd_same] at e0;cases e0
   exact⟨_,e,tt⟩
  ·have e0:upd g.H0 x o p=some w:=e0
   rw[upd_ne c] at e0
   exact r.kt p w tt e0 λa=>na ⟨a,c⟩
theorem Rel0.unkeep (hm:Home G g)(hx:Free g x)(r:Rel0 G (Ul g x o) Fz am H t):Rel0 G g Fz am H t:=by
 refine⟨r.n1,r.nz,r.th,r.zt,λp w nt e0 na=>?_,λp hp=>?_,r.z0,λp z=>?_,r.a,r.tb,hm,λp w tt e0 na=>?_⟩
 ·have c:p≠x:=λc=>by
   subst c
   rcases hx with a | z
   ·exact na a
   ·rw[z] at e0;cases e0
  exact r.k p w nt (by show upd g.H0 x o p=_;rw[upd_ne c];exact e0) λa=>na a.1
 ·rcases r.f p hp with a | z
  ·exact .inl a.1
  ·have z:upd g.H0 x o p=none:=z
   by_cases c:p=x
   ·subst c;rw[upd_same] at z;cases z
   ·rw[upd_ne c] at z;exact .inr z
 ·rcases r.z1 p z with f | a | y
  ·exact .inl f
  ·exact .inr (.inl a.1)
  ·have y:upd g.H0 x o p=none:=y
   by_cases c:p=x
   ·subst c;rw[upd_same] at y;cases y
   ·rw[upd_ne c] at y;exact .inr (.inr y)
 ·have c:p≠x:=λc=>by
   subst c
   rcases hx with a | z
   ·exact na a
   ·rw[z] at e0;cases e0
  exact r.kt p w tt (by show upd g.H0 x o p=_;rw[upd_ne c];exact e0) λa=>na a.1
theorem Rel0.kept (hm:Home G g)(hx:Free g x)(r:Rel0 G (Ul g x o) Fz am H t)(pl:Vm o=false):H x=some o∧t x=0∧¬ Fz x:=by
 have na:¬ (Ul g x o).A0 x:=λa=>a.2 rfl
 have e:(Ul g x o).H0 x=some o:=upd_same
 refine⟨(r.k x o pl e na).nf (hm.nF hx),?_,λz=>?_⟩
 ·cases c:t x with
  | zero=>rfl
  | succ k=>
   rcases r.f x (by omega) with a | z
   ·exact absurd a na
   ·rw[e] at z;cases z
 ·rcases r.z1 x z with f | a | y
  ·exact hm.nF hx f
  ·exact na a
  ·rw[e] at y;cases y
theorem Rel0.swap (hm:Home G g)(hx:Free g x)(r:Rel0 G (Ul g x o) Fz am H t)(pl:Vm o=false)(pe:VZ o=true)(pl':Vm o'=false):Rel0 G (Ul g x o') Fz am (upd H x o') t:=by
 obtain⟨e,t0,nz⟩:=r.kept hm hx pl
 have no:∀ {p:Addr},0<t p->p≠x:=λhp c=>by rw[c,t0] at hp;cases hp
 have nf:∀ {p:Addr},Fz p->p≠x:=λz c=>nz (c▸z)
 have ne:∀ q w,H q=some w->VZ w=false->q≠x:=λq w h1 h2 c=>by
  rw[c,e] at h1;cases h1
  rw[pe] at h2;cases h2
 refine⟨r.n1,r.nz,λp hp=>by rw[upd_ne (no hp)];exact r.th p hp,λp z=>by rw[upd_ne (nf z)];exact r.zt p z,λp w nt e0 na=>?_,λp hp=>?_,r.z0,λp z=>?_,r.a,λy hy=>?_,hm.keep hx,λp w tt e0 na=>?_⟩
 ·by_cases c:p=x
  ·subst c
   have e0:upd g.H0 p o' p=some w:=e0
   rw[upd_same] at e0;cases e0
   exact .inl upd_same
  ·have e0:upd g.H0 x o' p=some w:=e0
   rw[upd_ne c] at e0
   have:=r.k p w nt (by show upd g.H0 x o p=_;rw[upd_ne c];exact e0) na
   exact this.map λu _ h=>by rw[upd_ne c];exact h
 ·rcases r.f p hp with a | z
  ·exact .inl a
  ·refine .inr ?_
   have z:upd g.H0 x o p=none:=z
   rw[upd_ne (no hp)] at z
   show upd g.H0 x o' p=none
   rw[upd_ne (no hp)];exact z
 ·rcases r.z1 p z with f | a | y
  ·exact .inl f
  ·exact .inr (.inl a)
  ·refine .inr (.inr ?_)
   have y:upd g.H0 x o p=none:=y
   rw[upd_ne (nf z)] at y
   show upd g.H0 x o' p=none
   rw[upd_ne (nf z)];exact y
 ·obtain⟨ps,a1,a2,a3⟩:=r.tb y hy
  refine⟨ps,by rw[upd_ne (ne _ _ a1 rfl)];exact a1,a2,λp' cv z=>?_⟩
  obtain⟨c,e1,e2⟩:=a3 p' cv z
  refine⟨c,e1,?_⟩
  rw[upd_ne (ne _ _ e2 (by unfold LamX.CodeO;rfl))];exact e2
 ·by_cases c:p=x
  ·subst c
   have e0:upd g.H0 p o' p=some w:=e0
   rw[upd_same] at e0;cases e0
   rw[pl'] at tt;cases tt
  ·have e0:upd g.H0 x o' p=some w:=e0
   rw[upd_ne c] at e0
   obtain⟨u,e1,t1⟩:=r.kt p w tt (by show upd g.H0 x o p=_;rw[upd_ne c];exact e0) na
   exact⟨u,by rw[upd_ne c];exact e1,t1⟩
theorem Ext.swap (nz:¬ Fz x)(nt:∀ xs,H x≠some (.tup xs))(nf:∀ w u,H x≠some (.frz w u)):Ext Fz am H Fz am (upd H x o'):=by
 refine⟨λ_ z=>z,λ_ _ z=>z,λp u f r=>?_,λp u f e _=>?_,λp xs r=>?_⟩
 ·have c:p≠x:=λc=>nz (c▸f)
  exact r.imp (λe=>by rw[upd_ne c];exact e) λ⟨w,e⟩=>⟨w,by rw[upd_ne c];exact e⟩
 ·rw[upd_ne λ(c:p=x)=>nz (c▸f)];exact e
 ·exact r.imp (λe=>by rw[upd_ne λ(c:p=x)=>nt xs (c▸e)];exact e) λ⟨w,e⟩=>⟨w,by rw[upd_ne λ(c:p=x)=>nf w _ (c▸e)];exact e⟩
theorem RlB.swap (hm:Home G g)(hx:Free g x){C dx C' dx':Addr}{fs fs':List (Str × V)}(R:Rl G (Ul g x (.ins C dx fs)) env st T σ H):H x=some (.ins C dx fs)∧Rl G (Ul g x (.ins C' dx' fs')) env st T σ (upd H x (.ins C' dx' fs')):=by
 obtain⟨Fz,am,ne,nt,ns,h1,h2,h3,h4,h5⟩:=R
 obtain⟨e,t0,nz⟩:=h4.kept hm hx rfl
 have t0:ne x+nt x+ns x=0:=t0
 have E:Ext Fz am H Fz am (upd H x (.ins C' dx' fs')):=Ext.swap nz (λxs z=>by rw[e] at z;cases z) λw u z=>by rw[e] at z;cases z
 have k:∀ {n:Fp},n x=0->∀ p u,0<n p->H p=some u->upd H x (.ins C' dx' fs') p=some u:=λhn p u hp q=>by
  rw[upd_ne λc=>by rw[c,hn] at hp;cases hp];exact q
 exact⟨e,Fz,am,ne,nt,ns,h1.ext E (k (by omega)),h2.ext E (k (by omega)) (k (by omega)),Reps.ext E h3 (k (by omega)),h4.swap hm hx rfl rfl rfl,trivial⟩
theorem Rl.hmG (R:Rl G g env st T σ H):Home G g:=by
 obtain⟨Fz,am,ne,nt,ns,h1,h2,h3,h4,h5⟩:=R
 exact h4.hm
theorem Rl.alloc' (R:Rl G g env st T σ H)(hx:H x=none)(o:HO):Free g x∧Rl G (Ul g x o) env st T σ (upd H x o):=by
 obtain⟨Fz,am,ne,nt,ns,h1,h2,h3,h4,h5⟩:=R
 have fr:Free g x:=h4.new hx
 have s:=Vb (o:=o) hx
 have E:Ext Fz am H Fz am (upd H x o):=Ext.same s λ_ h=>h
 have t0:ne x+nt x+ns x=0:=by
  cases c:ne x+nt x+ns x with
  | zero=>rfl
  | succ k=>
   obtain⟨u,e,_⟩:=h4.th x (by show 0<ne x+nt x+ns x;omega)
   rw[hx] at e;cases e
 have nz:¬ Fz x:=λz=>by
  obtain⟨u,e,_⟩:=h4.zt x z
  rw[hx] at e;cases e
 have h4':Rel0 G g Fz am (upd H x o) λp=>ne p+nt p+ns p:=h4.grow s (m:=λ_=>0) Va λq=>by simp
 exact⟨fr,Fz,am,ne,nt,ns,h1.ext E λp u _ h=>s _ _ h,h2.ext E (λp u _ h=>s _ _ h) λp u _ h=>s _ _ h,Reps.ext E h3 λp u _ h=>s _ _ h,h4'.keep fr upd_same t0 nz,trivial⟩
end
structure KCls (S:Sx)(c:Nat):Prop where
 cls:Cls S.G.K (S.G.cls c)
 na:∀ f∈S.G.fld c,NoAttr S.G.K (S.G.cls c) f
 nd:(S.G.fld c).Nodup
 few:(S.G.fld c).length<=20
def insAt (c:Nat)(st:Zd):D->Option (List Fr × List D)
 | .con (.ins c') ds=>if c'=c then some (zs ds.length,ds) else none
 | .ref j=>match st[j]? with
  | some (.o fs,.con (.ins c') ds)=>if c'=c then some (fs,ds) else none
  | some (.z,.con (.ins c') ds)=>if c'=c then some (zs ds.length,ds) else none
  | _=>none
 | _=>none
section
variable {G:Sg}{g:Gd}{env:Env}{st:Zd}{T:List Tm}{σ:St}{H:Hp}{v:V}{d:D}{b:Bool}{c:Nat}{fs:List Fr}{ds:List D}
theorem zipF_look:∀ {fl:List Str} {vs:List V} {i:Nat} {f:Str} {v:V},fl.Nodup->fl[i]?=some f->vs[i]?=some v->(fl.zip vs).lookup f=some v
 | [],vs,i,f,v,_,e,_=>by simp at e
 | f0 :: fl,[],i,f,v,_,_,e=>by simp at e
 | f0 :: fl,v0 :: vs,i,f,v,nd,e1,e2=>by
  rw[List.zip_cons_cons,List.lookup_cons]
  cases i with
  | zero=>
   simp at e1 e2
   subst e1 e2
   simp
  | succ i=>
   have h:=List.nodup_cons.mp nd
   have e1:fl[i]?=some f:=by simpa using e1
   have ne:(f==f0)=false:=by
    rw[beq_eq_false_iff_ne]
    intro c;subst c
    exact h.1 (List.mem_of_getElem? e1)
   rw[ne]
   exact zipF_look h.2 e1 (by simpa using e2)
theorem ins_open {Fz:Addr->Prop}{am:List Addr}{ns n:Fp}(h3:StoR G Fz am H st ns)(r:Rep G Fz am H .z v d n)(e:insAt c st d=some (fs,ds)):
  ∃ a dx vs m,v=.ref a∧H a=some (.ins (G.cls c) dx ((G.fld c).zip vs))∧vs.length<=(G.fld c).length∧Reps G Fz am H fs vs ds m:=by
 cases d with
 | con k ds0=>
  cases k with
  | ins c'=>
   unfold insAt at e
   dsimp only at e
   split at e
   ·rename_i hc
    subst hc
    cases e
    cases r with
    | sc s _=>cases v<;>exact s.elim
    | zz a1 a2 a3=>
     obtain⟨_,o,b1,dx,b2,b3⟩:=a1
     subst b2
     exact⟨_,dx,_,_,rfl,b1,b3,a2⟩
   ·cases e
  | _=>cases e
 | ref j=>
  unfold insAt at e
  dsimp only at e
  cases r with
  | sc s _=>cases v<;>exact s.elim
  | @rf i p n hp _=>
   split at e
   ·rename_i fs' c' ds' es
    split at e
    ·rename_i hc
     subst hc
     cases e
     obtain⟨p',m,e1,e2,_⟩:=h3.at es
     rw[hp] at e1;cases e1
     cases e2 with
     | oo a1 a2 a3=>
      obtain⟨_,o,b1,dx,b2,b3⟩:=a1
      subst b2
      exact⟨_,dx,_,_,rfl,b1,b3,a2⟩
    ·cases e
   ·rename_i c' ds' es
    split at e
    ·rename_i hc
     subst hc
     cases e
     obtain⟨p',m,e1,e2,_⟩:=h3.at es
     rw[hp] at e1;cases e1
     cases e2 with
     | sc s _=>exact s.elim
     | zz a1 a2 a3=>
      obtain⟨_,o,b1,dx,b2,b3⟩:=a1
      subst b2
      exact⟨_,dx,_,_,rfl,b1,b3,a2⟩
    ·cases e
   ·cases e
 | _=>cases e
theorem Rl.fld {i:Nat}{x:D}{f:Str}(R:Rl G g env st (⟨v,.z,d,b⟩ :: T) σ H)(e:insAt c st d=some (fs,ds))(e1:fs[i]?=some .z)(e2:ds[i]?=some x)(ef:(G.fld c)[i]?=some f)(nd:(G.fld c).Nodup):
  ∃ a dx fl y,v=.ref a∧H a=some (.ins (G.cls c) dx fl)∧fl.lookup f=some y∧Rl G g env st (⟨y,.z,x,false⟩ :: T) σ H:=by
 obtain⟨Fz,am,ne,nt,ns,h1,h2,h3,h4,h5⟩:=R
 have key:∃ n n2,Rep G Fz am H .z v d n∧TmR G Fz am H ne T n2∧∀ q,n2 q<=nt q:=by
  cases h2 with
  | own k1 k2 k3=>exact⟨_,_,k1,k2,λq=>by rw[k3];omega⟩
  | bor k1 k2 k3=>exact⟨_,_,k1,k3,λq=>Nat.le_refl _⟩
 obtain⟨n,n2,k1,k2,k3⟩:=key
 obtain⟨a,dx,vs,m,rfl,q1,q2,q3⟩:=ins_open h3 k1 e
 obtain⟨y,m',y1,y2,_⟩:=q3.at e1 e2
 exact⟨a,dx,_,y,rfl,q1,zipF_look nd ef y1,Fz,am,ne,n2,ns,h1,.own (y2.fp y2.z0) k2 (n1:=λ_=>0) λq=>by simp,h3,h4.less λq=>by have:=k3 q;show ne q+n2 q+ns q<=ne q+nt q+ns q;omega,trivial⟩
theorem Rl.ins (R:Rl G g env st (⟨v,.z,d,b⟩ :: T) σ H)(e:insAt c st d=some (fs,ds)):∃ a dx vs,v=.ref a∧H a=some (.ins (G.cls c) dx ((G.fld c).zip vs)):=by
 obtain⟨Fz,am,ne,nt,ns,h1,h2,h3,h4,h5⟩:=R
 have key:∃ n,Rep G Fz am H .z v d n:=by
  cases h2 with
  | own k1 k2 k3=>exact⟨_,k1⟩
  | bor k1 k2 k3=>exact⟨_,k1⟩
 obtain⟨n,k1⟩:=key
 obtain⟨a,dx,vs,m,q0,q1,_⟩:=ins_open h3 k1 e
 exact⟨a,dx,vs,q0,q1⟩
end
section
variable {S:Sx}{e a o:Expr}{es:List Expr}{da do_:Den}{das:DenL}{pos p apos:Pos}{c i:Nat}{f:Str}
structure Zaq (S:Sx)(c:Nat)(m:Str)(n:Nat)(F:Fn)(dd:List D)(k:Nat):Prop where
 ex:∃ f fd ps ds dvs,FnOk S.P S.w S.G.K S.mg S.base (L2.CX S.P S.w) k f fd ps (SpF S.G n F)∧Meth S.G.K (S.G.cls c) m f∧Binds S.G.K fd ps ds∧Vals dvs ds ∧
  ∀ Fz am H,Reps S.G Fz am H (zs dd.length) dvs dd (λ_=>0)
 cls:Cls S.G.K (S.G.cls c)
 nf:m ∉ S.G.fld c
end
def PostIn (G:Sg)(g:Gd)(x:Addr)(Q:VK):Res->Prop
 | .ok f b d st=>b=false∧∀ H',Rl G g [] st [⟨.ref x,f,d,false⟩] [] H' -> Q .non H'
 | _=>False
def SpI (G:Sg)(c n:Nat)(F:Fn):Sp:=λvs H Q E=>vs.length=n+1∧∃ (x dx:Addr) (rest:List V) (Hd:Hp),vs=.ref x :: rest∧H=upd Hd x (.ins (G.cls c) dx [])∧Hd x=none ∧
 ∃ Fz am as st na ns,Reps G Fz am Hd (as.map (·.1)) rest (as.map (·.2)) na∧StoR G Fz am Hd st ns∧Rel0 G ⟨Hd,λp=>0<na p+ns p,Fz,am⟩ Fz am Hd (λp=>na p+ns p)∧PostIn G ⟨Hd,λp=>0<na p+ns p,Fz,am⟩ x Q (F as st)
section
variable {S:Sx}{e a o:Expr}{es:List Expr}{da do_:Den}{das:DenL}{pos p apos:Pos}{c i:Nat}{f:Str}{body:List Stmt}
structure Zar (S:Sx)(x:Str)(c n:Nat)(F:Fn)(dd:List D)(k:Nat):Prop where
 ex:∃ f fd ps ds dvs,FnOk S.P S.w S.G.K S.mg S.base (L2.CX S.P S.w) k f fd ps (SpI S.G c n F)∧Mk S.G.K (S.G.cls c) f∧S.mg x=some (.ref (S.G.cls c))∧Binds S.G.K fd ps ds∧Vals dvs ds ∧
  ∀ Fz am H,Reps S.G Fz am H (zs dd.length) dvs dd (λ_=>0)
end
section
variable {G:Sg}{g:Gd}{env:Env}{st st':Zd}{T T':List Tm}{σ:St}{H H':Hp}{Fz Fz':Addr->Prop}{am am':List Addr}{t:Fp}{c k j i:Nat}
end
section
variable {S:Sx}{e a b o:Expr}{es:List Expr}{da db do_:Den}{das:DenL}{pos p apos:Pos}{c i j k:Nat}{f x:Str}
def DPu (S:Sx)(e:Expr)(den:Den):Prop:=∀ W:WX,∃ t:TE,(∀ X,Stx S X->Takes X W->PE X e t) ∧
 ∀ g env st T σ H (Q:VK) d,ZL T->Rl S.G g env st T σ H->den env st=.ok .z false d st->(∀ v H',Same H H' -> Rl S.G g env st (⟨v,.z,d,false⟩ :: T) σ H' -> Q v H')->t σ H Q
end
section
variable {S:Sx}{e a o:Expr}{es:List Expr}{da do_:Den}{das dks:DenL}{kws:List Keyword}{nm:Option Str}{kp pos p apos:Pos}
end
abbrev Arr:=List (Nat ⊕ D)
def pickV (vs:List V):Nat ⊕ D->V
 | .inl j=>vs.getD j .non
 | .inr d=>scV d
def okA:Nat ⊕ D->Bool
 | .inl _=>true
 | .inr d=>isSc d
structure Zav (S:Sx)(n np:Nat)(ks:List Str)(arr:Arr)(F:Fn)(k:Nat)(f:Addr):Prop where
 ex:∃ fd ps g gV,FnOk S.P S.w S.G.K S.mg S.base (L2.CX S.P S.w) k f fd ps (SpF S.G n F)∧KBn S.G.K fd ps np ks g gV∧PySem.W.keepIn S.G.K (.ref f)=true∧(∀ vs zs':List V,gV vs zs'=vs++arr.map (pickV zs'))
 ok:arr.all okA=true
 len:np+arr.length=n
section
variable {X:Cx}{CX:CXT}{k n:Nat}{f C:Addr}{fd:FuncData}{ps ks:List Str}{sp:Sp}{E:St->XK}{x m:Str}{p pos apos:Pos}{e o:Expr}{es:List Expr}{kws:List Keyword}{t tk:TA}{te:TE}{g:List Value->List Value->List Value}{gV:List V->List V->List V}
end
section
variable {S:Sx}{e a o:Expr}{es:List Expr}{da do_:Den}{das dks:DenL}{kws:List Keyword}{pos p apos:Pos}{x m:Str}{n np k c:Nat}{ks:List Str}{arr:Arr}{F:Fn}{f:Addr}
end
section
variable {G:Sg}{g:Gd}{env:Env}{st st':Zd}{T T':List Tm}{σ:St}{H H':Hp}{Fz Fz':Addr->Prop}{am am':List Addr}{t:Fp}{x p:Addr}{o o':HO}{B:(Addr->Prop)->List Addr->Prop}
theorem Rel0.addOwn (hm:Home G g)(hx:Free g x)(r:Rel0 G (Ul g x o) Fz am H t)(ow:OwnK o):Rel0 G g Fz am H (λq=>t q+if q=x then 1 else 0):=by
 obtain⟨e,t0,nz⟩:=r.kept hm hx ow.nt
 have h4':=r.unkeep hm hx
 refine⟨λp=>?_,λp hp z=>?_,λp hp=>?_,h4'.zt,h4'.k,λp hp=>?_,h4'.z0,h4'.z1,h4'.a,h4'.tb,h4'.hm,h4'.kt⟩
 ·have:=h4'.n1 p
  by_cases c:p=x
  ·subst c;simp;omega
  ·simp[c];omega
 ·by_cases c:p=x
  ·exact nz (c▸z)
  ·have hp:0<t p+if p=x then 1 else 0:=hp
   rw[if_neg c] at hp
   exact h4'.nz p hp z
 ·by_cases c:p=x
  ·subst c;exact⟨_,e,ow⟩
  ·have hp:0<t p+if p=x then 1 else 0:=hp
   rw[if_neg c] at hp
   exact h4'.th p hp
 ·by_cases c:p=x
  ·subst c;exact hx
  ·have hp:0<t p+if p=x then 1 else 0:=hp
   rw[if_neg c] at hp
   exact h4'.f p hp
theorem Rl.madeD {ks:List Key}{vs:List V}{ds:List D}(hm:Home G g)(hx:Free g p)(R:RlB G (Ul g p (.dK [])) env st T σ H λFz am=>Reps G Fz am H (zs ds.length) vs ds (λ_=>0))(hl:ks.length=vs.length):
  H p=some (.dK [])∧Rl G g env st (⟨.ref p,.c .z,.con (.dik ks) ds,false⟩ :: T) σ (upd H p (.dK (ks.zip vs))):=by
 obtain⟨Fz,am,ne,nt,ns,h1,h2,h3,h4,h5⟩:=R
 obtain⟨e,t0,nz⟩:=h4.kept hm hx rfl
 have t0:ne p+nt p+ns p=0:=t0
 have E:Ext Fz am H Fz am (upd H p (.dK (ks.zip vs))):=Ext.swap nz (λxs z=>by rw[e] at z;cases z) λw u z=>by rw[e] at z;cases z
 have r:=(h4.swap (o':=.dK (ks.zip vs)) hm hx rfl rfl rfl).addOwn hm hx trivial
 refine⟨e,Fz,am,ne,λq=>(if q=p then 1 else 0)+nt q,ns,h1.ext E (Wl (by omega)),.own (n1:=λq=>if q=p then 1 else 0) (.cc (m:=λ_=>0) ⟨⟨by simp,by simp⟩,_,upd_same,rfl,hl⟩ (Reps.ext E h5 λ_ _ hp=>absurd hp (Nat.lt_irrefl 0)) λq=>by simp) (h2.ext E (Wl (by omega)) (Wl (by omega))) λq=>rfl,Reps.ext E h3 (Wl (by omega)),r.less λq=>?_,trivial⟩
 show ne q+((if q=p then 1 else 0)+nt q)+ns q<=_
 omega
end
section
variable {S:Sx}{e a o:Expr}{es:List Expr}{da do_:Den}{das:DenL}{pos p:Pos}{keys:List (Option Expr)}{values:List Expr}{ks:List Str}
def DPr (S:Sx)(pos:Pos)(keys:List (Option Expr))(values:List Expr)(ks:List Str)(den:DenL):Prop:=∀ W:WX,∃ trs:List (TE × TE),(∀ X,Stx S X->Takes X W->PPs X pos keys values trs) ∧
 ∀ g env st T σ H (Q:List (V × V)->Hp->Prop),ZL T->Rl S.G g env st T σ H->PostL S.G g env T σ W (λvs H1=>vs.length=ks.length->Q ((ks.map V.str).zip vs) H1) (den env st)->tPairs trs σ H Q
theorem dpr_nil:DPr S pos [] [] [] dNil:=λW=>⟨[],λX hX tk=>pps_nil,λg env st T σ H Q hT R h=>h [] H rfl R rfl⟩
theorem dpr_cons {k:Str}{q:Pos}{u:Bool}(ha:DE S a da)(hr:DPr S pos keys values ks das)(hk:∀ X,Stx S X->PE X e (tC (.str k))):DPr S pos (some e :: keys) (a :: values) (k :: ks) (Zb da das):=λW=>by
 obtain⟨ta,pa,qa⟩:=ha W
 obtain⟨tr,pr,qr⟩:=hr W
 refine⟨(tC (.str k),ta) :: tr,λX hX tk=>pps_cons (hk X hX) (pa X hX tk) (pr X hX tk),λg env st T σ H Q hT R h=>?_⟩
 show ta σ H _
 refine qa g env st T σ H _ hT R ?_
 unfold Zb at h
 cases e1:da env st with
 | stuck=>rw[e1] at h;exact h.elim
 | exc c ds st1=>rw[e1] at h;exact h
 | ok f b d st1=>
  rw[e1] at h
  obtain⟨hb,h⟩:=bifT h id
  intro v H1 R1
  refine qr g env st1 _ σ H1 _ (Vd hT) (R1.unb hb) ?_
  cases e2:das env st1 with
  | stuck=>rw[e2] at h;exact h.elim
  | exc c ds st2=>rw[e2] at h;exact h
  | ok ts st2=>
   rw[e2] at h
   dsimp only at h
   intro vs H2 hl R2 hlk
   exact h (v :: vs) H2 (by simp[hl]) R2.mid (by simp[hlk])
theorem Zde:∀ {kvs acc:List (Key × V)},((acc++kvs).map (·.1)).Nodup->mergeK acc kvs=acc++kvs
 | [],acc,_=>by simp[mergeK]
 | q :: kvs,acc,h=>by
  have hn:valV acc q.1=none:=by
   cases c:valV acc q.1 with
   | none=>rfl
   | some v=>
    exfalso
    unfold valV at c
    obtain⟨w,hw,_⟩:=Option.map_eq_some_iff.mp c
    have h1:=List.find?_some hw
    have h2:=List.mem_of_find?_eq_some hw
    have e:w.1=q.1:=of_decide_eq_true h1
    rw[List.map_append,List.nodup_append] at h
    exact h.2.2 w.1 (List.mem_map.mpr ⟨w,h2,rfl⟩) q.1 (by simp) e
  show mergeK (putK acc q.1 q.2) kvs=_
  rw[putK_new q.2 hn,Zde (by rw[List.append_assoc];exact h),List.append_assoc]
  rfl
@[simp] def dDct (ks:List Str)(as:DenL):Den:=λenv st=>match as env st with
 | .ok ts st1=>bif keeps ts&&ts.length==ks.length then .ok (.c .z) false (.con (.dik (ks.map .inr)) (ts.map λt=>t.2.2)) st1 else .stuck
 | .exc c ds st1=>.exc c ds st1
 | .stuck=>.stuck
theorem zip_map {ks:List Str}{vs:List V}:(ks.map V.str).zip vs=((ks.map λk=>(Sum.inr k:Key)).zip vs).map λkv=>(kV kv.1,kv.2):=by
 induction ks generalizing vs with
 | nil=>rfl
 | cons k ks ih=>cases vs with
  | nil=>rfl
  | cons v vs=>simp only[List.map_cons,List.zip_cons_cons,ih];rfl
theorem de_dct (h:∀ pos,DPr S pos keys values ks das)(hall:keys.all (·.isSome)=true)(hl:keys.length=values.length)(h0:keys ≠ [])(h15:keys.length<=15)(hk:keys.length=ks.length)(nd:ks.Nodup):DE S (.Dict keys values pos) (dDct ks das):=λW=>by
 obtain⟨trs,pt,q⟩:=h pos W
 refine⟨tDisp trs,λX hX tk=>pe_disp (pt X hX tk) hall hl h0 h15,λg env st T σ H Q hT R h=>?_⟩
 intro p hp
 obtain⟨fr,R1⟩:=R.alloc' hp (.dK [])
 have hm:=R.hmG
 refine q _ env st T σ _ _ hT R1 ?_
 unfold dDct at h
 cases e:das env st with
 | stuck=>rw[e] at h;exact h.elim
 | exc c ds st1=>
  rw[e] at h
  intro cls dx H' R2
  obtain⟨Fz,am,ne,nt,ns,k1,k2,k3,k4,k5⟩:=R2
  exact h cls dx H' ⟨Fz,am,ne,nt,ns,k1,k2,k3,k4.unkeep hm fr,k5⟩
 | ok ts st1=>
  rw[e] at h
  dsimp only at h
  cases hc:(keeps ts&&ts.length==ks.length) with
  | false=>rw[hc] at h;exact h.elim
  | true=>
  rw[hc] at h
  dsimp only[cond_true] at h
  rw[Bool.and_eq_true] at hc
  intro vs H2 hl2 R2 hlk
  have R3:=R2.frzL hl2 hc.1
  have nk:(((ks.map λk=>(Sum.inr k:Key)).zip vs).map (·.1)).Nodup:=by
   rw[List.map_fst_zip (by rw[List.length_map];omega)]
   exact List.Pairwise.map _ (λa b h z=>h (Sum.inr.inj z)) nd
  have R4:=Rl.madeD (ks:=ks.map λk=>(Sum.inr k:Key)) (ds:=ts.map λt=>t.2.2) hm fr (by simpa using R3) (by rw[List.length_map];omega)
  refine⟨R4.1,(ks.map λk=>(Sum.inr k:Key)).zip vs,zip_map,?_,?_⟩
  ·rw[List.length_zip,List.length_map];omega
  ·rw[Zde (acc:=[]) (by simpa using nk)]
   exact h _ _ R4.2
end
section
variable {G:Sg}{g:Gd}{env:Env}{st st':Zd}{T T':List Tm}{σ:St}{H H':Hp}{Fz Fz':Addr->Prop}{am am':List Addr}
end
section
variable {S:Sx}{e a b o:Expr}{es:List Expr}{da dk db do_:Den}{das:DenL}{pos p q apos:Pos}{i:Nat}{x:Str}
end
def PuSt (da:Den):Prop:=∀ env s f b d s1,da env s=.ok f b d s1->s1=s∧f=.z∧b=false
theorem pst_c {d:D}:PuSt (dC d):=λenv s f b d' s1 e=>by
 unfold dC at e;cases e;exact⟨rfl,rfl,rfl⟩
structure DPz (S:Sx)(e:Expr)(den:Den):Prop where
 p:DPu S e den
 s:PuSt den
section
variable {S:Sx}{e a b o:Expr}{es:List Expr}{da dk db do_:Den}{das:DenL}{pos p q apos:Pos}{c i j k:Nat}{x f:Str}
end
end Hx
namespace Hx
open PySem PySem.Spec L2 LamX
open PyProof.Rows hiding St
section
variable {G:Sg}{g:Gd}{env:Env}{st st':Zd}{T T':List Tm}{σ:St}{H H':Hp}{Fz Fz':Addr->Prop}{am am':List Addr}{t:Fp}{x:Addr}{o o':HO}{B B':(Addr->Prop)->List Addr->Prop}
def Kept (g:Gd)(x:Addr)(o:HO):Prop:=g.H0 x=some o∧¬ g.A0 x
theorem Kept.ne (k:Kept g x o){p:Addr}(f:Free g p):x≠p:=λc=>by
 subst c
 rcases f with a | z
 ·exact k.2 a
 ·rw[k.1] at z;cases z
theorem Kept.up (k:Kept g x o){p:Addr}(f:Free g p):Kept (Ul g p o') x o:=⟨by show upd g.H0 p o' x=_;rw[upd_ne (k.ne f)];exact k.1,λa=>k.2 a.1⟩
structure Fin' (G:Sg)(g g':Gd):Prop where
 kept:∀ x o,Kept g x o->Kept g' x o
 back:∀ env st T σ H B,RlB G g' env st T σ H B->RlB G g env st T σ H B
theorem Fin'.refl:Fin' G g g:=⟨λ_ _ k=>k,λ_ _ _ _ _ _ r=>r⟩
theorem Fin'.trans {g1 g2:Gd}(a:Fin' G g g1)(b:Fin' G g1 g2):Fin' G g g2:=⟨λx o k=>b.kept x o (a.kept x o k),λ_ _ _ _ _ _ r=>a.back _ _ _ _ _ _ (b.back _ _ _ _ _ _ r)⟩
theorem Kept.at {ne:Addr->Prop}(k:Kept g x o)(xo:Zap o=true)(R:RlB G g env st T σ H B):H x=some o:=by
 obtain⟨Fz,am,ne,nt,ns,h1,h2,h3,h4,h5⟩:=R
 exact (h4.k x o (ZcT xo) k.1 k.2).nd (Zcy xo)
theorem RlB.keepN (R:Rl G g env st T σ H)(kn:KeepN H H')(tk:TblK H H')(tb:Tabs G.T H'):Rl G g env st T σ H':=by
 obtain⟨Fz,am,ne,nt,ns,h1,h2,h3,h4,h5⟩:=R
 have E:Ext Fz am H Fz am H':=kn.ext h4.zt
 have ow:=h4.owned kn
 exact⟨Fz,am,ne,nt,ns,h1.ext E λp o hp e=>ow p o (by show 0<ne p+nt p+ns p;omega) e,h2.ext E (λp o hp e=>ow p o (by show 0<ne p+nt p+ns p;omega) e) λp o hp e=>ow p o (by show 0<ne p+nt p+ns p;omega) e,Reps.ext E h3 λp o hp e=>ow p o (by show 0<ne p+nt p+ns p;omega) e,h4.keepN kn tk tb,trivial⟩
end
structure LI where
 cap:List Str
 ci:List Nat
 params:Arguments
 body:Expr
 scope:Scope
 pos:Pos
 db:Den
def LI.e (l:LI):Expr:=.Lambda l.params l.body l.scope l.pos
structure LI.Ok (S:Sx)(l:LI):Prop where
 t:LamT S [] l.cap l.ci l.params l.scope l.body
 b:DE (S.cl ([]++l.cap) l.scope) l.body l.db
section
variable {S:Sx}{X:Cx}{l:LI}{c P:Addr}{q:Str}
end
def KpL (X:Cx)(q:Str)(ls:List LI)(fs cf:Nat->Addr)(g:Gd):Prop:=∀ k l,ls[k]?=some l->Kept g (fs k) (CloO (fs k) q l.params l.body l.scope (cloFrom X.env.cells l.scope.names []) (cf k))∧Kept g (cf k) (CodeO (cf k) q)
section
variable {S:Sx}{X:Cx}{k:Nat}{f:Addr}{fd:FuncData}{ps:List Str}{sp:Sp}{W:WX}{ls:List LI}{x:Str}{a:Expr}{ta:TE}{p pos:Pos}
end
def LI.r (l:LI):List Nat × Den:=(l.ci,l.db)
section
variable {S:Sx}{n k:Nat}{F:LamR->Fn}{ls:List LI}{fs cf:Nat->Addr}{X:Cx}{q:Str}
end
abbrev GP:=Gd->Env->Prop
def HT (S:Sx)(X:Cx)(kp:GP)(e:Expr)(den:DenB):Prop:=∀ W:WX,Takes X W->∃ t:TT,PT X e t ∧
 ∀ g env st T σ H Q,kp g env->ZL T->Rl S.G g env st T σ H->PostB S.G g env T σ W Q (den env st)->t σ H Q
section
variable {S:Sx}{X:Cx}{kp:GP}{a b:Expr}{es:List Expr}{da db:Den}{ta tr:DenB}{W:WX}{pos p py:Pos}{n k i:Nat}{F:LamR->Fn}{ls:List LI}{x y q:Str}
end
section
variable {S:Sx}{X:Cx}{ss rest:List Stmt}{s:Stmt}{df dr:Zi}{W:WX}{pos p p1 lp apos:Pos}{n k i:Nat}{ls:List LI}{l l0:LI}{x q:Str}{c P:Addr}{den:(Nat->Addr)->Zi}
theorem KpL.snoc {fs cf:Nat->Addr}{g g':Gd}{f c':Addr}(kp:KpL X q ls fs cf g)(fb:Fin' S.G g g')(k1:Kept g' f (CloO f q l.params l.body l.scope (cloFrom X.env.cells l.scope.names []) c'))(k2:Kept g' c' (CodeO c' q)):
  KpL X q (ls ++ [l]) (λk=>if k=ls.length then f else fs k) (λk=>if k=ls.length then c' else cf k) g':=λk l' e=>by
 dsimp only
 by_cases hk:k<ls.length
 ·rw[List.getElem?_append_left hk] at e
  rw[if_neg (Nat.ne_of_lt hk),if_neg (Nat.ne_of_lt hk)]
  exact⟨fb.kept _ _ (kp k l' e).1,fb.kept _ _ (kp k l' e).2⟩
 ·rw[List.getElem?_append_right (Nat.le_of_not_lt hk)] at e
  have z:k - ls.length=0:=by
   have:=(List.getElem?_eq_some_iff.mp e).1
   simpa using this
  rw[z] at e
  cases e
  have e:k=ls.length:=by omega
  rw[if_pos e,if_pos e]
  exact⟨k1,k2⟩
end
end Hx
namespace Hx
open PySem PySem.Spec L2
open PyProof.Rows hiding St
section
variable {da:Den}{das:DenL}
end
structure KnK (S:Sx)(x:Str)(st:Stmt)(kws:List (Str × D)):Prop where
 ex:∃ f fd,FunD S.G.K x x (defArgs st) (defBody st) (defScope st) [] (kws.map λq=>(q.1,scV q.2)) f fd∧S.mg x=some (.ref f)
section
variable {S:Sx}{x:Str}{st:Stmt}{N ps ks:List Str}{kws:List (Str × D)}{n np k:Nat}{db:Zi}
theorem Zav.at {arr:Arr}{F:Fn}{f:Addr}{N:List Str}{sc:Scope}{j:Nat}(h:Zav S n np ks arr F k f):Zav (S.at N sc j) n np ks arr F k f:=⟨h.ex,h.ok,h.len⟩
theorem Zav.blk {arr:Arr}{F:Fn}{f:Addr}{sc:Scope}(h:Zav S n np ks arr F k f):Zav (S.blk sc) n np ks arr F k f:=⟨h.ex,h.ok,h.len⟩
theorem Zav.atL {arr:Arr}{F:Fn}{f c:Addr}{N:List Str}{sc:Scope}{j:Nat}{q:Str}(h:Zav S n np ks arr F k f):Zav (S.atL N sc j c q) n np ks arr F k f:=⟨h.ex,h.ok,h.len⟩
theorem Zav.cl {arr:Arr}{F:Fn}{f:Addr}{N:List Str}{sc:Scope}(h:Zav S.c0 n np ks arr F k f):Zav (S.cl N sc) n np ks arr F k f:=⟨h.ex,h.ok,h.len⟩
theorem KnK.c0 (h:KnK S x st kws):KnK S.c0 x st kws:=⟨h.ex⟩
theorem KnK.lamS {l:Nat->Option LamD}{ok}(h:KnK S x st kws):KnK (S.lamS l ok) x st kws:=⟨h.ex⟩
end
section
variable {S:Sx}{e a b tg it elt it1 tg1:Expr}{ifs ifs1:List Expr}{di di1:DenI}{p p1:Pat}{c c1:DenB}{el:Den}{scope:Scope}{own:List (Str × Nat)}{own1:List Nat}{pos:Pos}{i:Nat}{y:Str}{py spos:Pos}
end
end Hx
namespace Hx
open PySem PySem.Spec L2
noncomputable section
@[simp] def ZeJ (lr:LamR):Zi:=
  ZN (dTup (Zb (dC (.str "told")) (Za (dClo lr 0 dNil))))
@[simp] def ZgA (lr:LamR):Zi:=
  dTry XUP XFL (ZeJ lr) [([18],1,["word","kind","number"]),([19,22],1,["word","number"]),([15],1,["word","row"]),([0,1,2],1,["word"])]
@[simp] def ZcC (lr:LamR):Zi:=
  ZgA lr
def Vw (lr:LamR):Fn:=WB 2 (ZcC lr)
end
end Hx
namespace Hx
open PySem PySem.Spec L2
open PyProof.Rows hiding St
theorem Scal.sc {G:Sg}{v:V}{d:D}(h:isSc d=true){Fz:Addr->Prop}{am:List Addr}{H:Hp}{n:Fp}(r:Rep G Fz am H .z v d n):Scal G v d:=by
 cases r with
 | sc s _=>exact s
 | rf=>cases h
 | zz=>cases h
section
variable {S:Sx}{x y:Str}{p q pos:Pos}{k i:Nat}{F:Fn}
end
section
variable {S:Sx}{e a b c:Expr}{da db dc:Den}{pos p p2 cpos apos:Pos}
end
section
variable {X:Cx}{e:Expr}{te:TE}{p apos cpos pos:Pos}
end
section
variable {S:Sx}{e a b c:Expr}{da db dc:Den}{pos p p2 cpos apos:Pos}
end
def dSlB (a b c:Den):Den:=λenv st=>match a env st with
 | .ok fa ba xa st1=>bif !ba||fa.isz then (match b env st1 with
  | .ok _ _ (.int i) st2=>(match c env st2 with
   | .ok _ _ (.int j) st3=>bif fa.flat then (match slD (some i) (some j) (lk st3 xa) with
    | some (f,d)=>.ok f false d st3
    | none=>.stuck) else .stuck
   | .ok _ _ _ _=>.stuck
   | .exc c ds st1=>.exc c ds st1
   | .stuck=>.stuck)
  | .ok _ _ _ _=>.stuck
  | .exc c ds st1=>.exc c ds st1
  | .stuck=>.stuck) else .stuck
 | .exc c ds st1=>.exc c ds st1
 | .stuck=>.stuck
section
variable {S:Sx}{e a b c o:Expr}{da db dc:Den}{pos p q cpos apos:Pos}{i:Nat}{x:Str}
theorem de_slB {p2:Pos}(ha:DE S a da)(hb:DE S b db)(hc:DE S c dc):DE S (.Subscript a (.Slice (some b) (some c) none p2) pos) (dSlB da db dc):=λW=>by
 obtain⟨ta,pa,qa⟩:=ha W
 obtain⟨tb,pb,qb⟩:=hb W
 obtain⟨tc,pc,qc⟩:=hc W
 refine⟨_,λX hX tk=>pe_slice (r:=rSl S.G.K) (hX.K▸sl_seq) (pa X hX tk) (po_some (pb X hX tk)) (po_some (pc X hX tk)),λg env st T σ H Q hT R h=>?_⟩
 refine qa g env st T σ H _ hT R ?_
 unfold dSlB at h
 cases e1:da env st with
 | stuck=>rw[e1] at h;exact h.elim
 | exc c ds st1=>rw[e1] at h;exact h
 | ok f b0 d st1=>
  rw[e1] at h
  dsimp only at h
  cases hz:(!b0||f.isz) with
  | false=>rw[hz] at h;exact h.elim
  | true=>
  rw[hz] at h
  dsimp only[cond_true] at h
  intro v H1 R1
  refine qb g env st1 _ σ H1 _ (Vd hT) (R1.unb hz) ?_
  cases e2:db env st1 with
  | stuck=>rw[e2] at h;exact h.elim
  | exc c ds st2=>rw[e2] at h;exact h
  | ok f2 b2 d2 st2=>
   rw[e2] at h
   cases d2 with
   | int i=>
    dsimp only at h
    intro w H2 R2
    refine⟨i,R2.int,?_⟩
    refine qc g env st2 _ σ H2 _ (Vd hT) R2.drop ?_
    cases e3:dc env st2 with
    | stuck=>rw[e3] at h;exact h.elim
    | exc c ds st2=>rw[e3] at h;exact h
    | ok f3 b3 d3 st3=>
     rw[e3] at h
     cases d3 with
     | int j=>
      dsimp only at h
      intro u H3 R3
      refine⟨j,R3.int,?_⟩
      cases hf:f.flat with
      | false=>rw[hf] at h;exact h.elim
      | true=>
      rw[hf] at h
      dsimp only[cond_true] at h
      cases e4:slD (some i) (some j) (lk st3 d) with
      | none=>rw[e4] at h;exact h.elim
      | some r=>
       obtain⟨f',d'⟩:=r
       rw[e4] at h
       have vop:VOp S.G (λvs H Q=>rSl S.G.K (vs.getD 0 .non) (some i) (some j) H Q) (λds=>match ds with | [a]=>slD (some i) (some j) a | _=>none):=λFz am H vs ds fr d Q h1 h2 h3=>by
        dsimp only at h2
        split at h2
        ·obtain⟨v,rfl,a⟩:=h1.one
         exact sl_view a h2 h3
        ·cases h2
       exact Rl.op (vs:=[v]) (ts:=[(f,false,d)]) vop R3.drop rfl (by show (f.flat&&true)=true;rw[hf];rfl) (by show slD (some i) (some j) (lk st3 d)=_;exact e4) h
     | _=>exact h.elim
   | _=>exact h.elim
structure GT (S:Sx)(x:Str):Prop where
 ex:∃ a o,S.mg x=some (.ref a)∧S.G.K.lookup a=some o∧o.cls=.type "tuple" ∧ o.dict=none
theorem GT.at {S:Sx}{x:Str}{N:List Str}{sc:Scope}{k:Nat}(h:GT S x):GT (S.at N sc k) x:=⟨h.ex⟩
theorem GT.blk {S:Sx}{x:Str}{sc:Scope}(h:GT S x):GT (S.blk sc) x:=⟨h.ex⟩
theorem GT.atL {S:Sx}{x:Str}{N:List Str}{sc:Scope}{k:Nat}{c:Addr}{q:Str}(h:GT S x):GT (S.atL N sc k c q) x:=⟨h.ex⟩
theorem GT.c0 {S:Sx}{x:Str}(h:GT S x):GT S.c0 x:=⟨h.ex⟩
theorem GT.cl {S:Sx}{x:Str}{N:List Str}{sc:Scope}(h:GT S.c0 x):GT (S.cl N sc) x:=⟨h.ex⟩
theorem GT.lamS {S:Sx}{x:Str}{l:Nat->Option LamD}{ok}(h:GT S x):GT (S.lamS l ok) x:=⟨h.ex⟩
end
def tlook (kvs:List (Str × D))(s:Str):Option D:=(kvs.find? λq=>decide (q.1=s)).map (·.2)
theorem tlook_mem {kvs:List (Str × D)}{s:Str}{d:D}(h:tlook kvs s=some d):(s,d)∈kvs:=by
 obtain⟨q,e1,e2⟩:=Option.map_eq_some_iff.mp h
 have m:=List.mem_of_find?_eq_some e1
 have p:=List.find?_some e1
 have p:q.1=s:=by simpa using p
 rw[<- p,<- e2];exact m
theorem tlook_no {kvs:List (Str × D)}{s:Str}(h:tlook kvs s=none):∀ q∈kvs,q.1≠s:=λq hq e=>by
 unfold tlook at h
 rw[Option.map_eq_none_iff,List.find?_eq_none] at h
 exact h q hq (by simpa using e)
structure Tb (S:Sx)(x:Str)(kvs:List (Str × D)):Prop where
 ex:∃ a es n,S.mg x=some (.ref a)∧KDict S.G.K S.w a es n∧∀ q∈kvs,∃ u v,PySem.W.nsIn S.G.K a q.1=some (some u)∧RelV v u∧∀ Fz am H,Rep S.G Fz am H .z v q.2 (λ_=>0)
 no:∀ a,S.mg x=some (.ref a)->∀ s,tlook kvs s=none->PySem.W.nsIn S.G.K a s=some none
theorem Tb.at {S:Sx}{x:Str}{kvs:List (Str × D)}{N:List Str}{sc:Scope}{k:Nat}(h:Tb S x kvs):Tb (S.at N sc k) x kvs:=⟨h.ex,h.no⟩
theorem Tb.blk {S:Sx}{x:Str}{kvs:List (Str × D)}{sc:Scope}(h:Tb S x kvs):Tb (S.blk sc) x kvs:=⟨h.ex,h.no⟩
theorem Tb.atL {S:Sx}{x:Str}{kvs:List (Str × D)}{N:List Str}{sc:Scope}{k:Nat}{c:Addr}{q:Str}(h:Tb S x kvs):Tb (S.atL N sc k c q) x kvs:=⟨h.ex,h.no⟩
theorem Tb.c0 {S:Sx}{x:Str}{kvs:List (Str × D)}(h:Tb S x kvs):Tb S.c0 x kvs:=by
 refine⟨?_,h.no⟩
 obtain⟨a,es,n,h1,h2,h3⟩:=h.ex
 exact⟨a,es,n,h1,h2,λq hq=>by
  obtain⟨u,v,k1,k2,k3⟩:=h3 q hq
  exact⟨u,v,k1,k2,λFz am H=>(k3 Fz am H).wl _⟩⟩
theorem Tb.lamS {S:Sx}{x:Str}{kvs:List (Str × D)}{l:Nat->Option LamD}{ok}(h:Tb S x kvs):Tb (S.lamS l ok) x kvs:=by
 refine⟨?_,h.no⟩
 obtain⟨a,es,n,h1,h2,h3⟩:=h.ex
 exact⟨a,es,n,h1,h2,λq hq=>by
  obtain⟨u,v,k1,k2,k3⟩:=h3 q hq
  exact⟨u,v,k1,k2,λFz am H=>(k3 Fz am H).wl _⟩⟩
@[simp] def dInTb (neg:Bool)(kvs:List (Str × D))(a:Den):Den:=λenv st=>match a env st with
 | .ok _ _ (.str s) st1=>(match tlook kvs s with
  | some _=>.ok .z false (.bl (!neg)) st1
  | none=>.ok .z false (.bl neg) st1)
 | .ok _ _ _ _=>.stuck
 | .exc c ds st1=>.exc c ds st1
 | .stuck=>.stuck
@[simp] def dIxTb (kvs:List (Str × D))(a:Den):Den:=λenv st=>match a env st with
 | .ok _ _ (.str s) st1=>(match tlook kvs s with
  | some d=>.ok .z false d st1
  | none=>.stuck)
 | .ok _ _ _ _=>.stuck
 | .exc c ds st1=>.exc c ds st1
 | .stuck=>.stuck
section
variable {S:Sx}{e a b c o:Expr}{es:List Expr}{da db dc:Den}{das:DenL}{pos p p2 q cpos apos:Pos}{i:Nat}{x:Str}{kvs:List (Str × D)}
theorem inTb_run {neg:Bool}{ta:TE}{W:WX}(h:Tb S x kvs)(qa:∀ g env st T σ H Q,ZL T->Rl S.G g env st T σ H->Wz S.G g env T σ W Q (da env st)->ta σ H Q){ad:Addr}(hm:S.mg x=some (.ref ad))(g:Gd)(env:Env)(st:Zd)(T:List Tm)(σ:St)(H:Hp)(Q:VK)(hT:ZL T)(R:Rl S.G g env st T σ H)(hh:Wz S.G g env T σ W Q (dInTb neg kvs da env st)):
  ta σ H λv H1=>∃ (z:Str) (r:Option Value),v=.str z∧PySem.W.nsIn S.G.K ad z=some r∧Q (.bl (if neg then !r.isSome else r.isSome)) H1:=by
 obtain⟨a',es,n,h1,h2,h3⟩:=h.ex
 have hm0:=hm
 rw[hm] at h1
 cases h1
 refine qa g env st T σ H _ hT R ?_
 unfold dInTb at hh
 cases e1:da env st with
 | stuck=>rw[e1] at hh;exact hh.elim
 | exc c ds st1=>rw[e1] at hh;exact hh
 | ok f b0 d st1=>
  rw[e1] at hh
  cases d with
  | str s=>
   dsimp only at hh
   split at hh
   ·rename_i d ed
    obtain⟨u,v,k1,_,_⟩:=h3 _ (tlook_mem ed)
    intro w H1 R1
    refine⟨s,some u,R1.str,k1,?_⟩
    have:=hh (.bl (!neg)) H1 (Rl.scal R1.drop rfl)
    cases neg<;>exact this
   ·rename_i ed
    intro w H1 R1
    refine⟨s,none,R1.str,h.no _ hm0 s ed,?_⟩
    have:=hh (.bl neg) H1 (Rl.scal R1.drop rfl)
    cases neg<;>exact this
  | _=>exact hh.elim
theorem dt_ninTb (h:Tb S x kvs)(hg:S.sc.names.lookup x=some .globalImplicit)(hd:(x==("__debug__":Str))=false)(ha:DE S a da):DT S (.Compare a [.NotIn] [.Name x p] pos) (dB (dInTb true kvs da)):=λW=>by
 obtain⟨ta,pa,qa⟩:=ha W
 obtain⟨ad,es,n,h1,h2,h3⟩:=h.ex
 refine⟨tTest (tOp (λx y H Q=>∃ (z:Str) (r:Option Value),x=.str z∧y=.ref ad∧PySem.W.nsIn S.G.K ad z=some r∧Q (.bl (!r.isSome)) H) ta (tC (.ref ad))),λX hX tk=>?_,λg env st T σ H Q hT R hh=>?_⟩
 ·have:=pt_cmpR (pos:=pos) (op_notIn_kd (X:=X) (by rw[hX.K,hX.w];exact h2)) (pa X hX tk) (pe_glob (pos:=p) (show X.env.scope.names.lookup x=some .globalImplicit by rw[hX.sc];exact hg) (by rw[hX.mg];exact h1) (show RelV (.ref ad) (.ref ad) from rfl) hd) (marks (o:=.NotIn) (e:=.Name x p) rfl)
  rw[hX.K] at this
  exact this
 ·have k:=inTb_run h qa h1 g env st T σ H _ hT R (postB hh)
  have e:(λv H1=>∃ (z:Str) (r:Option Value),v=V.str z∧PySem.W.nsIn S.G.K ad z=some r∧(λ(x:V) (H1:Hp)=>∃ c,x=V.bl c∧Q c H1) (V.bl (if true then !r.isSome else r.isSome)) H1)=λv H1=>tC (.ref ad) σ H1 λy H2=>∃ (z:Str) (r:Option Value),v=.str z∧y=.ref ad∧PySem.W.nsIn S.G.K ad z=some r∧(λ(x:V) (H1:Hp)=>∃ c,x=V.bl c∧Q c H1) (V.bl (!r.isSome)) H2:=by
   funext v H1
   simp[tC]
  have k:ta σ H _:=k
  rw[e] at k
  exact k
theorem de_ixTb (h:Tb S x kvs)(hg:S.sc.names.lookup x=some .globalImplicit)(hd:(x==("__debug__":Str))=false)(ha:DE S a da)(hn:VB a=true):DE S (.Subscript (.Name x p) a pos) (dIxTb kvs da):=λW=>by
 obtain⟨ta,pa,qa⟩:=ha W
 obtain⟨ad,es,n,h1,h2,h3⟩:=h.ex
 refine⟨tOp (rIxD S.G.K S.w) (tC (.ref ad)) ta,λX hX tk=>?_,λg env st T σ H Q hT R hh=>?_⟩
 ·have:=pe_ix (pos:=pos) (ix_kdict (X:=X)) (pe_glob (pos:=p) (show X.env.scope.names.lookup x=some .globalImplicit by rw[hX.sc];exact hg) (by rw[hX.mg];exact h1) (show RelV (.ref ad) (.ref ad) from rfl) hd) (pa X hX tk) (plainIx hn)
  rw[hX.K,hX.w] at this
  exact this
 ·show ta σ H _
  refine qa g env st T σ H _ hT R ?_
  unfold dIxTb at hh
  cases e1:da env st with
  | stuck=>rw[e1] at hh;exact hh.elim
  | exc c ds st1=>rw[e1] at hh;exact hh
  | ok f b0 d st1=>
   rw[e1] at hh
   cases d with
   | str s=>
    dsimp only at hh
    split at hh
    ·rename_i d ed
     obtain⟨u,v,k1,k2,k3⟩:=h3 _ (tlook_mem ed)
     intro w H1 R1
     exact⟨ad,s,v,rfl,R1.str,⟨es,n,u,h2.at_,h2.lit,k1,k2⟩,hh v H1 (Rl.pz R1.drop λFz am ne nt _ _=>k3 Fz am H1)⟩
    ·exact hh.elim
   | _=>exact hh.elim
end
structure TbF (S:Sx)(x:Str)(n k:Nat)(tab:List (Str × Fn)):Prop where
 ex:∃ a es m,S.mg x=some (.ref a)∧KDict S.G.K S.w a es m∧∀ q∈tab,∃ f fd ps,PySem.W.nsIn S.G.K a q.1=some (some (.ref f))∧FnOk S.P S.w S.G.K S.mg S.base (L2.CX S.P S.w) k f fd ps (SpF S.G n q.2)∧PySem.W.keepIn S.G.K (.ref f)=true∧Binds S.G.K fd ps []
structure TbN (S:Sx)(x:Str)(nms:List (Str × Str)):Prop where
 ex:∃ a es m,S.mg x=some (.ref a)∧KDict S.G.K S.w a es m∧∀ q∈nms,∃ f,PySem.W.nsIn S.G.K a q.1=some (some (.ref f))∧S.mg q.2=some (.ref f)
theorem TbN.c0 {S:Sx}{x:Str}{nms:List (Str × Str)}(h:TbN S x nms):TbN S.c0 x nms:=⟨h.ex⟩
theorem TbN.lamS {S:Sx}{x:Str}{nms:List (Str × Str)}{l:Nat->Option LamD}{ok}(h:TbN S x nms):TbN (S.lamS l ok) x nms:=⟨h.ex⟩
theorem TbF.at {S:Sx}{x:Str}{n k:Nat}{tab:List (Str × Fn)}{N:List Str}{sc:Scope}{j:Nat}(h:TbF S x n k tab):TbF (S.at N sc j) x n k tab:=⟨h.ex⟩
section
variable {S:Sx}{e a:Expr}{es:List Expr}{da:Den}{das:DenL}{pos p p2:Pos}{x:Str}{n k:Nat}{tab:List (Str × Fn)}
end
section
variable {S:Sx}{a b c:Expr}{da db dc:Den}{pos p p2 q:Pos}{i:Nat}{x:Str}
end
structure KC (S:Sx)(c:Nat)(fl:List Str):Prop where
 cls:Cls S.G.K (S.G.cls c)
 fe:S.G.fld c=fl
 na:∀ f∈fl,NoAttr S.G.K (S.G.cls c) f
 nd:fl.Nodup
 few:fl.length<=20
section
variable {S:Sx}{c n k:Nat}{fl:List Str}{m q x:Str}{st:Stmt}{N ps:List Str}{sc:Scope}{j:Nat}{F:Fn}{dd:List D}{a:Addr}{l:Nat->Option LamD}
theorem KC.at (h:KC S c fl):KC (S.at N sc j) c fl:=⟨h.cls,h.fe,h.na,h.nd,h.few⟩
theorem KC.atL {q:Str}(h:KC S c fl):KC (S.atL N sc j a q) c fl:=⟨h.cls,h.fe,h.na,h.nd,h.few⟩
theorem KC.blk (h:KC S c fl):KC (S.blk sc) c fl:=⟨h.cls,h.fe,h.na,h.nd,h.few⟩
theorem KC.c0 (h:KC S c fl):KC S.c0 c fl:=⟨h.cls,h.fe,h.na,h.nd,h.few⟩
theorem KC.cl (h:KC S.c0 c fl):KC (S.cl N sc) c fl:=⟨h.cls,h.fe,h.na,h.nd,h.few⟩
theorem KC.lamS {ok}(h:KC S c fl):KC (S.lamS l ok) c fl:=⟨h.cls,h.fe,h.na,h.nd,h.few⟩
theorem KC.f (h:KC S c fl){i:Nat}{f:Str}(e:fl[i]?=some f):(S.G.fld c)[i]?=some f:=by rw[h.fe];exact e
theorem KC.nf (h:KC S c fl)(e:m ∉ fl):m ∉ S.G.fld c:=by rw[h.fe];exact e
theorem Zaq.at (h:Zaq S c m n F dd k):Zaq (S.at N sc j) c m n F dd k:=⟨h.ex,h.cls,h.nf⟩
theorem Zaq.atL {q:Str}(h:Zaq S c m n F dd k):Zaq (S.atL N sc j a q) c m n F dd k:=⟨h.ex,h.cls,h.nf⟩
theorem Zaq.blk (h:Zaq S c m n F dd k):Zaq (S.blk sc) c m n F dd k:=⟨h.ex,h.cls,h.nf⟩
theorem Zaq.cl (h:Zaq S.c0 c m n F dd k):Zaq (S.cl N sc) c m n F dd k:=⟨h.ex,h.cls,h.nf⟩
theorem Zar.at (h:Zar S x c n F dd k):Zar (S.at N sc j) x c n F dd k:=⟨h.ex⟩
theorem Zar.atL {q:Str}(h:Zar S x c n F dd k):Zar (S.atL N sc j a q) x c n F dd k:=⟨h.ex⟩
theorem Zar.blk (h:Zar S x c n F dd k):Zar (S.blk sc) x c n F dd k:=⟨h.ex⟩
theorem Zar.cl (h:Zar S.c0 x c n F dd k):Zar (S.cl N sc) x c n F dd k:=⟨h.ex⟩
structure KnM (S:Sx)(c:Nat)(m q:Str)(st:Stmt)(kws:List (Str × D)):Prop where
 ex:∃ f fd,FunD S.G.K m q (defArgs st) (defBody st) (defScope st) [] (kws.map λq=>(q.1,scV q.2)) f fd∧Meth S.G.K (S.G.cls c) m f
theorem KnM.c0 {kws:List (Str × D)}(h:KnM S c m q st kws):KnM S.c0 c m q st kws:=⟨h.ex⟩
theorem KnM.lamS {kws:List (Str × D)}{ok}(h:KnM S c m q st kws):KnM (S.lamS l ok) c m q st kws:=⟨h.ex⟩
structure KnI (S:Sx)(x:Str)(c:Nat)(q:Str)(st:Stmt):Prop where
 ex:∃ f fd,FunD S.G.K "__init__" q (defArgs st) (defBody st) (defScope st) [] [] f fd∧Mk S.G.K (S.G.cls c) f∧S.mg x=some (.ref (S.G.cls c))
theorem KnI.c0 (h:KnI S x c q st):KnI S.c0 x c q st:=⟨h.ex⟩
theorem KnI.lamS {ok}(h:KnI S x c q st):KnI (S.lamS l ok) x c q st:=⟨h.ex⟩
end
section
variable {fa:List He.Fa}{fn:List He.DefD}{P:Program}{w:World}{K:PySem.W.Frag}{h:Heap}{mg:Str->Option Value}{base:Heap}{xs:List Nat}{own:List Str}
end
theorem VR {S:Sx}{e a:Expr}{keys:List (Option Expr)}{values:List Expr}{ks:List Str}{da:Den}{das:DenL}{pos:Pos}{k:Str}(ha:DE S a da)(hr:DPr S pos keys values ks das)(hk:∀ X,Stx S X->PE X e (tC (.str k))):DPr S pos (some e :: keys) (a :: values) (k :: ks) (Zb da das):=dpr_cons (q:=pos) (u:=false) ha hr hk
section
variable {S:Sx}{a b c:Expr}{das:DenL}{pos:Pos}
end
abbrev AlY:Type:=(He.AlD × Bool) × List (Option (List (Option (Str × Int))))
def tblA (K:PySem.W.Frag)(x:Str):Addr:=match PySem.W.nsIn K mainGlobals x with
 | some (some (.ref a))=>a
 | _=>0
def lookY (fa:List He.Fa)(fn:List He.DefD)(ts:List (Str × List Str))(ex:PySem.W.Frag->Bool)(K:PySem.W.Frag):AlY:=
 ((He.obsD fa fn K,ex K),ts.map λt=>He.dicW K (tblA K t.1))
def obsY (as:(Addr->Option Obj)->List Addr)(fa:List He.Fa)(fn:List He.DefD)(ts:List (Str × List Str))(ex:PySem.W.Frag->Bool)(g:Addr->Option Obj):AlY:=
 lookY fa fn ts ex (He.frG g (as g))
def SaysY (fa:List He.Fa)(fn:List He.DefD)(ts:List (Str × List Str))(ex:PySem.W.Frag->Bool)(w:World)(h:Heap):Prop:=
 ∃ K:PySem.W.Frag,K.In h∧He.SaysD fa fn K∧ex K=true∧∀ t∈ts,∃ es n,KDict K w (tblA K t.1) es n
def hookY (as:(Addr->Option Obj)->List Addr)(fa:List He.Fa)(fn:List He.DefD)(ts:List (Str × List Str))(ex:PySem.W.Frag->Bool):PySem.W.Hook where
 α:=AlY
 obs:=λs=>obsY as fa fn ts ex s.heap.get?
 val:=λw=>((He.valD fn,true),ts.map λt=>some (He.keysIn w.params t.2))
 says:=SaysY fa fn ts ex
 of:=λw _ e=>⟨_,He.frG_in,congrArg (λz:AlY=>z.1.1) e,congrArg (λz:AlY=>z.1.2) e,λt ht=>by
  have e2:=congrArg (λz:AlY=>z.2) e
  obtain⟨i,hi⟩:=List.getElem?_of_mem ht
  have e3:=congrArg (λl:List (Option (List (Option (Str × Int))))=>l[i]?) e2
  simp only[obsY,lookY,List.getElem?_map,hi,Option.map_some] at e3
  exact He.dicW_ok (Option.some.inj e3)⟩
 keeps:=λ_ _ _ ⟨K,hK,c⟩ k=>⟨K,PySem.W.Frag.In.keeps hK k,c⟩
theorem obsY_eq {as:(Addr->Option Obj)->List Addr}{fa:List He.Fa}{fn:List He.DefD}{ts:List (Str × List Str)}{ex:PySem.W.Frag->Bool}{g:Addr->Option Obj}{s:Shared}(h:∀ a,g a=s.heap.get? a):obsY as fa fn ts ex g=(hookY as fa fn ts ex).obs s:=by
 have e:g=s.heap.get?:=funext h
 rw[e]
 rfl
def allK (ks:List Str)(K:PySem.W.Frag)(a:Addr):Bool:=match K.lookup a with
 | some ⟨_,_,.dict es _,_⟩=>es.toList.all λe=>!e.refKey&&ks.any λk=>e.key.isStr k
 | _=>false
theorem allK_no {ks:List Str}{K:PySem.W.Frag}{a:Addr}{s:Str}(h:allK ks K a=true)(hs:∀ k∈ks,k≠s):PySem.W.nsIn K a s=some none:=by
 unfold allK at h
 unfold PySem.W.nsIn
 split at h
 ·rename_i e1 es e3 e4 e
  rw[e]
  dsimp only
  have hf:es.toList.find? (·.key.isStr s)=none:=by
   rw[List.find?_eq_none]
   intro x hx hk
   have h1:=List.all_eq_true.mp h x hx
   rw[Bool.and_eq_true] at h1
   obtain⟨k,hk1,hk2⟩:=List.any_eq_true.mp h1.2
   refine hs k hk1 ?_
   unfold Value.isStr at hk hk2
   split at hk
   ·rename_i s1 t ek
    rw[ek] at hk2
    exact (beq_iff_eq.mp hk2).symm.trans (beq_iff_eq.mp hk)
   ·cases hk
  have ha:es.toList.any (·.refKey)=false:=by
   rw[List.any_eq_false]
   intro x hx hk
   have h1:=List.all_eq_true.mp h x hx
   rw[Bool.and_eq_true,hk] at h1
   cases h1.1
  rw[hf,ha]
  rfl
 ·cases h
def tbB (x:Str)(kvs:List (Str × D))(K:PySem.W.Frag):Bool:=((match PySem.W.nsIn K mainGlobals x with
 | some (some (.ref _))=>true
 | _=>false)&&kvs.all λq=>match PySem.W.nsIn K (tblA K x) q.1 with
  | some (some u)=>kval K 8 u q.2
  | _=>false)&&allK (kvs.map (·.1)) K (tblA K x)
section
variable {P:Program}{w:World}{K:PySem.W.Frag}{h:Heap}{mg:Str->Option Value}{base:Heap}{xs:List Nat}{own:List Str}
theorem ZhL (X:K.In h)(Gn:h.Ns mainGlobals mg){x:Str}{kvs:List (Str × D)}(c:tbB x kvs K=true)(t:∃ es n,KDict K w (tblA K x) es n):Tb (S1 P w K mg base xs own) x kvs:=by
 unfold tbB at c
 rw[Bool.and_eq_true,Bool.and_eq_true] at c
 obtain⟨⟨c1,c2⟩,c4⟩:=c
 obtain⟨es,n,t⟩:=t
 split at c1
 ·rename_i a e
  have ea:tblA K x=a:=by unfold tblA;rw[e]
  refine⟨⟨a,es,n,PySem.W.mg_of X Gn e,ea▸t,λq hq=>?_⟩,λa' ha' s hs=>?_⟩
  rotate_left
  ·have ha':mg x=some (.ref a'):=ha'
   rw[PySem.W.mg_of X Gn e] at ha'
   cases ha'
   rw[ea] at c4
   refine allK_no c4 λk hk=>?_
   obtain⟨q,hq,rfl⟩:=List.mem_map.mp hk
   exact tlook_no hs q hq
  have c3:=List.all_eq_true.mp c2 q hq
  rw[ea] at c3
  split at c3
  ·rename_i u e2
   obtain⟨v,r,rep⟩:=ZbS (G:=(S1 P w K mg base xs own).G) 8 u q.2 c3
   exact⟨u,v,e2,r,rep⟩
  ·cases c3
 ·cases c1
end
section
variable {S:Sx}{a b c:Expr}{da db dc:Den}{pos p p2 q:Pos}{i:Nat}{x:Str}
end
section
variable {G:Sg}{g:Gd}{env:Env}{st:Zd}{T:List Tm}{σ:St}{H:Hp}{v:V}
end
section
variable {S:Sx}{e:Expr}{da:Den}
end
section
variable {G:Sg}{g:Gd}{env:Env}{st st':Zd}{T T':List Tm}{σ:St}{H H':Hp}{Fz Fz':Addr->Prop}{am am':List Addr}
end
section
variable {S:Sx}{e a b tg it kx vx:Expr}{es ifs:List Expr}{da db ek ev:Den}{das:DenL}{pos spos p:Pos}{di:DenI}{pt:Pat}{c:DenB}{scope:Scope}{own:List (Str × Nat)}
section
variable {X:Cx}
end
end
section
variable {S:Sx}{e a b o:Expr}{es:List Expr}{da dk db do_:Den}{das:DenL}{pos p p2 q apos:Pos}{c i j k:Nat}{x f:Str}
end
section
variable {G:Sg}{g:Gd}{env:Env}{st st':Zd}{T T':List Tm}{σ:St}{H H':Hp}{Fz Fz':Addr->Prop}{am am':List Addr}
end
section
variable {S:Sx}{e a b o:Expr}{es:List Expr}{da dk db do_:Den}{das:DenL}{pos p p2 q apos:Pos}{c i j k:Nat}{x f:Str}
end
section
variable {G:Sg}{g:Gd}{env:Env}{st st':Zd}{T T':List Tm}{σ:St}{H H':Hp}{Fz Fz':Addr->Prop}{am am':List Addr}
end
section
variable {S:Sx}{e a b o:Expr}{es:List Expr}{da db do_:Den}{das:DenL}{pos p q q2 apos:Pos}{c i j k:Nat}{f x:Str}
end
section
variable {S:Sx}{l:Nat->Option LamD}{c n k:Nat}{m q:Str}{st:Stmt}{N ps fl:List Str}{dfl dd:List D}{F:Fn}
structure KnMD (S:Sx)(c:Nat)(m q:Str)(st:Stmt)(dfl:List D):Prop where
 ex:∃ f fd,FunD S.G.K m q (defArgs st) (defBody st) (defScope st) (dfl.map scV) [] f fd∧Meth S.G.K (S.G.cls c) m f
theorem KnMD.c0 (h:KnMD S c m q st dfl):KnMD S.c0 c m q st dfl:=⟨h.ex⟩
theorem KnMD.lamS {ok}(h:KnMD S c m q st dfl):KnMD (S.lamS l ok) c m q st dfl:=⟨h.ex⟩
end
section
variable {fa:List He.Fa}{fn:List He.DefD}{P:Program}{w:World}{K:PySem.W.Frag}{mg:Str->Option Value}{base:Heap}{xs:List Nat}{own:List Str}
end
def RlV (G:Sg)(g:Gd)(env:Env)(st:Zd)(T:List Tm)(σ:St)(H:Hp)(v:V)(x:D):Prop:=
 ∃ Fz am ne nt ns,EnvR G Fz am H env σ ne∧TmR G Fz am H ne T nt∧StoR G Fz am H st ns∧Rel0 G g Fz am H (λp=>ne p+nt p+ns p)∧View G Fz am H v x
section
variable {G:Sg}{g:Gd}{env:Env}{st st':Zd}{T T':List Tm}{σ:St}{H H':Hp}{Fz Fz':Addr->Prop}{am am':List Addr}
theorem RlV.op {r:List V->Hp->VK->Prop}{op:Op}{v:V}{x:D}{f:Fr}{d:D}{Q:VK}(hv:VOp G r op)(R:RlV G g env st T σ H v x)(e:op [x]=some (f,d))(hq:∀ v H',Rl G g env st (⟨v,f,d,false⟩ :: T) σ H' -> Q v H'):r [v] H Q:=by
 obtain⟨Fz,am,ne,nt,ns,h1,h2,h3,h4,h5⟩:=R
 refine hv Fz am H [v] [x] f d Q (.cons h5 .nil) e λv H' n s nn rep=>hq v H' ?_
 have E:Ext Fz am H Fz am H':=Ext.same s λ_ h=>h
 exact⟨Fz,am,ne,λq=>n q+nt q,ns,h1.ext E λp o _ h=>s _ _ h,.own rep (h2.ext E (λp o _ h=>s _ _ h) λp o _ h=>s _ _ h) λ_=>rfl,Reps.ext E h3 λp o _ h=>s _ _ h,h4.grow s nn λq=>by show ne q+(n q+nt q)+ns q=_;omega,trivial⟩
end
section
variable {S:Sx}{e a b o:Expr}{es:List Expr}{da db:Den}{pos p q q2 apos:Pos}{c i j k:Nat}{f x:Str}{dv:Env->Zd->Option D}
end
end Hx
namespace Hx
open PySem PySem.Spec L2 PySem.SeqAt
open PyProof.Rows hiding St
open AutoSeq1 (wpAny_loadPart')
open MeetsSeq MeetsSeq2 MeetsSeq3 SeqRoads2
section
variable {prog:Program}{w:World}
end
section
variable {X:Cx}
end
section
variable {S:Sx}{e:Expr}{pos p:Pos}{dv:Env->Zd->Option D}
end
end Hx
namespace SrtO
open PySem PySem.Spec PyProof.Rows PySem.Calls
section
variable {prog:Program}{w:World}{A:Around}{E:Value->Shared->Prop}{s:Shared}
def IsLead (h:Heap)(v:Value)(x:Int):Prop:=∃ a o t r n,v=.ref a∧h.get? a=some o∧o.cls=.type "tuple" ∧ o.data=.seq (Value.int x t :: r).toArray n
theorem IsLead.keeps {h h':Heap}{v:Value}{x:Int}(p:IsLead h v x)(k:∀ b o,h.get? b=some o->o.cls=.type "tuple" -> h'.get? b=some o):IsLead h' v x:=by
 obtain⟨a,o,t,r,n,e,ho,hc,hd⟩:=p
 exact⟨a,o,t,r,n,e,k _ _ ho hc,hc,hd⟩
end
end SrtO
namespace L2
open PySem PySem.Spec PyProof.Rows
section
variable {X:Cx}
open Classical in
end
end L2
namespace Hx
open PySem PySem.Spec L2
section
variable {α β:Type}
structure STO (lt:α->α->Bool):Prop where
 asy:∀ x y,lt x y=true->lt y x=false
 ntr:∀ x y z,lt x y=false->lt y z=false->lt x z=false
 con:∀ x y,lt x y=false->lt y x=false->x=y
end
end Hx
namespace SrtO
open PySem PySem.Spec PyProof.Rows PySem.Calls Hx
section
variable {prog:Program}{w:World}{A:Around}{E:Value->Shared->Prop}{s:Shared}
inductive KeyIs:Value->L2.Key->Prop
 | int {i t}:KeyIs (.int i t) (.inl i)
 | str {x t}:KeyIs (.str x t) (.inr x)
inductive KeysAre:List Value->List L2.Key->Prop
 | nil:KeysAre [] []
 | cons {u us k ks}:KeyIs u k->KeysAre us ks->KeysAre (u :: us) (k :: ks)
theorem KeyIs.inj {u:Value}{k k':L2.Key}(h:KeyIs u k)(h':KeyIs u k'):k=k':=by cases h<;>cases h'<;>rfl
def IsLeadK (h:Heap)(v:Value)(ks:List L2.Key):Prop:=∃ a o us r n,v=.ref a∧h.get? a=some o∧o.cls=.type "tuple" ∧ o.data=.seq (us++r).toArray n∧KeysAre us ks
theorem IsLeadK.keeps {h h':Heap}{v:Value}{ks:List L2.Key}(p:IsLeadK h v ks)(k:∀ b o,h.get? b=some o->o.cls=.type "tuple" -> h'.get? b=some o):IsLeadK h' v ks:=by
 obtain⟨a,o,us,r,n,e,ho,hc,hd,hk⟩:=p
 exact⟨a,o,us,r,n,e,k _ _ ho hc,hc,hd,hk⟩
end
end SrtO
namespace L2
open PySem PySem.Spec PyProof.Rows Hx
section
variable {X:Cx}
open Classical in
end
end L2
namespace Hx
open PySem PySem.Spec L2
open PyProof.Rows hiding St
section
variable {α β:Type}
end
section
variable {G:Sg}{Fz:Addr->Prop}{am:List Addr}{H:Hp}
end
section
variable {S:Sx}{e a b c:Expr}{da db dc:Den}{pos p p2 cpos apos:Pos}
end
end Hx
namespace SrtO
open PySem PySem.Spec PyProof.Rows PySem.Calls Hx
section
variable {prog:Program}{w:World}{A:Around}{E:Value->Shared->Prop}{s:Shared}{r d:Addr}{kvs:List (L2.Key × Value)}{ep:Nat}
open Classical in
end
end SrtO
namespace L2
open PySem PySem.Spec PyProof.Rows Hx LiI
section
variable {X:Cx}{e:Expr}{te:TE}{p apos cpos pos:Pos}
open Classical in
end
end L2
namespace Hx
open PySem PySem.Spec L2
open PyProof.Rows hiding St
section
variable {S:Sx}{e a b c:Expr}{da db dc:Den}{pos p p2 cpos apos:Pos}
end
end Hx
namespace L2
open PySem PySem.Spec PyProof.Rows PpSet
section
variable {X:Cx}{pins:List (Addr × Obj)}{σ:St}{H:Hp}{s:Shared}{E:Value->Shared->Prop}
end
end L2
namespace Hx
open PySem PySem.Spec L2
open PyProof.Rows hiding St
section
variable {G:Sg}{g g':Gd}{env:Env}{st st':Zd}{T T':List Tm}{σ:St}{H H':Hp}{Fz:Addr->Prop}{am:List Addr}{t:Fp}
def fullG (H:Hp)(Fz:Addr->Prop)(am:List Addr)(t:Fp):Gd:=⟨H,λq=>0<t q,Fz,am⟩
theorem Rel0.full (r:Rel0 G g Fz am H t):Rel0 G (fullG H Fz am t) Fz am H t∧Gle G (fullG H Fz am t) g:=by
 have hm:Home G (fullG H Fz am t):=by
  refine⟨λp hp=>⟨λq=>r.nz p q hp,r.zt p hp⟩,λp hp=>r.th p hp,λj l hl=>?_⟩
  obtain⟨h1,h2⟩:=r.hm.lam j l hl
  refine⟨λe he=>?_,h2.ext r.ext λ_ _ hq=>absurd hq (Nat.lt_irrefl 0)⟩
  obtain⟨a1,a2⟩:=h1 e he
  have na:¬ g.A0 e.1:=λq=>by
   obtain⟨w,e1,k⟩:=r.hm.a _ q
   rw[a2] at e1;cases e1
   exact ZcY a1 k
  exact⟨a1,(r.k _ _ (ZcT a1) a2 na).nd (Zcy a1)⟩
 have no0:∀ p,H p=none->g.A0 p∨g.H0 p=none:=λp h=>by
  cases e:g.H0 p with
  | none=>exact .inr rfl
  | some o=>
   by_cases a:g.A0 p
   ·exact .inl a
   ·exfalso
    cases ht:Vm o with
    | false=>obtain⟨u,hu⟩:=(r.k p o ht e a).some;rw[h] at hu;cases hu
    | true=>obtain⟨u,hu,_⟩:=r.kt p o ht e a;rw[h] at hu;cases hu
 have notot:∀ p o,g.H0 p=some o->¬ g.A0 p->¬ 0<t p:=λp o e a q=>by
  rcases r.f p q with y | y
  ·exact a y
  ·rw[e] at y;cases y
 refine⟨⟨r.n1,r.nz,r.th,r.zt,λp o _ e _=>.inl e,λp hp=>.inl hp,λ_ h=>h,λ_ h=>.inl h,λ_ _ h=>h,r.tb,hm,λp o tw e _=>⟨o,e,tw⟩⟩,λFz' am' H' t' r'=>?_⟩
 refine⟨r'.n1,r'.nz,r'.th,r'.zt,λp o nt e a=>?_,λp hp=>?_,λp hp=>r'.z0 p (r.z0 p hp),λp hp=>?_,λi p e=>r'.a i p (r.a i p e),r'.tb,r.hm,λp o tw e a=>?_⟩
 ·have n0:=notot p o e a
  rcases r.k p o nt e a with h | ⟨f,d,ob,h⟩
  ·rcases r'.k p o nt h n0 with k | ⟨f',d',ob',k⟩
   ·exact .inl k
   ·by_cases f0:g.F0 p
    ·exact .inr ⟨f0,d',ob',k⟩
    ·rcases r.z1 p f' with y | y | y
     ·exact absurd y f0
     ·exact absurd y a
     ·rw[y] at e;cases e
  ·rcases r'.k p _ rfl h n0 with k | ⟨_,d',_⟩
   ·exact .inr ⟨f,d,ob,k⟩
   ·cases d'
 ·rcases r'.f p hp with y | y
  ·exact r.f p y
  ·exact no0 p y
 ·rcases r'.z1 p hp with y | y | y
  ·exact r.z1 p y
  ·exact (r.f p y).elim (λa=>.inr (.inl a)) λa=>.inr (.inr a)
  ·exact .inr (no0 p y)
 ·obtain⟨o',e1,t1⟩:=r.kt p o tw e a
  have n0:=notot p o e a
  obtain⟨o2,e2,t2⟩:=r'.kt p o' t1 e1 n0
  exact⟨o2,e2,t2⟩
structure Stays (H H':Hp):Prop where
 ext:∀ p o,H p=some o->Zap o=true->H' p=some o
 tup:∀ p xs,Rd H p (.tup xs)->Rd H' p (.tup xs)
theorem Stays.refl:Stays H H:=⟨λ_ _ h _=>h,λ_ _ h=>h⟩
theorem Rl.full (R:Rl G g env st T σ H):∃ g2,Rl G g2 env st T σ H∧Gle G g2 g∧∀ env' st' T' σ' H',Rl G g2 env' st' T' σ' H' -> Stays H H':=by
 obtain⟨Fz,am,ne,nt,ns,h1,h2,h3,h4,h5⟩:=R
 obtain⟨r,le⟩:=h4.full
 refine⟨_,⟨Fz,am,ne,nt,ns,h1,h2,h3,r,h5⟩,le,λenv' st' T' σ' H' ⟨Fz',am',ne',nt',ns',_,_,_,r',_⟩=>⟨λp o e x=>?_,λp xs e=>?_⟩⟩
 ·exact (r'.k p o (ZcT x) e λq=>by
   obtain⟨w,e1,k⟩:=h4.th p q
   rw[e] at e1;cases e1
   exact ZcY x k).nd (Zcy x)
 ·rcases e with e | ⟨o',e⟩
  ·have n0:¬ 0<ne p+nt p+ns p:=λq=>by
    obtain⟨w,e1,k⟩:=h4.th p q
    rw[e] at e1;cases e1;exact k
   exact .inl ((r'.k p _ rfl e n0).nd rfl)
  ·have n0:¬ 0<ne p+nt p+ns p:=λq=>by
    obtain⟨w,e1,k⟩:=h4.th p q
    rw[e] at e1;cases e1;exact k
   exact .inr ⟨o',(r'.k p _ rfl e n0).nd rfl⟩
end
structure Mem (r:List (List Int))(L:List (Addr × List Int)):Prop where
 nd:(L.map (·.2)).Nodup
 all:∀ k∈r,k∈L.map (·.2)
 sub:∀ p∈L,p.2∈r
 len:L.length<=r.length
theorem Mem.nil:Mem [] []:=⟨List.nodup_nil,λ_ h=>absurd h (by simp),λ_ h=>absurd h (by simp),Nat.le_refl _⟩
theorem Mem.snoc {r:List (List Int)}{L L':List (Addr × List Int)}{t:Addr}{k:List Int}(m:Mem r L)(c1:k∈L.map (·.2)->L'=L)(c2:k ∉ L.map (·.2)->L'.Perm ((t,k) :: L)):Mem (r ++ [k]) L':=by
 by_cases c:k∈L.map (·.2)
 ·rw[c1 c]
  refine⟨m.nd,λx hx=>?_,λp hp=>List.mem_append_left _ (m.sub p hp),by have:=m.len;simp;omega⟩
  rcases List.mem_append.mp hx with h | h
  ·exact m.all x h
  ·rw[List.mem_singleton.mp h];exact c
 ·have p:=c2 c
  have p2:=p.map (·.2)
  rw[List.map_cons] at p2
  refine⟨(p2.nodup_iff).mpr (List.nodup_cons.mpr ⟨c,m.nd⟩),λx hx=>p2.mem_iff.mpr ?_,λq hq=>?_,by have:=m.len;rw[p.length_eq];simp;omega⟩
  ·rcases List.mem_append.mp hx with h | h
   ·exact List.mem_cons_of_mem _ (m.all x h)
   ·rw[List.mem_singleton.mp h];exact List.mem_cons_self
  ·rcases List.mem_cons.mp (p.mem_iff.mp hq) with e | h
   ·rw[e];simp
   ·exact List.mem_append_left _ (m.sub q h)
section
variable {S:Sx}
end
section
variable {S:Sx}{e a b tg it elt:Expr}{ifs:List Expr}{da db el:Den}{pos p q:Pos}{pt:Pat}{di:DenI}{c:DenB}{scope:Scope}{own:List (Str × Nat)}
end
end Hx
namespace Hx
open PySem PySem.Spec L2 PySem.SeqAt
open PyProof.Rows hiding St
section
variable {X:Cx}
end
section
variable {S:Sx}
end
end Hx
namespace Hx
open PySem PySem.Spec L2
open PyProof.Rows hiding St
section
variable {G:Sg}{Fz:Addr->Prop}{am:List Addr}{H:Hp}
theorem lst_of {f:Fr}{ds:List D}{n:Fp}{v:V}(r:Rep G Fz am H (.c f) v (.con .lst ds) n):∃ A vs m,v=.ref A∧H A=some (.lst vs)∧Reps G Fz am H (List.replicate ds.length f) vs ds m∧∀ q,n q=m q+if q=A then 1 else 0:=by
 cases r with
 | @cc p k vs _ _ _ m a1 a2 a3=>
  obtain⟨_,o,b1,b2⟩:=a1
  subst b2
  exact⟨p,vs,m,rfl,b1,a2,a3⟩
theorem Rl.ixL {g:Gd}{env:Env}{st:Zd}{T:List Tm}{σ:St}{ds:List D}{d:D}{i:Nat}{j:Int}(R:Rl G g env st T σ H)(e:env[i]?=some (some (.c .z,.con .lst ds)))(hj:atI ds j=some d):
  ∃ A vs y,σ[i]?=some (some (.ref A))∧H A=some (.lst vs)∧atI vs j=some y∧Rl G g env st (⟨y,.z,d,false⟩ :: T) σ H:=by
 obtain⟨Fz,am,ne,nt,ns,h1,h2,h3,h4,h5⟩:=R
 obtain⟨v,m,a1,a2,a3⟩:=h1.get e
 obtain⟨A,vs,m1,rfl,q1,q3,q4⟩:=lst_of a2
 have q3':Reps G Fz am H (zs ds.length) vs ds m1:=q3
 obtain⟨y,b1,b2⟩:=reps_at (q3'.fp (Reps.z0 q3')) hj
 exact⟨A,vs,y,a1,q1,b1,Fz,am,ne,nt,ns,h1,.own b2 h2 λq=>by simp,h3,h4,trivial⟩
end
section
variable {S:Sx}{a b c:Expr}{da db dc:Den}{pos p p2 q:Pos}{i:Nat}{x:Str}
def dIx1L (i:Nat)(k1:Den):Den:=λenv st=>match k1 env st with
 | .ok _ _ (.int j) _=>(match env[i]? with
  | some (some (.c .z,.con .lst ds))=>(match atI ds j with
   | some d=>.ok .z false d st
   | none=>.stuck)
  | _=>.stuck)
 | _=>.stuck
theorem de_ix1L {a1:Expr}{d1:Den}(hN:S.N[i]?=some x)(hv:Vis S.sc x)(hd:(x==("__debug__":Str))=false)(hcd:(x==("__classdict__":Str))=false)(h1:DPz S a1 d1)(hm:VB a1=true):
  DE S (.Subscript (.Name x q) a1 p) (dIx1L i d1):=λW=>by
 obtain⟨t1,pp1,qq1⟩:=h1.p W
 refine⟨tOp (rIxL S.G.K) (tVar i) t1,λX hX tkk=>pe_ix (hX.K▸ix_list) (de_pv hN hv hd hcd hX) (pp1 X hX tkk) (plainIx hm),λg env st T σ H Q hT R h=>?_⟩
 unfold dIx1L at h
 split at h
 ·rename_i f1 b1 j s1 ea1
  obtain⟨rfl,rfl,e1⟩:=h1.s _ _ _ _ _ _ ea1
  subst e1
  split at h
  ·rename_i ds ei
   split at h
   ·rename_i d ed
    obtain⟨A,vs,y,z1,z2,z3,_⟩:=Rl.ixL R ei ed
    refine⟨.ref A,z1,?_⟩
    refine qq1 g env _ T σ H _ (.int j) hT R ea1 λu1 H2 sm R2=>?_
    obtain⟨Fz,am,vw⟩:=R2.view1 rfl
    have hu:=vw.int
    subst hu
    obtain⟨A',vs',y',w1,w2,w3,R4⟩:=Rl.ixL R2.drop ei ed
    rw[z1] at w1
    cases w1
    rw[sm _ _ z2] at w2
    have w2:=Option.some.inj w2
    injection w2 with w2
    rw[<- w2,z3] at w3
    cases w3
    exact⟨A,vs,j,y,rfl,rfl,.of (sm _ _ z2),z3,h _ _ R4⟩
   ·exact h.elim
  ·exact h.elim
 ·exact h.elim
end
section
variable {X:Cx}
end
section
variable {G:Sg}{Fz:Addr->Prop}{am:List Addr}{H:Hp}
end
section
variable {S:Sx}{a:Expr}{da:Den}{p p2 q pos:Pos}
end
end Hx
namespace Hx
open PySem PySem.Spec L2 PySem.W
open PyProof.Rows hiding St
section
variable {prog:Program}{w:World}{A:Around}{E:Value->Shared->Prop}{s:Shared}{K:Frag}{C f x:Addr}{ox:Obj}{od:Option Obj}
end
section
variable {X:Cx}{CX:CXT}{k:Nat}{f C:Addr}{fd:FuncData}{ps:List Str}{sp:Sp}{dvs:List V}{ds:List Value}{p pos:Pos}{o:Expr}{ta:TE}
end
section
variable {S:Sx}{o:Expr}{do_:Den}{c:Nat}{p pos:Pos}
end
end Hx
namespace Hx
open PySem PySem.Spec L2
noncomputable section
abbrev ZC:List (Str × D):=[("lamp",.int 6),("unsure",.int 2),("post",.int 5),("pane",.int 6),("move",.int 5),("switch",.int 2),("drop",.int 3),("look",.int 6),("strike",.int 2),("settle",.int 3),("many",.int 2)]
end
end Hx
namespace Hx
open PySem PySem.Spec L2
open PyProof.Rows hiding St
section
variable {S:Sx}{k v o e f:Expr}{dk dv do_ de df:Den}{pos apos:Pos}
end
section
variable {G:Sg}{Fz:Addr->Prop}{am:List Addr}{H:Hp}
end
section
variable {S:Sx}{a:Expr}{da:Den}{p p2 q pos:Pos}
end
section
variable {G:Sg}{g:Gd}{env:Env}{st:Zd}{T:List Tm}{σ:St}{H:Hp}
theorem RlV.at {v:V}{ds:List D}(R:RlV G g env st T σ H v (.con .lst ds)):∃ q vs,v=.ref q∧H q=some (.lst vs)∧vs.length=ds.length∧∀ (i:Nat) x d,vs[i]?=some x->ds[i]?=some d->Rl G g env st (⟨x,.z,d,false⟩ :: T) σ H:=by
 obtain⟨Fz,am,ne,nt,ns,h1,h2,h3,h4,h5⟩:=R
 obtain⟨q,vs,rfl,e,r⟩:=h5.lst
 exact⟨q,vs,rfl,e,r.len.2,λi x d e1 e2=>⟨Fz,am,ne,nt,ns,h1,.own (UU r e1 e2) h2 (n1:=λ_=>0) λq=>by simp,h3,h4,trivial⟩⟩
end
section
variable {S:Sx}{elt tg it:Expr}{pos p q q2 p1 p2 p3 tp:Pos}{c i k a b:Nat}{f x y z:Str}{scope:Scope}{own:List (Str × Nat)}{n:Nat}
end
section
variable {G:Sg}{g:Gd}{env:Env}{st st':Zd}{T T':List Tm}{σ:St}{H H':Hp}
end
section
variable {S:Sx}{e a b o:Expr}{es:List Expr}{da dk db do_:Den}{pos p q apos:Pos}{i:Nat}{x:Str}
end
end Hx
namespace Hx
open PySem PySem.Spec L2
noncomputable section
end
end Hx
namespace Hx
open PySem PySem.Spec L2 LamX
open PyProof.Rows hiding St
section
variable {S:Sx}{X:Cx}{rest:List Stmt}{s s1:Stmt}{d1 df dr:Zi}{a:Expr}{da:Den}{i k:Nat}{ls:List LI}{q:Str}
end
end Hx
namespace Hx
open PySem PySem.Spec L2
theorem eqD_str {x y:Str}(h:PyData.strOk x=true)(k:PyData.strOk y=true):eqD (.str x) (.str y)=some (decide (x=y)):=by
 simp[eqD,D.py,SeqAt.shaped,PyData.canLay0,PyData.depth,PyData.eqv,h,k]
 rfl
class EqN (a b:Nat):Prop where h:a=b
instance eqN {n:Nat}:EqN n n:=⟨rfl⟩
class LeN (a b:Nat):Prop where h:a<=b
set_option synthInstance.checkSynthOrder false in
instance leN {n m k:Nat}[h:EqN m (k+n)]:LeN n m:=⟨by have:=h.h;omega⟩
instance (priority:=high) leNr {n:Nat}:LeN n n:=⟨Nat.le_refl n⟩
class Bd (n:outParam Nat)(i:Int):Prop where lt:i.natAbs<2 ^ n
class Le (n:Nat)(i:Int):Prop where lt:i.natAbs<2 ^ n
set_option synthInstance.checkSynthOrder false in
instance (priority:=low) bdLe {n:Nat}{i:Int}[h:Le n i]:Bd n i:=⟨h.lt⟩
instance (priority:=low) leBd {n m:Nat}{i:Int}[h:Bd m i][k:LeN m n]:Le n i:=⟨Nat.lt_of_lt_of_le h.lt (Nat.pow_le_pow_right (by decide) k.h)⟩
theorem Bd.sm {n:Nat}{i:Int}(h:Bd n i):Sm n i:=h.lt
instance bdMul {n m:Nat}{i j:Int}[h:Bd n i][k:Bd m j]:Bd (n+m) (i * j):=⟨Sm.mul h.lt k.lt⟩
instance (priority:=900) bdAdd {n m:Nat}{i j:Int}[h:Bd n i][k:Bd m j]:Bd (n+m+1) (i+j):=⟨Sm.mono (Sm.add h.lt k.lt) (by omega)⟩
instance (priority:=900) bdSub {n m:Nat}{i j:Int}[h:Bd n i][k:Bd m j]:Bd (n+m+1) (i - j):=⟨Sm.mono (Sm.sub h.lt k.lt) (by omega)⟩
instance (priority:=1020) bdAddL {n m:Nat}{i j:Int}[h:Bd n i][k:Bd m j][l:LeN n m]:Bd (m+1) (i+j):=⟨Sm.mono (Sm.add h.lt k.lt) (by have:=l.h;omega)⟩
instance (priority:=1020) bdSubL {n m:Nat}{i j:Int}[h:Bd n i][k:Bd m j][l:LeN n m]:Bd (m+1) (i - j):=⟨Sm.mono (Sm.sub h.lt k.lt) (by have:=l.h;omega)⟩
instance (priority:=1010) bdAddR {n m:Nat}{i j:Int}[h:Bd n i][k:Bd m j][l:LeN m n]:Bd (n+1) (i+j):=⟨Sm.mono (Sm.add h.lt k.lt) (by have:=l.h;omega)⟩
instance (priority:=1010) bdSubR {n m:Nat}{i j:Int}[h:Bd n i][k:Bd m j][l:LeN m n]:Bd (n+1) (i - j):=⟨Sm.mono (Sm.sub h.lt k.lt) (by have:=l.h;omega)⟩
instance bdNeg {n:Nat}{i:Int}[h:Bd n i]:Bd n (-i):=⟨by rw[Int.natAbs_neg];exact h.lt⟩
instance (priority:=high) bdL8 {k:Nat}[h:LeN k 255]:Bd 8 (no_index (OfNat.ofNat k:Int)):=⟨Nat.lt_of_le_of_lt (show (OfNat.ofNat k:Int).natAbs<=255 from h.h) (by decide)⟩
instance bdL32 {k:Nat}[h:LeN k 4294967295]:Bd 32 (no_index (OfNat.ofNat k:Int)):=⟨Nat.lt_of_le_of_lt (show (OfNat.ofNat k:Int).natAbs<=4294967295 from h.h) (by decide)⟩
instance (priority:=low) bdL128 {k:Nat}[h:LeN k 340282366920938463463374607431768211455]:Bd 128 (no_index (OfNat.ofNat k:Int)):=⟨Nat.lt_of_le_of_lt (show (OfNat.ofNat k:Int).natAbs<=340282366920938463463374607431768211455 from h.h) (by decide)⟩
theorem fmod_abs {a b:Int}(h:b≠0):(a.fmod b).natAbs<b.natAbs:=by
 rcases Int.lt_trichotomy b 0 with hb | hb | hb
 ·have e:=Int.neg_fmod_neg a b
  have h1:=Int.fmod_nonneg_of_pos (-a) (show 0 < -b by omega)
  have h2:=Int.fmod_lt_of_pos (-a) (show 0 < -b by omega)
  omega
 ·exact absurd hb h
 ·have:=Int.fmod_nonneg_of_pos a hb
  have:=Int.fmod_lt_of_pos a hb
  omega
class Nz (i:Int):Prop where h:i≠0
instance nzL {k:Nat}[h:LeN 1 k]:Nz (no_index (OfNat.ofNat k:Int)):=⟨by have:=h.h;show ((k:Nat):Int)≠0;omega⟩
instance bdFmod {n:Nat}{i j:Int}[k:Bd n j][z:Nz j]:Bd n (i.fmod j):=⟨Nat.lt_trans (fmod_abs z.h) k.lt⟩
theorem fdiv_abs {a b:Int}:(a.fdiv b).natAbs<=a.natAbs:=by
 by_cases hb:b=0
 ·subst hb;simp
 have e:=Int.mul_fdiv_add_fmod a b
 have hm:=fmod_abs (a:=a) hb
 rcases Int.lt_trichotomy b 0 with h | h | h
 ·have h1:a.fmod b<=0:=by
   have e:=Int.neg_fmod_neg a b
   have h1:=Int.fmod_nonneg_of_pos (-a) (show 0 < -b by omega)
   omega
  by_cases q:a.fdiv b=0
  ·omega
  ·rcases Int.lt_or_gt_of_ne q with q | q
   ·have:b * a.fdiv b >= -(a.fdiv b):=by
     have:=Int.mul_le_mul_of_nonneg_left (show -b >= 1 by omega) (show 0 <= -(a.fdiv b) by omega)
     have e2:-(a.fdiv b) * -b=b * a.fdiv b:=by grind
     omega
    have h2:b * a.fdiv b >= -b:=by
     have:=Int.mul_le_mul_of_nonneg_right (show -(a.fdiv b) >= 1 by omega) (show 0 <= -b by omega)
     have e2:-(a.fdiv b) * -b=b * a.fdiv b:=by grind
     omega
    -- b * q+r=a,r in (b,0]
    rcases Int.lt_trichotomy (b * a.fdiv b+b) (-(a.fdiv b)) with z | z | z
    ·have:(a.fdiv b+1) * (b+1)<1+0:=by
      have e3:(a.fdiv b+1) * (b+1)=b * a.fdiv b+b+a.fdiv b+1:=by grind
      omega
     have:0<=(a.fdiv b+1) * (b+1):=Int.mul_nonneg_of_nonpos_of_nonpos (by omega) (by omega)
     have:(a.fdiv b+1) * (b+1)=b * a.fdiv b+b+a.fdiv b+1:=by grind
     omega
    ·omega
    ·omega
   ·have:b * a.fdiv b <= -(a.fdiv b):=by
     have:=Int.mul_le_mul_of_nonneg_left (show -b >= 1 by omega) (show 0<=a.fdiv b by omega)
     have e2:a.fdiv b * -b=-(b * a.fdiv b):=by grind
     omega
    omega
 ·exact absurd h hb
 ·have h1:0<=a.fmod b:=Int.fmod_nonneg_of_pos a h
  by_cases q:a.fdiv b=0
  ·omega
  ·rcases Int.lt_or_gt_of_ne q with q | q
   ·have h2:b * a.fdiv b<=a.fdiv b:=by
     have:=Int.mul_le_mul_of_nonneg_left (show b >= 1 by omega) (show 0 <= -(a.fdiv b) by omega)
     have e2:-(a.fdiv b) * b=-(b * a.fdiv b):=by grind
     omega
    have h3:(a.fdiv b+1) * (b - 1)<=0:=Int.mul_nonpos_of_nonpos_of_nonneg (by omega) (by omega)
    have e3:(a.fdiv b+1) * (b - 1)=b * a.fdiv b+b - a.fdiv b - 1:=by grind
    omega
   ·have:b * a.fdiv b >= a.fdiv b:=by
     have:=Int.mul_le_mul_of_nonneg_left (show b >= 1 by omega) (show 0<=a.fdiv b by omega)
     have e2:a.fdiv b * b=b * a.fdiv b:=by grind
     omega
    omega
instance bdFdiv {n:Nat}{i j:Int}[k:Bd n i]:Bd n (i.fdiv j):=⟨Nat.lt_of_le_of_lt fdiv_abs k.lt⟩
instance (priority:=1020) bdIteL {n m:Nat}{i j:Int}{c:Prop}[Decidable c][h:Bd n i][k:Bd m j][l:LeN n m]:Bd m (if c then i else j):=⟨by
 split
 ·exact Nat.lt_of_lt_of_le h.lt (Nat.pow_le_pow_right (by decide) l.h)
 ·exact k.lt⟩
instance (priority:=1010) bdIteR {n m:Nat}{i j:Int}{c:Prop}[Decidable c][h:Bd n i][k:Bd m j][l:LeN m n]:Bd n (if c then i else j):=⟨by
 split
 ·exact h.lt
 ·exact Nat.lt_of_lt_of_le k.lt (Nat.pow_le_pow_right (by decide) l.h)⟩
instance bdIte {n m:Nat}{i j:Int}{c:Prop}[Decidable c][h:Bd n i][k:Bd m j]:Bd (n+m) (if c then i else j):=⟨by
 split
 ·exact Nat.lt_of_lt_of_le h.lt (Nat.pow_le_pow_right (by decide) (by omega))
 ·exact Nat.lt_of_lt_of_le k.lt (Nat.pow_le_pow_right (by decide) (by omega))⟩
@[simp] theorem mulOk_bd {n m:Nat}{i j:Int}[h:Bd n i][k:Bd m j][z:LeN n 400000][y:LeN m 400000]:Zas i j=true:=Sm.ok h.sm k.sm z.h y.h
@[simp] theorem divOk_bd {n:Nat}{j:Int}[h:Bd n j][z:LeN n 9000][y:Nz j]:divOk j=true:=by
 cases n with
 | zero=>have:=h.lt;have:=y.h;omega
 | succ n=>exact divOk_of h.sm y.h z.h (Nat.succ_pos n)
theorem Le.of {n:Nat}{i:Int}(a:Int)(h1:-a<=i)(h2:i<=a)(h:a.natAbs<2 ^ n):Le n i:=⟨by omega⟩
abbrev BgD (xs:List Int)(i h s n:Int):D:=.con .lst [.con .lst (xs.map D.int),.int i,.int h,.int s,.int n]
def Bg (st:Zd)(c:Nat)(xs:List Int)(i h s n:Int):Prop:=st[c]?=some (.c .z,BgD xs i h s n)
section
variable {st:Zd}{c:Nat}{xs:List Int}{i h s n x:Int}
theorem Bg.lk (e:Bg st c xs i h s n):lk st (.ref c)=BgD xs i h s n:=lk_bag e
theorem Bg.lt (e:Bg st c xs i h s n):c<st.length:=(List.getElem?_eq_some_iff.mp e).1
theorem Bg.put {xs':List Int}{i' h' s' n':Int}(e:Bg st c xs i h s n):Bg (st.set c (.c .z,BgD xs' i' h' s' n')) c xs' i' h' s' n':=get_set e
theorem pull0 (e:Bg st c xs i h s n)(a1:0<=i)(a2:0<=h)(a3:0<=s)(a4:s<2147483647){many:Int}:∃ i' h' s' st1 v,WQ [some (.z,.ref c),some (.z,.int many),none,none,none] st=.nx [some (.z,.ref c),some (.z,.int many),v,none,none] st1 ∧
  Bg st1 c xs i' h' s' n∧0<=i' ∧ 0<=h' ∧ 0<=s' ∧ s'<2147483647∧Fro1 c st st1:=by
 have e0:=e.lk
 have hl:=e.lt
 by_cases hc:h=0∧i<xs.length
 ·obtain⟨hc1,hc2⟩:=hc
  subst hc1
  obtain⟨x,ex⟩:=atI_map a1 hc2
  by_cases hx:x >= 1000000000000000000
  ·refine⟨i+1,x,s,_,some (.z,.int x),?_,e.put,by omega,by omega,a3,a4,Fro1.set⟩
   obtain⟨hl',e⟩:=List.getElem?_eq_some_iff.mp e
   simp[WQ,Ux,Uu,Uv,e0,e,hc2,ex,ixN,powOk,hx,hl]
  ·have hm:0<=(s * 40503+x.fmod 2147483563+1).fmod 2147483629∧(s * 40503+x.fmod 2147483563+1).fmod 2147483629<2147483629:=⟨Int.fmod_nonneg_of_pos _ (by decide),Int.fmod_lt_of_pos _ (by decide)⟩
   refine⟨i+1,0,(s * 40503+x.fmod 2147483563+1).fmod 2147483629,_,some (.z,.int x),?_,e.put,by omega,a2,hm.1,by omega,Fro1.set⟩
   have m1:Zas s 40503=true:=Sm.ok (n:=40) (m:=20) (by unfold Sm;omega) (by unfold Sm;decide) (by decide) (by decide)
   obtain⟨hl',e⟩:=List.getElem?_eq_some_iff.mp e
   simp[WQ,Ux,Uu,Uv,UP,e0,e,hc2,ex,ixN,powOk,hx,m1,hl]
 ·refine⟨i,h,s,st,none,?_,e,a1,a2,a3,a4,Fro1.refl⟩
  by_cases h0:h=0
  ·have:¬ i<xs.length:=λz=>hc ⟨h0,z⟩
   simp[WQ,e0,h0,this]
  ·simp[WQ,e0,h0]
theorem f_l_pull {k:Nat}{many:Int}(B:Bag k st c)(hk:k<2 ^ 100)(hm:0<many)(hs:Sm 1000 many):
  ∃ g st',ZV [(.z,.ref c),(.z,.int many)] st=.ok .z false (.int g) st' ∧ 0<=g∧g<many∧Bag (k+1) st' c∧Fro1 c st st':=by
 obtain⟨xs,i,h,s,n,e,a1,a2,a3,a4,a5,a6⟩:=B.ex
 obtain⟨i,h,s,st1,v,q,e,a1,a2,a3,a4,fr⟩:=pull0 (many:=many) e a1 a2 a3 a4
 have e0:=e.lk
 have hl:=e.lt
 have hne:many≠0:=by omega
 by_cases h0:h > 0
 ·have dk:divOk many=true:=divOk_of hs hne (by decide) (by decide)
  refine⟨h.fmod many,st1.set c (.c .z,BgD xs i (h.fdiv many) s n),?_,Int.fmod_nonneg_of_pos _ hm,Int.fmod_lt_of_pos _ hm,⟨xs,i,h.fdiv many,s,n,e.put,a1,?_,a3,a4,a5,by omega⟩,fr.trans Fro1.set⟩
  ·obtain⟨hl',e⟩:=List.getElem?_eq_some_iff.mp e
   simp[-WQ,ZV,ZaF,q,Zbx,Zbf,Zbp,e0,e,h0,dk,hne,ixN,hl]
  ·rw[Int.fdiv_eq_ediv_of_nonneg _ (by omega)]
   exact Int.ediv_nonneg a2 (by omega)
 ·have hb:∀ y:Int,0<=y.fmod 2147483629∧y.fmod 2147483629<2147483629:=λy=>⟨Int.fmod_nonneg_of_pos _ (by decide),Int.fmod_lt_of_pos _ (by decide)⟩
  have s1:Sm 32 s:=by unfold Sm;omega
  have s2:Sm 101 n:=by unfold Sm;omega
  have s3:Sm 101 (n+1):=by unfold Sm;omega
  have r1:0<=s.fmod 8191∧s.fmod 8191<8191:=⟨Int.fmod_nonneg_of_pos _ (by decide),Int.fmod_lt_of_pos _ (by decide)⟩
  have s4:Sm 20 (s.fmod 8191+5):=by unfold Sm;omega
  have m1:=s1.ok s1 (by decide) (by decide)
  have m2:Zas 48271 (n+1)=true:=Sm.ok (n:=20) (by unfold Sm;decide) s3 (by decide) (by decide)
  have m3:Zas (48271 * (n+1)) (s.fmod 8191+5)=true:=Sm.ok (n:=121) (Sm.mul (n:=20) (by unfold Sm;decide) s3) s4 (by decide) (by decide)
  have m4:Zas (n+1) (n+1)=true:=s3.ok s3 (by decide) (by decide)
  have m5:Zas ((n+1) * (n+1)) (n+1)=true:=(s3.mul s3).ok s3 (by decide) (by decide)
  let z:=s * s+48271 * (n+1) * (s.fmod 8191+5)+(n+1) * (n+1) * (n+1)+12345
  have hz:=hb z
  have r2:0<=(z.fmod 2147483629).fmod 7919∧(z.fmod 2147483629).fmod 7919<7919:=⟨Int.fmod_nonneg_of_pos _ (by decide),Int.fmod_lt_of_pos _ (by decide)⟩
  have m6:Zas ((z.fmod 2147483629).fmod 7919) 37=true:=Sm.ok (n:=20) (m:=10) (by unfold Sm;omega) (by unfold Sm;decide) (by decide) (by decide)
  refine⟨((z.fmod 2147483629).fdiv 71+(z.fmod 2147483629).fmod 7919 * 37).fmod many,st1.set c (.c .z,BgD xs i h (z.fmod 2147483629) (n+1)),?_,Int.fmod_nonneg_of_pos _ hm,Int.fmod_lt_of_pos _ hm,⟨xs,i,h,z.fmod 2147483629,n+1,e.put,a1,a2,hz.1,by omega,by omega,by omega⟩,fr.trans Fro1.set⟩
  obtain⟨hl',e⟩:=List.getElem?_eq_some_iff.mp e
  have d71:divOk 71=true:=by decide
  simp[-WQ,ZV,ZaF,q,Zbx,ZeK,ZeL,ZdV,ZeF,e0,e,h0,hne,ixN,hl,m1,m2,m3,m4,m5,m6,d71,z]
end
theorem cut63 (ds:List D):cutD ds none (some 63)=ds.take 63:=by
 unfold cutD HT.sIx
 simp
theorem bag_loop {d0:D}{st:Zd}:∀ (ys:List Int) (s:Int) (v:Option (Fr × D)),0<=s->s<2147483647->∃ s' v',WK (.nm 2) Zad [] (ys.map D.int) [some (.z,d0),some (.z,.int s),v] st=.nx [some (.z,d0),some (.z,.int s'),v'] st∧0<=s' ∧ s'<2147483647
 | [],s,v,h0,h1=>⟨s,v,rfl,h0,h1⟩
 | y :: ys,s,v,h0,h1=>by
  have hm:∀ z:Int,0<=z.fmod 2147483647∧z.fmod 2147483647<2147483647:=λz=>⟨Int.fmod_nonneg_of_pos _ (by decide),Int.fmod_lt_of_pos _ (by decide)⟩
  have m1:Zas s 48271=true:=Sm.ok (n:=40) (m:=20) (by unfold Sm;omega) (by unfold Sm;decide) (by decide) (by decide)
  obtain⟨s',v',e,a,b⟩:=bag_loop (d0:=d0) (st:=st) ys ((s * 48271+y.fmod 2147483629+7).fmod 2147483647) (some (.z,.int y)) (hm _).1 (hm _).2
  refine⟨s',v',?_,a,b⟩
  have hb:Zad [some (.z,d0),some (.z,.int s),some (.z,.int y)] st=.nx [some (.z,d0),some (.z,.int ((s * 48271+y.fmod 2147483629+7).fmod 2147483647)),some (.z,.int y)] st:=by
   simp[Zad,Zcr,m1]
  simp[WK,hb,e,Uj]
theorem f_l_bag (ns:List Int)(hl:ns.length<=63){st:Zd}:∃ s,Zcb [(.z,.con .frl (ns.map D.int))] st=.ok (.c .z) false (BgD ns 0 0 s 0) st∧0<=s∧s<2147483647:=by
 have ht:(ns.map D.int).take 63=ns.map D.int:=List.take_of_length_le (by simpa using hl)
 obtain⟨s',v',e,a,b⟩:=bag_loop (d0:=.con .frl (ns.map D.int)) (st:=st) ns (31+ns.length) none (by omega) (by omega)
 refine⟨s',?_,a,b⟩
 simp[Zcb,ZdH,ZfN,ZfP,ZfL,cut63,ht,dFor,e]
theorem same_loop {rec:Fn}{k1 k2:Kd}{ds:List D}{st:Zd}(h1:k1.seq=true)(h2:k2.seq=true)(hr:∀ d∈ds,rec [(.z,d),(.z,d)] st=.ok .z false (.bl true) st):∀ (is:List Nat) (acc:List D),(∀ i∈is,i<ds.length) ->
  lcGo (.nm 2) dYes (Zu rec [] (Zb (dOp oIx (Zb (Ze 0) (Za (Ze 2)))) (Za (dOp oIx (Zb (Ze 1) (Za (Ze 2))))))) (is.map λ(i:Nat)=>D.int (0+(i:Int))) [some (.z,.con k1 ds),some (.z,.con k2 ds),none] st acc=.ok (.c .z) false (.con .lst (acc++is.map λ_=>.bl true)) st
 | [],acc,_=>by simp[lcGo]
 | i :: is,acc,hi=>by
  have hlt:i<ds.length:=hi i (by simp)
  have ha:atI ds (i:Int)=some ds[i]:=atI_nat (List.getElem?_eq_getElem hlt)
  have:=same_loop h1 h2 hr is (acc ++ [.bl true]) λj hj=>hi j (by simp[hj])
  rw[List.map_cons,lcGo]
  have hrr:=hr ds[i] (List.getElem_mem hlt)
  simp[dYes,ha,hrr,h1,h2] at this ⊢
  exact this
theorem bools_true (l:List Nat):bools (l.map λ_=>D.bl true)=some (l.map λ_=>true):=by
 induction l with
 | nil=>rfl
 | cons a l ih=>show (bools (l.map λ_=>D.bl true)).map (true :: ·)=_;rw[ih];rfl
def WZ:Nat->D->Bool
 | 0,_=>false
 | _+1,.non=>true
 | _+1,.bl _=>true
 | _+1,.int _=>true
 | _+1,.str s=>PyData.strOk s
 | m+1,.con .tup ds=>decide (ds.length<=1000)&&ds.all (WZ m)
 | m+1,.con .lst ds=>decide (ds.length<=1000)&&ds.all (WZ m)
 | _,_=>false
end Hx
namespace Hx
open PySem PySem.Spec L2
open PyProof.Rows hiding St
section
variable {S:Sx}{x y:Str}{p q pos:Pos}{k i:Nat}{F:Fn}{e:Expr}{db:Den}
end
section
variable {S:Sx}{pos p2:Pos}
theorem dpz_neg {n:Int}{j2}:DPz S (.UnaryOp .USub (.Constant (.int n) j2 p2) pos) (dC (.int (-n))):=⟨λW=>by
 refine⟨_,λX hX tk=>pe_un un_neg pe_int,λg env st T σ H Q d hT R e h=>?_⟩
 unfold dC at e;cases e
 exact⟨_,rfl,h _ H (Same.refl H) (Rl.scal R rfl)⟩,pst_c⟩
end
def oIntS:Op:=oS1 λa=>match a with
 | .str x=>(PySem.intText? x).bind λn=>bif x.length.ble 640 then some (.int n) else none
 | _=>none
theorem v_intS {G:Sg}:VOp G (λxs H Q=>∃ a n,xs=[.str a]∧PySem.intText? a=some n∧a.length<=640∧Q (.int n) H) oIntS:=v_C1 λFz am H v a d Q h e q=>by
 split at e
 ·rename_i x
  obtain⟨n,e1,e2⟩:=Option.bind_eq_some_iff.mp e
  obtain⟨hk,e2⟩:=bifS e2
  cases e2
  rw[h.str]
  exact⟨_,n,rfl,e1,Nat.le_of_ble_eq_true hk,q _ rfl⟩
 ·cases e
section
variable {S:Sx}{a:Expr}{da:Den}{pos p:Pos}
theorem bi_intS (hg:S.sc.names.lookup ("int":Str)=some .globalImplicit)(hm:S.mg "int"=none)(ha:DE S a da)(hp:ZD [a]=true):DE S (.Call (.Name "int" p) [a] [] pos) (dOp oIntS (Za da)):=
 de_ty (id:="int") (λX hX=>call_int_str) v_intS hg hm (by rfl) (by decide) (by decide) (Zh ha (Zv hp _ (by simp))) hp
end
end Hx
namespace Hx
open PySem PySem.Spec L2
noncomputable section
@[simp] def ZeQ:Zi:=
  dIfS (dOrB (dNotB (dB (dChain oLe oLe (dC (.int 1)) (dOp oLen (Za (Ze 1))) (dC (.int 9))))) (dNotB (dB (dOp oAll (Za (dLc (dIv (Ze 1)) [2] (.nm 2) (dYes) (dOp oIn (Zb (Ze 2) (Za (dC (.str "0123456789"))))))))))) (ZN (dC .non)) (Wj)
@[simp] def Zfx:Zi:=
  dIfS (dAndB (dB (dOp oEq (Zb (dOp oIx (Zb (Ze 1) (Za (dC (.int 0))))) (Za (dC (.str "0")))))) (dB (dOp oNe (Zb (Ze 0) (Za (dC (.str "0"))))))) (ZN (dC .non)) (Wj)
@[simp] def Zef:Zi:=
  ZN (dOp oIntS (Za (Ze 0)))
@[simp] def Zed:Zi:=
  dSeq (Zfx) (Zef)
@[simp] def Zet:Zi:=
  dSeq (ZeQ) (Zed)
@[simp] def ZaA:Zi:=
  dSeq (ZG 1 (dSM oPre (Ze 0) (Za (dC (.str "-"))))) (Zet)
def ZQ:Fn:=WB 3 ZaA
@[simp] def Zex:Zi:=
  ZG 1 (dLc (dIv (Ze 0)) [2] (.nm 2) (dYes) (Zu ZQ [] (Za (Ze 2))))
@[simp] def Zeg:Zi:=
  ZN (dIf (dB (dOp oIn (Zb (dC .non) (Za (Ze 1))))) (dC .non) (dOp WN (Za (Ze 1))))
@[simp] def Zak:Zi:=
  dSeq (Zex) (Zeg)
def ZE:Fn:=WB 3 Zak
@[simp] def ZeN:Zi:=
  ZG 1 (dSM Zq (dSM oPre (Ze 0) (Za (dC (.str "unsure ")))) (Za (dC (.str " / "))))
@[simp] def ZeC:Zi:=
  ZG 2 (dLc (dIv (Ze 1)) [3] (.nm 3) (dYes) (Zu ZE [] (Za (dSM Zq (Ze 3) (Za (dC (.str " ")))))))
@[simp] def ZeM:Zi:=
  dIfS (dOrB (dB (dOp oIn (Zb (dC .non) (Za (Ze 2))))) (dNotB (dB (dOp oAll (Za (dLc (dIv (Ze 2)) [4] (.nm 4) (dYes) (dOp oEq (Zb (dOp oLen (Za (Ze 4))) (Za (dC (.int 5))))))))))) (ZN (dC .non)) (Wj)
@[simp] def ZdA:Zi:=
  ZN (dOp WN (Za (Ze 2)))
@[simp] def Zdm:Zi:=
  dSeq (ZeM) (ZdA)
@[simp] def Zdw:Zi:=
  dSeq (ZeC) (Zdm)
@[simp] def Zan:Zi:=
  dSeq (ZeN) (Zdw)
def Wf:Fn:=WB 5 Zan
@[simp] def ZeW:Zi:=
  ZN (dIf (dB (dOp oIsN (Zb (Ze 3) (Za (dC .non))))) (dC .non) (dTup (Zb (dC (.str "unsure")) (Za (Ze 3)))))
@[simp] def Zha:Zi:=
  dIfS (dAndB (dB (dOp oEq (Zb (Ze 2) (Za (dC (.str "unsure")))))) (dB (dOp oGt (Zb (dOp oLen (Za (Ze 1))) (Za (dC (.int 1))))))) (dSeq (ZG 3 (Zu Wf [] (Za (Ze 0)))) (ZeW)) (Wj)
@[simp] def Zhh:Zi:=
  dIfS (dOrB (dB (dInTb true ZC (Ze 2))) (dOrB (dB (dOp oIn (Zb (Ze 2) (Za (dTup (Zb (dC (.str "many")) (Za (dC (.str "unsure"))))))))) (dB (dOp oNe (Zb (dOp oLen (Za (Ze 1))) (Za (dIxTb ZC (Ze 2)))))))) (ZN (dC .non)) (Wj)
@[simp] def ZeV:Zi:=
  ZG 4 (Zu ZE [] (Za (dOp oSlL (Zb (Ze 1) (Za (dC (.int 2)))))))
@[simp] def ZeY:Zi:=
  ZN (dIf (dOrB (dB (dOp oIsN (Zb (Ze 4) (Za (dC .non))))) (dB (dOp oEq (Zb (dOp oIx (Zb (Ze 1) (Za (dC (.int 1))))) (Za (dC (.str ""))))))) (dC .non) (dOp oAdd (Zb (dTup (Zb (Ze 2) (Za (dOp oIx (Zb (Ze 1) (Za (dC (.int 1)))))))) (Za (Ze 4)))))
@[simp] def Zhl:Zi:=
  dIfS (dB (dOp oIn (Zb (Ze 2) (Za (dTup (Zb (dC (.str "move")) (Za (dC (.str "drop"))))))))) (dSeq (ZeV) (ZeY)) (Wj)
@[simp] def Zfh:Zi:=
  ZG 4 (Zu ZE [] (Za (dSlB (Ze 1) (dC (.int 1)) (dC (.int 5)))))
@[simp] def Zfe:Zi:=
  ZG 5 (dIf (dB (dOp oEq (Zb (dOp oIx (Zb (Ze 1) (Za (dC (.int 5))))) (Za (dC (.str "-")))))) (dC (.str "")) (dOp oIx (Zb (Ze 1) (Za (dC (.int 5))))))
@[simp] def ZeX:Zi:=
  ZN (dIf (dOrB (dB (dOp oIsN (Zb (Ze 4) (Za (dC .non))))) (dB (dOp oEq (Zb (dOp oIx (Zb (Ze 1) (Za (dC (.int 5))))) (Za (dC (.str ""))))))) (dC .non) (dOp oAdd (Zb (dOp oAdd (Zb (dTup (Za (dC (.str "pane")))) (Za (Ze 4)))) (Za (dTup (Za (Ze 5)))))))
@[simp] def ZgZ:Zi:=
  dIfS (dB (dOp oEq (Zb (Ze 2) (Za (dC (.str "pane")))))) (dSeq (Zfh) (dSeq (Zfe) (ZeX))) (Wj)
@[simp] def Zhj:Zi:=
  ZG 4 (Zu ZE [] (Za (dOp oSlL (Zb (Ze 1) (Za (dC (.int 1)))))))
@[simp] def Zhe:Zi:=
  ZN (dIf (dB (dOp oIsN (Zb (Ze 4) (Za (dC .non))))) (dC .non) (dOp oAdd (Zb (dTup (Za (Ze 2))) (Za (Ze 4)))))
@[simp] def ZgS:Zi:=
  dSeq (Zhj) (Zhe)
@[simp] def ZgR:Zi:=
  dSeq (ZgZ) (ZgS)
@[simp] def ZgT:Zi:=
  dSeq (Zhl) (ZgR)
@[simp] def ZgC:Zi:=
  dSeq (Zhh) (ZgT)
@[simp] def ZgU:Zi:=
  dSeq (Zha) (ZgC)
@[simp] def ZgH:Zi:=
  dSeq (ZG 2 (dOp oIx (Zb (Ze 1) (Za (dC (.int 0)))))) (ZgU)
@[simp] def ZdU:Zi:=
  dSeq (ZG 1 (dSM Zq (Ze 0) (Za (dC (.str " "))))) (ZgH)
def ZJ:Fn:=WB 6 ZdU
@[simp] def ZgV:Zi:=
  dUnp (.tp [.nm 1,.nm 2,.nm 3]) (dSM Zaw (Ze 0) (Za (dC (.str " "))))
@[simp] def Zgt:Zi:=
  ZN (dIf (dOrB (dB (dOp oNe (Zb (Ze 1) (Za (dC (.str "many")))))) (dOrB (dB (dOp oIsN (Zb (Ze 4) (Za (dC .non))))) (dB (dOp oLt (Zb (Ze 4) (Za (dC (.int 0)))))))) (dC .non) (Ze 4))
@[simp] def ZcK:Zi:=
  dSeq (ZgV) (dSeq (ZG 4 (Zu ZQ [] (Za (Ze 3)))) (Zgt))
def Wx:Fn:=WB 5 ZcK
@[simp] def ZgD:Zi:=
  ZG 2 (Zu Wx [] (Za (dOp oIx (Zb (Ze 0) (Za (Ze 1))))))
@[simp] def ZdZ:Zi:=
  ZG 3 (Zu ZJ [] (Za (dOp oIx (Zb (Ze 0) (Za (Ze 1))))))
@[simp] def Zeh:Zi:=
  dIfS (dB (dOp oIsN (Zb (Ze 3) (Za (dC .non))))) (UD 15 "badtext" (Za (Ze 1))) (Wj)
@[simp] def ZeI:Zi:=
  ZN (dTup (Zb (Ze 3) (Za (dOp oAdd (Zb (Ze 1) (Za (dC (.int 1))))))))
@[simp] def ZgG:Zi:=
  dIfS (dB (dOp oIsN (Zb (Ze 2) (Za (dC .non))))) (dSeq (ZdZ) (dSeq (Zeh) (ZeI))) (Wj)
@[simp] def ZdX:Zi:=
  dApp 4 (Zu ZJ [] (Za (dOp oIx (Zb (Ze 0) (Za (Ze 5))))))
@[simp] def ZeO:Zi:=
  dIfS (dB (dOp oIsN (Zb (dIx1L 4 (dC (.int (-1)))) (Za (dC .non))))) (UD 15 "badtext" (Za (Ze 5))) (Wj)
def ZT:Zi:=
  dSeq (ZdX) (ZeO)
@[simp] def Zgz:Zi:=
  dFor (dRng2 (Zb (dOp oAdd (Zb (Ze 1) (Za (dC (.int 1))))) (Za (dOp UN (Zb (dOp oAdd (Zb (dOp oAdd (Zb (Ze 1) (Za (dC (.int 1))))) (Za (Ze 2)))) (Za (dOp oLen (Za (Ze 0))))))))) (.nm 5) (ZT) []
@[simp] def ZgP:Zi:=
  dIfS (dB (dOp oLt (Zb (dOp oLen (Za (Ze 4))) (Za (Ze 2))))) (UD 15 "badtext" (Za (dOp oLen (Za (Ze 0))))) (Wj)
@[simp] def ZgL:Zi:=
  ZN (dTup (Zb (dTup (Zb (dC (.str "many")) (Za (dOp WN (Za (Ze 4)))))) (Za (dOp oAdd (Zb (dOp oAdd (Zb (Ze 1) (Za (dC (.int 1))))) (Za (Ze 2)))))))
@[simp] def Zga:Zi:=
  dFrz 4 (dSeq (ZgP) (ZgL))
@[simp] def Zgn:Zi:=
  dSeq (Zgz) (Zga)
@[simp] def Zgq:Zi:=
  dSeq (dSet 4 (dLst (dNil))) (Zgn)
@[simp] def Zgg:Zi:=
  dSeq (ZgG) (Zgq)
@[simp] def ZcE:Zi:=
  dSeq (ZgD) (Zgg)
def WL:Fn:=WB 6 ZcE
@[simp] def ZfA:Zi:=
  dUnp (.tp [.nm 2,.nm 3]) (Zu WL [] (Zb (Ze 1) (Za (dC (.int 0)))))
@[simp] def Zfc:Zi:=
  dIfS (dB (dOp oLt (Zb (Ze 3) (Za (dOp oLen (Za (Ze 1))))))) (UD 15 "badtext" (Za (Ze 3))) (Wj)
@[simp] def Zeu:Zi:=
  ZN (Ze 2)
@[simp] def ZeB:Zi:=
  dSeq (Zfc) (Zeu)
@[simp] def ZdL:Zi:=
  dSeq (ZfA) (ZeB)
@[simp] def ZaP:Zi:=
  dSeq (ZG 1 (dSM Zq (Ze 0) (Za (dC (.str "\n"))))) (ZdL)
def Wb:Fn:=WB 4 ZaP
@[simp] def Ur:Zi:=
  ZG 1 (dOp oIx (Zb (dLst (Zb (Zu ZV [] (Zb (Ze 0) (Za (dC (.int 10))))) (Zb (Zu ZV [] (Zb (Ze 0) (Za (dOp oPow (Zb (dC (.int 10)) (Za (dC (.int 9)))))))) (Zb (dOp oSub (Zb (dOp oPow (Zb (dC (.int 10)) (Za (dC (.int 9))))) (Za (dC (.int 1))))) (Za (dC (.int 0))))))) (Za (Zu ZV [] (Zb (Ze 0) (Za (dC (.int 4))))))))
@[simp] def Uk:Zi:=
  ZN (dOp oIx (Zb (dLst (Zb (Ze 1) (Za (dOp oSub (Zb (dC (.int 0)) (Za (Ze 1))))))) (Za (Zu ZV [] (Zb (Ze 0) (Za (dC (.int 2))))))))
@[simp] def Vf:Zi:=
  dSeq (Ur) (Uk)
def Zp:Fn:=WB 2 Vf
@[simp] def Zhi:Zi:=
  ZN (Zu Uh [] (Zb (Ze 0) (Za (dLst (Zb (dC (.str "lamp")) (Zb (dC (.str "post")) (Zb (dC (.str "pane")) (Zb (dC (.str "x")) (Zb (dC (.str "Lamp")) (Zb (dC (.str "9")) (Zb (dC (.str "/")) (Zb (dC (.str "many")) (Za (dC (.str "~!")))))))))))))))
@[simp] def Zey:Zi:=
  Zhi
def Zct:Fn:=WB 1 Zey
@[simp] def Zdv:Zi:=
  ZG 1 (dLst (Zb (dC (.str "lamp")) (Zb (dC (.str "unsure")) (Zb (dC (.str "post")) (Zb (dC (.str "pane")) (Zb (dC (.str "move")) (Zb (dC (.str "switch")) (Zb (dC (.str "drop")) (Zb (dC (.str "look")) (Zb (dC (.str "strike")) (Za (dC (.str "settle")))))))))))))
@[simp] def Zdr:Zi:=
  ZG 1 (dOp oIx (Zb (Ze 1) (Za (Zu ZV [] (Zb (Ze 0) (Za (dC (.int 10))))))))
@[simp] def ZdD:Zi:=
  ZG 2 (dLc (ZaL (Za (dC (.int 5)))) [5] (.nm 5) (dYes) (Zu Zp [] (Za (Ze 0))))
@[simp] def Zby:Zi:=
  ZG 3 (dLc (ZaL (Za (dOp oAdd (Zb (dC (.int 1)) (Za (Zu ZV [] (Zb (Ze 0) (Za (dC (.int 8)))))))))) [5] (.nm 5) (dYes) (dOp WN (Za (dLc (ZaL (Za (dC (.int 5)))) [6] (.nm 6) (dYes) (Zu Zp [] (Za (Ze 0)))))))
@[simp] def Zbz:Zi:=
  ZN (dTup (Zb (Ze 1) (Za (dOp WN (Za (Ze 3))))))
@[simp] def Zdh:Zi:=
  dIfS (dB (dOp oEq (Zb (Ze 1) (Za (dC (.str "unsure")))))) (dSeq (Zby) (Zbz)) (Wj)
@[simp] def ZbG:Zi:=
  ZN (dOp oAdd (Zb (dOp oAdd (Zb (dTup (Za (Ze 1))) (Za (dOp WN (Za (dOp oSlH (Zb (Ze 2) (Za (dC (.int 4)))))))))) (Za (dTup (Za (Zu Uh [] (Zb (Ze 0) (Za (dLst (Zb (dC (.str "")) (Zb (dC (.str "r")) (Zb (dC (.str "rgb")) (Zb (dC (.str "gr")) (Za (dC (.str "zz"))))))))))))))))
@[simp] def Zdf:Zi:=
  dIfS (dB (dOp oEq (Zb (Ze 1) (Za (dC (.str "pane")))))) (ZbG) (Wj)
@[simp] def ZbJ:Zi:=
  ZN (dOp oAdd (Zb (dTup (Zb (Ze 1) (Za (Zu Zct [] (Za (Ze 0)))))) (Za (dOp WN (Za (dOp oSlH (Zb (Ze 2) (Za (dIf (dB (dOp oEq (Zb (Ze 1) (Za (dC (.str "move")))))) (dC (.int 3)) (dC (.int 1)))))))))))
@[simp] def Zdp:Zi:=
  dIfS (dB (dOp oIn (Zb (Ze 1) (Za (dTup (Zb (dC (.str "move")) (Za (dC (.str "drop"))))))))) (ZbJ) (Wj)
@[simp] def Zdl:Zi:=
  ZG 4 (dDct ["lamp","post","switch","look","strike","settle"] (Zb (dC (.int 5)) (Zb (dC (.int 4)) (Zb (dC (.int 1)) (Zb (dC (.int 5)) (Zb (dC (.int 1)) (Zb (dC (.int 2)) (dNil))))))))
@[simp] def Zdx:Zi:=
  ZN (dOp oAdd (Zb (dTup (Za (Ze 1))) (Za (dOp WN (Za (dOp oSlH (Zb (Ze 2) (Za (dOp oIx (Zb (Ze 4) (Za (Ze 1))))))))))))
@[simp] def ZcF:Zi:=
  dSeq (Zdl) (Zdx)
@[simp] def ZcH:Zi:=
  dSeq (Zdp) (ZcF)
@[simp] def ZcR:Zi:=
  dSeq (Zdf) (ZcH)
@[simp] def Zcv:Zi:=
  dSeq (Zdh) (ZcR)
@[simp] def ZcZ:Zi:=
  dSeq (ZdD) (Zcv)
@[simp] def ZcN:Zi:=
  dSeq (Zdr) (ZcZ)
@[simp] def Uz:Zi:=
  dSeq (Zdv) (ZcN)
def Zo:Fn:=WB 7 Uz
@[simp] def ZbQ:Zi:=
  ZN (dOp oAdd (Zb (dC (.str "unsure ")) (Za (dSM Wn (dC (.str " / ")) (Za (dLc (dIv (dOp oIx (Zb (Ze 0) (Za (dC (.int 1)))))) [1] (.nm 1) (dYes) (dSM Wn (dC (.str " ")) (Za (dLc (dIv (Ze 1)) [2] (.nm 2) (dYes) (dOp oStr (Za (Ze 2))))))))))))
@[simp] def ZdJ:Zi:=
  dIfS (dB (dOp oEq (Zb (dOp oIx (Zb (Ze 0) (Za (dC (.int 0))))) (Za (dC (.str "unsure")))))) (ZbQ) (Wj)
@[simp] def ZeE:Zi:=
  ZN (dSM Wn (dC (.str " ")) (Za (dLc (dIv (Ze 0)) [2] (.nm 2) (dYes) (dIf (dB (dOp oNe (Zb (Ze 2) (Za (dC (.str "")))))) (dOp oStr (Za (Ze 2))) (dC (.str "-"))))))
@[simp] def UY:Zi:=
  dSeq (ZdJ) (ZeE)
def Wg:Fn:=WB 3 UY
end
end Hx
namespace Hx
open PySem PySem.Spec L2
open PyProof.Rows hiding St
section
variable {S:Sx}{pos p p2 q:Pos}{i:Nat}{x:Str}
end
section
variable {S:Sx}{e a b tg it elt it1 tg1:Expr}{ifs ifs1:List Expr}{di di1:DenI}{p p1:Pat}{c c1:DenB}{el:Den}{scope:Scope}{own:List (Str × Nat)}{own1:List Nat}{pos:Pos}{i:Nat}{y:Str}{py spos:Pos}
end
section
variable {S:Sx}{x y:Str}{p q pos:Pos}{k i:Nat}{F:Fn}{e:Expr}{db:Den}
end
def oSlLt:Op:=λds=>match ds with
 | [.str z,.int i]=>bif z.length.ble 1000000 then some (.z,.str (cutS z (some i) none)) else none
 | _=>none
def oSlHt:Op:=λds=>match ds with
 | [.str z,.int i]=>bif z.length.ble 1000000 then some (.z,.str (cutS z none (some i))) else none
 | _=>none
theorem lt_line {n:Nat}(h:n.ble 1000000=true):n<=sizeLine:=by
 have:=Nat.le_of_ble_eq_true h
 have hs:1000002<=sizeLine:=by decide
 omega
theorem v_slLt {G:Sg}:VOp G (l2 λx y H Q=>∃ i,y=.int i∧rSlS x (some i) none H Q) oSlLt:=λFz am H vs ds fr d Q h1 h2 h3=>by
 unfold oSlLt at h2
 split at h2
 ·obtain⟨hl,e⟩:=bifS h2
  cases e
  obtain⟨v,w,rfl,a,b⟩:=h1.two
  exact⟨_,b.int,_,a.str,lt_line hl,h3 _ H (λ_=>0) (same_refl H) Va (.sc rfl λ_=>rfl)⟩
 ·cases h2
theorem v_slHt {G:Sg}:VOp G (l2 λx y H Q=>∃ i,y=.int i∧rSlS x none (some i) H Q) oSlHt:=λFz am H vs ds fr d Q h1 h2 h3=>by
 unfold oSlHt at h2
 split at h2
 ·obtain⟨hl,e⟩:=bifS h2
  cases e
  obtain⟨v,w,rfl,a,b⟩:=h1.two
  exact⟨_,b.int,_,a.str,lt_line hl,h3 _ H (λ_=>0) (same_refl H) Va (.sc rfl λ_=>rfl)⟩
 ·cases h2
def Vp:Op:=orOp oSlL oSlLt
def Um:Op:=orOp oSlH oSlHt
section
variable {S:Sx}{a b c:Expr}{da db dc:Den}{pos p p2 q apos cpos:Pos}{i:Nat}{x:Str}
theorem Zaa (ha:DE S a da)(hb:DE S b db):DE S (.Subscript a (.Slice (some b) none none p2) pos) (dOp Vp (Zb da (Za db))):=VD (de_slL ha hb) λW=>by
 obtain⟨ta,pa,qa⟩:=ha W
 obtain⟨tb,pb,qb⟩:=hb W
 exact⟨_,λX hX tk=>pe_slice (r:=rSlS) sl_str (pa X hX tk) (po_some (pb X hX tk)) po_none,λg env st T σ H Q hT R h=>run2 v_slLt qa qb g env st T σ H Q hT R h⟩
theorem ZaZ (ha:DE S a da)(hb:DE S b db):DE S (.Subscript a (.Slice none (some b) none p2) pos) (dOp Um (Zb da (Za db))):=VD (ZbB ha hb) λW=>by
 obtain⟨ta,pa,qa⟩:=ha W
 obtain⟨tb,pb,qb⟩:=hb W
 exact⟨_,λX hX tk=>pe_slice (r:=rSlS) sl_str (pa X hX tk) po_none (po_some (pb X hX tk)),λg env st T σ H Q hT R h=>run2 v_slHt qa qb g env st T σ H Q hT R h⟩
def oMulS:Op:=λds=>match ds with
 | [.str z,.int n]=>bif n==0 then some (.z,.str Str.empty) else bif n==1 then some (.z,.str z) else none
 | _=>none
def rMulS:R2:=λx y H Q=>∃ z n,x=V.str z∧y=V.int n∧(n=0∨n=1)∧Q (.str (if n=0 then Str.empty else z)) H
theorem op_mulS {X:Cx}:OpR X (binaryOp .Mult) rMulS:=by
 intro pins s σ H x y v u Q I rx ry h
 obtain⟨z,n,rfl,rfl,hn,q⟩:=h
 obtain⟨t,rfl⟩:=rx
 obtain⟨t2,rfl⟩:=ry
 refine SB.mul ?_ λt' k=>⟨.str _,H,I.tok _,⟨t',?_⟩,q⟩
 ·rcases hn with rfl | rfl
  ·exact⟨by decide,λh=>absurd (by decide) h,λh=>absurd (by decide) h⟩
  ·exact⟨by decide,λ_ h=>by simp at h,λ_ h=>by simp at h⟩
 ·rcases hn with rfl | rfl<;>rfl
theorem v_mulS {G:Sg}:VOp G (l2 rMulS) oMulS:=λFz am H vs ds fr d Q h1 h2 h3=>by
 unfold oMulS at h2
 split at h2
 ·rename_i z n
  obtain⟨v,w,rfl,a,b⟩:=h1.two
  cases c0:(n==0) with
  | true=>
   rw[c0] at h2
   cases h2
   have:n=0:=by simpa using c0
   subst this
   exact⟨z,0,a.str,b.int,.inl rfl,h3 _ H (λ_=>0) (same_refl H) Va (.sc rfl λ_=>rfl)⟩
  | false=>
   rw[c0,cond_false] at h2
   obtain⟨c1,e⟩:=bifS h2
   cases e
   have:n=1:=by simpa using c1
   subst this
   exact⟨z,1,a.str,b.int,.inr rfl,h3 _ H (λ_=>0) (same_refl H) Va (.sc rfl λ_=>rfl)⟩
 ·cases h2
def oMul4:Op:=orOp oMul oMulS
theorem de_mul4 (ha:DE S a da)(hb:DE S b db):DE S (.BinOp a .Mult b pos) (dOp oMul4 (Zb da (Za db))):=VD (Zab ha hb) (ZbO (r:=rMulS) (λX hX=>op_mulS) v_mulS ha hb)
def isLst2:D->Bool
 | .con .lst _=>true
 | _=>false
def ZaY:Op:=λds=>match ds with
 | [.con .lst xs,.non]=>(match D.pys xs with
  | some ys=>bif SeqAt.shaped (.list ys) then (ys.findIdx? λz=>PyData.eqv z .none).map λj=>(.z,.int (j:Nat)) else none
  | none=>none)
 | _=>none
theorem v_indexN {G:Sg}:VOp G (λvs H Q=>∃ x y,vs=[x,y]∧rIndexD G.K x [y] H Q) ZaY:=λFz am H vs ds f d Q h1 h2 h3=>by
 unfold ZaY at h2
 split at h2
 ·rename_i xs
  split at h2
  ·rename_i ys ey
   have ⟨hs,e⟩:SeqAt.shaped (.list ys)=true∧(ys.findIdx? λz=>PyData.eqv z .none).map (λj=>((.z,.int (j:Nat)):Fr × D))=some (f,d):=by
    cases c:SeqAt.shaped (.list ys) with
    | true=>rw[c] at h2;exact⟨rfl,h2⟩
    | false=>rw[c] at h2;cases h2
   obtain⟨j,e1,e2⟩:=Option.map_eq_some_iff.mp e
   cases e2
   obtain⟨v,w,rfl,a,b⟩:=h1.two
   obtain⟨p,us,rfl,_⟩:=a.sq (k:=.lst) rfl
   obtain⟨hj,p1,p2⟩:=List.findIdx?_eq_some_iff_getElem.mp e1
   refine⟨_,_,rfl,p,w,.none,ys,j,ys[j],rfl,rfl,Ug a (by unfold D.py;rw[ey];rfl),Ug b rfl,hs,rfl,List.getElem?_eq_getElem hj,p1,λm z' hm hz=>?_,h3 _ H (λ_=>0) (same_refl H) Va (.sc rfl λ_=>rfl)⟩
   have hm2:m<ys.length:=by omega
   rw[List.getElem?_eq_getElem hm2] at hz
   cases hz
   have:=p2 m hm
   simpa using this
  ·cases h2
 ·cases h2
def dIdxN (da db:Den):Den:=λenv st=>match da env st with
 | .ok f1 b1 d1 st1=>bif (!b1||f1.isz)&&(f1.flat&&isLst2 (lk st1 d1)) then (match db env st1 with
  | .ok f2 b2 d2 st2=>bif flats [(f1,false,d1),(f2,b2,d2)] then (match ZaY [lk st2 d1,lk st2 d2] with
   | some (f,d)=>.ok f false d st2
   | none=>.stuck) else .stuck
  | .exc c ds st2=>.exc c ds st2
  | .stuck=>.stuck) else .stuck
 | .exc c ds st1=>.exc c ds st1
 | .stuck=>.stuck
theorem de_indexN (ha:DE S a da)(hb:DE S b db)(hl:(apos.endLine==cpos.line)=true)(hbase:∀ env,attributeBase a "index" env (eval a env)=eval a env)(hp:ZD [b]=true):
  DE S (.Call (.Attribute a "index" apos) [b] [] cpos) (dIdxN da db):=λW=>by
 obtain⟨ta,pa,qa⟩:=ha W
 obtain⟨tb,pb,qb⟩:=hb W
 have hs:=Zv hp b (by simp)
 refine⟨tBM S.G.K "list" (rIndexD S.G.K) ta (tCons tb tNil),λX hX tk=>by
  rw[<- hX.K]
  exact pe_bm PySem.F.plainAttrs_list PySem.F.slot_list_index PySem.F.type_list_index (mt_indexD (un65 hX)) (pa X hX tk) (pa_cons (pb X hX tk) pa_nil (Wo hs)) (hbase _) (by rw[Wo hs];rfl) hl (Wo hs) rfl,λg env st T σ H Q hT R h=>qa g env st T σ H _ hT R ?_⟩
 unfold dIdxN at h
 cases e1:da env st with
 | stuck=>rw[e1] at h;exact h.elim
 | exc c ds st1=>rw[e1] at h;exact h
 | ok f1 b1 d1 st1=>
  rw[e1] at h
  obtain⟨hc,h⟩:=bifT h id
  rw[Bool.and_eq_true,Bool.and_eq_true] at hc
  obtain⟨hb1,hf1,hd1⟩:=hc
  intro v1 H1 R1
  obtain⟨Fz,am,vw⟩:=R1.view1 hf1
  obtain⟨xs,ed⟩:∃ xs,lk st1 d1=.con .lst xs:=by
   unfold isLst2 at hd1
   split at hd1
   ·rename_i hq
    exact⟨_,hq⟩
   ·cases hd1
  rw[ed] at vw
  obtain⟨p,ys,rfl,rr,_⟩:=vw.sq (k:=.lst) rfl
  refine⟨.inl ⟨rfl,_,rr⟩,?_⟩
  refine qb g env st1 _ σ H1 _ (Vd hT) (R1.unb hb1) ?_
  cases e2:db env st1 with
  | stuck=>rw[e2] at h;exact h.elim
  | exc c ds st2=>rw[e2] at h;exact h
  | ok f2 b2 d2 st2=>
   rw[e2] at h
   obtain⟨hfl,h⟩:=bifT h id
   intro v2 H2 R2
   have R3:Rl S.G g env st2 (mkT [.ref p,v2] [(f1,false,d1),(f2,b2,d2)]++T) σ H2:=RlB.mid (l:=[_]) R2
   cases e4:ZaY [lk st2 d1,lk st2 d2] with
   | none=>rw[e4] at h;exact h.elim
   | some x=>
    obtain⟨f',d'⟩:=x
    rw[e4] at h
    obtain⟨x,y,ev,hq⟩:=Rl.op v_indexN R3 rfl hfl e4 h
    cases ev
    exact hq
end
end Hx
namespace Hx
open PySem PySem.Spec L2
noncomputable section
@[simp] def WC:Zi:=
  ZG 1 (dIf (dB (dOp oEq (Zb (dOp Um (Zb (Ze 0) (Za (dC (.int 1))))) (Za (dC (.str "-")))))) (dOp Vp (Zb (Ze 0) (Za (dC (.int 1))))) (Ze 0))
@[simp] def ZfI:Zi:=
  dIfS (dOrB (dNotB (dB (dChain oLe oLe (dC (.int 1)) (dOp oLen (Za (Ze 1))) (dC (.int 9))))) (dNotB (dB (dOp oAll (Za (dLc (dIv (Ze 1)) [2] (.nm 2) (dYes) (dOp oIn (Zb (Ze 2) (Za (dC (.str "0123456789"))))))))))) (ZN (dC .non)) (Wj)
@[simp] def Zfw:Zi:=
  ZN (dIf (dAndB (dB (dOp oEq (Zb (dOp oIx (Zb (Ze 1) (Za (dC (.int 0))))) (Za (dC (.str "0")))))) (dB (dOp oNe (Zb (Ze 0) (Za (dC (.str "0"))))))) (dC .non) (dOp oIntS (Za (Ze 0))))
@[simp] def ZaO:Zi:=
  dSeq (WC) (dSeq (ZfI) (Zfw))
def Wc:Fn:=WB 3 ZaO
@[simp] def Zck:Zi:=
  ZG 1 (dLc (dIv (Ze 0)) [2] (.nm 2) (dYes) (Zu Wc [] (Za (Ze 2))))
@[simp] def Zcg:Zi:=
  ZN (dIf (dB (dOp oIn (Zb (dC .non) (Za (Ze 1))))) (dC .non) (dOp WN (Za (Ze 1))))
@[simp] def VE:Zi:=
  dSeq (Zck) (Zcg)
def Zz:Fn:=WB 3 VE
@[simp] def Zcq:Zi:=
  ZG 3 (dLc (dIv (dSM Zq (dOp Vp (Zb (Ze 0) (Za (dC (.int 7))))) (Za (dC (.str " / "))))) [10] (.nm 10) (dYes) (Zu Zz [] (Za (dSM Zq (Ze 10) (Za (dC (.str " ")))))))
@[simp] def Zci:Zi:=
  ZG 4 (dAnd (dOp oEq (Zb (dOp Um (Zb (Ze 0) (Za (dC (.int 7))))) (Za (dC (.str "unsure "))))) (dAnd (dOp Wm (Zb (dC .non) (Za (Ze 3)))) (dOp oAll (Za (dLc (dIv (Ze 3)) [11] (.nm 11) (dYes) (dOp oEq (Zb (dOp oLen (Za (Ze 11))) (Za (dC (.int 5))))))))))
@[simp] def ZbT:Zi:=
  ZN (dIf (dB (Ze 4)) (dTup (Zb (Ze 2) (Za (dOp WN (Za (Ze 3)))))) (dC .non))
@[simp] def ZdO:Zi:=
  dIfS (dB (dOp oEq (Zb (Ze 2) (Za (dC (.str "unsure")))))) (dSeq (Zcq) (dSeq (Zci) (ZbT))) (Wj)
@[simp] def Vn:Zi:=
  ZG 5 (dDct ["lamp","post","pane","move","switch","drop","look","strike","settle"] (Zb (dC (.int 5)) (Zb (dC (.int 4)) (Zb (dC (.int 5)) (Zb (dC (.int 4)) (Zb (dC (.int 1)) (Zb (dC (.int 2)) (Zb (dC (.int 5)) (Zb (dC (.int 1)) (Zb (dC (.int 2)) (dNil)))))))))))
@[simp] def ZeP:Zi:=
  dIfS (dOrB (dB (dOp Wm (Zb (Ze 2) (Za (Ze 5))))) (dB (dOp oNe (Zb (dOp oLen (Za (Ze 1))) (Za (dOp oAdd (Zb (dOp oIx (Zb (Ze 5) (Za (Ze 2)))) (Za (dC (.int 1)))))))))) (ZN (dC .non)) (Wj)
@[simp] def ZdK:Zi:=
  ZG 6 (dIf (dB (dOp oIn (Zb (Ze 2) (Za (dTup (Zb (dC (.str "move")) (Za (dC (.str "drop"))))))))) (dC (.int 2)) (dC (.int 1)))
@[simp] def Zec:Zi:=
  ZG 7 (dIf (dB (dOp oEq (Zb (Ze 2) (Za (dC (.str "pane")))))) (dC (.int 5)) (dOp oLen (Za (Ze 1))))
@[simp] def Zea:Zi:=
  ZG 8 (Zu Zz [] (Za (dSlB (Ze 1) (Ze 6) (Ze 7))))
@[simp] def ZeA:Zi:=
  dIfS (dOrB (dB (dOp oIsN (Zb (Ze 8) (Za (dC .non))))) (dB (dOp oIn (Zb (dC (.str "")) (Za (Ze 1)))))) (ZN (dC .non)) (Wj)
@[simp] def Zen:Zi:=
  ZG 9 (dOp WN (Za (dLc (dIv (dOp Vp (Zb (Ze 1) (Za (Ze 7))))) [11] (.nm 11) (dYes) (dIf (dB (dOp oEq (Zb (Ze 11) (Za (dC (.str "-")))))) (dC (.str "")) (Ze 11)))))
@[simp] def ZdC:Zi:=
  ZN (dOp oAdd (Zb (dOp oAdd (Zb (dOp oAdd (Zb (dTup (Za (Ze 2))) (Za (dOp WN (Za (dSlB (Ze 1) (dC (.int 1)) (Ze 6))))))) (Za (Ze 8)))) (Za (Ze 9))))
@[simp] def Zdy:Zi:=
  dSeq (Zen) (ZdC)
@[simp] def Zdq:Zi:=
  dSeq (ZeA) (Zdy)
@[simp] def Zdo:Zi:=
  dSeq (Zea) (Zdq)
@[simp] def Zds:Zi:=
  dSeq (Zec) (Zdo)
@[simp] def ZdF:Zi:=
  dSeq (ZdK) (Zds)
@[simp] def Vi:Zi:=
  dSeq (ZeP) (ZdF)
@[simp] def Zdk:Zi:=
  dSeq (Vn) (Vi)
@[simp] def ZdG:Zi:=
  dSeq (ZdO) (Zdk)
@[simp] def Zdz:Zi:=
  dSeq (ZG 2 (dOp oIx (Zb (Ze 1) (Za (dC (.int 0)))))) (ZdG)
@[simp] def Zae:Zi:=
  dSeq (ZG 1 (dSM Zq (Ze 0) (Za (dC (.str " "))))) (Zdz)
def ZF:Fn:=WB 12 Zae
@[simp] def ZfC:Zi:=
  ZG 2 (dSM Zq (dOp oIx (Zb (Ze 0) (Za (Ze 1)))) (Za (dC (.str " "))))
@[simp] def ZR:Zi:=
  ZG 3 (dIf (dAndB (dB (dOp oEq (Zb (dOp oIx (Zb (Ze 2) (Za (dC (.int 0))))) (Za (dC (.str "many")))))) (dB (dOp oEq (Zb (dOp oLen (Za (Ze 2))) (Za (dC (.int 2))))))) (Zu Wc [] (Za (dOp oIx (Zb (Ze 2) (Za (dC (.int 1))))))) (dC .non))
@[simp] def ZcO:Zi:=
  ZG 4 (Zu ZF [] (Za (dOp oIx (Zb (Ze 0) (Za (Ze 1))))))
@[simp] def ZcD:Zi:=
  ZN (dIf (dB (dOp oNotN (Zb (Ze 4) (Za (dC .non))))) (dTup (Zb (Ze 4) (Za (dOp oAdd (Zb (Ze 1) (Za (dC (.int 1)))))))) (dTup (Zb (dC .non) (Za (Ze 1)))))
@[simp] def ZfG:Zi:=
  dIfS (dOrB (dB (dOp oIsN (Zb (Ze 3) (Za (dC .non))))) (dB (dOp oLt (Zb (Ze 3) (Za (dC (.int 0))))))) (dSeq (ZcO) (ZcD)) (Wj)
@[simp] def Zfy:Zi:=
  ZG 5 (dLc (dIv (dSlB (Ze 0) (dOp oAdd (Zb (Ze 1) (Za (dC (.int 1))))) (dOp oAdd (Zb (dOp oAdd (Zb (Ze 1) (Za (dC (.int 1))))) (Za (dOp UN (Zb (Ze 3) (Za (dOp oLen (Za (Ze 0))))))))))) [6] (.nm 6) (dYes) (Zu ZF [] (Za (Ze 6))))
@[simp] def ZcI:Zi:=
  ZN (dTup (Zb (dC .non) (Za (dOp oAdd (Zb (dOp oAdd (Zb (Ze 1) (Za (dC (.int 1))))) (Za (dIdxN (Ze 5) (dC .non))))))))
@[simp] def Zfv:Zi:=
  dIfS (dB (dOp oIn (Zb (dC .non) (Za (Ze 5))))) (ZcI) (Wj)
@[simp] def Zfi:Zi:=
  ZN (dIf (dB (dOp oEq (Zb (dOp oLen (Za (Ze 5))) (Za (Ze 3))))) (dTup (Zb (dTup (Zb (dC (.str "many")) (Za (dOp WN (Za (Ze 5)))))) (Za (dOp oAdd (Zb (dOp oAdd (Zb (Ze 1) (Za (dC (.int 1))))) (Za (Ze 3))))))) (dTup (Zb (dC .non) (Za (dOp oLen (Za (Ze 0)))))))
@[simp] def ZeD:Zi:=
  dSeq (Zfv) (Zfi)
@[simp] def ZeH:Zi:=
  dSeq (Zfy) (ZeD)
@[simp] def ZdP:Zi:=
  dSeq (ZfG) (ZeH)
@[simp] def Zem:Zi:=
  dSeq (ZR) (ZdP)
@[simp] def Zaz:Zi:=
  dSeq (ZfC) (Zem)
def ZY:Fn:=WB 7 Zaz
@[simp] def Zgf:Zi:=
  ZG 2 (Zu ZV [] (Zb (Ze 0) (Za (dOp oAdd (Zb (dOp oLen (Za (Ze 1))) (Za (dC (.int 1))))))))
@[simp] def Zgr:Zi:=
  ZG 3 (dOp oIx (Zb (dC (.str " 0-179/x\n.")) (Za (Zu ZV [] (Zb (Ze 0) (Za (dC (.int 10))))))))
@[simp] def Zgh:Zi:=
  ZG 4 (Zu ZV [] (Zb (Ze 0) (Za (dC (.int 7)))))
@[simp] def Zdj:Zi:=
  ZN (dOp oAdd (Zb (dOp oAdd (Zb (dOp Um (Zb (Ze 1) (Za (Ze 2)))) (Za (dOp oMul4 (Zb (Ze 3) (Za (dOp oInt1 (Za (dOp oNe (Zb (Ze 4) (Za (dC (.int 1))))))))))))) (Za (dOp Vp (Zb (Ze 1) (Za (dOp oAdd (Zb (Ze 2) (Za (dOp oInt1 (Za (dOp oGt (Zb (Ze 4) (Za (dC (.int 0))))))))))))))))
@[simp] def ZfS:Zi:=
  dIfS (dB (dOp oLt (Zb (Ze 4) (Za (dC (.int 3)))))) (Zdj) (Wj)
@[simp] def Zgk:Zi:=
  ZG 6 (Zu ZV [] (Zb (Ze 0) (Za (dOp oLen (Za (Ze 5))))))
@[simp] def Zdt:Zi:=
  ZN (dSM Wn (dC (.str "\n")) (Za (dOp oAdd (Zb (dOp Um (Zb (Ze 5) (Za (Ze 6)))) (Za (dOp Vp (Zb (Ze 5) (Za (dOp oAdd (Zb (Ze 6) (Za (dC (.int 1)))))))))))))
@[simp] def Zgm:Zi:=
  dIfS (dB (dOp oEq (Zb (Ze 4) (Za (dC (.int 3)))))) (Zdt) (Wj)
@[simp] def Zdg:Zi:=
  ZN (dSM Wn (dC (.str "\n")) (Za (dOp oAdd (Zb (dOp oAdd (Zb (dOp Um (Zb (Ze 5) (Za (Ze 6)))) (Za (dLst (Za (dOp oIx (Zb (Ze 5) (Za (Ze 6))))))))) (Za (dOp Vp (Zb (Ze 5) (Za (Ze 6)))))))))
@[simp] def Zgb:Zi:=
  dIfS (dB (dOp oEq (Zb (Ze 4) (Za (dC (.int 4)))))) (Zdg) (Wj)
@[simp] def ZfU:Zi:=
  ZG 7 (dSM Zq (dOp oIx (Zb (Ze 5) (Za (Ze 6)))) (Za (dC (.str " "))))
@[simp] def ZfV:Zi:=
  ZG 8 (Zu ZV [] (Zb (Ze 0) (Za (dOp oLen (Za (Ze 7))))))
@[simp] def Zfm:Zi:=
  ZG 9 (dLst (Zb (dC (.str "")) (Zb (dC (.str "0")) (Zb (dC (.str "00")) (Zb (dC (.str "-0")) (Zb (dC (.str "07")) (Zb (dC (.str "1234567890")) (Zb (dC (.str "-")) (Zb (dC (.str "/")) (Zb (dC (.str "many")) (Zb (dC (.str "lamp")) (Zb (dC (.str "9")) (Zb (dC (.str "rg")) (Zb (dC (.str "many 1")) (Za (dC (.str "unsure")))))))))))))))))
@[simp] def Zfp:Zi:=
  dPutC (Ze 5) (Ze 6) (dSM Wn (dC (.str " ")) (Za (dOp oAdd (Zb (dOp oAdd (Zb (dOp Um (Zb (Ze 7) (Za (Ze 8)))) (Za (dLst (Za (Zu Uh [] (Zb (Ze 0) (Za (Ze 9))))))))) (Za (dOp Vp (Zb (Ze 7) (Za (dOp oAdd (Zb (Ze 8) (Za (dOp oInt1 (Za (dOp oGt (Zb (Ze 4) (Za (dC (.int 5))))))))))))))))))
@[simp] def Vr:Zi:=
  ZN (dSM Wn (dC (.str "\n")) (Za (Ze 5)))
@[simp] def Zer:Zi:=
  dSeq (Zfp) (Vr)
@[simp] def Zel:Zi:=
  dSeq (Zfm) (Zer)
@[simp] def Zej:Zi:=
  dSeq (ZfV) (Zel)
@[simp] def ZeS:Zi:=
  dSeq (ZfU) (Zej)
@[simp] def Zfs:Zi:=
  dSeq (Zgb) (ZeS)
@[simp] def Zfq:Zi:=
  dSeq (Zgm) (Zfs)
@[simp] def ZfF:Zi:=
  dPub 5 (dSeq (Zgk) (Zfq))
@[simp] def Zfn:Zi:=
  dSeq (dSet 5 (dSM Zq (Ze 1) (Za (dC (.str "\n"))))) (ZfF)
@[simp] def Wh:Zi:=
  dSeq (ZfS) (Zfn)
@[simp] def Zfb:Zi:=
  dSeq (Zgh) (Wh)
@[simp] def ZfD:Zi:=
  dSeq (Zgr) (Zfb)
@[simp] def ZbC:Zi:=
  dSeq (Zgf) (ZfD)
def VX:Fn:=WB 10 ZbC
@[simp] def ZdY:Zi:=
  dUnp (.tp [.nm 2,.nm 3]) (Zu ZY [] (Zb (Ze 1) (Za (dC (.int 0)))))
@[simp] def Zee:Zi:=
  dIfS (dOrB (dB (dOp oIsN (Zb (Ze 2) (Za (dC .non))))) (dB (dOp oLt (Zb (Ze 3) (Za (dOp oLen (Za (Ze 1)))))))) (ZN (dTup (Zb (dC (.str "badtext")) (Za (Ze 3))))) (Wj)
@[simp] def ZdE:Zi:=
  ZN (dTup (Zb (dC (.str "told")) (Za (Ze 2))))
@[simp] def Zdi:Zi:=
  dSeq (Zee) (ZdE)
@[simp] def Zdu:Zi:=
  dSeq (ZdY) (Zdi)
@[simp] def Zaj:Zi:=
  dSeq (ZG 1 (dSM Zq (Ze 0) (Za (dC (.str "\n"))))) (Zdu)
def WJ:Fn:=WB 4 Zaj
end
end Hx
namespace L54
open PySem PySem.Spec L2 Hx
open PyProof.Rows hiding St
noncomputable section
def top (i:Nat):Stmt:=PySem.Challenge.pw_hueshade_k54_texts_of_no_deed.main.body.getD i (.Pass ⟨0,0,0,0⟩)
@[simp] def Zho:Zi:=
  ZG 3 (dLst (Za (Zu Wg [] (Za (Zu Zo [] (Za (Ze 1)))))))
@[simp] def Zfg:Zi:=
  ZG 4 (dLc (ZaL (Za (Zu ZV [] (Zb (Ze 1) (Za (dC (.int 5))))))) [7] (.nm 7) (dYes) (Zu Wg [] (Za (Zu Zo [] (Za (Ze 1))))))
@[simp] def Zfz:Zi:=
  ZG 3 (dOp oAdd (Zb (dLst (Za (dOp oAdd (Zb (dC (.str "many ")) (Za (dOp oStr (Za (dOp oLen (Za (Ze 4)))))))))) (Za (Ze 4))))
@[simp] def Zhk:Zi:=
  dIfS (dB (dOp oEq (Zb (Zu ZV [] (Zb (Ze 1) (Za (dC (.int 3))))) (Za (dC (.int 0)))))) (dSeq (Zfg) (Zfz)) (Wj)
@[simp] def Zfr:Zi:=
  ZG 5 (Zu VX [] (Zb (Ze 1) (Za (Ze 5))))
def Uq:Zi:=
  Zfr
@[simp] def Zhg:Zi:=
  dFor (ZaL (Za (Zu ZV [] (Zb (Ze 1) (Za (dC (.int 3))))))) (.nm 6) (Uq) []
@[simp] def ZbE:Zi:=
  dIfS (dNotB (dB (Zu (WH 8) [] (Zb (dLam [5] 0 (Zu Wb [] (Za (Ze 0))) Vw dNil) (Za (Zu WJ [] (Za (Ze 5)))))))) (ZN (dC (.bl false))) (Wj)
@[simp] def Zgu:Zi:=
  dSeq (Zhg) (ZbE)
@[simp] def Uo:Zi:=
  dSeq (ZG 5 (dSM Wn (dC (.str "\n")) (Za (Ze 3)))) (Zgu)
@[simp] def Zgv:Zi:=
  dSeq (Zhk) (Uo)
def ZaB:Zi:=
  dSeq (Zho) (Zgv)
@[simp] def ZhH:Zi:=
  ZN (dOp oEq (Zb (dLam [] 0 (Zu Wb [] (Za (dC (.str "")))) Vw dNil) (Za (dTup (Zb (dC (.str "badtext")) (Za (dC (.int 0))))))))
@[simp] def ZhI:Zi:=
  dSeq (dSet 1 (Zu Zcb [] (Za (Ze 0)))) (dPub 1 (dSeq (dFor (ZaL (Za (dC (.int 8)))) (.nm 2) (ZaB) []) (ZhH)))
def Zhp:Fn:=WB 8 ZhI
structure Env (S:Sx):Prop where
 aV:S.mg "all"=none
 aP:S.mg "bool"=none
 aE:S.mg "int"=none
 ac:S.mg "isinstance"=none
 ae:S.mg "len"=none
 aW:S.mg "list"=none
 a7:S.mg "min"=none
 aj:S.mg "range"=none
 aX:S.mg "str"=none
 af:S.mg "tuple"=none
 ak:GV S "MOST_FIGURES" (.int 9)
 aH:GV S "FIGURES" (.str "0123456789")
 ZC:Tb S "LENGTHS" ZC
 aA:Kn S "number_in" (top 12)
 ap:Kn S "numbers_in" (top 13)
 aq:Kn S "choices_in" (top 14)
 aQ:Kn S "row_in" (top 15)
 aI:Kn S "many_in" (top 16)
 aJ:Kn S "deed_in" (top 17)
 aB:Kn S "read_deed" (top 18)
 aY:Kn S "_law_bag" (top 20)
 aR:Kn S "_law_pull" (top 21)
 aZ:Kn S "_law_one" (top 22)
 aG:Kn S "_law_same" (top 23)
 aK:Kn S "_law_tried" (top 24)
 aC:Kn S "_law_figures" (top 25)
 ah:Kn S "_law_figures_all" (top 26)
 ar:Kn S "_law_read_row" (top 27)
 aD:Kn S "_law_read_at" (top 28)
 aF:Kn S "_law_spoilt" (top 29)
 ai:Kn S "_law_wide_number" (top 30)
 aS:Kn S "_law_word" (top 31)
 al:Kn S "_law_wide_deed" (top 32)
 au:Kn S "_law_row_text" (top 33)
 av:Kn S "_law_text_due" (top 34)
 a8:Kn S "law" (top 35)
 az:S.mg "ShadeError"=some (.ref (S.G.cls 0))
 aL:S.mg "Missing"=some (.ref (S.G.cls 1))
 aM:S.mg "Crowded"=some (.ref (S.G.cls 2))
 aN:S.mg "BadText"=some (.ref (S.G.cls 15))
 aO:S.mg "NoThing"=some (.ref (S.G.cls 18))
 aT:S.mg "NoLook"=some (.ref (S.G.cls 19))
 aU:S.mg "Looked"=some (.ref (S.G.cls 22))
 ao:XR S "BadText" 15 1 "badtext"
 xs:∀ d∈([0,1,2,15,18,19,22]:List Nat),d∈S.G.xs
 xf:XF S.G.K S.G XUP XFL
 a9:∃ c P,Mk0 S "law" c P
theorem Env.lamS {S:Sx}(E:Env S)(l:Nat->Option LamD)(ok:Zac S.P S.w S.mg S.base (S.G.wl l)):Env (S.lamS l ok) where
 aV:=E.aV
 aP:=E.aP
 aE:=E.aE
 ac:=E.ac
 ae:=E.ae
 aW:=E.aW
 a7:=E.a7
 aj:=E.aj
 aX:=E.aX
 af:=E.af
 ak:=E.ak.lamS
 aH:=E.aH.lamS
 ZC:=E.ZC.lamS
 aA:=E.aA.lamS
 ap:=E.ap.lamS
 aq:=E.aq.lamS
 aQ:=E.aQ.lamS
 aI:=E.aI.lamS
 aJ:=E.aJ.lamS
 aB:=E.aB.lamS
 aY:=E.aY.lamS
 aR:=E.aR.lamS
 aZ:=E.aZ.lamS
 aG:=E.aG.lamS
 aK:=E.aK.lamS
 aC:=E.aC.lamS
 ah:=E.ah.lamS
 ar:=E.ar.lamS
 aD:=E.aD.lamS
 aF:=E.aF.lamS
 ai:=E.ai.lamS
 aS:=E.aS.lamS
 al:=E.al.lamS
 au:=E.au.lamS
 av:=E.av.lamS
 a8:=E.a8.lamS
 az:=E.az
 aL:=E.aL
 aM:=E.aM
 aN:=E.aN
 aO:=E.aO
 aT:=E.aT
 aU:=E.aU
 ao:=E.ao.lamS
 xs:=E.xs
 xf:=XF.lamS E.xf
 a9:=E.a9.imp λ_ ⟨P,h⟩=>⟨P,h.lamS⟩
theorem Env.c0 {S:Sx}(E:Env S):Env S.c0 where
 aV:=E.aV
 aP:=E.aP
 aE:=E.aE
 ac:=E.ac
 ae:=E.ae
 aW:=E.aW
 a7:=E.a7
 aj:=E.aj
 aX:=E.aX
 af:=E.af
 ak:=E.ak.c0
 aH:=E.aH.c0
 ZC:=E.ZC.c0
 aA:=E.aA.c0
 ap:=E.ap.c0
 aq:=E.aq.c0
 aQ:=E.aQ.c0
 aI:=E.aI.c0
 aJ:=E.aJ.c0
 aB:=E.aB.c0
 aY:=E.aY.c0
 aR:=E.aR.c0
 aZ:=E.aZ.c0
 aG:=E.aG.c0
 aK:=E.aK.c0
 aC:=E.aC.c0
 ah:=E.ah.c0
 ar:=E.ar.c0
 aD:=E.aD.c0
 aF:=E.aF.c0
 ai:=E.ai.c0
 aS:=E.aS.c0
 al:=E.al.c0
 au:=E.au.c0
 av:=E.av.c0
 a8:=E.a8.c0
 az:=E.az
 aL:=E.aL
 aM:=E.aM
 aN:=E.aN
 aO:=E.aO
 aT:=E.aT
 aU:=E.aU
 ao:=E.ao.c0
 xs:=E.xs
 xf:=XF.lamS (l:=λ_=>none) E.xf
 a9:=E.a9.imp λ_ ⟨P,h⟩=>⟨P,h.c0⟩
section
variable {S:Sx}
theorem ZfX:FnScope nl19 ["word"] (defScope (top 12)):=fsM
theorem Zgs:Wv "number_in" (top 12) ["word"]:=bnq1
theorem Zgo (E:Env S):DSs (S.at nl19 (defScope (top 12)) 0) (defBody (top 12)) ZaA:=by
 exact (Zg (Zw (i:=1) rfl (.inl (by kernel_rfl)) (.inl rfl) (de_pre (deV 0) Zk rfl (λ_=>rfl) rfl) rfl)
  (Zg (Wi (dt_w (VG (Zda (dt_chain ci_le ci_le Zf (bi_len (by kernel_rfl) E.ae (deV 1) rfl) (de_glo E.ak.at (by kernel_rfl) (by kernel_rfl)) rfl rfl)) (Vs (Zda (ZaU (bi_all (by kernel_rfl) E.aV (Zbo (own:=[("one",2)]) (WO (deV 1)) (Wy (i:=2) rfl (.inl (by kernel_rfl)) (.inr (by kernel_rfl))) Wt (de_in (deV 2) (de_glo E.aH.at.blk (by kernel_rfl) (by kernel_rfl)) rfl) (WM (by kernel_rfl)) (by decide +kernel) rfl) rfl) rfl))))) (Zm (Zr ZI)) ZH)
  (Zg (Wi (dt_w (dw_and (dt_c Wu (ZA (deV 1) Zf rfl) Zk rfl) (ZbX (dt_c ci_ne (deV 0) Zk rfl)))) (Zm (Zr ZI)) ZH)
  (Zm (Zr (bi_intS (by kernel_rfl) E.aE (deV 0) rfl))))))
theorem Vj (E:Env S):Good S "number_in" 1 ZQ [] 1:=We (N:=nl19) (ps:=["word"]) (k:=0) (db:=ZaA) E.aA ZfX (Zgo E) Zgs rfl
theorem ZfB:FnScope nl20 ["words"] (defScope (top 13)):=fsM
theorem ZfE:Wv "numbers_in" (top 13) ["words"]:=bnq1
theorem Zfa (E:Env S):DSs (S.at nl20 (defScope (top 13)) 1) (defBody (top 13)) Zak:=by
 have Vj:=Vj E
 exact (Zg (Vl (own:=[("word",2)]) (WO (deV 0)) (Wy (i:=2) rfl (.inl (by kernel_rfl)) (.inr (by kernel_rfl))) Wt (Zs Vj.at.blk lez (by kernel_rfl) (by kernel_rfl) (Zh (deV 2) nofun) rfl rfl Zl) (WM (by kernel_rfl)) (by decide +kernel) rfl (i:=1) rfl (by kernel_rfl) (by kernel_rfl) (by kernel_rfl) (by kernel_rfl))
  (Zm (Zr (Vt (dt_in ZI (deV 1) rfl) ZI (WG (by kernel_rfl) E.af (deV 1) rfl)))))
theorem WA (E:Env S):Good S "numbers_in" 1 ZE [] 2:=We (N:=nl20) (ps:=["words"]) (k:=1) (db:=Zak) E.ap ZfB (Zfa E) ZfE rfl
theorem ZfH:FnScope nl14 ["row"] (defScope (top 14)):=fsM
theorem Zfu:Wv "choices_in" (top 14) ["row"]:=bnq1
theorem Zfd (E:Env S):DSs (S.at nl14 (defScope (top 14)) 2) (defBody (top 14)) Zan:=by
 have WA:=WA E
 exact (Zg (Zw (i:=1) rfl (.inl (by kernel_rfl)) (.inl rfl) (WS (de_pre (deV 0) Zk rfl (λ_=>rfl) rfl) Zk rfl (λ_=>rfl) rfl) rfl)
  (Zg (Vl (own:=[("part",3)]) (WO (deV 1)) (Wy (i:=3) rfl (.inl (by kernel_rfl)) (.inr (by kernel_rfl))) Wt (Zs WA.at.blk lez (by kernel_rfl) (by kernel_rfl) (Zh (WS (deV 3) Zk rfl (λ_=>rfl) rfl) nofun) rfl rfl Zl) (WM (by kernel_rfl)) (by decide +kernel) rfl (i:=2) rfl (by kernel_rfl) (by kernel_rfl) (by kernel_rfl) (by kernel_rfl))
  (Zg (Wi (dt_w (VG (dt_in ZI (deV 2) rfl) (Vs (Zda (ZaU (bi_all (by kernel_rfl) E.aV (Zbo (own:=[("one",4)]) (WO (deV 2)) (Wy (i:=4) rfl (.inl (by kernel_rfl)) (.inr (by kernel_rfl))) Wt (de_c Wu (bi_len (by kernel_rfl) E.ae (deV 4) rfl) Zf rfl) (WM (by kernel_rfl)) (by decide +kernel) rfl) rfl) rfl))))) (Zm (Zr ZI)) ZH)
  (Zm (Zr (WG (by kernel_rfl) E.af (deV 2) rfl))))))
theorem Zah (E:Env S):Good S "choices_in" 1 Wf [] 3:=We (N:=nl14) (ps:=["row"]) (k:=2) (db:=Zan) E.aq ZfH (Zfd E) Zfu rfl
theorem Zhq:FnScope nl16 ["row"] (defScope (top 15)):=fsM
theorem Zhr:Wv "row_in" (top 15) ["row"]:=bnq1
theorem Zhs (E:Env S):DSs (S.at nl16 (defScope (top 15)) 3) (defBody (top 15)) ZdU:=by
 have Zah:=Zah E
 have WA:=WA E
 exact (Zg (Zw (i:=1) rfl (.inl (by kernel_rfl)) (.inl rfl) (WS (deV 0) Zk rfl (λ_=>rfl) rfl) rfl)
  (Zg (Zw (i:=2) rfl (.inl (by kernel_rfl)) (.inl rfl) (ZA (deV 1) Zf rfl) rfl)
  (Zg (Wi (dt_w (dw_and (dt_c Wu (deV 2) Zk rfl) (ZbX (dt_c ci_gt (bi_len (by kernel_rfl) E.ae (deV 1) rfl) Zf rfl)))) (Zg (Zw (i:=3) rfl (.inl (by kernel_rfl)) (.inl rfl) (Zs Zah.at lez (by kernel_rfl) (by kernel_rfl) (Zh (deV 0) nofun) rfl rfl Zl) rfl)
  (Zm (Zr (Vt (dt_c Ud (deV 3) ZI rfl) ZI (Wa (Zj Zk (Zh (deV 3) nofun) nofun)))))) ZH)
  (Zg (Wi (dt_w (VG (dt_ninTb E.ZC.at (by kernel_rfl) (by kernel_rfl) (deV 2)) (VG (dt_in (deV 2) (Wa (Zj Zk (Zh Zk nofun) nofun)) rfl) (Vs (dt_c ci_ne (bi_len (by kernel_rfl) E.ae (deV 1) rfl) (de_ixTb E.ZC.at (by kernel_rfl) (by kernel_rfl) (deV 2) rfl) rfl))))) (Zm (Zr ZI)) ZH)
  (Zg (Wi (dt_in (deV 2) (Wa (Zj Zk (Zh Zk nofun) nofun)) rfl) (Zg (Zw (i:=4) rfl (.inl (by kernel_rfl)) (.inl rfl) (Zs WA.at lez (by kernel_rfl) (by kernel_rfl) (Zh (de_slL (deV 1) Zf) nofun) rfl rfl Zl) rfl)
  (Zm (Zr (Vt (dt_w (VG (dt_c Ud (deV 4) ZI rfl) (Vs (dt_c Wu (ZA (deV 1) Zf rfl) Zk rfl)))) ZI (Zx (Wa (Zj (deV 2) (Zh (ZA (deV 1) Zf rfl) nofun) nofun)) (deV 4)))))) ZH)
  (Zg (Wi (dt_c Wu (deV 2) Zk rfl) (Zg (Zw (i:=4) rfl (.inl (by kernel_rfl)) (.inl rfl) (Zs WA.at lez (by kernel_rfl) (by kernel_rfl) (Zh (de_slB (deV 1) Zf Zf) nofun) rfl rfl Zl) rfl)
  (Zg (Zw (i:=5) rfl (.inl (by kernel_rfl)) (.inl rfl) (Vt (dt_c Wu (ZA (deV 1) Zf rfl) Zk rfl) Zk (ZA (deV 1) Zf rfl)) rfl)
  (Zm (Zr (Vt (dt_w (VG (dt_c Ud (deV 4) ZI rfl) (Vs (dt_c Wu (ZA (deV 1) Zf rfl) Zk rfl)))) ZI (Zx (Zx (Wa (Zh Zk nofun)) (deV 4)) (Wa (Zh (deV 5) nofun)))))))) ZH)
  (Zg (Zw (i:=4) rfl (.inl (by kernel_rfl)) (.inl rfl) (Zs WA.at lez (by kernel_rfl) (by kernel_rfl) (Zh (de_slL (deV 1) Zf) nofun) rfl rfl Zl) rfl)
  (Zm (Zr (Vt (dt_c Ud (deV 4) ZI rfl) ZI (Zx (Wa (Zh (deV 2) nofun)) (deV 4))))))))))))
theorem ZbW (E:Env S):Good S "row_in" 1 ZJ [] 4:=We (N:=nl16) (ps:=["row"]) (k:=3) (db:=ZdU) E.aQ Zhq (Zhs E) Zhr rfl
theorem Zhd:FnScope nl15 ["row"] (defScope (top 16)):=fsM
theorem ZgX:Wv "many_in" (top 16) ["row"]:=bnq1
theorem Zhc (E:Env S):DSs (S.at nl15 (defScope (top 16)) 1) (defBody (top 16)) ZcK:=by
 have Vj:=Vj E
 exact (Zg (ds_unpT (dg_tup (VQ (Wy (i:=1) rfl (.inl (by kernel_rfl)) (.inl rfl)) (VQ (Wy (i:=2) rfl (.inl (by kernel_rfl)) (.inl rfl)) (VQ (Wy (i:=3) rfl (.inl (by kernel_rfl)) (.inl rfl)) dgs_nil nofun) nofun) nofun) rfl rfl) (de_part (deV 0) Zk rfl (λ_=>rfl) rfl) rfl)
  (Zg (Zw (i:=4) rfl (.inl (by kernel_rfl)) (.inl rfl) (Zs Vj.at lez (by kernel_rfl) (by kernel_rfl) (Zh (deV 3) nofun) rfl rfl Zl) rfl)
  (Zm (Zr (Vt (dt_w (VG (dt_c ci_ne (deV 1) Zk rfl) (VG (dt_c Ud (deV 4) ZI rfl) (Vs (dt_c ci_lt (deV 4) Zf rfl))))) ZI (deV 4))))))
theorem ZcM (E:Env S):Good S "many_in" 1 Wx [] 2:=We (N:=nl15) (ps:=["row"]) (k:=1) (db:=ZcK) E.aI Zhd (Zhc E) ZgX rfl
theorem ZgW:FnScope nl17 ["rows","at"] (defScope (top 17)):=fsM
theorem Zhb:Wv "deed_in" (top 17) ["rows","at"]:=bnq2
theorem Zhn (E:Env S):DSs (S.at nl17 (defScope (top 17)) 4) (defBody (top 17)) ZcE:=by
 have ZcM:=ZcM E
 have ZbW:=ZbW E
 exact (Zg (Zw (i:=2) rfl (.inl (by kernel_rfl)) (.inl rfl) (Zs ZcM.at lez (by kernel_rfl) (by kernel_rfl) (Zh (ZA (deV 0) (deV 1) rfl) nofun) rfl rfl Zl) rfl)
  (Zg (Wi (dt_c Ud (deV 2) ZI rfl) (Zg (Zw (i:=3) rfl (.inl (by kernel_rfl)) (.inl rfl) (Zs ZbW.at lez (by kernel_rfl) (by kernel_rfl) (Zh (ZA (deV 0) (deV 1) rfl) nofun) rfl rfl Zl) rfl)
  (Zg (Wi (dt_c Ud (deV 3) ZI rfl) (Zm (Zcc E.ao.at lez (by kernel_rfl) (by kernel_rfl) (Zh (deV 1) nofun) rfl Zl)) ZH)
  (Zm (Zr (Wa (Zj (deV 3) (Zh (Zx (deV 1) Zf) nofun) nofun)))))) ZH)
  (Zg (ds_set (i:=4) rfl (.inl (by kernel_rfl)) (.inl rfl) (VF da_nil) rfl)
  (Zg (ds_for (di_rng2 (Zj (Zx (deV 1) Zf) (Zh (bi_min2 (by kernel_rfl) E.a7 (Zx (Zx (deV 1) Zf) (deV 2)) (bi_len (by kernel_rfl) E.ae (deV 0) rfl) rfl) nofun) nofun) nofun nofun (by kernel_rfl) E.aj) (Wy (i:=5) rfl (.inl (by kernel_rfl)) (.inl rfl)) (Zg (ds_app (i:=4) rfl (.inl (by kernel_rfl)) (by kernel_rfl) (by kernel_rfl) (by kernel_rfl) (Zs ZbW.at lez (by kernel_rfl) (by kernel_rfl) (Zh (ZA (deV 0) (deV 5) rfl) nofun) rfl rfl Zl) rfl)
  (Zm (Wi (dt_c Ud (de_ix1L (i:=4) rfl (.inl (by kernel_rfl)) (by kernel_rfl) (by kernel_rfl) dpz_neg rfl) ZI rfl) (Zm (Zcc E.ao.at lez (by kernel_rfl) (by kernel_rfl) (Zh (deV 5) nofun) rfl Zl)) ZH))) rfl)
  (dss_frz (i:=4) (Zg (Wi (dt_c ci_lt (bi_len (by kernel_rfl) E.ae (deV 4) rfl) (deV 2) rfl) (Zm (Zcc E.ao.at lez (by kernel_rfl) (by kernel_rfl) (Zh (bi_len (by kernel_rfl) E.ae (deV 0) rfl) nofun) rfl Zl)) ZH)
  (Zm (Zr (Wa (Zj (Wa (Zj Zk (Zh (WG (by kernel_rfl) E.af (deV 4) rfl) nofun) nofun)) (Zh (Zx (Zx (deV 1) Zf) (deV 2)) nofun) nofun))))))))))
theorem ZcA (E:Env S):Good S "deed_in" 2 WL [] 5:=We (N:=nl17) (ps:=["rows","at"]) (k:=4) (db:=ZcE) E.aJ ZgW (Zhn E) Zhb rfl
theorem Zgp:FnScope nl18 ["text"] (defScope (top 18)):=fsM
theorem ZfZ:Wv "read_deed" (top 18) ["text"]:=bnq1
theorem ZfT (E:Env S):DSs (S.at nl18 (defScope (top 18)) 5) (defBody (top 18)) ZaP:=by
 have ZcA:=ZcA E
 exact (Zg (Zw (i:=1) rfl (.inl (by kernel_rfl)) (.inl rfl) (WS (deV 0) Zk rfl (λ_=>rfl) rfl) rfl)
  (Zg (ds_unpT (dg_tup (VQ (Wy (i:=2) rfl (.inl (by kernel_rfl)) (.inl rfl)) (VQ (Wy (i:=3) rfl (.inl (by kernel_rfl)) (.inl rfl)) dgs_nil nofun) nofun) rfl rfl) (Zs ZcA.at lez (by kernel_rfl) (by kernel_rfl) (Zj (deV 1) (Zh Zf nofun) nofun) rfl rfl (ZP Zl)) rfl)
  (Zg (Wi (dt_c ci_lt (deV 3) (bi_len (by kernel_rfl) E.ae (deV 1) rfl) rfl) (Zm (Zcc E.ao.at lez (by kernel_rfl) (by kernel_rfl) (Zh (deV 3) nofun) rfl Zl)) ZH)
  (Zm (Zr (deV 2))))))
theorem ZgI (E:Env S):Good S "read_deed" 1 Wb [] 6:=We (N:=nl18) (ps:=["text"]) (k:=5) (db:=ZaP) E.aB Zgp (ZfT E) ZfZ rfl
theorem ZhC:FnScope nl10 ["_law_script"] (defScope (top 20)):=fsM
theorem ZhE:Wv "_law_bag" (top 20) ["_law_script"]:=bnq1
theorem ZhF (E:Env S):DSs (S.at nl10 (defScope (top 20)) 0) (defBody (top 20)) ZdH:=by
 exact (Zg (Zw (i:=1) rfl (.inl (by kernel_rfl)) (.inl rfl) (Zx Zf (bi_len (by kernel_rfl) E.ae (ZbB (deV 0) Zf) rfl)) rfl)
  (Zg (ds_for (WO (ZbB (deV 0) Zf)) (Wy (i:=2) rfl (.inl (by kernel_rfl)) (.inl rfl)) (Zm (Zw (i:=1) rfl (.inl (by kernel_rfl)) (.inl rfl) (Zam (Zx (Zx (Zab (deV 1) Zf) (Zam (deV 2) Zf)) Zf) Zf) rfl)) rfl)
  (Zm (ds_ret (VF (Zj (bi_list (by kernel_rfl) E.aW (ZbB (deV 0) Zf) rfl) (Zj Zf (Zj Zf (Zj (deV 1) (Zh Zf nofun) nofun) nofun) nofun) nofun))))))
theorem Zgj (E:Env S):Good S "_law_bag" 1 Zcb [] 1:=We (N:=nl10) (ps:=["_law_script"]) (k:=0) (db:=ZdH) E.aY ZhC (ZhF E) ZhE rfl
theorem Zhv:FnScope nl0 ["_law_bag_here","_law_many"] (defScope (top 21)):=fsM
theorem Zhu:Wv "_law_pull" (top 21) ["_law_bag_here","_law_many"]:=bnq2
theorem Zhz (E:Env S):DSs (S.at nl0 (defScope (top 21)) 0) (defBody (top 21)) ZaF:=by
 exact (Zg (Wi (dt_w (dw_and (dt_c Wu (ZA (deV 0) Zf rfl) Zf rfl) (ZbX (dt_c ci_lt (ZA (deV 0) Zf rfl) (bi_len (by kernel_rfl) E.ae (ZA (deV 0) Zf rfl) rfl) rfl)))) (Zg (Zw (i:=2) rfl (.inl (by kernel_rfl)) (.inl rfl) (ZA (ZA (deV 0) Zf rfl) (ZA (deV 0) Zf rfl) rfl) rfl)
  (Zg (Zao (deV 0) Zf (Zx (ZA (deV 0) Zf rfl) Zf) rfl rfl rfl)
  (Zm (Wi (dt_c ci_ge (deV 2) (de_pow Zf Zf) rfl) (Zm (Zao (deV 0) Zf (deV 2) rfl rfl rfl)) (Zm (Zao (deV 0) Zf (Zam (Zx (Zx (Zab (ZA (deV 0) Zf rfl) Zf) (Zam (deV 2) Zf)) Zf) Zf) rfl rfl rfl)))))) ZH)
  (Zg (Wi (dt_c ci_gt (ZA (deV 0) Zf rfl) Zf rfl) (Zg (Zw (i:=3) rfl (.inl (by kernel_rfl)) (.inl rfl) (Zam (ZA (deV 0) Zf rfl) (deV 1)) rfl)
  (Zg (Zao (deV 0) Zf (de_fdiv (ZA (deV 0) Zf rfl) (deV 1)) rfl rfl rfl)
  (Zm (Zr (deV 3))))) ZH)
  (Zg (Zao (deV 0) Zf (Zx (ZA (deV 0) Zf rfl) Zf) rfl rfl rfl)
  (Zg (Zw (i:=4) rfl (.inl (by kernel_rfl)) (.inl rfl) (Zx (Zab (ZA (deV 0) Zf rfl) (ZA (deV 0) Zf rfl)) (Zab (Zab Zf (ZA (deV 0) Zf rfl)) (Zx (Zam (ZA (deV 0) Zf rfl) Zf) Zf))) rfl)
  (Zg (Zao (deV 0) Zf (Zam (Zx (Zx (deV 4) (Zab (Zab (ZA (deV 0) Zf rfl) (ZA (deV 0) Zf rfl)) (ZA (deV 0) Zf rfl))) Zf) Zf) rfl rfl rfl)
  (Zm (Zr (Zam (Zx (de_fdiv (ZA (deV 0) Zf rfl) Zf) (Zab (Zam (ZA (deV 0) Zf rfl) Zf) Zf)) (deV 1)))))))))
theorem ZO (E:Env S):Good S "_law_pull" 2 ZV [] 1:=We (N:=nl0) (ps:=["_law_bag_here","_law_many"]) (k:=0) (db:=ZaF) E.aR Zhv (Zhz E) Zhu rfl
theorem ZhD:FnScope nl2 ["_law_bag_here","_law_some"] (defScope (top 22)):=fsM
theorem ZhG:Wv "_law_one" (top 22) ["_law_bag_here","_law_some"]:=bnq2
theorem ZhB (E:Env S):DSs (S.at nl2 (defScope (top 22)) 1) (defBody (top 22)) Zgi:=by
 have ZO:=ZO E
 exact (Zm (Zr (ZA (deV 1) (Zs ZO.at lez (by kernel_rfl) (by kernel_rfl) (Zj (deV 0) (Zh (bi_len (by kernel_rfl) E.ae (deV 1) rfl) nofun) nofun) rfl rfl (ZP Zl)) rfl)))
theorem VH (E:Env S):Good S "_law_one" 2 Uh [] 2:=We (N:=nl2) (ps:=["_law_bag_here","_law_some"]) (k:=1) (db:=Zgi) E.aZ ZhD (ZhB E) ZhG rfl
theorem ZfJ:FnScope nl6 ["_law_got","_law_due"] (defScope (top 23)):=fsM
theorem ZfK:Wv "_law_same" (top 23) ["_law_got","_law_due"]:=bnq2
theorem ZhA (E:Env S)(m:Nat)(g_rec:Good S "_law_same" 2 (WH m) [] (1+m)):DSs (S.at nl6 (defScope (top 23)) (1+m)) (defBody (top 23)) (VU (WH m)):=by
 exact (Zg (Wi (dt_w (VG (dt_c Ud (ZK (i:=1) rfl (.inr (.inl (by kernel_rfl))) (by kernel_rfl) (by kernel_rfl)) ZI rfl) (Vs (dt_c Ud (ZK (i:=0) rfl (.inr (.inl (by kernel_rfl))) (by kernel_rfl) (by kernel_rfl)) ZI rfl)))) (Zm (Zr (ZbI (de_c Ud (ZK (i:=1) rfl (.inr (.inl (by kernel_rfl))) (by kernel_rfl) (by kernel_rfl)) ZI rfl) (de_one (de_c Ud (ZK (i:=0) rfl (.inr (.inl (by kernel_rfl))) (by kernel_rfl) (by kernel_rfl)) ZI rfl))))) ZH)
  (Zg (Wi (dt_w (VG (ZaU (UA (by kernel_rfl) E.ac (ZK (i:=1) rfl (.inr (.inl (by kernel_rfl))) (by kernel_rfl) (by kernel_rfl)) rfl (by kernel_rfl) E.aP (by rfl) (by decide) (by kernel_rfl)) rfl) (Vs (ZaU (UA (by kernel_rfl) E.ac (ZK (i:=0) rfl (.inr (.inl (by kernel_rfl))) (by kernel_rfl) (by kernel_rfl)) rfl (by kernel_rfl) E.aP (by rfl) (by decide) (by kernel_rfl)) rfl)))) (Zm (Zr (ZbI (UA (by kernel_rfl) E.ac (ZK (i:=1) rfl (.inr (.inl (by kernel_rfl))) (by kernel_rfl) (by kernel_rfl)) rfl (by kernel_rfl) E.aP (by rfl) (by decide) (by kernel_rfl)) (ZbI (UA (by kernel_rfl) E.ac (ZK (i:=0) rfl (.inr (.inl (by kernel_rfl))) (by kernel_rfl) (by kernel_rfl)) rfl (by kernel_rfl) E.aP (by rfl) (by decide) (by kernel_rfl)) (de_one (de_c Wu (ZK (i:=0) rfl (.inr (.inl (by kernel_rfl))) (by kernel_rfl) (by kernel_rfl)) (ZK (i:=1) rfl (.inr (.inl (by kernel_rfl))) (by kernel_rfl) (by kernel_rfl)) rfl)))))) ZH)
  (Zg (Wi (ZaU (de_isiT (by kernel_rfl) E.ac (ZK (i:=1) rfl (.inr (.inl (by kernel_rfl))) (by kernel_rfl) (by kernel_rfl)) rfl rfl (ZcX (by kernel_rfl) E.aE (by rfl) (by decide) (by kernel_rfl) (ZcX (by kernel_rfl) E.aX (by rfl) (by decide) (by kernel_rfl) tyns_nil))) rfl) (Zm (Zr (ZbI (de_c Wu (UA (by kernel_rfl) E.ac (ZK (i:=0) rfl (.inr (.inl (by kernel_rfl))) (by kernel_rfl) (by kernel_rfl)) rfl (by kernel_rfl) E.aE (by rfl) (by decide) (by kernel_rfl)) (UA (by kernel_rfl) E.ac (ZK (i:=1) rfl (.inr (.inl (by kernel_rfl))) (by kernel_rfl) (by kernel_rfl)) rfl (by kernel_rfl) E.aE (by rfl) (by decide) (by kernel_rfl)) rfl) (de_one (de_c Wu (ZK (i:=0) rfl (.inr (.inl (by kernel_rfl))) (by kernel_rfl) (by kernel_rfl)) (ZK (i:=1) rfl (.inr (.inl (by kernel_rfl))) (by kernel_rfl) (by kernel_rfl)) rfl))))) ZH)
  (Zg (Wi (dt_w (VG (dt_c ci_ne (UA (by kernel_rfl) E.ac (ZK (i:=1) rfl (.inr (.inl (by kernel_rfl))) (by kernel_rfl) (by kernel_rfl)) rfl (by kernel_rfl) E.aW (by rfl) (by decide) (by kernel_rfl)) (UA (by kernel_rfl) E.ac (ZK (i:=0) rfl (.inr (.inl (by kernel_rfl))) (by kernel_rfl) (by kernel_rfl)) rfl (by kernel_rfl) E.aW (by rfl) (by decide) (by kernel_rfl)) rfl) (Vs (dt_c ci_ne (UA (by kernel_rfl) E.ac (ZK (i:=1) rfl (.inr (.inl (by kernel_rfl))) (by kernel_rfl) (by kernel_rfl)) rfl (by kernel_rfl) E.af (by rfl) (by decide) (by kernel_rfl)) (UA (by kernel_rfl) E.ac (ZK (i:=0) rfl (.inr (.inl (by kernel_rfl))) (by kernel_rfl) (by kernel_rfl)) rfl (by kernel_rfl) E.af (by rfl) (by decide) (by kernel_rfl)) rfl)))) (Zm (Zr de_bl)) ZH)
  (Zm (Zr (ZbI (de_c Wu (bi_len (by kernel_rfl) E.ae (ZK (i:=0) rfl (.inr (.inl (by kernel_rfl))) (by kernel_rfl) (by kernel_rfl)) rfl) (bi_len (by kernel_rfl) E.ae (ZK (i:=1) rfl (.inr (.inl (by kernel_rfl))) (by kernel_rfl) (by kernel_rfl)) rfl) rfl) (de_one (bi_all (by kernel_rfl) E.aV (Zbo (own:=[("_law_k",2)]) (Zal (Zh (bi_len (by kernel_rfl) E.ae (ZK (i:=1) rfl (.inr (.inl (by kernel_rfl))) (by kernel_rfl) (by kernel_rfl)) rfl) nofun) nofun (by kernel_rfl) E.aj) (Wy (i:=2) rfl (.inl (by kernel_rfl)) (.inr (by kernel_rfl))) Wt (Zs g_rec.at.blk (Nat.le_refl _) (by kernel_rfl) (by kernel_rfl) (Zj (ZA (ZK (i:=0) rfl (.inr (.inl (by kernel_rfl))) (by kernel_rfl) (by kernel_rfl)) (deV 2) rfl) (Zh (ZA (ZK (i:=1) rfl (.inr (.inl (by kernel_rfl))) (by kernel_rfl) (by kernel_rfl)) (deV 2) rfl) nofun) nofun) rfl rfl (ZP Zl)) (WM (by kernel_rfl)) (by decide +kernel) rfl) rfl)))))))))
theorem ZbP (E:Env S):∀ m,Good S "_law_same" 2 (WH m) [] (1+m)
 | 0=>good_stuck (N:=nl6) (ps:=["_law_got","_law_due"]) (k:=0) E.aG ZfJ ZfK rfl
 | m+1=>We (N:=nl6) (ps:=["_law_got","_law_due"]) (k:=1+m) (db:=VU (WH m)) E.aG ZfJ (ZhA E m (ZbP E m)) ZfK rfl
theorem Zhm:FnScope ["_law_act","e"] ["_law_act"] (defScope (top 24)):=fsM
theorem Zhf:Wv "_law_tried" (top 24) ["_law_act"]:=bnq1
theorem ds_l_tried (E:Env S):DSs (S.at ["_law_act","e"] (defScope (top 24)) 60) (defBody (top 24)) (ZcC S.G.lr):=by
 exact (Zm (ds_try (Zm (Zr (Wa (Zj Zk (Zh (de_clo0 (i:=0) rfl (.inl (by kernel_rfl)) lez) nofun) nofun)))) (.cons (cl:=[18]) (i:=1) (λX hX=>.one (Ue hX (by kernel_rfl) E.aO)) (mem_sub E.xs (by decide)) rfl (by kernel_rfl) (by decide) (by decide) (.cons (.cons (.cons .nil))) (λ_ _ _ _ _=>rfl) (.cons (cl:=[19,22]) (i:=1) (λX hX=>.two (Ue hX (by kernel_rfl) E.aT) (Ue hX (by kernel_rfl) E.aU)) (mem_sub E.xs (by decide)) rfl (by kernel_rfl) (by decide) (by decide) (.cons (.cons .nil)) (λ_ _ _ _ _=>rfl) (.cons (cl:=[15]) (i:=1) (λX hX=>.one (Ue hX (by kernel_rfl) E.aN)) (mem_sub E.xs (by decide)) rfl (by kernel_rfl) (by decide) (by decide) (.cons (.cons .nil)) (λ_ _ _ _ _=>rfl) (.cons (cl:=[0,1,2]) (i:=1) (λX hX=>.three (Ue hX (by kernel_rfl) E.az) (Ue hX (by kernel_rfl) E.aL) (Ue hX (by kernel_rfl) E.aM)) (mem_sub E.xs (by decide)) rfl (by kernel_rfl) (by decide) (by decide) (.cons .nil) (λ_ _ _ _ _=>rfl) .nil)))) E.xf rfl))
theorem Ua (E:Env S):VP S "_law_tried" 1 Vw 61:=goodL_fn (N:=["_law_act","e"]) (ps:=["_law_act"]) (k:=60) (db:=ZcC) E.aK Zhm (λl ok=>ds_l_tried (E.lamS l ok)) Zhf rfl
theorem Zgc:FnScope nl12 ["_law_word_here"] (defScope (top 25)):=fsM
theorem ZfY:Wv "_law_figures" (top 25) ["_law_word_here"]:=bnq1
theorem Zgd (E:Env S):DSs (S.at nl12 (defScope (top 25)) 0) (defBody (top 25)) ZaO:=by
 exact (Zg (Zw (i:=1) rfl (.inl (by kernel_rfl)) (.inl rfl) (Vt (dt_c Wu (ZaZ (deV 0) Zf) Zk rfl) (Zaa (deV 0) Zf) (deV 0)) rfl)
  (Zg (Wi (dt_w (VG (Zda (dt_chain ci_le ci_le Zf (bi_len (by kernel_rfl) E.ae (deV 1) rfl) Zf rfl rfl)) (Vs (Zda (ZaU (bi_all (by kernel_rfl) E.aV (Zbo (own:=[("_law_sign",2)]) (WO (deV 1)) (Wy (i:=2) rfl (.inl (by kernel_rfl)) (.inr (by kernel_rfl))) Wt (de_in (deV 2) Zk rfl) (WM (by kernel_rfl)) (by decide +kernel) rfl) rfl) rfl))))) (Zm (Zr ZI)) ZH)
  (Zm (Zr (Vt (dt_w (dw_and (dt_c Wu (ZA (deV 1) Zf rfl) Zk rfl) (ZbX (dt_c ci_ne (deV 0) Zk rfl)))) ZI (bi_intS (by kernel_rfl) E.aE (deV 0) rfl))))))
theorem Vk (E:Env S):Good S "_law_figures" 1 Wc [] 1:=We (N:=nl12) (ps:=["_law_word_here"]) (k:=0) (db:=ZaO) E.aC Zgc (Zgd E) ZfY rfl
theorem ZcS:FnScope nl13 ["_law_words"] (defScope (top 26)):=fsM
theorem ZcP:Wv "_law_figures_all" (top 26) ["_law_words"]:=bnq1
theorem ZcL (E:Env S):DSs (S.at nl13 (defScope (top 26)) 1) (defBody (top 26)) VE:=by
 have Vk:=Vk E
 exact (Zg (Vl (own:=[("_law_word_here",2)]) (WO (deV 0)) (Wy (i:=2) rfl (.inl (by kernel_rfl)) (.inr (by kernel_rfl))) Wt (Zs Vk.at.blk lez (by kernel_rfl) (by kernel_rfl) (Zh (deV 2) nofun) rfl rfl Zl) (WM (by kernel_rfl)) (by decide +kernel) rfl (i:=1) rfl (by kernel_rfl) (by kernel_rfl) (by kernel_rfl) (by kernel_rfl))
  (Zm (Zr (Vt (dt_in ZI (deV 1) rfl) ZI (WG (by kernel_rfl) E.af (deV 1) rfl)))))
theorem Vg (E:Env S):Good S "_law_figures_all" 1 Zz [] 2:=We (N:=nl13) (ps:=["_law_words"]) (k:=1) (db:=VE) E.ah ZcS (ZcL E) ZcP rfl
theorem ZeZ:FnScope nl7 ["_law_row"] (defScope (top 27)):=fsM
theorem Zft:Wv "_law_read_row" (top 27) ["_law_row"]:=bnq1
theorem ZeR (E:Env S):DSs (S.at nl7 (defScope (top 27)) 2) (defBody (top 27)) Zae:=by
 have Vg:=Vg E
 exact (Zg (Zw (i:=1) rfl (.inl (by kernel_rfl)) (.inl rfl) (WS (deV 0) Zk rfl (λ_=>rfl) rfl) rfl)
  (Zg (Zw (i:=2) rfl (.inl (by kernel_rfl)) (.inl rfl) (ZA (deV 1) Zf rfl) rfl)
  (Zg (Wi (dt_c Wu (deV 2) Zk rfl) (Zg (Vl (own:=[("_law_part",10)]) (WO (WS (Zaa (deV 0) Zf) Zk rfl (λ_=>rfl) rfl)) (Wy (i:=10) rfl (.inl (by kernel_rfl)) (.inr (by kernel_rfl))) Wt (Zs Vg.at.blk lez (by kernel_rfl) (by kernel_rfl) (Zh (WS (deV 10) Zk rfl (λ_=>rfl) rfl) nofun) rfl rfl Zl) (WM (by kernel_rfl)) (by decide +kernel) rfl (i:=3) rfl (by kernel_rfl) (by kernel_rfl) (by kernel_rfl) (by kernel_rfl))
  (Zg (Zw (i:=4) rfl (.inl (by kernel_rfl)) (.inl rfl) (ZbI (de_c Wu (ZaZ (deV 0) Zf) Zk rfl) (ZbI (de_nin ZI (deV 3) rfl) (de_one (bi_all (by kernel_rfl) E.aV (Zbo (own:=[("_law_one_here",11)]) (WO (deV 3)) (Wy (i:=11) rfl (.inl (by kernel_rfl)) (.inr (by kernel_rfl))) Wt (de_c Wu (bi_len (by kernel_rfl) E.ae (deV 11) rfl) Zf rfl) (WM (by kernel_rfl)) (by decide +kernel) rfl) rfl)))) rfl)
  (Zm (Zr (Vt (ZaU (deV 4) rfl) (Wa (Zj (deV 2) (Zh (WG (by kernel_rfl) E.af (deV 3) rfl) nofun) nofun)) ZI))))) ZH)
  (Zg (Zw (i:=5) rfl (.inl (by kernel_rfl)) (.inl rfl) (de_dct (λ_=>(VR Zf (VR Zf (VR Zf (VR Zf (VR Zf (VR Zf (VR Zf (VR Zf (VR Zf dpr_nil (λ_ _=>pe_str)) (λ_ _=>pe_str)) (λ_ _=>pe_str)) (λ_ _=>pe_str)) (λ_ _=>pe_str)) (λ_ _=>pe_str)) (λ_ _=>pe_str)) (λ_ _=>pe_str)) (λ_ _=>pe_str))) rfl rfl (by simp) (by decide) rfl (by decide +kernel)) rfl)
  (Zg (Wi (dt_w (VG (dt_nin (deV 2) (deV 5) rfl) (Vs (dt_c ci_ne (bi_len (by kernel_rfl) E.ae (deV 1) rfl) (Zx (ZA (deV 5) (deV 2) rfl) Zf) rfl)))) (Zm (Zr ZI)) ZH)
  (Zg (Zw (i:=6) rfl (.inl (by kernel_rfl)) (.inl rfl) (Vt (dt_in (deV 2) (Wa (Zj Zk (Zh Zk nofun) nofun)) rfl) Zf Zf) rfl)
  (Zg (Zw (i:=7) rfl (.inl (by kernel_rfl)) (.inl rfl) (Vt (dt_c Wu (deV 2) Zk rfl) Zf (bi_len (by kernel_rfl) E.ae (deV 1) rfl)) rfl)
  (Zg (Zw (i:=8) rfl (.inl (by kernel_rfl)) (.inl rfl) (Zs Vg.at lez (by kernel_rfl) (by kernel_rfl) (Zh (de_slB (deV 1) (deV 6) (deV 7)) nofun) rfl rfl Zl) rfl)
  (Zg (Wi (dt_w (VG (dt_c Ud (deV 8) ZI rfl) (Vs (dt_in Zk (deV 1) rfl)))) (Zm (Zr ZI)) ZH)
  (Zg (Zw (i:=9) rfl (.inl (by kernel_rfl)) (.inl rfl) (WG (by kernel_rfl) E.af (Zbo (own:=[("_law_one_here",11)]) (WO (Zaa (deV 1) (deV 7))) (Wy (i:=11) rfl (.inl (by kernel_rfl)) (.inr (by kernel_rfl))) Wt (Vt (dt_c Wu (deV 11) Zk rfl) Zk (deV 11)) (WM (by kernel_rfl)) (by decide +kernel) rfl) rfl) rfl)
  (Zm (Zr (Zx (Zx (Zx (Wa (Zh (deV 2) nofun)) (WG (by kernel_rfl) E.af (de_slB (deV 1) Zf (deV 6)) rfl)) (deV 8)) (deV 9))))))))))))))
theorem VJ (E:Env S):Good S "_law_read_row" 1 ZF [] 3:=We (N:=nl7) (ps:=["_law_row"]) (k:=2) (db:=Zae) E.ar ZeZ (ZeR E) Zft rfl
theorem Zgl:FnScope nl8 ["_law_rows","_law_at"] (defScope (top 28)):=fsM
theorem ZfW:Wv "_law_read_at" (top 28) ["_law_rows","_law_at"]:=bnq2
theorem Zge (E:Env S):DSs (S.at nl8 (defScope (top 28)) 3) (defBody (top 28)) Zaz:=by
 have Vk:=Vk E
 have VJ:=VJ E
 exact (Zg (Zw (i:=2) rfl (.inl (by kernel_rfl)) (.inl rfl) (WS (ZA (deV 0) (deV 1) rfl) Zk rfl (λ_=>rfl) rfl) rfl)
  (Zg (Zw (i:=3) rfl (.inl (by kernel_rfl)) (.inl rfl) (Vt (dt_w (dw_and (dt_c Wu (ZA (deV 2) Zf rfl) Zk rfl) (ZbX (dt_c Wu (bi_len (by kernel_rfl) E.ae (deV 2) rfl) Zf rfl)))) (Zs Vk.at lez (by kernel_rfl) (by kernel_rfl) (Zh (ZA (deV 2) Zf rfl) nofun) rfl rfl Zl) ZI) rfl)
  (Zg (Wi (dt_w (VG (dt_c Ud (deV 3) ZI rfl) (Vs (dt_c ci_lt (deV 3) Zf rfl)))) (Zg (Zw (i:=4) rfl (.inl (by kernel_rfl)) (.inl rfl) (Zs VJ.at lez (by kernel_rfl) (by kernel_rfl) (Zh (ZA (deV 0) (deV 1) rfl) nofun) rfl rfl Zl) rfl)
  (Zm (Zr (Vt (dt_c ci_isnot (deV 4) ZI rfl) (Wa (Zj (deV 4) (Zh (Zx (deV 1) Zf) nofun) nofun)) (Wa (Zj ZI (Zh (deV 1) nofun) nofun)))))) ZH)
  (Zg (Vl (S:=S.at nl8 (defScope (top 28)) 3) (own:=[("_law_row",6)]) (WO (de_slB (deV 0) (Zx (deV 1) Zf) (Zx (Zx (deV 1) Zf) (bi_min2 (by kernel_rfl) E.a7 (deV 3) (bi_len (by kernel_rfl) E.ae (deV 0) rfl) rfl)))) (Wy (i:=6) rfl (.inl (by kernel_rfl)) (.inr (by kernel_rfl))) Wt (Zs VJ.at.blk lez (by kernel_rfl) (by kernel_rfl) (Zh (deV 6) nofun) rfl rfl Zl) (WM (by kernel_rfl)) (by decide +kernel) rfl (i:=5) rfl (by kernel_rfl) (by kernel_rfl) (by kernel_rfl) (by kernel_rfl))
  (Zg (Wi (dt_in ZI (deV 5) rfl) (Zm (Zr (Wa (Zj ZI (Zh (Zx (Zx (deV 1) Zf) (de_indexN (deV 5) ZI rfl (λ_=>rfl) rfl)) nofun) nofun)))) ZH)
  (Zm (Zr (Vt (dt_c Wu (bi_len (by kernel_rfl) E.ae (deV 5) rfl) (deV 3) rfl) (Wa (Zj (Wa (Zj Zk (Zh (WG (by kernel_rfl) E.af (deV 5) rfl) nofun) nofun)) (Zh (Zx (Zx (deV 1) Zf) (deV 3)) nofun) nofun)) (Wa (Zj ZI (Zh (bi_len (by kernel_rfl) E.ae (deV 0) rfl) nofun) nofun))))))))))
theorem ZaG (E:Env S):Good S "_law_read_at" 2 ZY [] 4:=We (N:=nl8) (ps:=["_law_rows","_law_at"]) (k:=3) (db:=Zaz) E.aD Zgl (Zge E) ZfW rfl
theorem ZgE:FnScope nl3 ["_law_bag_here","_law_text"] (defScope (top 29)):=fsM
theorem ZgB:Wv "_law_spoilt" (top 29) ["_law_bag_here","_law_text"]:=bnq2
theorem ZgO (E:Env S):DSs (S.at nl3 (defScope (top 29)) 2) (defBody (top 29)) ZbC:=by
 have ZO:=ZO E
 have VH:=VH E
 exact (Zg (Zw (i:=2) rfl (.inl (by kernel_rfl)) (.inl rfl) (Zs ZO.at lez (by kernel_rfl) (by kernel_rfl) (Zj (deV 0) (Zh (Zx (bi_len (by kernel_rfl) E.ae (deV 1) rfl) Zf) nofun) nofun) rfl rfl (ZP Zl)) rfl)
  (Zg (Zw (i:=3) rfl (.inl (by kernel_rfl)) (.inl rfl) (ZA Zk (Zs ZO.at lez (by kernel_rfl) (by kernel_rfl) (Zj (deV 0) (Zh Zf nofun) nofun) rfl rfl (ZP Zl)) rfl) rfl)
  (Zg (Zw (i:=4) rfl (.inl (by kernel_rfl)) (.inl rfl) (Zs ZO.at lez (by kernel_rfl) (by kernel_rfl) (Zj (deV 0) (Zh Zf nofun) nofun) rfl rfl (ZP Zl)) rfl)
  (Zg (Wi (dt_c ci_lt (deV 4) Zf rfl) (Zm (Zr (Zx (Zx (ZaZ (deV 1) (deV 2)) (de_mul4 (deV 3) (bi_int (by kernel_rfl) E.aE (de_c ci_ne (deV 4) Zf rfl) rfl))) (Zaa (deV 1) (Zx (deV 2) (bi_int (by kernel_rfl) E.aE (de_c ci_gt (deV 4) Zf rfl) rfl)))))) ZH)
  (Zg (ds_set (i:=5) rfl (.inl (by kernel_rfl)) (.inl rfl) (WS (deV 1) Zk rfl (λ_=>rfl) rfl) rfl)
  (dss_pub (i:=5) (Zg (Zw (i:=6) rfl (.inl (by kernel_rfl)) (.inl rfl) (Zs ZO.at lez (by kernel_rfl) (by kernel_rfl) (Zj (deV 0) (Zh (bi_len (by kernel_rfl) E.ae (deV 5) rfl) nofun) nofun) rfl rfl (ZP Zl)) rfl)
  (Zg (Wi (dt_c Wu (deV 4) Zf rfl) (Zm (Zr (Ut Zk (Zx (ZaZ (deV 5) (deV 6)) (Zaa (deV 5) (Zx (deV 6) Zf))) rfl (λ_=>rfl) rfl))) ZH)
  (Zg (Wi (dt_c Wu (deV 4) Zf rfl) (Zm (Zr (Ut Zk (Zx (Zx (ZaZ (deV 5) (deV 6)) (VF (Zh (ZA (deV 5) (deV 6) rfl) nofun))) (Zaa (deV 5) (deV 6))) rfl (λ_=>rfl) rfl))) ZH)
  (Zg (Zw (i:=7) rfl (.inl (by kernel_rfl)) (.inl rfl) (WS (ZA (deV 5) (deV 6) rfl) Zk rfl (λ_=>rfl) rfl) rfl)
  (Zg (Zw (i:=8) rfl (.inl (by kernel_rfl)) (.inl rfl) (Zs ZO.at lez (by kernel_rfl) (by kernel_rfl) (Zj (deV 0) (Zh (bi_len (by kernel_rfl) E.ae (deV 7) rfl) nofun) nofun) rfl rfl (ZP Zl)) rfl)
  (Zg (Zw (i:=9) rfl (.inl (by kernel_rfl)) (.inl rfl) (VF (Zj Zk (Zj Zk (Zj Zk (Zj Zk (Zj Zk (Zj Zk (Zj Zk (Zj Zk (Zj Zk (Zj Zk (Zj Zk (Zj Zk (Zj Zk (Zh Zk nofun) nofun) nofun) nofun) nofun) nofun) nofun) nofun) nofun) nofun) nofun) nofun) nofun) nofun)) rfl)
  (Zg (Zao (deV 5) (deV 6) (Ut Zk (Zx (Zx (ZaZ (deV 7) (deV 8)) (VF (Zh (Zs VH.at lez (by kernel_rfl) (by kernel_rfl) (Zj (deV 0) (Zh (deV 9) nofun) nofun) rfl rfl (ZP Zl)) nofun))) (Zaa (deV 7) (Zx (deV 8) (bi_int (by kernel_rfl) E.aE (de_c ci_gt (deV 4) Zf rfl) rfl)))) rfl (λ_=>rfl) rfl) rfl rfl rfl)
  (Zm (Zr (Ut Zk (deV 5) rfl (λ_=>rfl) rfl))))))))))))))))
theorem Zbu (E:Env S):Good S "_law_spoilt" 2 VX [] 3:=We (N:=nl3) (ps:=["_law_bag_here","_law_text"]) (k:=2) (db:=ZbC) E.aF ZgE (ZgO E) ZgB rfl
theorem ZcG:FnScope nl1 ["_law_bag_here"] (defScope (top 30)):=fsM
theorem Zcz:Wv "_law_wide_number" (top 30) ["_law_bag_here"]:=bnq1
theorem Zcw (E:Env S):DSs (S.at nl1 (defScope (top 30)) 1) (defBody (top 30)) Vf:=by
 have ZO:=ZO E
 exact (Zg (Zw (i:=1) rfl (.inl (by kernel_rfl)) (.inl rfl) (ZA (VF (Zj (Zs ZO.at lez (by kernel_rfl) (by kernel_rfl) (Zj (deV 0) (Zh Zf nofun) nofun) rfl rfl (ZP Zl)) (Zj (Zs ZO.at lez (by kernel_rfl) (by kernel_rfl) (Zj (deV 0) (Zh (de_pow Zf Zf) nofun) nofun) rfl rfl (ZP Zl)) (Zj (de_sub (de_pow Zf Zf) Zf) (Zh Zf nofun) nofun) nofun) nofun)) (Zs ZO.at lez (by kernel_rfl) (by kernel_rfl) (Zj (deV 0) (Zh Zf nofun) nofun) rfl rfl (ZP Zl)) rfl) rfl)
  (Zm (Zr (ZA (VF (Zj (deV 1) (Zh (de_sub Zf (deV 1)) nofun) nofun)) (Zs ZO.at lez (by kernel_rfl) (by kernel_rfl) (Zj (deV 0) (Zh Zf nofun) nofun) rfl rfl (ZP Zl)) rfl))))
theorem Ve (E:Env S):Good S "_law_wide_number" 1 Zp [] 2:=We (N:=nl1) (ps:=["_law_bag_here"]) (k:=1) (db:=Vf) E.ai ZcG (Zcw E) Zcz rfl
theorem Zhw:FnScope ["_law_bag_here"] ["_law_bag_here"] (defScope (top 31)):=fsM
theorem Zht:Wv "_law_word" (top 31) ["_law_bag_here"]:=bnq1
theorem Zhx (E:Env S):DSs (S.at ["_law_bag_here"] (defScope (top 31)) 2) (defBody (top 31)) Zey:=by
 have VH:=VH E
 exact (Zm (Zr (Zs VH.at lez (by kernel_rfl) (by kernel_rfl) (Zj (deV 0) (Zh (VF (Zj Zk (Zj Zk (Zj Zk (Zj Zk (Zj Zk (Zj Zk (Zj Zk (Zj Zk (Zh Zk nofun) nofun) nofun) nofun) nofun) nofun) nofun) nofun) nofun)) nofun) nofun) rfl rfl (ZP Zl))))
theorem ZdW (E:Env S):Good S "_law_word" 1 Zct [] 3:=We (N:=["_law_bag_here"]) (ps:=["_law_bag_here"]) (k:=2) (db:=Zey) E.aS Zhw (Zhx E) Zht rfl
theorem ZdM:FnScope nl4 ["_law_bag_here"] (defScope (top 32)):=fsM
theorem ZeG:Wv "_law_wide_deed" (top 32) ["_law_bag_here"]:=bnq1
theorem Zep (E:Env S):DSs (S.at nl4 (defScope (top 32)) 3) (defBody (top 32)) Uz:=by
 have ZO:=ZO E
 have Ve:=Ve E
 have VH:=VH E
 have ZdW:=ZdW E
 exact (Zg (Zw (i:=1) rfl (.inl (by kernel_rfl)) (.inl rfl) (VF (Zj Zk (Zj Zk (Zj Zk (Zj Zk (Zj Zk (Zj Zk (Zj Zk (Zj Zk (Zj Zk (Zh Zk nofun) nofun) nofun) nofun) nofun) nofun) nofun) nofun) nofun) nofun)) rfl)
  (Zg (Zw (i:=1) rfl (.inl (by kernel_rfl)) (.inl rfl) (ZA (deV 1) (Zs ZO.at lez (by kernel_rfl) (by kernel_rfl) (Zj (ZK (i:=0) rfl (.inr (.inl (by kernel_rfl))) (by kernel_rfl) (by kernel_rfl)) (Zh Zf nofun) nofun) rfl rfl (ZP Zl)) rfl) rfl)
  (Zg (Vl (S:=S.at nl4 (defScope (top 32)) 3) (own:=[("_law_k",5)]) (Zal (Zh Zf nofun) nofun (by kernel_rfl) E.aj) (Wy (i:=5) rfl (.inl (by kernel_rfl)) (.inr (by kernel_rfl))) Wt (Zs Ve.at.blk lez (by kernel_rfl) (by kernel_rfl) (Zh (ZK (i:=0) rfl (.inr (.inl (by kernel_rfl))) (by kernel_rfl) (by kernel_rfl)) nofun) rfl rfl Zl) (WM (by kernel_rfl)) (by decide +kernel) rfl (i:=2) rfl (by kernel_rfl) (by kernel_rfl) (by kernel_rfl) (by kernel_rfl))
  (Zg (Wi (dt_c Wu (deV 1) Zk rfl) (Zg (Vl (S:=S.at nl4 (defScope (top 32)) 3) (own:=[("_law_k",5)]) (Zal (Zh (Zx Zf (Zs ZO.at lez (by kernel_rfl) (by kernel_rfl) (Zj (ZK (i:=0) rfl (.inr (.inl (by kernel_rfl))) (by kernel_rfl) (by kernel_rfl)) (Zh Zf nofun) nofun) rfl rfl (ZP Zl))) nofun) nofun (by kernel_rfl) E.aj) (Wy (i:=5) rfl (.inl (by kernel_rfl)) (.inr (by kernel_rfl))) Wt (WG (by kernel_rfl) E.af (Zbo (own:=[("_law_at",6)]) (Zal (Zh Zf nofun) nofun (by kernel_rfl) E.aj) (Wy (i:=6) rfl (.inl (by kernel_rfl)) (.inr (by kernel_rfl))) Wt (Zs Ve.at.blk.blk lez (by kernel_rfl) (by kernel_rfl) (Zh (ZK (i:=0) rfl (.inr (.inl (by kernel_rfl))) (by kernel_rfl) (by kernel_rfl)) nofun) rfl rfl Zl) (WM (by kernel_rfl)) (by decide +kernel) rfl) rfl) (WM (by kernel_rfl)) (by decide +kernel) rfl (i:=3) rfl (by kernel_rfl) (by kernel_rfl) (by kernel_rfl) (by kernel_rfl))
  (Zm (Zr (Wa (Zj (deV 1) (Zh (WG (by kernel_rfl) E.af (deV 3) rfl) nofun) nofun))))) ZH)
  (Zg (Wi (dt_c Wu (deV 1) Zk rfl) (Zm (Zr (Zx (Zx (Wa (Zh (deV 1) nofun)) (WG (by kernel_rfl) E.af (ZbB (deV 2) Zf) rfl)) (Wa (Zh (Zs VH.at lez (by kernel_rfl) (by kernel_rfl) (Zj (ZK (i:=0) rfl (.inr (.inl (by kernel_rfl))) (by kernel_rfl) (by kernel_rfl)) (Zh (VF (Zj Zk (Zj Zk (Zj Zk (Zj Zk (Zh Zk nofun) nofun) nofun) nofun) nofun)) nofun) nofun) rfl rfl (ZP Zl)) nofun))))) ZH)
  (Zg (Wi (dt_in (deV 1) (Wa (Zj Zk (Zh Zk nofun) nofun)) rfl) (Zm (Zr (Zx (Wa (Zj (deV 1) (Zh (Zs ZdW.at lez (by kernel_rfl) (by kernel_rfl) (Zh (ZK (i:=0) rfl (.inr (.inl (by kernel_rfl))) (by kernel_rfl) (by kernel_rfl)) nofun) rfl rfl Zl) nofun) nofun)) (WG (by kernel_rfl) E.af (ZbB (deV 2) (Vt (dt_c Wu (deV 1) Zk rfl) Zf Zf)) rfl)))) ZH)
  (Zg (Zw (i:=4) rfl (.inl (by kernel_rfl)) (.inl rfl) (de_dct (λ_=>(VR Zf (VR Zf (VR Zf (VR Zf (VR Zf (VR Zf dpr_nil (λ_ _=>pe_str)) (λ_ _=>pe_str)) (λ_ _=>pe_str)) (λ_ _=>pe_str)) (λ_ _=>pe_str)) (λ_ _=>pe_str))) rfl rfl (by simp) (by decide) rfl (by decide +kernel)) rfl)
  (Zm (Zr (Zx (Wa (Zh (deV 1) nofun)) (WG (by kernel_rfl) E.af (ZbB (deV 2) (ZA (deV 4) (deV 1) rfl)) rfl)))))))))))
theorem VA (E:Env S):Good S "_law_wide_deed" 1 Zo [] 4:=We (N:=nl4) (ps:=["_law_bag_here"]) (k:=3) (db:=Uz) E.al ZdM (Zep E) ZeG rfl
theorem Zfl:FnScope nl5 ["_law_deed"] (defScope (top 33)):=fsM
theorem ZeU:Wv "_law_row_text" (top 33) ["_law_deed"]:=bnq1
theorem ZeT (E:Env S):DSs (S.at nl5 (defScope (top 33)) 0) (defBody (top 33)) UY:=by
 exact (Zg (Wi (dt_c Wu (ZA (deV 0) Zf rfl) Zk rfl) (Zm (Zr (Zx Zk (Ut Zk (Zbo (own:=[("_law_one_here",1)]) (WO (ZA (deV 0) Zf rfl)) (Wy (i:=1) rfl (.inl (by kernel_rfl)) (.inr (by kernel_rfl))) Wt (Ut Zk (Zbo (own:=[("_law_part",2)]) (WO (deV 1)) (Wy (i:=2) rfl (.inl (by kernel_rfl)) (.inr (by kernel_rfl))) Wt (bi_str (by kernel_rfl) E.aX (deV 2) rfl) (WM (by kernel_rfl)) (by decide +kernel) rfl) rfl (λ_=>rfl) rfl) (WM (by kernel_rfl)) (by decide +kernel) rfl) rfl (λ_=>rfl) rfl)))) ZH)
  (Zm (Zr (Ut Zk (Zbo (own:=[("_law_part",2)]) (WO (deV 0)) (Wy (i:=2) rfl (.inl (by kernel_rfl)) (.inr (by kernel_rfl))) Wt (Vt (dt_c ci_ne (deV 2) Zk rfl) (bi_str (by kernel_rfl) E.aX (deV 2) rfl) Zk) (WM (by kernel_rfl)) (by decide +kernel) rfl) rfl (λ_=>rfl) rfl))))
theorem VL (E:Env S):Good S "_law_row_text" 1 Wg [] 1:=We (N:=nl5) (ps:=["_law_deed"]) (k:=0) (db:=UY) E.au Zfl (ZeT E) ZeU rfl
theorem Zfj:FnScope nl11 ["_law_text"] (defScope (top 34)):=fsM
theorem Zff:Wv "_law_text_due" (top 34) ["_law_text"]:=bnq1
theorem Zfk (E:Env S):DSs (S.at nl11 (defScope (top 34)) 4) (defBody (top 34)) Zaj:=by
 have ZaG:=ZaG E
 exact (Zg (Zw (i:=1) rfl (.inl (by kernel_rfl)) (.inl rfl) (WS (deV 0) Zk rfl (λ_=>rfl) rfl) rfl)
  (Zg (ds_unpT (dg_tup (VQ (Wy (i:=2) rfl (.inl (by kernel_rfl)) (.inl rfl)) (VQ (Wy (i:=3) rfl (.inl (by kernel_rfl)) (.inl rfl)) dgs_nil nofun) nofun) rfl rfl) (Zs ZaG.at lez (by kernel_rfl) (by kernel_rfl) (Zj (deV 1) (Zh Zf nofun) nofun) rfl rfl (ZP Zl)) rfl)
  (Zg (Wi (dt_w (VG (dt_c Ud (deV 2) ZI rfl) (Vs (dt_c ci_lt (deV 3) (bi_len (by kernel_rfl) E.ae (deV 1) rfl) rfl)))) (Zm (Zr (Wa (Zj Zk (Zh (deV 3) nofun) nofun)))) ZH)
  (Zm (Zr (Wa (Zj Zk (Zh (deV 2) nofun) nofun)))))))
theorem Zai (E:Env S):Good S "_law_text_due" 1 WJ [] 5:=We (N:=nl11) (ps:=["_law_text"]) (k:=4) (db:=Zaj) E.av Zfj (Zfk E) Zff rfl
theorem ZhK:FnScope nl9 ["_law_script"] (defScope (top 35)):=fsM
theorem ZhJ:Wv "law" (top 35) ["_law_script"]:=bnq1
theorem ds_law (E:Env S){c P:Addr}(M0:Mk0 S "law" c P):DSs (S.atL ["_law_script","_law_bag_here","_law_step","_law_rows","_law_some","_law_text","_law_bend","_law_k"] (defScope (top 35)) 61 c ("law" ++ ".<locals>.")) (defBody (top 35)) ZhI:=by
 have M:MkOk (S.atL ["_law_script","_law_bag_here","_law_step","_law_rows","_law_some","_law_text","_law_bend","_law_k"] (defScope (top 35)) 61 c ("law" ++ ".<locals>.")) c P ("law" ++ ".<locals>."):=mk_ok M0 (by decide +kernel)
 have E0:=E.c0
 have lg_read_deed:=ZgI E0
 have Zgj:=Zgj E
 have VA:=VA E
 have VL:=VL E
 have ZO:=ZO E
 have Zbu:=Zbu E
 have Ua:=Ua E
 have g_l_tried:=Ua.on
 have Zai:=Zai E
 have ZbP:=ZbP E 8
 exact (Zg (ds_set (i:=1) rfl (.inr (by kernel_rfl)) (.inl rfl) (Zs Zgj.atL lez (by kernel_rfl) (by kernel_rfl) (Zh (deV 0) nofun) rfl rfl Zl) rfl)
  (dss_pub (i:=1) (Zg (ds_for (Zal (Zh Zf nofun) nofun (by kernel_rfl) E.aj) (Wy (i:=2) rfl (.inl (by kernel_rfl)) (.inl rfl)) (Zg (Zw (i:=3) rfl (.inl (by kernel_rfl)) (.inl rfl) (VF (Zh (Zs VL.atL lez (by kernel_rfl) (by kernel_rfl) (Zh (Zs VA.atL lez (by kernel_rfl) (by kernel_rfl) (Zh (ZK (i:=1) rfl (.inr (.inl (by kernel_rfl))) (by kernel_rfl) (by kernel_rfl)) nofun) rfl rfl Zl) nofun) rfl rfl Zl) nofun)) rfl)
  (Zg (Wi (dt_c Wu (Zs ZO.atL lez (by kernel_rfl) (by kernel_rfl) (Zj (ZK (i:=1) rfl (.inr (.inl (by kernel_rfl))) (by kernel_rfl) (by kernel_rfl)) (Zh Zf nofun) nofun) rfl rfl (ZP Zl)) Zf rfl) (Zg (Vl (own:=[("_law_k",7)]) (Zal (Zh (Zs ZO.atL lez (by kernel_rfl) (by kernel_rfl) (Zj (ZK (i:=1) rfl (.inr (.inl (by kernel_rfl))) (by kernel_rfl) (by kernel_rfl)) (Zh Zf nofun) nofun) rfl rfl (ZP Zl)) nofun) nofun (by kernel_rfl) E.aj) (Wy (i:=7) rfl (.inl (by kernel_rfl)) (.inr (by kernel_rfl))) Wt (Zs VL.atL.blk lez (by kernel_rfl) (by kernel_rfl) (Zh (Zs VA.atL.blk lez (by kernel_rfl) (by kernel_rfl) (Zh (ZK (i:=1) rfl (.inr (.inl (by kernel_rfl))) (by kernel_rfl) (by kernel_rfl)) nofun) rfl rfl Zl) nofun) rfl rfl Zl) (WM (by kernel_rfl)) (by decide +kernel) rfl (i:=4) rfl (by kernel_rfl) (by kernel_rfl) (by kernel_rfl) (by kernel_rfl))
  (Zm (Zw (i:=3) rfl (.inl (by kernel_rfl)) (.inl rfl) (Zx (VF (Zh (Zx Zk (bi_str (by kernel_rfl) E.aX (bi_len (by kernel_rfl) E.ae (deV 4) rfl) rfl)) nofun)) (deV 4)) rfl))) ZH)
  (Zg (Zw (i:=5) rfl (.inr (by kernel_rfl)) (.inl rfl) (Ut Zk (deV 3) rfl (λ_=>rfl) rfl) rfl)
  (Zg (ds_for (Zal (Zh (Zs ZO.atL lez (by kernel_rfl) (by kernel_rfl) (Zj (ZK (i:=1) rfl (.inr (.inl (by kernel_rfl))) (by kernel_rfl) (by kernel_rfl)) (Zh Zf nofun) nofun) rfl rfl (ZP Zl)) nofun) nofun (by kernel_rfl) E.aj) (Wy (i:=6) rfl (.inl (by kernel_rfl)) (.inl rfl)) (Zm (Zw (i:=5) rfl (.inr (by kernel_rfl)) (.inl rfl) (Zs Zbu.atL lez (by kernel_rfl) (by kernel_rfl) (Zj (ZK (i:=1) rfl (.inr (.inl (by kernel_rfl))) (by kernel_rfl) (by kernel_rfl)) (Zh (ZK (i:=5) rfl (.inr (.inl (by kernel_rfl))) (by kernel_rfl) (by kernel_rfl)) nofun) nofun) rfl rfl (ZP Zl)) rfl)) rfl)
  (Zm (Wi (Zda (ZaU (Zs ZbP.atL lez (by kernel_rfl) (by kernel_rfl) (Zj (de_lam1 (lamT_of (ps:=[]) (cap:=["_law_text"]) (ci:=[5]) (by kernel_rfl) (λ_=>rfl) (λ_ _ _ _ _ us hl=>match us,hl with | [],_=>rfl)) (Zs lg_read_deed.cl lez (by kernel_rfl) (by kernel_rfl) (Zh (ZK (i:=0) rfl (.inr (.inr (by kernel_rfl))) (by kernel_rfl) (by kernel_rfl)) nofun) rfl rfl Zl) Ua.atL lez M rfl (by kernel_rfl) (by kernel_rfl)) (Zh (Zs Zai.atL lez (by kernel_rfl) (by kernel_rfl) (Zh (ZK (i:=5) rfl (.inr (.inl (by kernel_rfl))) (by kernel_rfl) (by kernel_rfl)) nofun) rfl rfl Zl) nofun) nofun) rfl rfl (ZP Zl)) rfl)) (Zm (Zr de_bl)) ZH)))))) rfl)
  (Zm (Zr (de_c Wu (de_lam1 (lamT_of (ps:=[]) (cap:=[]) (ci:=[]) (by kernel_rfl) (λ_=>rfl) (λ_ _ _ _ _ us hl=>match us,hl with | [],_=>rfl)) (Zs lg_read_deed.cl lez (by kernel_rfl) (by kernel_rfl) (Zh Zk nofun) rfl rfl Zl) Ua.atL lez M rfl (by kernel_rfl) (by kernel_rfl)) (Wa (Zj Zk (Zh Zf nofun) nofun)) rfl))))))
end
end
end L54
namespace Hx
open PySem PySem.W PySem.Calls HandSHeadRun
def segQ (st:SharedT->Thread->Option (SharedT × Thread))(n0:Nat)(ann:Option Value)(b:Nat):Nat->SharedT->Thread->Option (Flow × SharedT × Code × Pos)
 | 0,_,_=>none
 | m+1,s,t=>match endAt b t with
  | some f=>some (f,s,t.code,t.pos)
  | none=>match stepOk n0 ann t with
   | false=>none
   | true=>match st s t with
    | some (s',t')=>frS s' λs'=>segQ st n0 ann b m s' t'
    | none=>none
theorem segQ_ok {tb:String->Option Builtin}{p:Program}{w:World}{n0:Nat}{ann:Option Value}{b:Nat}{f:Flow}{c:Code}{q:Pos}:∀ {m:Nat} {s s':SharedT} {t:Thread},segQ (stepT (denote tb) p w) n0 ann b m s t=some (f,s',c,q) ->
  segRun tb p w n0 ann b m s.abs t=some (f,s'.abs,c,q)
 | 0,_,_,_,h=>by cases h
 | m+1,s,s',t,h=>by
  have h1:(match endAt b t with
   | some f=>some (f,s,t.code,t.pos)
   | none=>match stepOk n0 ann t with
    | false=>none
    | true=>match stepT (denote tb) p w s t with
     | some (s',t')=>frS s' λs'=>segQ (stepT (denote tb) p w) n0 ann b m s' t'
     | none=>none)=some (f,s',c,q):=h
  unfold segRun
  cases he:endAt b t with
  | some g=>
   rw[he] at h1
   cases h1
   rfl
  | none=>
   rw[he] at h1
   cases hk:stepOk n0 ann t with
   | false=>
    rw[hk] at h1
    cases h1
   | true=>
    rw[hk] at h1
    dsimp only at h1 ⊢
    cases hs:stepT (denote tb) p w s t with
    | none=>
     rw[hs] at h1
     cases h1
    | some r=>
     obtain⟨s2,t2⟩:=r
     rw[hs] at h1
     dsimp only at h1
     rw[frS_eq] at h1
     rw[stepT_spec hs]
     exact segQ_ok h1
section
variable {p:Program}{w:World}{n0:Nat}{ann:Option Value}{env:PySem.Env}{q:Pos}
theorem segQ_eq {b n:Nat}{s:SharedT}{t:Thread}:segQ (stepT (denote treeTable) p w) n0 ann b n s t=segQ (stepQ (denQ tabQ) p w) n0 ann b n s t:=by
 rw[stepQ_eq,denQ_eq,tabQ_eq]
theorem Zbc {n N:Nat}{s s':SharedT}{r:Shared}{l rest:List Stmt}{c:Code}{pos p':Pos}(h:segQ (stepQ (denQ tabQ) p w) n0 ann 1 n s (piecesOf l env c pos [topFrame q])=some (.next,s',c,p'))
  (k:topRun treeTable p w n0 ann N s'.abs (restOf rest env c p' [topFrame q])=some r):topRun treeTable p w n0 ann (n+N) s.abs (restOf (l++rest) env c pos [topFrame q])=some r:=
 piece_app (segQ_ok (segQ_eq.trans h)) k
theorem seg_block {n N:Nat}{s s':SharedT}{r:Shared}{b:List Stmt}{c:Code}{pos p':Pos}(h:segQ (stepQ (denQ tabQ) p w) n0 ann 1 n s (blockOf b env c pos [topFrame q])=some (.next,s',c,p'))
  (k:topRun treeTable p w n0 ann N s'.abs (restOf b env c p' [topFrame q])=some r):topRun treeTable p w n0 ann (n+N) s.abs ⟨denote treeTable (.body b env),c,pos,[topFrame q]⟩=some r:=
 piece_block (segQ_ok (segQ_eq.trans h)) k
end
noncomputable def cutT (n:Nat)(t:BT):BT:=BT.rec (motive:=λ_=>Nat->BT) (λ_=>.nil) (λv _ _ il ir n=>match n with
 | 0=>.nil
 | m+1=>.node v (il ((m+1) / 2)) (ir (m / 2))) t n
theorem left_seg {p q:Program}{loose:List Str}{Xt:Shared->Bool}{α:Type}{Yf:Shared->α}{Ya:World->α}{M:Nat}{T:Params->BT}{n:Nat}{life:Life}{d:Drawn}{k:Nat}{m0:Nat}{ann:Option Value}
  (e:opening p=plainProg p.main.scope.names) (f:∀ s,fenceModules? p s=some s)
  (size:∀ w:World,((boot_heap w.params).isNs mainGlobals&&(Array.mk []:Array GenState).size==0,(boot_heap w.params).objs.size,(boot_heap w.params).nsMap mainGlobals "__annotations__")=(true,m0,ann))
  (run:∀ (w:World) (os:OsState),topRun treeTable p w m0 ann M ⟨boot_heap w.params,Array.mk [],boot_drawn,boot_toks,os⟩ (topStub p)=some (SharedT.abs ⟨T w.params,n,life,Array.mk [],d,k,os⟩))
  (h1:∀ (w:World) (os:OsState),looksF p (boot_heap w.params) (SharedT.abs ⟨T w.params,n,life,Array.mk [],d,k,os⟩)=true)
  (h2:∀ (w:World) (os:OsState),seenQ q loose (importedModules p.main.body) Xt (SharedT.abs ⟨T w.params,n,life,Array.mk [],d,k,os⟩)=openGood q loose)
  (h3:∀ (w:World) (os:OsState),Yf (SharedT.abs ⟨T w.params,n,life,Array.mk [],d,k,os⟩)=Ya w):LeftO p q loose Xt Yf Ya (M+600) true:=
 LeftO.of_pieces (H₀:=boot_heap) (H₁:=λP=>absHeap (T P) n life) (gs₀:=Array.mk []) (gs₁:=Array.mk []) (d₀:=boot_drawn) (d₁:=d) (k₀:=boot_toks) (k₁:=k) (m₀:=m0) (ann:=ann) (M:=M)
  (boot_open e (Nat.ble_eq_true_of_le (by omega)) f) size run (Nat.ble_eq_true_of_le (by omega))
  λw=>funext λos=>Prod.ext (h1 w os) (Prod.ext ((seenQ_eq _ _ _ _ _).trans (h2 w os)) (h3 w os))
theorem head_seg {r:OpenRow}{q:Program}{H:Hook}{N:Nat}{loose:List PySem.Str}{d:DefRec}{kwd:List (PySem.Str × PySem.Expr)}(left:LeftO r.prog q loose (λs=>xlAt q [] s&&recOk r.toRowW.records s) H.obs H.val N true)
  (hdef:defOf q r.name=some (d,kwd)) (hp:r.prog.theDef r.name=some (d.params,d.body,d.scope)) (hk:kwWritten? d.params.kwonlyargs d.params.kw_defaults=some kwd)
  (hwr:(!r.writes||r.records.isEmpty)=true) (k1:r.wellSaid=true) (ok:(chainsOk q&&opensWell r.prog&&(frees r.toRowW&&r.within.isEmpty))=true) (hb:r.prog.bare) (hw:r.toRowW.promised)
  (call:WalkO q loose (XL q []) H.says r.toRowW d kwd λf vs=>PySem.call f vs):r.Holds:=
 holds_open left H.of H.keeps (λs z=>xl_of s (Bool.and_eq_true_iff.mp z).1) XL.keeps hdef hp hk (λs z=>recFacts_of (Bool.and_eq_true_iff.mp z).2) hwr k1 ok hb hw call
end Hx
namespace L54.Tp
open PySem PySem.W PySem.Calls PyProof.Rows L2 Hx
noncomputable section
def tp (i:Nat):Stmt:=PySem.Challenge.pw_hueshade_k54_texts_of_no_deed.main.body.getD i (.Pass ⟨0,0,0,0⟩)
def v3 (P:Params)(a0:Str)(a1:Nat)(a2:Nat):Obj:=⟨(.type "dict"),none,(.dict (Array.mk (List.take a2 [⟨(PyData.keyHash P "__name__"),(.str "__name__" 165),(.str a0 a1)⟩,⟨(PyData.keyHash P "__doc__"),(.str "__doc__" 166),.none⟩,⟨(PyData.keyHash P "__package__"),(.str "__package__" 167),.none⟩,⟨(PyData.keyHash P "__loader__"),(.str "__loader__" 168),(.builtin "__main__.__loader__#opaque")⟩,⟨(PyData.keyHash P "__spec__"),(.str "__spec__" 169),.none⟩,⟨(PyData.keyHash P "__annotations__"),(.str "__annotations__" 170),(.ref 6)⟩,⟨(PyData.keyHash P "__builtins__"),(.str "__builtins__" 171),(.ref 4)⟩,⟨(PyData.keyHash P "__file__"),(.str "__file__" 173),(.str "/claim/cut.py" 172)⟩,⟨(PyData.keyHash P "__cached__"),(.str "__cached__" 174),.none⟩,⟨(PyData.keyHash P "ShadeError"),(.str "ShadeError" 206),(.ref 24)⟩,⟨(PyData.keyHash P "Missing"),(.str "Missing" 224),(.ref 37)⟩,⟨(PyData.keyHash P "Crowded"),(.str "Crowded" 242),(.ref 50)⟩,⟨(PyData.keyHash P "BadText"),(.str "BadText" 269),(.ref 71)⟩,⟨(PyData.keyHash P "NoThing"),(.str "NoThing" 297),(.ref 90)⟩,⟨(PyData.keyHash P "NoLook"),(.str "NoLook" 323),(.ref 109)⟩,⟨(PyData.keyHash P "Looked"),(.str "Looked" 349),(.ref 128)⟩,⟨(PyData.keyHash P "LENGTHS"),(.str "LENGTHS" 383),(.ref 131)⟩,⟨(PyData.keyHash P "FIGURES"),(.str "FIGURES" 387),(.str "0123456789" 386)⟩,⟨(PyData.keyHash P "MOST_FIGURES"),(.str "MOST_FIGURES" 389),(.int 9 388)⟩,⟨(PyData.keyHash P "number_in"),(.str "number_in" 395),(.ref 136)⟩,⟨(PyData.keyHash P "numbers_in"),(.str "numbers_in" 401),(.ref 141)⟩,⟨(PyData.keyHash P "choices_in"),(.str "choices_in" 407),(.ref 146)⟩,⟨(PyData.keyHash P "row_in"),(.str "row_in" 419),(.ref 153)⟩,⟨(PyData.keyHash P "many_in"),(.str "many_in" 430),(.ref 160)⟩,⟨(PyData.keyHash P "deed_in"),(.str "deed_in" 442),(.ref 167)⟩,⟨(PyData.keyHash P "read_deed"),(.str "read_deed" 452),(.ref 174)⟩,⟨(PyData.keyHash P "_law_bag"),(.str "_law_bag" 463),(.ref 181)⟩,⟨(PyData.keyHash P "_law_pull"),(.str "_law_pull" 474),(.ref 188)⟩,⟨(PyData.keyHash P "_law_one"),(.str "_law_one" 482),(.ref 195)⟩,⟨(PyData.keyHash P "_law_same"),(.str "_law_same" 488),(.ref 200)⟩,⟨(PyData.keyHash P "_law_tried"),(.str "_law_tried" 496),(.ref 207)⟩,⟨(PyData.keyHash P "_law_figures"),(.str "_law_figures" 502),(.ref 212)⟩,⟨(PyData.keyHash P "_law_figures_all"),(.str "_law_figures_all" 508),(.ref 217)⟩,⟨(PyData.keyHash P "_law_read_row"),(.str "_law_read_row" 514),(.ref 222)⟩,⟨(PyData.keyHash P "_law_read_at"),(.str "_law_read_at" 520),(.ref 227)⟩,⟨(PyData.keyHash P "_law_spoilt"),(.str "_law_spoilt" 536),(.ref 234)⟩,⟨(PyData.keyHash P "_law_wide_number"),(.str "_law_wide_number" 544),(.ref 241)⟩,⟨(PyData.keyHash P "_law_word"),(.str "_law_word" 551),(.ref 248)⟩,⟨(PyData.keyHash P "_law_wide_deed"),(.str "_law_wide_deed" 557),(.ref 253)⟩,⟨(PyData.keyHash P "_law_row_text"),(.str "_law_row_text" 563),(.ref 258)⟩,⟨(PyData.keyHash P "_law_text_due"),(.str "_law_text_due" 573),(.ref 265)⟩,⟨(PyData.keyHash P "law"),(.str "law" 579),(.ref 270)⟩])) a2),Array.mk []⟩
def v12 (P:Params)(a0:Nat):Obj:=⟨.none,none,(.fields (Array.mk (List.take a0 [(.int 2 0),(.int 0 0),(.ref 20),(.int 4 0),(.int 0 0),(.ref 33),(.int 6 0),(.int 0 0),(.ref 46),(.int 8 0),(.int 0 0),(.ref 59),(.int 13 0),(.int 0 0),(.ref 79),(.int 19 0),(.int 0 0),(.ref 98),(.int 24 0),(.int 0 0),(.ref 117),(.int 33 0),(.int 0 0),(.ref 135),(.int 40 0),(.int 0 0),(.ref 140),(.int 43 0),(.int 0 0),(.ref 145),(.int 49 0),(.int 0 0),(.ref 152),(.int 66 0),(.int 0 0),(.ref 159),(.int 70 0),(.int 0 0),(.ref 166),(.int 85 0),(.int 0 0),(.ref 173),(.int 92 0),(.int 0 0),(.ref 180),(.int 97 0),(.int 0 0),(.ref 187),(.int 113 0),(.int 0 0),(.ref 194),(.int 115 0),(.int 0 0),(.ref 199),(.int 125 0),(.int 0 0),(.ref 206),(.int 136 0),(.int 0 0),(.ref 211),(.int 141 0),(.int 0 0),(.ref 216),(.int 144 0),(.int 0 0),(.ref 221),(.int 161 0),(.int 0 0),(.ref 226),(.int 171 0),(.int 0 0),(.ref 233),(.int 188 0),(.int 0 0),(.ref 240),(.int 191 0),(.int 0 0),(.ref 247),(.int 193 0),(.int 0 0),(.ref 252),(.int 206 0),(.int 0 0),(.ref 257),(.int 210 0),(.int 0 0),(.ref 264),(.int 216 0),(.int 0 0),(.ref 269)]))),Array.mk []⟩
def v24 (P:Params)(a0:Nat):Obj:=⟨(.type "type"),none,(.cls ⟨"ShadeError",[(.type "ValueError")],[(.ref 24),(.type "ValueError"),(.type "Exception"),(.type "BaseException"),(.type "object")],23,"ShadeError",true,[],(List.take a0 [(.ref 71)]),false,none,false⟩),Array.mk [(some (.ref 15)),none,(some (.str "ShadeError" 189)),(some (.str "ShadeError" 197)),(some (.builtin "ValueError.__new__")),(some (.bool true))]⟩
def v37 (P:Params)(a0:Nat):Obj:=⟨(.type "type"),none,(.cls ⟨"Missing",[(.type "LookupError")],[(.ref 37),(.type "LookupError"),(.type "Exception"),(.type "BaseException"),(.type "object")],36,"Missing",true,[],(List.take a0 [(.ref 90),(.ref 109)]),false,none,false⟩),Array.mk [(some (.ref 28)),none,(some (.str "Missing" 207)),(some (.str "Missing" 215)),(some (.builtin "LookupError.__new__")),(some (.bool true))]⟩
def v50 (P:Params)(a0:Nat):Obj:=⟨(.type "type"),none,(.cls ⟨"Crowded",[(.type "RuntimeError")],[(.ref 50),(.type "RuntimeError"),(.type "Exception"),(.type "BaseException"),(.type "object")],49,"Crowded",true,[],(List.take a0 [(.ref 128)]),false,none,false⟩),Array.mk [(some (.ref 41)),none,(some (.str "Crowded" 225)),(some (.str "Crowded" 233)),(some (.builtin "RuntimeError.__new__")),(some (.bool true))]⟩
def k0:Obj:=⟨(.type "tuple"),none,(.seq (Array.mk []) 0),Array.mk []⟩
def k1 (x0:Str)(x1:Int)(x2:Int)(x3:Nat)(x4:Nat):Obj:=⟨(.type "code"),none,(.fields (Array.mk [(.str x0 x4),(.str x0 (Nat.add x4 1)),(.str "/claim/cut.py" (Nat.add x4 2)),(.int x1 0),(.int 0 0),(.int 0 0),(.int 0 0),(.int 0 0),(.ref x3),(.bool false),(.int 181 0),(.ref (Nat.add x3 1)),.none,.none,.none,.none,(.int x2 0),(.int x1 0),(.str "/claim/cut.py" (Nat.add x4 4))])),Array.mk []⟩
def k2 (x0:Str)(x1:Nat)(x2:Nat)(x3:Nat):Obj:=⟨(.type "frame"),none,.plain,Array.mk [(some (.ref x2)),(some (.ref 3)),(some (.ref x1)),none,(some (.str x0 x3)),none,(some (.ref 0))]⟩
def k3:Obj:=⟨(.type "builtin_function_or_method"),none,(.fields (Array.mk [(.builtin "type.__prepare__"),(.type "type")])),Array.mk []⟩
def k4 (P:Params)(x0:Str)(x1:Int)(x2:Nat)(x3:Nat):Obj:=⟨(.type "dict"),none,(.dict (Array.mk [⟨(PyData.keyHash P "__module__"),(.str "__module__" x3),(.str "hueshade.errors" 187)⟩,⟨(PyData.keyHash P "__qualname__"),(.str "__qualname__" (Nat.add x3 2)),(.str x0 (Nat.add x3 1))⟩,⟨(PyData.keyHash P "__firstlineno__"),(.str "__firstlineno__" (Nat.add x3 4)),(.int x1 (Nat.add x3 3))⟩,⟨(PyData.keyHash P "__static_attributes__"),(.str "__static_attributes__" (Nat.add x3 5)),(.ref x2)⟩]) 4),Array.mk []⟩
def k5:Obj:=⟨.none,none,(.fields (Array.mk [])),Array.mk []⟩
def k6 (P:Params)(x0:Int)(x1:Str)(x2:Str)(x3:Nat)(x4:Nat)(x5:Nat)(x6:Nat)(x7:Nat)(x8:Nat):Obj:=⟨(.type "dict"),none,(.dict (Array.mk [⟨(PyData.keyHash P "__module__"),(.str "__module__" x6),(.str "hueshade.errors" 187)⟩,⟨(PyData.keyHash P "__firstlineno__"),(.str "__firstlineno__" (Nat.add x6 4)),(.int x0 (Nat.add x6 3))⟩,⟨(PyData.keyHash P x1),(.str x1 x7),(.ref x4)⟩,⟨(PyData.keyHash P x2),(.str x2 x8),(.ref x5)⟩,⟨(PyData.keyHash P "__doc__"),(.str "__doc__" (Nat.add x8 1)),.none⟩]) x3),Array.mk []⟩
def k7 (x0:Nat)(x1:Nat):Obj:=⟨(.type "getset_descriptor"),none,(.fields (Array.mk [(.str "__weakref__" x1),(.ref x0),(.builtin "ExceptionGroup.__weakref__"),.none])),Array.mk []⟩
def k8 (x0:Nat):Obj:=⟨(.type "super"),none,(.fields (Array.mk [(.ref x0),(.ref x0),(.ref x0)])),Array.mk []⟩
def k9 (x0:Nat):Obj:=⟨(.type "builtin_function_or_method"),none,(.fields (Array.mk [(.builtin "object.__init_subclass__"),(.ref x0)])),Array.mk []⟩
def k10 (x0:Nat):Obj:=⟨(.type "tuple"),none,(.seq (Array.mk [(.ref x0)]) 0),Array.mk []⟩
def k11 (P:Params)(x0:Str)(x1:Int)(x2:Nat)(x3:Nat)(x4:Nat)(x5:Nat):Obj:=⟨(.type "dict"),none,(.dict (Array.mk [⟨(PyData.keyHash P "__module__"),(.str "__module__" x3),(.str "hueshade.errors" 187)⟩,⟨(PyData.keyHash P "__qualname__"),(.str "__qualname__" (Nat.add x3 2)),(.str x0 (Nat.add x3 1))⟩,⟨(PyData.keyHash P "__firstlineno__"),(.str "__firstlineno__" (Nat.add x3 4)),(.int x1 (Nat.add x3 3))⟩,⟨(PyData.keyHash P "__init__"),(.str "__init__" x4),(.ref x2)⟩,⟨(PyData.keyHash P "__static_attributes__"),(.str "__static_attributes__" x5),(.ref (Nat.add x2 1))⟩]) 5),Array.mk []⟩
def k12 (x0:Int)(x1:Nat):Obj:=⟨.none,none,(.fields (Array.mk [(.int x0 0),(.int 4 0),(.ref x1)])),Array.mk []⟩
def k13 (x0:Str)(x1:Str)(x2:Nat):Obj:=⟨(.type "tuple"),none,(.seq (Array.mk [(.str x0 x2),(.str x1 (Nat.add x2 1))]) 0),Array.mk []⟩
def k14 (x0:Str)(x1:Str)(x2:Stmt):Obj:=⟨.none,none,(.func ⟨x0,x1,defArgs x2,.stmts (defBody x2),defScope x2,0,[],.none,.none,.none,.none,none,.none,.none,0⟩),Array.mk []⟩
def k15 (x0:Str)(x1:Str)(x2:Int)(x3:Int)(x4:Int)(x5:Nat)(x6:Nat)(x7:Nat):Obj:=⟨(.type "code"),none,(.fields (Array.mk [(.str x0 x6),(.str x1 (Nat.add x6 1)),(.str "/claim/cut.py" (Nat.add x6 2)),(.int x2 0),(.int x3 0),(.int 0 0),(.int 0 0),(.int 3 0),(.ref x5),(.bool true),(.int 181 0),(.ref (Nat.add x5 1)),.none,(.ref (Nat.add x5 2)),(.ref (Nat.add x5 3)),(.ref (Nat.add x5 4)),(.int x4 0),(.int x2 0),(.str "/claim/cut.py" x7)])),Array.mk []⟩
def k16 (x0:Str)(x1:Str)(x2:Str)(x3:Nat):Obj:=⟨(.type "tuple"),none,(.seq (Array.mk [(.str x0 x3),(.str x1 (Nat.add x3 1)),(.str x2 (Nat.add x3 2))]) 0),Array.mk []⟩
def k17 (x0:Str)(x1:Str)(x2:Stmt)(x3:Str)(x4:Nat)(x5:Nat):Obj:=⟨(.type "function"),none,(.func ⟨x0,x1,defArgs x2,.stmts (defBody x2),defScope x2,3,[],.none,.none,.none,(.str x3 x5),none,(.ref x4),.none,0⟩),Array.mk []⟩
def k18 (x0:Str)(x1:Nat)(x2:Nat):Obj:=⟨(.type "type"),none,(.cls ⟨x0,[(.ref 37)],[(.ref (Nat.add x1 16)),(.ref 37),(.type "LookupError"),(.type "Exception"),(.type "BaseException"),(.type "object")],(Nat.add x1 15),x0,true,[],[],false,none,false⟩),Array.mk [(some (.ref x1)),none,(some (.str x0 x2)),(some (.str x0 (Nat.add x2 8))),(some (.builtin "LookupError.__new__")),(some (.bool true))]⟩
def k19 (x0:Str)(x1:Int)(x2:Int)(x3:Int)(x4:Nat)(x5:Nat):Obj:=⟨(.type "code"),none,(.fields (Array.mk [(.str x0 x5),(.str x0 (Nat.add x5 1)),(.str "/claim/cut.py" (Nat.add x5 2)),(.int x1 0),(.int x2 0),(.int 0 0),(.int 0 0),(.int 3 0),(.ref x4),(.bool true),(.int 181 0),(.ref (Nat.add x4 1)),.none,.none,.none,(.ref (Nat.add x4 2)),(.int x3 0),(.int x1 0),(.str "/claim/cut.py" (Nat.add x5 4))])),Array.mk []⟩
def k20 (x0:Str)(x1:Str)(x2:Str)(x3:Str)(x4:Str)(x5:Str)(x6:Nat):Obj:=⟨(.type "tuple"),none,(.seq (Array.mk [(.str x0 x6),(.str x1 (Nat.add x6 1)),(.str x2 (Nat.add x6 2)),(.str x3 (Nat.add x6 3)),(.str x4 (Nat.add x6 4)),(.str x5 (Nat.add x6 5))]) 0),Array.mk []⟩
def k21 (x0:Str)(x1:Str)(x2:Str)(x3:Str)(x4:Str)(x5:Nat):Obj:=⟨(.type "tuple"),none,(.seq (Array.mk [(.str x0 x5),(.str x1 (Nat.add x5 1)),(.str x2 (Nat.add x5 2)),(.str x3 (Nat.add x5 3)),(.str x4 (Nat.add x5 4))]) 0),Array.mk []⟩
def k22 (x0:Str)(x1:Str)(x2:Str)(x3:Str)(x4:Nat):Obj:=⟨(.type "tuple"),none,(.seq (Array.mk [(.str x0 x4),(.str x1 (Nat.add x4 1)),(.str x2 (Nat.add x4 2)),(.str x3 (Nat.add x4 3))]) 0),Array.mk []⟩
def t0 (P:Params):BT:=(.node (⟨(.type "tuple"),none,(.seq (Array.mk [(.type "ValueError")]) 0),Array.mk []⟩:Obj) (.node (k0) (.node (k5) (.node (k6 P 24 "__init__" "__static_attributes__" 2 125 126 331 343 346) (.node (k5) .nil .nil) .nil) (.node (k13 "_law_bag_here" "_law_some" 478) .nil .nil)) (.node (k11 P "NoLook" 19 106 305 317 320) (.node (k15 "many_in" "many_in" 66 1 428 154 420 429) .nil .nil) (.node (k0) .nil .nil))) (.node (k2 "hueshade.errors" 43 46 187) (.node (k1 "NoThing" 13 275 77 272) (.node (k5) .nil .nil) (.node (k17 "_law_tried" "_law_tried" (tp 24) "law_hueshade_k54_texts_of_no_deed" 206 453) .nil .nil)) (.node (k9 109) (.node (k0) .nil .nil) (.node (k14 "_law_wide_number" "_law_wide_number" (tp 30)) .nil .nil))))
def t1 (P:Params):BT:=(.node (k6 P 2 "__static_attributes__" "__weakref__" 3 22 25 196 201 203) (.node (k8 37) (.node (⟨(.type "type"),none,(.cls ⟨"BadText",[(.ref 24)],[(.ref 71),(.ref 24),(.type "ValueError"),(.type "Exception"),(.type "BaseException"),(.type "object")],70,"BadText",true,[],[],false,none,false⟩),Array.mk [(some (.ref 54)),none,(some (.str "BadText" 243)),(some (.str "BadText" 251)),(some (.builtin "ValueError.__new__")),(some (.bool true))]⟩:Obj) (.node (k19 "number_in" 33 1 393 132 390) (.node (k14 "_law_text_due" "_law_text_due" (tp 34)) .nil .nil) .nil) (.node (k19 "_law_same" 115 2 486 196 483) .nil .nil)) (.node (k0) (.node (k17 "deed_in" "deed_in" (tp 17) "hueshade.texts" 166 384) .nil .nil) (.node (k0) .nil .nil))) (.node (k3) (.node (k17 "__init__" "NoThing.__init__" (inClass (tp 5) 0) "hueshade.errors" 86 187) (.node (k14 "row_in" "row_in" (tp 15)) .nil .nil) (.node (k14 "_law_figures_all" "_law_figures_all" (tp 26)) .nil .nil)) (.node (k0) (.node (k5) .nil .nil) (.node (k15 "_law_word" "_law_word" 191 1 549 242 545 550) .nil .nil))))
def t2 (P:Params):BT:=(.node (boot_o_7 P) (t0 P) (t1 P))
def t3 (P:Params):BT:=(.node (k5) (.node (k0) (.node (k15 "__init__" "BadText.__init__" 10 2 261 62 256 262) (.node (⟨(.type "dict"),none,(.dict (Array.mk [⟨(PyData.keyHash P "lamp"),(.str "lamp" 350),(.int 6 351)⟩,⟨(PyData.keyHash P "unsure"),(.str "unsure" 352),(.int 2 353)⟩,⟨(PyData.keyHash P "post"),(.str "post" 354),(.int 5 355)⟩,⟨(PyData.keyHash P "pane"),(.str "pane" 356),(.int 6 357)⟩,⟨(PyData.keyHash P "move"),(.str "move" 358),(.int 5 359)⟩,⟨(PyData.keyHash P "switch"),(.str "switch" 360),(.int 2 361)⟩,⟨(PyData.keyHash P "drop"),(.str "drop" 362),(.int 3 363)⟩,⟨(PyData.keyHash P "look"),(.str "look" 364),(.int 6 365)⟩,⟨(PyData.keyHash P "strike"),(.str "strike" 366),(.int 2 367)⟩,⟨(PyData.keyHash P "settle"),(.str "settle" 368),(.int 3 369)⟩,⟨(PyData.keyHash P "many"),(.str "many" 370),(.int 2 371)⟩]) 11),Array.mk []⟩:Obj) (.node (k0) .nil .nil) .nil) (.node (k17 "_law_one" "_law_one" (tp 22) "law_hueshade_k54_texts_of_no_deed" 194 453) .nil .nil)) (.node (k2 "hueshade.errors" 95 98 187) (.node (k20 "rows" "at" "many" "deed" "found" "place" 434) .nil .nil) (.node (k17 "_law_read_at" "_law_read_at" (tp 28) "law_hueshade_k54_texts_of_no_deed" 226 453) .nil .nil))) (.node (k7 50 238) (.node (k16 "self" "kind" "number" 285) (.node (k0) .nil .nil) (.node (k19 "_law_figures" 136 1 500 208 497) .nil .nil)) (.node (k0) (.node (k14 "_law_bag" "_law_bag" (tp 20)) .nil .nil) (.node (k5) .nil .nil))))
def t4 (P:Params):BT:=(.node (k9 24) (.node (k4 P "Crowded" 6 48 232) (.node (k3) (.node (k14 "numbers_in" "numbers_in" (tp 13)) (.node (k5) .nil .nil) .nil) (.node (k13 "_law_act" "e" 492) .nil .nil)) (.node (k13 "number" "word" 318) (.node (k0) .nil .nil) (.node (k0) .nil .nil))) (.node (k1 "BadText" 8 248 57 245) (.node (k8 90) (.node (k5) .nil .nil) (.node (k5) .nil .nil)) (.node (k14 "__init__" "Looked.__init__" (inClass (tp 7) 0)) (.node (k15 "_law_pull" "_law_pull" 97 2 472 182 464 473) .nil .nil) (.node (k14 "_law_wide_deed" "_law_wide_deed" (tp 32)) .nil .nil))))
def t5 (P:Params):BT:=(.node (k0) (t3 P) (t4 P))
def t6 (P:Params)(b3:Obj):BT:=(.node b3 (t2 P) (t5 P))
def t7 (P:Params):BT:=(.node (k4 P "ShadeError" 2 22 196) (.node (k1 "Missing" 4 212 31 209) (.node (k0) (.node (k8 128) (.node (k19 "_law_row_text" 206 1 561 254 558) .nil .nil) .nil) (.node (k14 "_law_one" "_law_one" (tp 22)) .nil .nil)) (.node (k12 21 105) (.node (k0) .nil .nil) (.node (k14 "_law_read_at" "_law_read_at" (tp 28)) .nil .nil))) (.node (k6 P 6 "__static_attributes__" "__weakref__" 3 48 51 232 237 239) (.node (k0) (.node (k19 "choices_in" 43 1 405 142 402) .nil .nil) (.node (k5) .nil .nil)) (.node (k3) (.node (k16 "_law_script" "_law_salt" "_law_cell" 458) .nil .nil) (.node (k17 "_law_wide_number" "_law_wide_number" (tp 30) "law_hueshade_k54_texts_of_no_deed" 240 453) .nil .nil))))
def t8 (P:Params):BT:=(.node (k7 24 202) (.node (⟨(.type "tuple"),none,(.seq (Array.mk [(.type "RuntimeError")]) 0),Array.mk []⟩:Obj) (.node (k9 71) (.node (k0) (.node (k17 "_law_text_due" "_law_text_due" (tp 34) "law_hueshade_k54_texts_of_no_deed" 264 453) .nil .nil) .nil) (.node (k0) .nil .nil)) (.node (k15 "__init__" "NoLook.__init__" 21 2 315 100 310 316) (.node (k5) .nil .nil) (.node (k15 "_law_spoilt" "_law_spoilt" 171 2 534 228 521 535) .nil .nil))) (.node (k0) (.node (k6 P 13 "__init__" "__static_attributes__" 2 87 88 277 290 294) (.node (k17 "row_in" "row_in" (tp 15) "hueshade.texts" 152 384) .nil .nil) (.node (k17 "_law_figures_all" "_law_figures_all" (tp 26) "law_hueshade_k54_texts_of_no_deed" 216 453) .nil .nil)) (.node (k13 "self" "number" 339) (.node (k0) .nil .nil) (.node (k0) .nil .nil))))
def t9 (P:Params):BT:=(.node (boot_o_9 P) (t7 P) (t8 P))
def t10 (P:Params)(b37:Obj):BT:=(.node (k2 "hueshade.errors" 17 20 187) (.node b37 (.node (k13 "row" "word" 264) (.node (k5) (.node (k22 "_law_text" "_law_rows" "_law_deed" "_law_end" 567) .nil .nil) .nil) (.node (k5) .nil .nil)) (.node (k5) (.node (k14 "deed_in" "deed_in" (tp 17)) .nil .nil) (.node (k5) .nil .nil))) (.node (k9 50) (.node (k14 "__init__" "NoThing.__init__" (inClass (tp 5) 0)) (.node (k20 "row" "words" "word" "choices" "numbers" "sift" 411) .nil .nil) (.node (k0) .nil .nil)) (.node (k1 "Looked" 24 329 115 326) (.node (k17 "_law_bag" "_law_bag" (tp 20) "law_hueshade_k54_texts_of_no_deed" 180 453) .nil .nil) (.node (k0) .nil .nil))))
def t11 (P:Params):BT:=(.node (k3) (.node (k5) (.node (k0) (.node (k17 "numbers_in" "numbers_in" (tp 13) "hueshade.texts" 140 384) (.node (k19 "law" 216 1 577 266 574) .nil .nil) .nil) (.node (k14 "_law_tried" "_law_tried" (tp 24)) .nil .nil)) (.node (k18 "NoLook" 93 298) (.node (k15 "read_deed" "read_deed" 85 1 450 168 443 451) .nil .nil) (.node (k13 "_law_bag_here" "_law_number" 540) .nil .nil))) (.node (⟨(.type "tuple"),none,(.seq (Array.mk [(.int 0 255)]) 0),Array.mk []⟩:Obj) (.node (k10 37) (.node (k0) .nil .nil) (.node (k19 "_law_read_row" 144 1 512 218 509) .nil .nil)) (.node (k17 "__init__" "Looked.__init__" (inClass (tp 7) 0) "hueshade.errors" 124 187) (.node (k0) .nil .nil) (.node (k17 "_law_wide_deed" "_law_wide_deed" (tp 32) "law_hueshade_k54_texts_of_no_deed" 252 453) .nil .nil))))
def t12 (P:Params)(b37:Obj):BT:=(.node (k1 "<module>" 1 185 11 182) (t10 P b37) (t11 P))
def t13 (P:Params)(b37:Obj):BT:=(.node (boot_o_5 P) (t9 P) (t12 P b37))
def t14 (P:Params)(b3:Obj)(b37:Obj):BT:=(.node (boot_o_1 P) (t6 P b3) (t13 P b37))
def t15 (P:Params):BT:=(.node (k3) (.node (k5) (.node (k13 "self" "row" 259) (.node (⟨(.type "type"),none,(.cls ⟨"Looked",[(.ref 50)],[(.ref 128),(.ref 50),(.type "RuntimeError"),(.type "Exception"),(.type "BaseException"),(.type "object")],127,"Looked",true,[],[],false,none,false⟩),Array.mk [(some (.ref 112)),none,(some (.str "Looked" 324)),(some (.str "Looked" 332)),(some (.builtin "RuntimeError.__new__")),(some (.bool true))]⟩:Obj) (.node (k14 "_law_row_text" "_law_row_text" (tp 33)) .nil .nil) .nil) (.node (k0) .nil .nil)) (.node (k0) (.node (k17 "many_in" "many_in" (tp 16) "hueshade.texts" 159 384) .nil .nil) (.node (k5) .nil .nil))) (.node (k0) (.node (k2 "hueshade.errors" 76 79 187) (.node (k14 "choices_in" "choices_in" (tp 14)) .nil .nil) (.node (k0) .nil .nil)) (.node (k10 50) (.node (k5) .nil .nil) (.node (k15 "_law_wide_number" "_law_wide_number" 188 1 542 235 537 543) .nil .nil))))
def t16 (P:Params)(b24:Obj):BT:=(.node b24 (.node (k9 37) (.node (k8 71) (.node (k17 "number_in" "number_in" (tp 12) "hueshade.texts" 135 384) (.node (k15 "_law_text_due" "_law_text_due" 210 1 571 259 564 572) .nil .nil) .nil) (.node (k17 "_law_same" "_law_same" (tp 23) "law_hueshade_k54_texts_of_no_deed" 199 453) .nil .nil)) (.node (k14 "__init__" "NoLook.__init__" (inClass (tp 6) 0)) (.node (k0) .nil .nil) (.node (k14 "_law_spoilt" "_law_spoilt" (tp 29)) .nil .nil))) (.node (k11 P "BadText" 8 68 250 263 266) (.node (k16 "kind" "number" "word" 291) (.node (k15 "row_in" "row_in" 49 1 417 147 408 418) .nil .nil) (.node (k19 "_law_figures_all" 141 1 506 213 503) .nil .nil)) (.node (k5) (.node (k21 "_law_bag_here" "_law_many" "_law_cell" "_law_got" "_law_wider" 467) .nil .nil) (.node (k17 "_law_word" "_law_word" (tp 31) "law_hueshade_k54_texts_of_no_deed" 247 453) .nil .nil))))
def t17 (P:Params)(b24:Obj):BT:=(.node (boot_o_8 P) (t15 P) (t16 P b24))
def t18 (P:Params):BT:=(.node (k1 "ShadeError" 2 194 18 191) (.node (k6 P 4 "__static_attributes__" "__weakref__" 3 35 38 214 219 221) (.node (⟨(.type "function"),none,(.func ⟨"__init__","BadText.__init__",defArgs (inClass (tp 4) 0),.stmts (defBody (inClass (tp 4) 0)),defScope (inClass (tp 4) 0),3,[],(.ref 61),.none,.none,(.str "hueshade.errors" 187),none,(.ref 67),.none,0⟩),Array.mk []⟩:Obj) (.node (k0) (.node (k5) .nil .nil) .nil) (.node (k0) .nil .nil)) (.node (k0) (.node (k0) .nil .nil) (.node (k0) .nil .nil))) (.node (k8 50) (.node (k0) (.node (k5) .nil .nil) (.node (k17 "_law_figures" "_law_figures" (tp 25) "law_hueshade_k54_texts_of_no_deed" 211 453) .nil .nil)) (.node (k12 26 124) (.node (k15 "_law_bag" "_law_bag" 92 1 461 175 455 462) .nil .nil) (.node (⟨(.type "tuple"),none,(.seq (Array.mk [(.str "_law_bag_here" 548)]) 0),Array.mk []⟩:Obj) .nil .nil))))
def t19 (P:Params):BT:=(.node (⟨(.type "tuple"),none,(.seq (Array.mk [(.type "LookupError")]) 0),Array.mk []⟩:Obj) (.node (k0) (.node (k11 P "NoThing" 13 87 277 290 294) (.node (k19 "numbers_in" 40 1 399 137 396) (.node (k14 "law" "law" (tp 35)) .nil .nil) .nil) (.node (k0) .nil .nil)) (.node (k6 P 19 "__init__" "__static_attributes__" 2 106 107 305 317 320) (.node (k14 "read_deed" "read_deed" (tp 18)) .nil .nil) (.node (k5) .nil .nil))) (.node (k2 "hueshade.errors" 56 59 187) (.node (k9 90) (.node (k21 "row" "word" "mark" "rest" "many" 423) .nil .nil) (.node (k14 "_law_read_row" "_law_read_row" (tp 27)) .nil .nil)) (.node (k15 "__init__" "Looked.__init__" 26 2 341 119 336 342) (.node (k17 "_law_pull" "_law_pull" (tp 21) "law_hueshade_k54_texts_of_no_deed" 187 453) .nil .nil) (.node (k19 "_law_wide_deed" 193 1 555 249 552) .nil .nil))))
def t20 (P:Params)(b12:Obj):BT:=(.node b12 (t18 P) (t19 P))
def t21 (P:Params)(b12:Obj)(b24:Obj):BT:=(.node (boot_o_4 P) (t17 P b24) (t20 P b12))
def t22 (P:Params)(b50:Obj):BT:=(.node (k0) (.node (k2 "hueshade.errors" 30 33 187) (.node (k14 "__init__" "BadText.__init__" (inClass (tp 4) 0)) (.node (k9 128) (.node (k17 "_law_row_text" "_law_row_text" (tp 33) "law_hueshade_k54_texts_of_no_deed" 257 453) .nil .nil) .nil) (.node (k15 "_law_one" "_law_one" 113 2 480 189 475 481) .nil .nil)) (.node (k1 "NoLook" 19 303 96 300) (.node (k5) .nil .nil) (.node (k19 "_law_read_at" 161 2 518 223 515) .nil .nil))) (.node b50 (.node (k5) (.node (k17 "choices_in" "choices_in" (tp 14) "hueshade.texts" 145 384) .nil .nil) (.node (k14 "_law_figures" "_law_figures" (tp 25)) .nil .nil)) (.node (k11 P "Looked" 24 125 331 343 346) (.node (k0) .nil .nil) (.node (k0) .nil .nil))))
def t23 (P:Params):BT:=(.node (k8 24) (.node (k3) (.node (k10 37) (.node (k5) (.node (k0) .nil .nil) .nil) (.node (k5) .nil .nil)) (.node (k17 "__init__" "NoLook.__init__" (inClass (tp 6) 0) "hueshade.errors" 105 187) (.node (k22 "text" "rows" "deed" "end" 446) .nil .nil) (.node (k17 "_law_spoilt" "_law_spoilt" (tp 29) "law_hueshade_k54_texts_of_no_deed" 233 453) .nil .nil))) (.node (k12 10 67) (.node (k18 "NoThing" 74 270) (.node (k0) .nil .nil) (.node (k0) .nil .nil)) (.node (k0) (.node (k14 "_law_pull" "_law_pull" (tp 21)) .nil .nil) (.node (k5) .nil .nil))))
def t24 (P:Params)(b50:Obj):BT:=(.node (boot_o_10 P) (t22 P b50) (t23 P))
def t25 (P:Params):BT:=(.node (k0) (.node (k7 37 220) (.node (k6 P 8 "__init__" "__static_attributes__" 2 68 69 250 263 266) (.node (k14 "number_in" "number_in" (tp 12)) (.node (k0) .nil .nil) .nil) (.node (k14 "_law_same" "_law_same" (tp 23)) .nil .nil)) (.node (k13 "self" "number" 313) (.node (k15 "deed_in" "deed_in" 70 2 440 161 431 441) .nil .nil) (.node (⟨(.type "tuple"),none,(.seq (Array.mk [(.str "_law_bag_here" 524),(.str "_law_text" 525),(.str "_law_at" 526),(.str "_law_sign" 527),(.str "_law_way" 528),(.str "_law_rows" 529),(.str "_law_k" 530),(.str "_law_words" 531),(.str "_law_spot" 532),(.str "_law_odd" 533)]) 0),Array.mk []⟩:Obj) .nil .nil))) (.node (k10 24) (.node (k15 "__init__" "NoThing.__init__" 15 3 288 81 282 289) (.node (k0) .nil .nil) (.node (k5) .nil .nil)) (.node (k2 "hueshade.errors" 114 117 187) (.node (k0) .nil .nil) (.node (k14 "_law_word" "_law_word" (tp 31)) .nil .nil))))
def t26 (P:Params):BT:=(.node (k4 P "Missing" 4 35 214) (.node (k1 "Crowded" 6 230 44 227) (.node (k12 15 86) (.node (k0) (.node (k17 "law" "law" (tp 35) "law_hueshade_k54_texts_of_no_deed" 269 453) .nil .nil) .nil) (.node (k15 "_law_tried" "_law_tried" 125 1 494 201 489 495) .nil .nil)) (.node (k8 109) (.node (k17 "read_deed" "read_deed" (tp 18) "hueshade.texts" 173 384) .nil .nil) (.node (k0) .nil .nil))) (.node (k0) (.node (k3) (.node (k14 "many_in" "many_in" (tp 16)) .nil .nil) (.node (k17 "_law_read_row" "_law_read_row" (tp 27) "law_hueshade_k54_texts_of_no_deed" 221 453) .nil .nil)) (.node (k13 "number" "word" 344) (.node (k5) .nil .nil) (.node (k0) .nil .nil))))
def t27 (P:Params):BT:=(.node (k2 "__main__" 3 13 164) (t25 P) (t26 P))
def t28 (P:Params)(b50:Obj):BT:=(.node (boot_o_6 P) (t24 P b50) (t27 P))
def t29 (P:Params)(b12:Obj)(b24:Obj)(b50:Obj):BT:=(.node (boot_o_2 P) (t21 P b12 b24) (t28 P b50))
def t30 (P:Params)(b3:Obj)(b12:Obj)(b24:Obj)(b37:Obj)(b50:Obj):BT:=(.node (boot_o_0 P) (t14 P b3 b37) (t29 P b12 b24 b50))
def fin (P:Params):BT:=t30 P (v3 P "law_hueshade_k54_texts_of_no_deed" 453 42) (v12 P 90) (v24 P 1) (v37 P 2) (v50 P 1)
def env:PySem.Env:={ scope:=PySem.Challenge.pw_hueshade_k54_texts_of_no_deed.main.scope,locals:=mainNs,globals:=mainNs,cells:=[],code:=.ref 13,frame:=some 14 }
def bd:List Stmt:=behindTheImports PySem.Challenge.pw_hueshade_k54_texts_of_no_deed
def cc:Code:=.body bd env
def hq:Pos:=⟨0,0,0,0⟩
def an:Option Value:=some (.ref 6)
def s0 (P:Params)(os:OsState):SharedT:=⟨(cutT 15 (t30 P (v3 P "__main__" 164 9) (v12 P 0) default default default)),15,{},Array.mk [],{},187,os⟩
def s1 (P:Params)(os:OsState):SharedT:=⟨(cutT 54 (t30 P (v3 P "hueshade.errors" 187 12) (v12 P 9) (v24 P 0) (v37 P 0) (v50 P 0))),54,{},Array.mk [],{},243,os⟩
def s2 (P:Params)(os:OsState):SharedT:=⟨(cutT 112 (t30 P (v3 P "hueshade.errors" 187 15) (v12 P 18) (v24 P 1) (v37 P 2) (v50 P 0))),112,{},Array.mk [],{},324,os⟩
def s3 (P:Params)(os:OsState):SharedT:=⟨(cutT 201 (t30 P (v3 P "law_hueshade_k54_texts_of_no_deed" 453 30) (v12 P 54) (v24 P 1) (v37 P 2) (v50 P 1))),201,{},Array.mk [],{},489,os⟩
def s4 (P:Params)(os:OsState):SharedT:=⟨fin P,271,{},Array.mk [],{},580,os⟩
def g0:List Stmt:=(bd.drop 0).take 4
def g1:List Stmt:=(bd.drop 4).take 3
def g2:List Stmt:=(bd.drop 7).take 17
def g3:List Stmt:=(bd.drop 24).take 12
def p0:Pos:=⟨0,0,0,0⟩
def p1:Pos:=⟨6,0,7,8⟩
def p2:Pos:=⟨19,0,23,28⟩
def p3:Pos:=⟨115,0,124,133⟩
def p4:Pos:=⟨216,0,228,62⟩
theorem pre (w:World)(os:OsState):topGo treeTable PySem.Challenge.pw_hueshade_k54_texts_of_no_deed w 11 an 12 ⟨boot_heap w.params,Array.mk [],boot_drawn,boot_toks,os⟩ (topStub PySem.Challenge.pw_hueshade_k54_texts_of_no_deed)=some ((s0 w.params os).abs,⟨denote treeTable cc,cc,⟨0,0,0,0⟩,[topFrame hq]⟩):=by kernel_rfl
theorem blk (w:World)(os:OsState):segQ (HandSHeadRun.stepQ (HandSHeadRun.denQ HandSHeadRun.tabQ) PySem.Challenge.pw_hueshade_k54_texts_of_no_deed w) 11 an 1 1 (s0 w.params os) (blockOf bd env cc ⟨0,0,0,0⟩ [topFrame hq])=some (.next,s0 w.params os,cc,p0):=by kernel_rfl
theorem sg0 (w:World)(os:OsState):segQ (HandSHeadRun.stepQ (HandSHeadRun.denQ HandSHeadRun.tabQ) PySem.Challenge.pw_hueshade_k54_texts_of_no_deed w) 11 an 1 568 (s0 w.params os) (piecesOf g0 env cc p0 [topFrame hq])=some (.next,s1 w.params os,cc,p1):=by kernel_rfl
theorem sg1 (w:World)(os:OsState):segQ (HandSHeadRun.stepQ (HandSHeadRun.denQ HandSHeadRun.tabQ) PySem.Challenge.pw_hueshade_k54_texts_of_no_deed w) 11 an 1 743 (s1 w.params os) (piecesOf g1 env cc p1 [topFrame hq])=some (.next,s2 w.params os,cc,p2):=by kernel_rfl
theorem sg2F (w:World)(os:OsState):segQ (HandSHeadRun.stepQ (HandSHeadRun.denQ HandSHeadRun.tabQ) PySem.Challenge.pw_hueshade_k54_texts_of_no_deed (w.withFollow "special-get-raises" false)) 11 an 1 789 (s2 (w.withFollow "special-get-raises" false).params os) (piecesOf g2 env cc p2 [topFrame hq])=some (.next,s3 (w.withFollow "special-get-raises" false).params os,cc,p3):=by kernel_rfl
theorem sg2T (w:World)(os:OsState):segQ (HandSHeadRun.stepQ (HandSHeadRun.denQ HandSHeadRun.tabQ) PySem.Challenge.pw_hueshade_k54_texts_of_no_deed (w.withFollow "special-get-raises" true)) 11 an 1 789 (s2 (w.withFollow "special-get-raises" true).params os) (piecesOf g2 env cc p2 [topFrame hq])=some (.next,s3 (w.withFollow "special-get-raises" true).params os,cc,p3):=by kernel_rfl
theorem sg2 (w:World)(os:OsState):segQ (HandSHeadRun.stepQ (HandSHeadRun.denQ HandSHeadRun.tabQ) PySem.Challenge.pw_hueshade_k54_texts_of_no_deed w) 11 an 1 789 (s2 w.params os) (piecesOf g2 env cc p2 [topFrame hq])=some (.next,s3 w.params os,cc,p3):=PySem.W.byRow2 "special-get-raises" (P:=λw=>∀ os:OsState,segQ (HandSHeadRun.stepQ (HandSHeadRun.denQ HandSHeadRun.tabQ) PySem.Challenge.pw_hueshade_k54_texts_of_no_deed w) 11 an 1 789 (s2 w.params os) (piecesOf g2 env cc p2 [topFrame hq])=some (.next,s3 w.params os,cc,p3)) (λw os=>sg2F w os) (λw os=>sg2T w os) w os
theorem sg3 (w:World)(os:OsState):segQ (HandSHeadRun.stepQ (HandSHeadRun.denQ HandSHeadRun.tabQ) PySem.Challenge.pw_hueshade_k54_texts_of_no_deed w) 11 an 1 342 (s3 w.params os) (piecesOf g3 env cc p3 [topFrame hq])=some (.next,s4 w.params os,cc,p4):=by kernel_rfl
theorem fn (w:World)(os:OsState):topRun treeTable PySem.Challenge.pw_hueshade_k54_texts_of_no_deed w 11 an 3 (s4 w.params os).abs (restOf [] env cc p4 [topFrame hq])=some (s4 w.params os).abs:=by kernel_rfl
theorem bd_eq:bd=g0++(g1++(g2++(g3 ++ []))):=by kernel_rfl
theorem run (w:World)(os:OsState):topRun treeTable PySem.Challenge.pw_hueshade_k54_texts_of_no_deed w 11 an (12+(1+(568+(743+(789+(342+3)))))) ⟨boot_heap w.params,Array.mk [],boot_drawn,boot_toks,os⟩ (topStub PySem.Challenge.pw_hueshade_k54_texts_of_no_deed)=some (s4 w.params os).abs:=by
 refine go_top (pre w os) (seg_block (blk w os) ?_)
 have h:=(Zbc (sg0 w os) (Zbc (sg1 w os) (Zbc (sg2 w os) (Zbc (sg3 w os) (fn w os)))))
 rw[<- bd_eq] at h
 exact h
theorem size (w:World):((boot_heap w.params).isNs mainGlobals&&(Array.mk []:Array GenState).size==0,(boot_heap w.params).objs.size,(boot_heap w.params).nsMap mainGlobals "__annotations__")=(true,11,an):=by kernel_rfl
end
end L54.Tp
namespace Hx
open PySem PySem.Spec L2
open PyProof.Rows hiding St
def obsY1 (as:(Addr->Option Obj)->List Addr)(fa:List He.Fa)(fn:List He.DefD)(ts:List (Str × List Str))(ex:PySem.W.Frag->Bool)(g:Addr->Option Obj):He.AlD:=He.obsD fa fn (He.frG g (as g))
def obsY2 (as:(Addr->Option Obj)->List Addr)(fa:List He.Fa)(fn:List He.DefD)(ts:List (Str × List Str))(ex:PySem.W.Frag->Bool)(g:Addr->Option Obj):Bool × List (Option (List (Option (Str × Int)))):=
 (ex (He.frG g (as g)),ts.map λt=>He.dicW (He.frG g (as g)) (tblA (He.frG g (as g)) t.1))
theorem obs_two {as:(Addr->Option Obj)->List Addr}{fa:List He.Fa}{fn:List He.DefD}{ts:List (Str × List Str)}{ex:PySem.W.Frag->Bool}{w:World}{g:Addr->Option Obj}
  (h3:obsY1 as fa fn ts ex g=(true,(He.valD fn).2)) (h4:obsY2 as fa fn ts ex g=(true,ts.map λt=>some (He.keysIn w.params t.2))):obsY as fa fn ts ex g=(hookY as fa fn ts ex).val w:=
 Prod.ext (Prod.ext h3 (congrArg (λz=>z.1) h4)) (congrArg (λz=>z.2) h4)
end Hx
namespace Hx
open PySem PySem.TablesWhole
theorem ws_app {top:Scope}{cx:TablesWhole.Ctx}{sc:Scope}:∀ l m:List Stmt,wSs holds top cx sc (l++m)=(wSs holds top cx sc l&&wSs holds top cx sc m)
 | [],m=>rfl
 | s :: l,m=>by
  show (wS holds top cx sc s&&wSs holds top cx sc (l++m))=((wS holds top cx sc s&&wSs holds top cx sc l)&&wSs holds top cx sc m)
  rw[ws_app l m,Bool.and_assoc]
theorem ws_step {top:Scope}{cx:TablesWhole.Ctx}{sc:Scope}{l:List Stmt}{n:Nat}(h:wSs holds top cx sc (l.take n)=true)(r:wSs holds top cx sc (l.drop n)=true):wSs holds top cx sc l=true:=by
 rw[<- List.take_append_drop n l,ws_app,h,r];rfl
theorem ws_nil {top:Scope}{cx:TablesWhole.Ctx}{sc:Scope}{l:List Stmt}(h:l=[]):wSs holds top cx sc l=true:=by subst h;rfl
theorem bare_of {p:Program}{told:List Str}(h1:p.modules=[])(h2:p.parses=[])(h3:p.absent=[])(h4:p.harvested=[])(h5:p.given={ environ:=some PySem.Program.claimEnviron })
  (ht:wSs gather p.main.scope ⟨p.main.scope,[],[],[],none⟩ p.main.scope p.main.body=told) (hn:noTwice p.main.scope=true)
  (hw:wSs holds p.main.scope ⟨p.main.scope,[],told,[],none⟩ p.main.scope p.main.body=true):p.bare:=by
 refine⟨h1,h2,h3,h4,h5,?_⟩
 show (wModule holds p.main&&(Alg.all holds (p.modules.map λ(_,_,m)=>wModule holds m)&&(Alg.all holds (p.parses.map (wParse holds))&&(Alg.all holds (p.harvested.map (wParse holds))&&true))))=true
 rw[h1,h2,h4]
 show (wModule holds p.main&&(true&&(true&&(true&&true))))=true
 have:wModule holds p.main=true:=by
  show (true&&(noTwice p.main.scope&&(wSs holds p.main.scope ⟨p.main.scope,[],wSs gather p.main.scope ⟨p.main.scope,[],[],[],none⟩ p.main.scope p.main.body,[],none⟩ p.main.scope p.main.body&&true)))=true
  rw[ht,hn,hw];rfl
 rw[this];rfl
end Hx
namespace Hx
open PySem PySem.Spec L2
open PyProof.Rows hiding St
theorem init_okD {dvs:List V}{S:Sx}{qual:Str}{params:Arguments}{body:List Stmt}{sc:Scope}{f C:Addr}{fd:FuncData}{N ps fl:List Str}{w g:Str}(F:FunD S.G.K "__init__" qual params body sc dvs [] f fd)(Sc:FnScope N ps sc)(T:XCls S.G.K C)(hN:N=ps)(hps:ps.length=fl.length+1)
  (ht:∀ x∈g :: fl,PySem.W.takerIn S.G.K C x=some none) (hfl:fl.length<=800)
  (hr:∀ cdv A outer s H E,RowsX (cxOf (L2.CX S.P S.w) S.P S.w S.G.K S.mg S.base N qual sc f cdv A outer s H E) body ((g,tC (.str w)) :: Vh 1 fl)) :
  FnOk S.P S.w S.G.K S.mg S.base (L2.CX S.P S.w) 1 f fd ps (spX C fl.length (g :: fl) (λr=>.str w :: r)):=by
 refine F.ok (k:=0) Sc (λvs H Q E ⟨a,rest,e,hl,_⟩=>by rw[e,hps];simp[hl]) λcdv A outer s H vs Q E hroom h=>?_
 obtain⟨a,rest,e,hl,ha,hq⟩:=h
 subst e hN
 have st:L2.start N (V.ref a :: rest)=some (V.ref a) :: rest.map some:=by
  unfold L2.start
  have:N.length - (V.ref a :: rest).length=0:=by simp[hps,hl]
  rw[this];simp
 refine⟨tRows S.G.K ((g,tC (.str w)) :: Vh 1 fl),rows_pss (hr cdv A outer s H E),?_⟩
 rw[st]
 refine rows_first (C:=C) (a:=a) (v:=.str w) (vs:=rest) T rfl (by rw[ZaJ,hl]) (λi f' te v e1 e2 H Q q=>?_) (λx hx=>?_) ha (by rw[ZaJ];exact hfl) λdx n ne=>?_
 ·cases i with
  | zero=>cases e1;cases e2;exact q
  | succ i=>
   obtain⟨h1,h2⟩:=Zez (show (Vh 1 fl)[i]?=some (f',te) from by simpa using e1)
   rw[h1]
   refine⟨v,?_,q⟩
   have e2:rest[i]?=some v:=by simpa using e2
   show (some (V.ref a) :: rest.map some)[1+i]?=_
   rw[Nat.add_comm,List.getElem?_cons_succ,List.getElem?_map,e2];rfl
 ·refine ht x.1 ?_
  rcases List.mem_cons.mp hx with e | hx
  ·rw[e];exact List.mem_cons_self
  ·have:x.1∈(Vh 1 fl).map (·.1):=List.mem_map.mpr ⟨x,hx,rfl⟩
   rw[ZaR] at this
   exact List.mem_cons_of_mem _ this
 ·have e1:(((g,tC (.str w)) :: Vh 1 fl).map (·.1))=g :: fl:=by rw[List.map_cons,ZaR]
  rw[e1]
  exact hq dx n ne
section
variable {fa:List He.Fa}{fn:List He.DefD}{P:Program}{w:World}{K:PySem.W.Frag}{h:Heap}{mg:Str->Option Value}{base:Heap}{xs rs:List Nat}{own:List Str}
theorem xr_ofD (c:He.SaysD fa fn K)(X:K.In h)(Gn:h.Ns mainGlobals mg)(hx:xsB xs rs K=true){x qual wd g:Str}{k:Nat}{st:Stmt}{N ps fl:List Str}{dfl:List D}(hk:rs.contains k=true)(hxn:XNM k=x)(i j m:Nat)
  (hd:fn[i]?=some ⟨(x,some "__init__"),"__init__",qual,defArgs st,defBody st,defScope st,dfl.map dvOf,[]⟩) (hdn:dfl ≠ []) (hf:fa[j]?=some (.glo x)) (hm:fa[m]?=some (.meth x "__init__"))
  (hfl:XFL k=g :: fl) (nd:(XFL k).Nodup) (Sc:FnScope N ps (defScope st)) (hN:N=ps) (hps:ps.length=fl.length+1) (hl:fl.length<=800)
  (hb:∀ (T:Addr) (kV doc pm:Value) (an:Option Addr) (cdv ct:Value) (us its:List Value),us.length=ps.length->its.length=dfl.length ->
   ∃ k,bindArgs (PySem.W.fnOf "__init__" qual (defArgs st) (defBody st) (defScope st) (.ref T) kV doc pm an cdv ct) ⟨us,[]⟩=seqItems? (.ref T) >>= k∧k (some its.toArray)=pure (ps.zip (us++its.drop dfl.length)))
  (hr:∀ (f:Addr) cdv A outer s H E,RowsX (cxOf (L2.CX P w) P w K mg base N qual (defScope st) f cdv A outer s H E) (defBody st) ((g,tC (.str wd)) :: Vh 1 fl)):XR (S1 P w K mg base xs own) x k fl.length wd:=by
 subst hxn
 obtain⟨fd,F⟩:=c.def_ i hd
 have F':FunD K "__init__" qual (defArgs st) (defBody st) (defScope st) ((dfl.map dvOf).map (He.Dv.v K)) [] (He.ma K (He.ga K (XNM k)) "__init__") fd:=F
 rw[dv_v] at F'
 unfold xsB at hx
 rw[Bool.and_eq_true] at hx
 have z:=List.all_eq_true.mp hx.2 k (by simpa using hk)
 simp only[Bool.and_eq_true,List.all_eq_true,decide_eq_true_eq] at z
 have M:=He.meth_ok (c.fact m hm)
 have T:XCls K (He.ga K (XNM k)):=xcls_of z.2.1
 have q:=init_okD (S:=S1 P w K mg base xs own) (C:=He.ga K (XNM k)) (w:=wd) (g:=g) (fl:=fl) F' Sc T hN hps (λx hx=>z.2.2 x (by rw[hfl];exact hx)) hl (hr _)
 obtain⟨ds,vd,bd⟩:=F'.binds1 (ps:=ps) ps.length dfl.length (by simpa using hdn) (by simp) λT kV doc pm an cdv ct us its hu hi=>hb T kV doc pm an cdv ct us its hu (by simpa using hi)
 have ed:ds=[]:=by
  have e:(dfl.map scV).drop dfl.length=[]:=List.drop_eq_nil_of_le (by simp)
  rw[e] at vd
  cases vd
  rfl
 subst ed
 refine⟨by simpa using z.1,He.glo_ok X Gn (c.fact j hf),T,nd,congrArg List.length hfl,_,fd,ps,M.at_,beq_iff_eq.mp M.fn,?_,bd⟩
 rw[show (S1 P w K mg base xs own).G.fld k=g :: fl from hfl]
 exact q
end
end Hx
namespace L54
open PySem PySem.Spec L2 Hx
open PyProof.Rows hiding St
def Zco:He.DefD:=⟨("number_in",none),"number_in","number_in",defArgs (top 12),defBody (top 12),defScope (top 12),[],[]⟩
def Zbq:He.DefD:=⟨("numbers_in",none),"numbers_in","numbers_in",defArgs (top 13),defBody (top 13),defScope (top 13),[],[]⟩
def Zbg:He.DefD:=⟨("choices_in",none),"choices_in","choices_in",defArgs (top 14),defBody (top 14),defScope (top 14),[],[]⟩
def ZfO:He.DefD:=⟨("row_in",none),"row_in","row_in",defArgs (top 15),defBody (top 15),defScope (top 15),[],[]⟩
def ZdR:He.DefD:=⟨("many_in",none),"many_in","many_in",defArgs (top 16),defBody (top 16),defScope (top 16),[],[]⟩
def ZdQ:He.DefD:=⟨("deed_in",none),"deed_in","deed_in",defArgs (top 17),defBody (top 17),defScope (top 17),[],[]⟩
def Zcp:He.DefD:=⟨("read_deed",none),"read_deed","read_deed",defArgs (top 18),defBody (top 18),defScope (top 18),[],[]⟩
def ZgM:He.DefD:=⟨("_law_bag",none),"_law_bag","_law_bag",defArgs (top 20),defBody (top 20),defScope (top 20),[],[]⟩
def ZfM:He.DefD:=⟨("_law_pull",none),"_law_pull","_law_pull",defArgs (top 21),defBody (top 21),defScope (top 21),[],[]⟩
def ZgK:He.DefD:=⟨("_law_one",none),"_law_one","_law_one",defArgs (top 22),defBody (top 22),defScope (top 22),[],[]⟩
def ZfQ:He.DefD:=⟨("_law_same",none),"_law_same","_law_same",defArgs (top 23),defBody (top 23),defScope (top 23),[],[]⟩
def ZdS:He.DefD:=⟨("_law_tried",none),"_law_tried","_law_tried",defArgs (top 24),defBody (top 24),defScope (top 24),[],[]⟩
def Zch:He.DefD:=⟨("_law_figures",none),"_law_figures","_law_figures",defArgs (top 25),defBody (top 25),defScope (top 25),[],[]⟩
def UR:He.DefD:=⟨("_law_figures_all",none),"_law_figures_all","_law_figures_all",defArgs (top 26),defBody (top 26),defScope (top 26),[],[]⟩
def Zbk:He.DefD:=⟨("_law_read_row",none),"_law_read_row","_law_read_row",defArgs (top 27),defBody (top 27),defScope (top 27),[],[]⟩
def Zcf:He.DefD:=⟨("_law_read_at",none),"_law_read_at","_law_read_at",defArgs (top 28),defBody (top 28),defScope (top 28),[],[]⟩
def Zdc:He.DefD:=⟨("_law_spoilt",none),"_law_spoilt","_law_spoilt",defArgs (top 29),defBody (top 29),defScope (top 29),[],[]⟩
def UH:He.DefD:=⟨("_law_wide_number",none),"_law_wide_number","_law_wide_number",defArgs (top 30),defBody (top 30),defScope (top 30),[],[]⟩
def ZfR:He.DefD:=⟨("_law_word",none),"_law_word","_law_word",defArgs (top 31),defBody (top 31),defScope (top 31),[],[]⟩
def ZaT:He.DefD:=⟨("_law_wide_deed",none),"_law_wide_deed","_law_wide_deed",defArgs (top 32),defBody (top 32),defScope (top 32),[],[]⟩
def Zbj:He.DefD:=⟨("_law_row_text",none),"_law_row_text","_law_row_text",defArgs (top 33),defBody (top 33),defScope (top 33),[],[]⟩
def Zbm:He.DefD:=⟨("_law_text_due",none),"_law_text_due","_law_text_due",defArgs (top 34),defBody (top 34),defScope (top 34),[],[]⟩
def ZgY:He.DefD:=⟨("law",none),"law","law",defArgs (top 35),defBody (top 35),defScope (top 35),[],[]⟩
def UZ:Stmt:=inClass (top 4) 0
def Zdn:He.DefD:=⟨("BadText",some "__init__"),"__init__","BadText.__init__",defArgs UZ,defBody UZ,defScope UZ,[.int 0].map dvOf,[]⟩
def hfn:List He.DefD:=[Zco,Zbq,Zbg,ZfO,ZdR,ZdQ,Zcp,ZgM,ZfM,ZgK,ZfQ,ZdS,Zch,UR,Zbk,Zcf,Zdc,UH,ZfR,ZaT,Zbj,Zbm,ZgY,Zdn]
def hfa:List He.Fa:=([.glo "number_in",.glo "numbers_in",.glo "choices_in",.glo "row_in",.glo "many_in",.glo "deed_in",.glo "read_deed",.glo "_law_bag",.glo "_law_pull",.glo "_law_one",.glo "_law_same",.glo "_law_tried",.glo "_law_figures",.glo "_law_figures_all",.glo "_law_read_row",.glo "_law_read_at",.glo "_law_spoilt",.glo "_law_wide_number",.glo "_law_word",.glo "_law_wide_deed",.glo "_law_row_text",.glo "_law_text_due",.glo "law",.free "all",.free "bool",.free "int",.free "isinstance",.free "len",.free "list",.free "min",.free "range",.free "str",.free "tuple",.glo "ShadeError",.glo "Missing",.glo "Crowded",.glo "BadText",.glo "NoThing",.glo "NoLook",.glo "Looked"]:List He.Fa)++([.meth "BadText" "__init__"]:List He.Fa)
def hts:List (Str × List Str):=[("LENGTHS",["lamp","unsure","post","pane","move","switch","drop","look","strike","settle","many"])]
def moreB (K:PySem.W.Frag):Bool:=tbB "LENGTHS" ZC K&&(true)
def hcs:List (Str × D):=[("MOST_FIGURES",.int 9),("FIGURES",.str "0123456789")]
def exB (K:PySem.W.Frag):Bool:=Zcn hcs K&&(xsB [0,1,2,15,18,19,22] [15] K&&(tabsB ["law"] K&&moreB K))
def hloose:List Str:=(["ShadeError","Missing","Crowded","BadText","NoThing","NoLook","Looked","LENGTHS","FIGURES","MOST_FIGURES","number_in","numbers_in","choices_in","row_in","many_in","deed_in","read_deed","_law_bag","_law_pull","_law_one","_law_same","_law_tried","_law_figures","_law_figures_all","_law_read_row","_law_read_at","_law_spoilt","_law_wide_number","_law_word","_law_wide_deed"]:List Str)++(["_law_row_text","_law_text_due"]:List Str)
abbrev hR:PySem.W.OpenRow:=PySem.W.OpenLaw.row PySem.Challenge.rw_hueshade_k54_texts_of_no_deed
def has (q:Addr->Option Obj):List Addr:=noTab q (He.asD q 4)
abbrev hH:PySem.W.Hook:=hookY has hfa hfn hts exB
def hob (s:PySem.W.SharedT):AlY:=obsY has hfa hfn hts exB (HandSHeadRun.getT s)
theorem hob_eq (s:PySem.W.SharedT):hob s=hH.obs s.abs:=obsY_eq (HandSHeadRun.getT_eq s)
theorem hE1 (w:World)(os:OsState):HandSHeadRun.looksF hR.prog (PySem.W.boot_heap w.params) (Tp.s4 w.params os).abs=true:=by kernel_rfl
theorem hE2 (w:World)(os:OsState):HandSHeadRun.seenQ (PySem.W.view hR.prog [35]) hloose (importedModules hR.prog.main.body) (λs=>PySem.W.xlAt (PySem.W.view hR.prog [35]) [] s&&PySem.W.recOk hR.toRowW.records s) (Tp.s4 w.params os).abs=PySem.W.openGood (PySem.W.view hR.prog [35]) hloose:=by kernel_rfl
theorem hE3 (w:World)(os:OsState):obsY1 has hfa hfn hts exB (HandSHeadRun.getT (Tp.s4 w.params os))=(true,(He.valD hfn).2):=by kernel_rfl
theorem hE4 (w:World)(os:OsState):obsY2 has hfa hfn hts exB (HandSHeadRun.getT (Tp.s4 w.params os))=(true,hts.map λt=>some (He.keysIn w.params t.2)):=by kernel_rfl
theorem hE34 (w:World)(os:OsState):hH.obs (Tp.s4 w.params os).abs=hH.val w:=(hob_eq _).symm.trans (obs_two (hE3 w os) (hE4 w os))
theorem cx_of {K:PySem.W.Frag}(h:exB K=true):Zcn hcs K=true∧xsB [0,1,2,15,18,19,22] [15] K=true∧tabsB ["law"] K=true∧tbB "LENGTHS" ZC K=true∧True:=by
 unfold exB moreB at h
 simp only[Bool.and_eq_true] at h
 first | exact h | exact⟨h.1,h.2.1,h.2.2.1,by simpa using h.2.2.2⟩
theorem env_of {P:Program}{w:World}{K:PySem.W.Frag}{h:Heap}{mg:Str->Option Value}{base:Heap}(X:K.In h)(Gn:h.Ns mainGlobals mg)(c:He.SaysD hfa hfn K)(ht:∀ t∈hts,∃ es n,KDict K w (tblA K t.1) es n)(cx:Zcn hcs K=true∧xsB [0,1,2,15,18,19,22] [15] K=true∧tabsB ["law"] K=true∧tbB "LENGTHS" ZC K=true∧True)
  (hb:∀ y c P,y∈(["law"]:List Str)->PySem.W.tabIn K y=some (c,P)->LamX.TabB base mg c P):Env (S1 P w K mg base [0,1,2,15,18,19,22] ["law"]) where
 aV:=He.free_ok X Gn (c.fact 23 (f:=.free "all") rfl)
 aP:=He.free_ok X Gn (c.fact 24 (f:=.free "bool") rfl)
 aE:=He.free_ok X Gn (c.fact 25 (f:=.free "int") rfl)
 ac:=He.free_ok X Gn (c.fact 26 (f:=.free "isinstance") rfl)
 ae:=He.free_ok X Gn (c.fact 27 (f:=.free "len") rfl)
 aW:=He.free_ok X Gn (c.fact 28 (f:=.free "list") rfl)
 a7:=He.free_ok X Gn (c.fact 29 (f:=.free "min") rfl)
 aj:=He.free_ok X Gn (c.fact 30 (f:=.free "range") rfl)
 aX:=He.free_ok X Gn (c.fact 31 (f:=.free "str") rfl)
 af:=He.free_ok X Gn (c.fact 32 (f:=.free "tuple") rfl)
 ak:=gv_of (S:=S1 P w K mg base [0,1,2,15,18,19,22] ["law"]) X Gn (Zew cx.1 0 rfl)
 aH:=gv_of (S:=S1 P w K mg base [0,1,2,15,18,19,22] ["law"]) X Gn (Zew cx.1 1 rfl)
 ZC:=ZhL X Gn cx.2.2.2.1 (ht _ (List.mem_of_getElem? (i:=0) rfl))
 aA:=WU (WR c X Gn 0 0 (d:=Zco) rfl rfl)
 ap:=WU (WR c X Gn 1 1 (d:=Zbq) rfl rfl)
 aq:=WU (WR c X Gn 2 2 (d:=Zbg) rfl rfl)
 aQ:=WU (WR c X Gn 3 3 (d:=ZfO) rfl rfl)
 aI:=WU (WR c X Gn 4 4 (d:=ZdR) rfl rfl)
 aJ:=WU (WR c X Gn 5 5 (d:=ZdQ) rfl rfl)
 aB:=WU (WR c X Gn 6 6 (d:=Zcp) rfl rfl)
 aY:=WU (WR c X Gn 7 7 (d:=ZgM) rfl rfl)
 aR:=WU (WR c X Gn 8 8 (d:=ZfM) rfl rfl)
 aZ:=WU (WR c X Gn 9 9 (d:=ZgK) rfl rfl)
 aG:=WU (WR c X Gn 10 10 (d:=ZfQ) rfl rfl)
 aK:=WU (WR c X Gn 11 11 (d:=ZdS) rfl rfl)
 aC:=WU (WR c X Gn 12 12 (d:=Zch) rfl rfl)
 ah:=WU (WR c X Gn 13 13 (d:=UR) rfl rfl)
 ar:=WU (WR c X Gn 14 14 (d:=Zbk) rfl rfl)
 aD:=WU (WR c X Gn 15 15 (d:=Zcf) rfl rfl)
 aF:=WU (WR c X Gn 16 16 (d:=Zdc) rfl rfl)
 ai:=WU (WR c X Gn 17 17 (d:=UH) rfl rfl)
 aS:=WU (WR c X Gn 18 18 (d:=ZfR) rfl rfl)
 al:=WU (WR c X Gn 19 19 (d:=ZaT) rfl rfl)
 au:=WU (WR c X Gn 20 20 (d:=Zbj) rfl rfl)
 av:=WU (WR c X Gn 21 21 (d:=Zbm) rfl rfl)
 a8:=WU (WR c X Gn 22 22 (d:=ZgY) rfl rfl)
 az:=He.glo_ok X Gn (c.fact 33 (f:=.glo "ShadeError") rfl)
 aL:=He.glo_ok X Gn (c.fact 34 (f:=.glo "Missing") rfl)
 aM:=He.glo_ok X Gn (c.fact 35 (f:=.glo "Crowded") rfl)
 aN:=He.glo_ok X Gn (c.fact 36 (f:=.glo "BadText") rfl)
 aO:=He.glo_ok X Gn (c.fact 37 (f:=.glo "NoThing") rfl)
 aT:=He.glo_ok X Gn (c.fact 38 (f:=.glo "NoLook") rfl)
 aU:=He.glo_ok X Gn (c.fact 39 (f:=.glo "Looked") rfl)
 ao:=xr_ofD (dfl:=[.int 0]) (st:=UZ) (N:=["self","row"]) (ps:=["self","row"]) (fl:=["row"]) (g:="word") (wd:="badtext") (qual:="BadText.__init__") c X Gn cx.2.1 (k:=15) (by decide) (by decide) 23 36 40 rfl (by simp) rfl rfl rfl (by decide) ⟨rfl,rfl,rfl,by decide +kernel,rfl,by decide +kernel,by decide +kernel⟩ rfl rfl (by decide) (λ_ _ _ _ _ _ _ us its hu hi=>match us,hu,its,hi with | [_,_],_,[_],_=>⟨_,rfl,rfl⟩) (λ_ _ _ _ _ _ _=>(.cons (pe_var (i:=0) rfl (.inl (by kernel_rfl)) (by decide) (by decide)) pe_str rfl (.cons (pe_var (i:=0) rfl (.inl (by kernel_rfl)) (by decide) (by decide)) (pe_var (i:=1) rfl (.inl (by kernel_rfl)) (by decide) (by decide)) rfl .nil)))
 a9:=mk0_of X Gn cx.2.2.1 (by decide) hb
 xs:=λd hd=>hd
 xf:=xf_of cx.2.1
theorem facts {P:Program}{w:World}{K:PySem.W.Frag}{h:Heap}{mg:Str->Option Value}{f:Addr}(X:K.In h)(Gn:h.Ns mainGlobals mg)(hfa0:mg ("law":Str)=some (.ref f))(c:He.SaysD hfa hfn K)(ht:∀ t∈hts,∃ es n,KDict K w (tblA K t.1) es n)(cx:Zcn hcs K=true∧xsB [0,1,2,15,18,19,22] [15] K=true∧tabsB ["law"] K=true∧tbB "LENGTHS" ZC K=true∧True):
  ∃ fd:FuncData,(∀ (s:Shared) (v:Value),BindsTo s fd ⟨[v],[]⟩ [("_law_script",v)])∧∀ base:Heap,K.In base->base.Ns mainGlobals mg->(∀ y c P,y∈(["law"]:List Str)->PySem.W.tabIn K y=some (c,P)->LamX.TabB base mg c P) ->
   FnOk P w K mg base (L2.CX P w) 62 f fd ["_law_script"] (SpF (S1 P w K mg base [0,1,2,15,18,19,22] ["law"]).G 1 Zhp):=by
 obtain⟨fd,F⟩:=c.def_ 22 (d:=ZgY) rfl
 have e:=hfa0.symm.trans (He.glo_ok X Gn (c.fact 22 (f:=.glo "law") rfl))
 cases e
 have b:=FunD.bindsA (ps:=["_law_script"]) F ZhJ
 exact⟨fd,λs v=>b s [v] rfl,λbase _ _ hb=>by
  obtain⟨cc,PP,M0⟩:=mk0_of (P':=P) (w:=w) (xs:=[0,1,2,15,18,19,22]) (x:="law") X Gn cx.2.2.1 (by decide) hb
  exact ok_fnT (N:=nl9) (sc:=defScope (top 35)) (k:=61) F M0 (He.glo_ok X Gn (c.fact 22 (f:=.glo "law") rfl)) ZhK (ds_law (env_of X Gn c ht cx hb) M0)⟩
theorem hTold:TablesWhole.wSs TablesWhole.gather hR.prog.main.scope ⟨hR.prog.main.scope,[],[],[],none⟩ hR.prog.main.scope hR.prog.main.body=[]:=by kernel_rfl
theorem hTwice:TablesWhole.noTwice hR.prog.main.scope=true:=by kernel_rfl
def hB0:List Stmt:=hR.prog.main.body
def hB1:List Stmt:=hB0.drop 20
def hB2:List Stmt:=hB1.drop 20
theorem hW0:TablesWhole.wSs TablesWhole.holds hR.prog.main.scope ⟨hR.prog.main.scope,[],[],[],none⟩ hR.prog.main.scope (hB0.take 20)=true:=by kernel_rfl
theorem hW1:TablesWhole.wSs TablesWhole.holds hR.prog.main.scope ⟨hR.prog.main.scope,[],[],[],none⟩ hR.prog.main.scope (hB1.take 20)=true:=by kernel_rfl
theorem hBare:hR.prog.bare:=bare_of rfl rfl rfl rfl rfl hTold hTwice (ws_step (l:=hB0) hW0 (ws_step (l:=hB1) hW1 (ws_nil (l:=hB2) (by kernel_rfl))))
theorem hSaid (h:(PySem.W.OpenLaw.row PySem.Challenge.rw_hueshade_k54_texts_of_no_deed).wellSaid=true->(PySem.W.OpenLaw.row PySem.Challenge.rw_hueshade_k54_texts_of_no_deed).Holds):PySem.Challenge.rw_hueshade_k54_texts_of_no_deed.Holds:=by
 o_law
 rename_i said
 exact h said
end L54
namespace Hx
open PySem PySem.Spec L2
noncomputable section
end
end Hx
namespace Geo
def cr (ax ay bx bY cx cy:Rat):Rat:=(bx - ax) * (cy - ay) - (bY - ay) * (cx - ax)
def On (cx cy dx dy x y:Rat):Prop:=∃ t:Rat,0<=t∧t<=1∧x=cx+t * (dx - cx)∧y=cy+t * (dy - cy)
def Bt (l n h:Rat):Prop:=(l<=n∧n<=h)∨(h<=n∧n<=l)
section
variable {ax ay bx bY cx cy dx dy x y:Rat}
theorem Zbb {n d:Rat}(hd:d≠0)(h:(0<=n∧n<=d)∨(d<=n∧n<=0)):0<=n / d∧n / d<=1:=by
 have e:n=(n / d) * d:=by grind
 generalize n / d=q at *
 subst e
 rcases h with ⟨h1,h2⟩ | ⟨h1,h2⟩
 ·have hd':0<d:=by grind
  constructor
  ·refine Rat.not_lt.mp λz=>?_
   have:=Rat.mul_pos (show 0 < -q by grind) hd'
   grind
  ·refine Rat.not_lt.mp λz=>?_
   have:=Rat.mul_pos (show 0<q - 1 by grind) hd'
   grind
 ·have hd':0 < -d:=by grind
  constructor
  ·refine Rat.not_lt.mp λz=>?_
   have:=Rat.mul_pos (show 0 < -q by grind) hd'
   grind
  ·refine Rat.not_lt.mp λz=>?_
   have:=Rat.mul_pos (show 0<q - 1 by grind) hd'
   grind
theorem Vq {a b:Rat}(ha:0<=a)(hb:0<=b):0<=a * b:=Rat.mul_nonneg ha hb
theorem bt_mid {l h t:Rat}(h0:0<=t)(h1:t<=1):Bt l (l+t * (h - l)) h:=by
 unfold Bt
 by_cases hh:l<=h
 ·have:=Vq h0 (show 0<=h - l by grind)
  have:=Vq (show 0<=1 - t by grind) (show 0<=h - l by grind)
  left;grind
 ·have:=Vq h0 (show 0<=l - h by grind)
  have:=Vq (show 0<=1 - t by grind) (show 0<=l - h by grind)
  right;grind
theorem on_iff:On cx cy dx dy x y↔cr cx cy dx dy x y=0∧Bt cx x dx∧Bt cy y dy:=by
 constructor
 ·rintro⟨t,h0,h1,e1,e2⟩
  subst e1 e2
  exact⟨by unfold cr;grind,bt_mid h0 h1,bt_mid h0 h1⟩
 ·rintro⟨h,h1,h2⟩
  unfold cr at h
  by_cases hx:dx - cx=0
  ·by_cases hy:dy - cy=0
   ·refine⟨0,by grind,by grind,?_,?_⟩<;>unfold Bt at *<;>grind
   ·obtain⟨r0,r1⟩:=Zbb (n:=y - cy) hy (by unfold Bt at *;grind)
    refine⟨(y - cy) / (dy - cy),r0,r1,?_,by grind⟩
    unfold Bt at *;grind
  ·obtain⟨r0,r1⟩:=Zbb (n:=x - cx) hx (by unfold Bt at *;grind)
   exact⟨(x - cx) / (dx - cx),r0,r1,by grind,by grind⟩
def pt (a b s:Rat):Rat:=a+s * (b - a)
def Sh (s:Rat):Prop:=0<=s∧s<=1
def Meets (ax ay bx bY cx cy dx dy:Rat):Prop:=∃ s,Sh s∧On cx cy dx dy (pt ax bx s) (pt ay bY s)
theorem UI:Meets ax ay bx bY cx cy dx dy↔∃ s t,Sh s∧Sh t∧pt ax bx s=pt cx dx t∧pt ay bY s=pt cy dy t:=by
 constructor
 ·rintro⟨s,h,t,h0,h1,e1,e2⟩
  exact⟨s,t,h,⟨h0,h1⟩,e1,e2⟩
 ·rintro⟨s,t,h,⟨h0,h1⟩,e1,e2⟩
  exact⟨s,h,t,h0,h1,e1,e2⟩
theorem ZdT:Meets cx cy dx dy ax ay bx bY↔Meets ax ay bx bY cx cy dx dy:=by
 rw[UI,UI]
 constructor
 ·rintro⟨s,t,h,h',e1,e2⟩;exact⟨t,s,h',h,e1.symm,e2.symm⟩
 ·rintro⟨s,t,h,h',e1,e2⟩;exact⟨t,s,h',h,e1.symm,e2.symm⟩
def Cut (ax ay bx bY cx cy dx dy:Rat):Prop:=
 (cr ax ay bx bY cx cy * cr ax ay bx bY dx dy<0∧cr cx cy dx dy ax ay * cr cx cy dx dy bx bY<0)∨On ax ay bx bY cx cy∨On ax ay bx bY dx dy∨On cx cy dx dy ax ay∨On cx cy dx dy bx bY
theorem pt0 {a b:Rat}:pt a b 0=a:=by unfold pt;grind
theorem pt1 {a b:Rat}:pt a b 1=b:=by unfold pt;grind
theorem sh0:Sh 0:=⟨by grind,by grind⟩
theorem sh1:Sh 1:=⟨by grind,by grind⟩
theorem opp {u v:Rat}(h:u * v<0):(0<=u∧u<=u - v)∨(u - v<=u∧u<=0):=by
 by_cases hu:0<=u
 ·left
  refine⟨hu,?_⟩
  by_cases hv:0<=v
  ·have:=Vq hu hv;grind
  ·grind
 ·right
  refine⟨?_,by grind⟩
  by_cases hv:0<=v
  ·grind
  ·have:=Vq (show 0 <= -u by grind) (show 0 <= -v by grind);grind
theorem opp_ne {u v:Rat}(h:u * v<0):u - v≠0:=λz=>by
 have e:u=v:=by grind
 subst e
 by_cases hu:0<=u
 ·have:=Vq hu hu;grind
 ·have:=Vq (show 0 <= -u by grind) (show 0 <= -u by grind);grind
theorem cut_meets (h:Cut ax ay bx bY cx cy dx dy):Meets ax ay bx bY cx cy dx dy:=by
 rcases h with ⟨h1,h2⟩ | h | h | h | h
 ·have n1:=opp_ne h1
  have n2:=opp_ne h2
  obtain⟨a0,a1⟩:=Zbb n1 (opp h1)
  obtain⟨b0,b1⟩:=Zbb n2 (opp h2)
  refine⟨_,⟨b0,b1⟩,_,a0,a1,?_,?_⟩
  ·have e:cr cx cy dx dy ax ay - cr cx cy dx dy bx bY=-(cr ax ay bx bY cx cy - cr ax ay bx bY dx dy):=by unfold cr;grind
   rw[e]
   generalize hw:cr ax ay bx bY cx cy - cr ax ay bx bY dx dy=w at *
   have:(cr cx cy dx dy ax ay) * (bx - ax)=-(w * (cx - ax)+cr ax ay bx bY cx cy * (dx - cx)):=by rw[<- hw];unfold cr;grind
   unfold pt
   grind
  ·have e:cr cx cy dx dy ax ay - cr cx cy dx dy bx bY=-(cr ax ay bx bY cx cy - cr ax ay bx bY dx dy):=by unfold cr;grind
   rw[e]
   generalize hw:cr ax ay bx bY cx cy - cr ax ay bx bY dx dy=w at *
   have:(cr cx cy dx dy ax ay) * (bY - ay)=-(w * (cy - ay)+cr ax ay bx bY cx cy * (dy - cy)):=by rw[<- hw];unfold cr;grind
   unfold pt
   grind
 ·obtain⟨s,h0,h1,e1,e2⟩:=h
  exact⟨s,⟨h0,h1⟩,0,by grind,by grind,by unfold pt;grind,by unfold pt;grind⟩
 ·obtain⟨s,h0,h1,e1,e2⟩:=h
  exact⟨s,⟨h0,h1⟩,1,by grind,by grind,by unfold pt;grind,by unfold pt;grind⟩
 ·exact⟨0,sh0,by rw[pt0,pt0];exact h⟩
 ·exact⟨1,sh1,by rw[pt1,pt1];exact h⟩
end
end Geo
namespace Geo
section
variable {ax ay bx bY cx cy dx dy x y:Rat}
theorem conv_opp {u v t:Rat}(h0:0<t)(h1:t<1)(h:(1 - t) * u+t * v=0):(u=0∧v=0)∨u * v<0:=by
 by_cases hu:u=0
 ·left
  refine⟨hu,?_⟩
  subst hu
  have:t * v=0:=by grind
  rcases Rat.mul_eq_zero.mp this with z | z<;>grind
 ·right
  have e:v * t=-((1 - t) * u):=by grind
  have k:(u * v) * t=-((1 - t) * (u * u)):=by grind
  have p1:0<u * u:=by
   by_cases hp:0<u
   ·exact Rat.mul_pos hp hp
   ·have:=Rat.mul_pos (show 0 < -u by grind) (show 0 < -u by grind);grind
  have p2:=Rat.mul_pos (show 0<1 - t by grind) p1
  refine Rat.not_le.mp λz=>?_
  have:=Vq z (show 0<=t by grind)
  grind
theorem meets_cut (h:Meets ax ay bx bY cx cy dx dy):Cut ax ay bx bY cx cy dx dy:=by
 obtain⟨s,t,⟨s0,s1⟩,⟨t0,t1⟩,e1,e2⟩:=UI.mp h
 unfold Cut
 by_cases q:s=0
 ·subst q;right;right;right;left;refine⟨t,t0,t1,?_,?_⟩<;>unfold pt at *<;>grind
 by_cases q:s=1
 ·subst q;right;right;right;right;refine⟨t,t0,t1,?_,?_⟩<;>unfold pt at *<;>grind
 by_cases q:t=0
 ·subst q;right;left;refine⟨s,s0,s1,?_,?_⟩<;>unfold pt at *<;>grind
 by_cases q:t=1
 ·subst q;right;right;left;refine⟨s,s0,s1,?_,?_⟩<;>unfold pt at *<;>grind
 have z1:(1 - t) * cr ax ay bx bY cx cy+t * cr ax ay bx bY dx dy=0:=by
  unfold pt at *
  unfold cr;grind
 have z2:(1 - s) * cr cx cy dx dy ax ay+s * cr cx cy dx dy bx bY=0:=by
  unfold pt at *
  unfold cr;grind
 have w:cr ax ay bx bY cx cy - cr ax ay bx bY dx dy=cr cx cy dx dy bx bY - cr cx cy dx dy ax ay:=by unfold cr;grind
 have key:(cr ax ay bx bY cx cy=0∧cr ax ay bx bY dx dy=0)->(cr cx cy dx dy ax ay=0∧cr cx cy dx dy bx bY=0)->On ax ay bx bY cx cy∨On ax ay bx bY dx dy∨On cx cy dx dy ax ay∨On cx cy dx dy bx bY:=by
  rintro⟨u0,v0⟩ ⟨p0,q0⟩
  unfold pt at e1 e2
  by_cases hx:bx - ax=0∧bY - ay=0
  ·obtain⟨hx,hy⟩:=hx
   right;right;left
   exact⟨t,t0,t1,by grind,by grind⟩
  -- f=k e
  have hk:∃ k:Rat,dx - cx=k * (bx - ax)∧dy - cy=k * (bY - ay):=by
   by_cases hx':bx - ax=0
   ·have hy':bY - ay≠0:=λz=>hx ⟨hx',z⟩
    refine⟨(dy - cy) / (bY - ay),?_,by grind⟩
    unfold cr at u0 v0
    grind
   ·refine⟨(dx - cx) / (bx - ax),by grind,?_⟩
    unfold cr at u0 v0
    grind
  obtain⟨k,k1,k2⟩:=hk
  have tt:=Vq t0 (show 0<=1 - t by grind)
  by_cases kp:0<=k
  ·have tk:=Vq t0 kp
   by_cases c:t * k<=s
   ·left
    exact⟨s - t * k,by grind,by grind,by grind,by grind⟩
   ·right;right;left
    have k0:k≠0:=by grind
    have kpos:0<k:=by grind
    have sk:s / k * k=s:=by grind
    have n1:0<=s / k:=Rat.not_lt.mp λz=>by
     have:=Rat.mul_pos (show 0 < -(s / k) by grind) kpos;grind
    have n2:0<=t - s / k:=Rat.not_lt.mp λz=>by
     have:=Rat.mul_pos (show 0 < -(t - s / k) by grind) kpos;grind
    exact⟨t - s / k,n2,by grind,by grind,by grind⟩
  ·have kn:0 < -k:=by grind
   have tk:=Vq (show 0<=1 - t by grind) (show 0 <= -k by grind)
   by_cases c:(1 - t) * (-k)<=s
   ·right;left
    exact⟨s+(1 - t) * k,by grind,by grind,by grind,by grind⟩
   ·right;right;left
    have k0:k≠0:=by grind
    have sk:s / k * k=s:=by grind
    have n1:0 <= -(s / k):=Rat.not_lt.mp λz=>by
     have:=Rat.mul_pos (show 0<(s / k) by grind) kn;grind
    have n2:0<=1 - t+s / k:=Rat.not_lt.mp λz=>by
     have:=Rat.mul_pos (show 0 < -(1 - t+s / k) by grind) kn;grind
    exact⟨t - s / k,by grind,by grind,by grind,by grind⟩
 rcases conv_opp (t:=t) (by grind) (by grind) z1 with h1 | h1
 ·rcases conv_opp (t:=s) (by grind) (by grind) z2 with h2 | h2
  ·exact .inr (key h1 h2)
  ·have:=opp_ne h2;grind
 ·rcases conv_opp (t:=s) (by grind) (by grind) z2 with h2 | h2
  ·have:=opp_ne h1;grind
  ·exact .inl ⟨h1,h2⟩
theorem cut_iff:Cut ax ay bx bY cx cy dx dy↔Meets ax ay bx bY cx cy dx dy:=⟨cut_meets,meets_cut⟩
structure Span (P:Rat->Prop)(l h:Rat):Prop where
 l0:0<=l
 lh:l<=h
 h1:h<=1
 at_:∀ s,Sh s->(P s↔l<=s∧s<=h)
def NoSpan (P:Rat->Prop):Prop:=∀ s,Sh s->¬ P s
def VC (P:Rat->Prop):Option (Rat × Rat)->Prop
 | some (l,h)=>Span P l h
 | none=>NoSpan P
theorem VC.some_iff {P:Rat->Prop}{a:Option (Rat × Rat)}(h:VC P a):a.isSome=true↔∃ s,Sh s∧P s:=by
 cases a with
 | none=>
  constructor
  ·intro z;cases z
  ·rintro⟨s,hs,p⟩;exact absurd p (h s hs)
 | some lh=>
  obtain⟨l,h1⟩:=lh
  refine⟨λ_=>?_,λ_=>rfl⟩
  have hl:Sh l:=⟨h.l0,by have:=h.lh;have:=h.h1;grind⟩
  exact⟨l,hl,(h.at_ l hl).mpr ⟨by grind,h.lh⟩⟩
def cutDown:Option (Rat × Rat)->Rat->Rat->Option (Rat × Rat)
 | none,_,_=>none
 | some (l,h),lo,hi=>
  let f:=if l<lo then lo else l
  let g:=if hi<h then hi else h
  if g<f then none else some (f,g)
theorem Zcs {P:Rat->Prop}{o:Option (Rat × Rat)}{lo hi:Rat}(h:VC P o):VC (λs=>P s∧lo<=s∧s<=hi) (cutDown o lo hi):=by
 cases o with
 | none=>exact λs hs z=>h s hs z.1
 | some lh=>
  obtain⟨l,u⟩:=lh
  have h0:=h.l0
  have h1:=h.lh
  have h2:=h.h1
  have h3:=h.at_
  show VC _ (if (if hi<u then hi else u)<(if l<lo then lo else l) then none else some ((if l<lo then lo else l),(if hi<u then hi else u)))
  have f1:∀ s,(if l<lo then lo else l)<=s↔l<=s∧lo<=s:=λs=>by grind
  have f2:∀ s,s<=(if hi<u then hi else u)↔s<=u∧s<=hi:=λs=>by grind
  have f3:0<=(if l<lo then lo else l):=by grind
  have f4:(if hi<u then hi else u)<=1:=by grind
  generalize (if hi<u then hi else u)=g at *
  generalize (if l<lo then lo else l)=f at *
  by_cases c:g<f
  ·rw[if_pos c]
   intro s hs z
   have:=(h3 s hs).mp z.1
   have:=(f1 s).mpr ⟨this.1,z.2.1⟩
   have:=(f2 s).mpr ⟨((h3 s hs).mp z.1).2,z.2.2⟩
   grind
  ·rw[if_neg c]
   exact⟨f3,by grind,f4,λs hs=>by rw[h3 s hs,f1,f2];grind⟩
def full:Option (Rat × Rat):=some (0,1)
theorem full_span:VC (λ_=>True) full:=⟨by grind,by grind,by grind,λs hs=>⟨λ_=>hs,λ_=>trivial⟩⟩
theorem VC.iff {P Q:Rat->Prop}{o:Option (Rat × Rat)}(h:VC P o)(k:∀ s,Sh s->(P s↔Q s)):VC Q o:=by
 cases o with
 | none=>exact λs hs z=>h s hs ((k s hs).mpr z)
 | some lh=>exact⟨h.l0,h.lh,h.h1,λs hs=>(k s hs).symm.trans (h.at_ s hs)⟩
end
end Geo
namespace Geo
section
variable {ax ay bx bY l w r h x y:Rat}
def slab (o:Option (Rat × Rat))(start step lo hi:Rat):Option (Rat × Rat):=
 if step=0 then (if lo<=start∧start<=hi then o else none)
 else if 0<step then cutDown o ((lo - start) / step) ((hi - start) / step) else cutDown o ((hi - start) / step) ((lo - start) / step)
theorem le_div {a b s:Rat}(hb:0<b):a / b<=s↔a<=s * b:=by
 have e:a=a / b * b:=by grind
 generalize a / b=q at *
 subst e
 constructor
 ·intro z
  have:=Vq (show 0<=s - q by grind) (show 0<=b by grind);grind
 ·intro z
  refine Rat.not_lt.mp λk=>?_
  have:=Rat.mul_pos (show 0<q - s by grind) hb;grind
theorem div_le {a b s:Rat}(hb:0<b):s<=a / b↔s * b<=a:=by
 have e:a=a / b * b:=by grind
 generalize a / b=q at *
 subst e
 constructor
 ·intro z
  have:=Vq (show 0<=q - s by grind) (show 0<=b by grind);grind
 ·intro z
  refine Rat.not_lt.mp λk=>?_
  have:=Rat.mul_pos (show 0<s - q by grind) hb;grind
theorem div_neg {a b:Rat}:a / b=(-a) / (-b):=by
 by_cases hb:b=0
 ·subst hb;grind
 ·grind
theorem slab_span {P:Rat->Prop}{o:Option (Rat × Rat)}{start step lo hi:Rat}(k:VC P o):VC (λs=>P s∧lo<=start+s * step∧start+s * step<=hi) (slab o start step lo hi):=by
 unfold slab
 by_cases hs:step=0
 ·rw[if_pos hs]
  subst hs
  by_cases c:lo<=start∧start<=hi
  ·rw[if_pos c]
   exact k.iff λs hs=>⟨λp=>⟨p,by grind,by grind⟩,λp=>p.1⟩
  ·rw[if_neg c]
   exact λs hs z=>c (by grind)
 ·rw[if_neg hs]
  by_cases c:0<step
  ·rw[if_pos c]
   exact (Zcs k).iff λs hs=>by rw[le_div c,div_le c];grind
  ·rw[if_neg c,div_neg (a:=hi - start),div_neg (a:=lo - start)]
   have c':0 < -step:=by grind
   exact (Zcs k).iff λs hs=>by rw[le_div c',div_le c'];grind
def InB (l w r h x y:Rat):Prop:=(l<=x∧x<=r)∧(w<=y∧y<=h)
def bsh (l w r h ax ay bx bY:Rat):Option (Rat × Rat):=slab (slab full ax (bx - ax) l r) ay (bY - ay) w h
theorem bsh_span:VC (λs=>InB l w r h (pt ax bx s) (pt ay bY s)) (bsh l w r h ax ay bx bY):=
 (slab_span (slab_span full_span)).iff λs hs=>by unfold InB pt;grind
def Zay (l w r h ax ay bx bY:Rat):Prop:=∃ s,Sh s∧InB l w r h (pt ax bx s) (pt ay bY s)
end
end Geo
namespace Hx
open PySem PySem.Spec L2
section
variable {st:Zd}
def DR (q:Rat):D:=.con .tup [.int q.num,.int (q.den:Int)]
class BdR (n:outParam Nat)(q:Rat):Prop where
 num:q.num.natAbs<2 ^ n
 den:q.den<2 ^ n
class LeR (n:Nat)(q:Rat):Prop where
 num:q.num.natAbs<2 ^ n
 den:q.den<2 ^ n
set_option synthInstance.checkSynthOrder false in
instance (priority:=low) bdrLe {n:Nat}{i:Rat}[h:LeR n i]:BdR n i:=⟨h.num,h.den⟩
instance (priority:=low) lerBd {n m:Nat}{i:Rat}[h:BdR m i][k:LeN m n]:LeR n i:=⟨Nat.lt_of_lt_of_le h.num (Nat.pow_le_pow_right (by decide) k.h),Nat.lt_of_lt_of_le h.den (Nat.pow_le_pow_right (by decide) k.h)⟩
instance bdNum {n:Nat}{q:Rat}[h:BdR n q]:Bd n q.num:=⟨h.num⟩
instance bdDen {n:Nat}{q:Rat}[h:BdR n q]:Bd n (q.den:Int):=⟨by have:=h.den;omega⟩
instance nzDen {q:Rat}:Nz (q.den:Int):=⟨by have:=q.den_nz;omega⟩
instance bdr0:BdR 1 0:=⟨by decide,by decide⟩
instance bdr1:BdR 1 1:=⟨by decide,by decide⟩
instance (priority:=1020) bdrIteL {n m:Nat}{i j:Rat}{c:Prop}[Decidable c][h:BdR n i][k:BdR m j][l:LeN n m]:BdR m (if c then i else j):=by
 split
 ·exact⟨Nat.lt_of_lt_of_le h.num (Nat.pow_le_pow_right (by decide) l.h),Nat.lt_of_lt_of_le h.den (Nat.pow_le_pow_right (by decide) l.h)⟩
 ·exact k
instance (priority:=1010) bdrIteR {n m:Nat}{i j:Rat}{c:Prop}[Decidable c][h:BdR n i][k:BdR m j][l:LeN m n]:BdR n (if c then i else j):=by
 split
 ·exact h
 ·exact⟨Nat.lt_of_lt_of_le k.num (Nat.pow_le_pow_right (by decide) l.h),Nat.lt_of_lt_of_le k.den (Nat.pow_le_pow_right (by decide) l.h)⟩
instance bdrIte {n m:Nat}{i j:Rat}{c:Prop}[Decidable c][h:BdR n i][k:BdR m j]:BdR (n+m) (if c then i else j):=by
 split
 ·exact⟨Nat.lt_of_lt_of_le h.num (Nat.pow_le_pow_right (by decide) (by omega)),Nat.lt_of_lt_of_le h.den (Nat.pow_le_pow_right (by decide) (by omega))⟩
 ·exact⟨Nat.lt_of_lt_of_le k.num (Nat.pow_le_pow_right (by decide) (by omega)),Nat.lt_of_lt_of_le k.den (Nat.pow_le_pow_right (by decide) (by omega))⟩
theorem rat_div {a b n d:Int}(hd:0<d)(hc:Int.gcd n d=1)(hb:b≠0)(e:n * b=a * d):((a:Rat) / (b:Rat)).num=n∧(((a:Rat) / (b:Rat)).den:Int)=d:=by
 have hdn:d.toNat≠0:=by omega
 have cop:n.natAbs.Coprime d.toNat:=by
  have:Nat.gcd n.natAbs d.natAbs=1:=hc
  rw[show d.toNat=d.natAbs by omega]
  exact this
 have key:(a:Rat) / (b:Rat)=⟨n,d.toNat,hdn,cop⟩:=by
  have h1:(⟨n,d.toNat,hdn,cop⟩:Rat)=Rat.divInt n d:=by
   have:=Rat.num_divInt_den ⟨n,d.toNat,hdn,cop⟩
   rw[<- this]
   show Rat.divInt n ((d.toNat:Nat):Int)=_
   rw[show ((d.toNat:Nat):Int)=d by omega]
  rw[h1,<- Rat.divInt_eq_div,Rat.divInt_eq_divInt_iff hb (by omega)]
  exact e.symm
 rw[key]
 exact⟨rfl,by show ((d.toNat:Nat):Int)=d;omega⟩
theorem fr_parts {a b:Int}(hb:b≠0):∃ n d:Int,0<d∧Int.gcd n d=1∧n * b=a * d∧n.natAbs<=a.natAbs∧d.natAbs<=b.natAbs ∧
  (b<0->a.fdiv (-(Int.gcd a b:Int))=n∧b.fdiv (-(Int.gcd a b:Int))=d)∧(0<b->a.fdiv (Int.gcd a b:Int)=n∧b.fdiv (Int.gcd a b:Int)=d):=by
 have hg:0<Int.gcd a b:=Int.gcd_pos_of_ne_zero_right a hb
 have d1:(Int.gcd a b:Int) ∣ a:=Int.gcd_dvd_left ..
 have d2:(Int.gcd a b:Int) ∣ b:=Int.gcd_dvd_right ..
 obtain⟨p,hp⟩:=d1
 obtain⟨q,hq⟩:=d2
 have hcop:Int.gcd p q=1:=by
  have h:=Int.gcd_mul_left (Int.gcd a b:Int) p q
  rw[<- hp,<- hq] at h
  have e:(Int.gcd a b:Int).natAbs=Int.gcd a b:=by omega
  rw[e] at h
  have:Int.gcd a b * 1=Int.gcd a b * Int.gcd p q:=by omega
  exact (Nat.eq_of_mul_eq_mul_left hg this).symm
 generalize hG:(Int.gcd a b:Int)=G at *
 have hG0:0<G:=by omega
 have pn:p.natAbs<=a.natAbs:=by
  rw[hp,Int.natAbs_mul]
  exact Nat.le_mul_of_pos_left _ (by omega)
 have qn:q.natAbs<=b.natAbs:=by
  rw[hq,Int.natAbs_mul]
  exact Nat.le_mul_of_pos_left _ (by omega)
 have f1:a.fdiv G=p:=by rw[hp];exact Int.mul_fdiv_cancel_left _ (by omega)
 have f2:b.fdiv G=q:=by rw[hq];exact Int.mul_fdiv_cancel_left _ (by omega)
 have f3:a.fdiv (-G)=-p:=by rw[hp,show G * p=-G * -p by grind];exact Int.mul_fdiv_cancel_left _ (by omega)
 have f4:b.fdiv (-G)=-q:=by rw[hq,show G * q=-G * -q by grind];exact Int.mul_fdiv_cancel_left _ (by omega)
 have q0:q≠0:=λz=>hb (by rw[hq,z];simp)
 by_cases h0:b<0
 ·have:q<0:=by
   rw[hq] at h0
   exact Int.lt_of_not_ge λz=>by have:=Int.mul_nonneg (show 0<=G by omega) z;omega
  refine⟨-p,-q,by omega,?_,?_,by omega,by omega,λ_=>⟨f3,f4⟩,λz=>by omega⟩
  ·rw[Int.neg_gcd,Int.gcd_neg];exact hcop
  ·rw[hp,hq];grind
 ·have:0<=q:=by
   rw[hq] at h0
   exact Int.le_of_not_gt λz=>h0 (Int.mul_neg_of_pos_of_neg hG0 z)
  refine⟨p,q,by omega,hcop,?_,pn,qn,λz=>by omega,λ_=>⟨f1,f2⟩⟩
  rw[hp,hq];grind
instance (priority:=1020) bdrDivL {n m:Nat}{a b:Int}[h:Bd n a][k:Bd m b][l:LeN n m][l1:LeN 1 m]:BdR m ((a:Rat) / (b:Rat)):=by
 have w1:(2:Nat) ^ n<=2 ^ m:=Nat.pow_le_pow_right (by decide) l.h
 by_cases hb:b=0
 ·subst hb
  have e:(a:Rat) / ((0:Int):Rat)=0:=by grind
  rw[e]
  have:=l1.h
  refine⟨?_,?_⟩
  ·show (0:Int).natAbs<_
   exact Nat.pos_of_ne_zero (by simp)
  ·show 1<_
   exact Nat.lt_of_lt_of_le (show 1<2 ^ 1 by decide) (Nat.pow_le_pow_right (by decide) (by omega))
 ·obtain⟨n',d,hd,hc,e,l1,l2,_,_⟩:=fr_parts (a:=a) hb
  obtain⟨r1,r2⟩:=rat_div hd hc hb e
  have h1:=h.lt
  have h2:=k.lt
  exact⟨by rw[r1];omega,by omega⟩
instance (priority:=1010) bdrDivR {n m:Nat}{a b:Int}[h:Bd n a][k:Bd m b][l:LeN m n][l1:LeN 1 n]:BdR n ((a:Rat) / (b:Rat)):=
 let h':Bd n b:=⟨Nat.lt_of_lt_of_le k.lt (Nat.pow_le_pow_right (by decide) l.h)⟩
 @bdrDivL n n a b h h' leNr l1
instance bdrDiv {n m:Nat}{a b:Int}[h:Bd n a][k:Bd m b]:BdR (n+m+1) ((a:Rat) / (b:Rat)):=
 let h1:Bd (n+m+1) a:=⟨Nat.lt_of_lt_of_le h.lt (Nat.pow_le_pow_right (by decide) (by omega))⟩
 let h2:Bd (n+m+1) b:=⟨Nat.lt_of_lt_of_le k.lt (Nat.pow_le_pow_right (by decide) (by omega))⟩
 @bdrDivL _ _ a b h1 h2 leNr ⟨by omega⟩
def sg (r:Int):Int:=(if 0<r then 1 else 0) - (if r<0 then 1 else 0)
end
def crs (ax ay bx bY cx cy:Int):Int:=(bx - ax) * (cy - ay) - (bY - ay) * (cx - ax)
def wthn (l n h:Int):Bool:=decide ((if h<l then h else l)<=n)&&decide (n<=(if h > l then h else l))
def onP (ax ay bx bY cx cy:Int):Bool:=decide (crs ax ay bx bY cx cy=0)&&(wthn ax cx bx&&wthn ay cy bY)
def cutB (ax ay bx bY cx cy dx dy:Int):Bool:=
 (decide (crs ax ay bx bY cx cy * crs ax ay bx bY dx dy<0)&&decide (crs cx cy dx dy ax ay * crs cx cy dx dy bx bY<0)) ||
  ((onP ax ay bx bY cx cy||onP ax ay bx bY dx dy)||(onP cx cy dx dy ax ay||onP cx cy dx dy bx bY))
section
variable {ax ay bx bY cx cy dx dy x y:Int}
theorem crs_cast:((crs ax ay bx bY cx cy:Int):Rat)=Geo.cr ax ay bx bY cx cy:=by
 unfold crs Geo.cr
 grind
theorem crs_zero:crs ax ay bx bY cx cy=0↔Geo.cr (ax:Rat) ay bx bY cx cy=0:=by
 rw[<- crs_cast,<- Rat.intCast_zero,Rat.intCast_inj]
theorem icast_lt {a b:Int}:(a:Rat)<(b:Rat)↔a<b:=Rat.intCast_lt_intCast
theorem Zcm {a b:Int}:(a:Rat)<=(b:Rat)↔a<=b:=by
 rw[<- Rat.not_lt,icast_lt];omega
theorem wthn_iff {l n h:Int}:wthn l n h=true↔Geo.Bt (l:Rat) n h:=by
 unfold wthn Geo.Bt
 rw[Bool.and_eq_true,decide_eq_true_eq,decide_eq_true_eq,Zcm,Zcm,Zcm,Zcm]
 constructor
 ·rintro⟨h1,h2⟩
  split at h1<;>split at h2<;>omega
 ·intro z
  constructor<;>split<;>omega
theorem onP_iff:onP cx cy dx dy x y=true↔Geo.On (cx:Rat) cy dx dy x y:=by
 unfold onP
 rw[Geo.on_iff,Bool.and_eq_true,Bool.and_eq_true,decide_eq_true_eq,crs_zero,wthn_iff,wthn_iff]
theorem ZbY:cutB ax ay bx bY cx cy dx dy=true↔Geo.Meets (ax:Rat) ay bx bY cx cy dx dy:=by
 rw[<- Geo.cut_iff]
 unfold cutB Geo.Cut
 simp only[Bool.or_eq_true,Bool.and_eq_true,decide_eq_true_eq,onP_iff,<- crs_cast,<- Rat.intCast_mul]
 rw[<- Rat.intCast_zero,icast_lt,icast_lt]
 constructor
 ·rintro (h | (h | h) | h | h)
  ·exact .inl h
  ·exact .inr (.inl h)
  ·exact .inr (.inr (.inl h))
  ·exact .inr (.inr (.inr (.inl h)))
  ·exact .inr (.inr (.inr (.inr h)))
 ·rintro (h | h | h | h | h)
  ·exact .inl h
  ·exact .inr (.inl (.inl h))
  ·exact .inr (.inl (.inr h))
  ·exact .inr (.inr (.inl h))
  ·exact .inr (.inr (.inr h))
section
variable {st:Zd}
instance bdCrs {n:Nat}[h:Bd n ((bx - ax) * (cy - ay) - (bY - ay) * (cx - ax))]:Bd n (crs ax ay bx bY cx cy):=h
theorem sg0 {r:Int}:sg r=0↔r=0:=by
 unfold sg
 constructor
 ·intro h
  split at h<;>split at h<;>omega
 ·intro h
  subst h
  rfl
end
end
section
variable {ax ay bx bY cx cy dx dy x y:Int}{st:Zd}
def BdO (n:Nat)(o:Option (Rat × Rat)):Prop:=∀ l h,o=some (l,h)->LeR n l∧LeR n h
theorem BdO.full {n:Nat}(h:1<=n):BdO n Geo.full:=λl u e=>by
 have w:(2:Nat) ^ 1<=2 ^ n:=Nat.pow_le_pow_right (by decide) h
 injection e with e
 injection e with e1 e2
 subst e1 e2
 exact⟨⟨by show 0<_;omega,by show 1<_;omega⟩,⟨by show 1<_;omega,by show 1<_;omega⟩⟩
theorem BdO.mono {n m:Nat}{o:Option (Rat × Rat)}(h:BdO n o)(k:n<=m):BdO m o:=λl u e=>by
 obtain⟨a,b⟩:=h l u e
 have w:(2:Nat) ^ n<=2 ^ m:=Nat.pow_le_pow_right (by decide) k
 exact⟨⟨Nat.lt_of_lt_of_le a.num w,Nat.lt_of_lt_of_le a.den w⟩,⟨Nat.lt_of_lt_of_le b.num w,Nat.lt_of_lt_of_le b.den w⟩⟩
theorem Le.sm {n:Nat}{i:Int}(h:Le n i):Sm n i:=h.lt
theorem LeR.mono {n m:Nat}{q:Rat}(h:LeR n q)(k:n<=m):LeR m q:=⟨Nat.lt_of_lt_of_le h.num (Nat.pow_le_pow_right (by decide) k),Nat.lt_of_lt_of_le h.den (Nat.pow_le_pow_right (by decide) k)⟩
end
section
def Nx (P:Hx.Env->Zd->Prop):ResS->Prop
 | .nx e s=>P e s
 | _=>False
@[simp] theorem nx_nx {P:Hx.Env->Zd->Prop}{e:Hx.Env}{s:Zd}:Nx P (.nx e s)=P e s:=rfl
theorem Nx.out {P:Hx.Env->Zd->Prop}{r:ResS}(h:Nx P r):∃ e s,r=.nx e s∧P e s:=by
 cases r with
 | nx e s=>exact⟨e,s,rfl,h⟩
 | _=>exact h.elim
theorem Nx.imp {P Q:Hx.Env->Zd->Prop}{r:ResS}(h:Nx P r)(k:∀ e s,P e s->Q e s):Nx Q r:=by
 cases r with
 | nx e s=>exact k _ _ h
 | _=>exact h.elim
variable {st:Zd}{c:Nat}{k:Nat}
theorem pull {n:Nat}(many:Int)(B:Bag k st c)(hk:k<2 ^ 100)(hm:0<many)(hn:many.natAbs<2 ^ n)(hn2:n<=1000):
  ∃ g st',ZV [(.z,.ref c),(.z,.int many)] st=.ok .z false (.int g) st' ∧ 0<=g∧g<many∧Le n g∧Bag (k+1) st' c∧Fro1 c st st':=by
 obtain⟨g,st',e,g0,g1,B',f⟩:=f_l_pull (many:=many) B hk hm (Sm.mono (n:=n) hn hn2)
 exact⟨g,st',e,g0,g1,⟨by omega⟩,B',f⟩
structure Spot (x y:Int):Prop where
 x0:-1000000<=x
 x1:x<=1000000
 y0:-1000000<=y
 y1:y<=1000000
theorem law_bag (ns:List Int)(hl:ns.length<=63):∃ d,Zcb [(.z,.con .frl (ns.map D.int))] []=.ok (.c .z) false (.con .lst d) []∧Bag 0 [(.c .z,.con .lst d)] 0:=by
 obtain⟨s,e,h0,h1⟩:=f_l_bag ns hl (st:=[])
 exact⟨_,e,ns,0,0,s,0,rfl,by omega,by omega,h0,h1,by omega,by omega⟩
end
abbrev B4 (l w r h:Int):D:=.con .tup [.int l,.int w,.int r,.int h]
section
variable {ax ay bx bY l w r h:Int}{st:Zd}
def bshO (l w r h ax ay bx bY:Int):Option (Rat × Rat):=if (Geo.bsh (l:Rat) w r h ax ay bx bY).isSome=true∧ax=bx∧ay=bY then some (0,0) else Geo.bsh l w r h ax ay bx bY
theorem bshO_some:(bshO l w r h ax ay bx bY).isSome=(Geo.bsh (l:Rat) w r h ax ay bx bY).isSome:=by
 unfold bshO
 split
 ·rename_i h;rw[h.1];rfl
 ·rfl
def hitB (l w r h ax ay bx bY:Int):Bool:=(bshO l w r h ax ay bx bY).isSome
theorem hitB_iff:hitB l w r h ax ay bx bY=true↔Geo.Zay (l:Rat) w r h ax ay bx bY:=by
 unfold hitB
 rw[bshO_some,Geo.bsh_span.some_iff]
 rfl
theorem f_l_one {c k:Nat}{ds:List D}{n:Nat}(B:Bag k st c)(hk:k<2 ^ 100)(h0:ds ≠ [])(hn:ds.length<2 ^ n)(hn2:n<=20):
  ∃ (g:Int) (d:D) (st':Zd),Uh [(.z,.ref c),(.z,.con .lst ds)] st=.ok .z false d st' ∧ 0<=g∧ds[g.toNat]?=some d∧g<ds.length∧Bag (k+1) st' c∧Fro1 c st st':=by
 have hl:0<ds.length:=List.length_pos_iff.mpr h0
 have hn3:2 ^ n<=2 ^ 20:=Nat.pow_le_pow_right (by decide) hn2
 obtain⟨g,s1,e1,g1,g2,_,B1,f1⟩:=pull (n:=n) (ds.length:Int) B hk (by omega) (by omega) (by omega)
 have hlt:g.toNat<ds.length:=by omega
 have ha:atI ds g=some ds[g.toNat]:=by
  have:=atI_nat (List.getElem?_eq_getElem hlt)
  rw[show ((g.toNat:Nat):Int)=g by omega] at this
  exact this
 refine⟨g,ds[g.toNat],s1,?_,g1,List.getElem?_eq_getElem hlt,g2,B1,f1⟩
 simp[Uh,e1,ha]
end
section
variable {st:Zd}
theorem q_parts (p:Rat):p=(p.num:Rat) / ((p.den:Int):Rat):=by
 rw[<- Rat.divInt_eq_div,Rat.num_divInt_den]
end
section
variable {st:Zd}{ax ay bx bY cx cy dx dy:Int}
end
section
variable {st:Zd}{f:Addr}{r:Fn}{P:Rat->Prop}{l h:Rat}
theorem Zdb (q:Rat):(0:Rat)<((q.den:Int):Rat):=by
 have:=q.den_pos
 exact_mod_cast this
def Tells (st:Zd)(r:Fn)(P:Rat->Prop):Prop:=∀ q,LeR 4000 q->∃ b,r [(.z,DR q)] st=.ok .z false (.bl b) st∧(b=true↔P q)
theorem Tells.no (t:Tells st r P){q:Rat}[k:LeR 4000 q](h:¬ P q):r [(.z,DR q)] st=.ok .z false (.bl false) st:=by
 obtain⟨b,e,i⟩:=t q k
 cases b with
 | true=>exact absurd (i.mp rfl) h
 | false=>exact e
end
section
variable {st:Zd}{f:Addr}{r:Fn}{P:Rat->Prop}{l h:Rat}
end
end Hx
namespace Geo
end Geo
namespace Hx
open PySem PySem.Spec L2
section
variable {st:Zd}{l w r h ax ay bx bY:Int}
end
theorem lc_fm {α:Type}{p:Pat}{c:DenB}{el:Den}{env:Hx.Env}{st:Zd}(f:α->D)(g:α->Option D):∀ (xs:List α) (acc:List D),
  (∀ x∈xs,∃ env1,ZX p .z (f x) env=some env1∧((g x=none∧c env1 st=.ok false st)∨∃ d,g x=some d∧c env1 st=.ok true st∧el env1 st=.ok .z false d st)) ->
  lcGo p c el (xs.map f) env st acc=.ok (.c .z) false (.con .lst (acc++xs.filterMap g)) st
 | [],acc,_=>by simp[lcGo]
 | x :: xs,acc,h=>by
  obtain⟨env1,e1,k⟩:=h x (by simp)
  have ih:=λacc=>lc_fm f g xs acc (λy hy=>h y (List.mem_cons_of_mem _ hy)) (p:=p) (c:=c) (el:=el) (env:=env) (st:=st)
  rw[List.map_cons,lcGo,e1]
  rcases k with ⟨e2,e3⟩ | ⟨d,e2,e3,e4⟩
  ·simp[e3,ih,List.filterMap_cons,e2]
  ·simp[e3,e4,ih,List.filterMap_cons,e2]
theorem UE {α:Type}{p:Pat}{el:Den}{env:Hx.Env}{st:Zd}(f:α->D)(g:α->D)(xs:List α)(acc:List D)
  (h:∀ x∈xs,∃ env1,ZX p .z (f x) env=some env1∧el env1 st=.ok .z false (g x) st) :
  lcGo p dYes el (xs.map f) env st acc=.ok (.c .z) false (.con .lst (acc++xs.map g)) st:=by
 have:=lc_fm (c:=dYes) (el:=el) (p:=p) (env:=env) (st:=st) f (λx=>some (g x)) xs acc λx hx=>by
  obtain⟨env1,e1,e2⟩:=h x hx
  exact⟨env1,e1,.inr ⟨g x,rfl,rfl,e2⟩⟩
 rw[this,List.filterMap_eq_map']
mutual
def nbP:Nat->PyData->Bool
 | _,.none=>true
 | _,.int _=>true
 | _,.str s=>PyData.strOk s
 | n+1,.tuple xs=>nbPs n xs
 | n+1,.list xs=>nbPs n xs
 | _,_=>false
def nbPs:Nat->List PyData->Bool
 | _,[]=>true
 | n,x :: xs=>nbP n x&&nbPs n xs
end
mutual
theorem eqv_iff:∀ (n m:Nat) (a b:PyData),nbP n a=true->nbP m b=true->(PyData.eqv a b=true↔a=b)
 | n,m,a,b,ha,hb=>by
  cases a<;>cases b<;>first
   | (simp[PyData.eqv];done)
   | (simp[nbP] at ha;done)
   | (simp[nbP] at hb;done)
   | skip
  ·rename_i xs ys
   cases n with
   | zero=>simp[nbP] at ha
   | succ n=>cases m with
    | zero=>simp[nbP] at hb
    | succ m=>simpa [PyData.eqv] using eqvs_iff n m xs ys (by simpa [nbP] using ha) (by simpa [nbP] using hb)
  ·rename_i xs ys
   cases n with
   | zero=>simp[nbP] at ha
   | succ n=>cases m with
    | zero=>simp[nbP] at hb
    | succ m=>simpa [PyData.eqv] using eqvs_iff n m xs ys (by simpa [nbP] using ha) (by simpa [nbP] using hb)
theorem eqvs_iff:∀ (n m:Nat) (a b:List PyData),nbPs n a=true->nbPs m b=true->(PyData.eqvAll a b=true↔a=b)
 | n,m,[],[],_,_=>by simp[PyData.eqvAll]
 | n,m,[],_ :: _,_,_=>by simp[PyData.eqvAll]
 | n,m,_ :: _,[],_,_=>by simp[PyData.eqvAll]
 | n,m,x :: xs,y :: ys,ha,hb=>by
  simp only[nbPs,Bool.and_eq_true] at ha hb
  simp[PyData.eqvAll,eqv_iff n m x y ha.1 hb.1,eqvs_iff n m xs ys ha.2 hb.2]
end
mutual
theorem shp:∀ (n:Nat) (a:PyData),nbP n a=true->a.canLay0=true∧a.depth<=n
 | n,a,h=>by
  cases a<;>first
   | (simp[PyData.canLay0,PyData.depth];done)
   | (simp[nbP] at h;done)
   | skip
  ·exact⟨by simpa [PyData.canLay0,nbP] using h,by simp[PyData.depth]⟩
  ·rename_i xs
   cases n with
   | zero=>simp[nbP] at h
   | succ n=>
    obtain⟨h1,h2⟩:=shps n xs (by simpa [nbP] using h)
    exact⟨by simpa [PyData.canLay0] using h1,by simp[PyData.depth];exact h2⟩
  ·rename_i xs
   cases n with
   | zero=>simp[nbP] at h
   | succ n=>
    obtain⟨h1,h2⟩:=shps n xs (by simpa [nbP] using h)
    exact⟨by simpa [PyData.canLay0] using h1,by simp[PyData.depth];exact h2⟩
theorem shps:∀ (n:Nat) (a:List PyData),nbPs n a=true->PyData.canLayAll0 a=true∧PyData.depthAll a<=n
 | n,[],_=>by simp[PyData.canLayAll0,PyData.depthAll]
 | n,x :: xs,h=>by
  simp only[nbPs,Bool.and_eq_true] at h
  obtain⟨h1,h2⟩:=shp n x h.1
  obtain⟨h3,h4⟩:=shps n xs h.2
  exact⟨by simp[PyData.canLayAll0,h1,h3],by simp[PyData.depthAll];omega⟩
end
def nb:Nat->D->Bool
 | _,.non=>true
 | _,.int _=>true
 | _,.str s=>PyData.strOk s
 | n+1,.con .tup ds=>ds.all (nb n)
 | n+1,.con .lst ds=>ds.all (nb n)
 | _,_=>false
mutual
def unpy:PyData->D
 | .none=>.non
 | .bool b=>.bl b
 | .int i=>.int i
 | .str s=>.str s
 | .tuple xs=>.con .tup (unpys xs)
 | .list xs=>.con .lst (unpys xs)
 | _=>.non
def unpys:List PyData->List D
 | []=>[]
 | x :: xs=>unpy x :: unpys xs
end
theorem pys_map {n:Nat}:∀ {ds:List D},(∀ d∈ds,∃ x,d.py=some x∧nbP n x=true∧unpy x=d)->∃ xs,D.pys ds=some xs∧nbPs n xs=true∧unpys xs=ds
 | [],_=>⟨[],rfl,rfl,rfl⟩
 | d :: ds,h=>by
  obtain⟨x,e1,e2,e6⟩:=h d (by simp)
  obtain⟨xs,e3,e4,e5⟩:=pys_map λz hz=>h z (List.mem_cons_of_mem _ hz)
  exact⟨x :: xs,by simp[D.pys,e1,e3],by simp[nbPs,e2,e4],by simp[unpys,e5,e6]⟩
theorem nb_py:∀ (n:Nat) (d:D),nb n d=true->∃ x,d.py=some x∧nbP n x=true∧unpy x=d
 | n,.non,_=>⟨.none,by simp[D.py],by simp[nbP],rfl⟩
 | n,.int i,_=>⟨.int i,by simp[D.py],by simp[nbP],rfl⟩
 | n,.str s,h=>⟨.str s,by simp[D.py],by simpa [nbP,nb] using h,rfl⟩
 | n,.bl _,h=>by simp[nb] at h
 | n,.ref _,h=>by simp[nb] at h
 | n,.fnv _ _,h=>by simp[nb] at h
 | 0,.con k ds,h=>by cases k<;>simp[nb] at h
 | n+1,.con k ds,h=>by
  cases k with
  | tup=>
   simp only[nb,List.all_eq_true] at h
   obtain⟨xs,e1,e2,e3⟩:=pys_map λd hd=>nb_py n d (h d hd)
   exact⟨.tuple xs,by simp[D.py,e1],by simpa [nbP] using e2,by simp[unpy,e3]⟩
  | lst=>
   simp only[nb,List.all_eq_true] at h
   obtain⟨xs,e1,e2,e3⟩:=pys_map λd hd=>nb_py n d (h d hd)
   exact⟨.list xs,by simp[D.py,e1],by simpa [nbP] using e2,by simp[unpy,e3]⟩
  | _=>simp[nb] at h
theorem eqD_nb {a b:D}(ha:nb 64 a=true)(hb:nb 64 b=true):∃ c,eqD a b=some c∧(c=true↔a=b):=by
 obtain⟨x,e1,h1,g1⟩:=nb_py _ _ ha
 obtain⟨y,e2,h2,g2⟩:=nb_py _ _ hb
 obtain⟨s1,d1⟩:=shp _ _ h1
 obtain⟨s2,d2⟩:=shp _ _ h2
 refine⟨PyData.eqv x y,by simp[eqD,e1,e2,SeqAt.shaped,s1,s2,d1,d2],?_⟩
 rw[eqv_iff _ _ _ _ h1 h2]
 constructor
 ·intro z
  rw[<- g1,<- g2,z]
 ·rintro rfl
  rw[e1] at e2
  exact Option.some.inj e2
theorem eqD_yes {a:D}(ha:nb 64 a=true):eqD a a=some true:=by
 obtain⟨c,e,h⟩:=eqD_nb ha ha
 rw[e,h.mpr rfl]
theorem eqD_not {a b:D}(ha:nb 64 a=true)(hb:nb 64 b=true)(h:a≠b):eqD a b=some false:=by
 obtain⟨c,e,k⟩:=eqD_nb ha hb
 cases c with
 | true=>exact absurd (k.mp rfl) h
 | false=>exact e
def LT (p q r:Bool):Str:=⟨((if p then [114] else [])++(if q then [103] else [])++(if r then [98] else [])).toArray⟩
section
variable {p q r p' q' r':Bool}{st:Zd}{a b c:Int}
def T3 (a b c:Int):D:=.con .tup [.int a,.int b,.int c]
def sftI (p:Bool)(a:Int):Int:=if p then a else 0
abbrev Col (a:Int):Prop:=0<=a∧a<=1000000
def Tt (x:Int × Int × Int):D:=T3 x.1 x.2.1 x.2.2
end
abbrev NI (l:List Nat):List D:=l.map λ(n:Nat)=>D.int (n:Int)
def prd:List Nat->Nat
 | []=>1
 | c :: rc=>prd rc * c
def dig:List Nat->Nat->List Nat
 | [],_=>[]
 | c :: rc,g=>(g % c) :: dig rc (g / c)
def rw_ (rc:List Nat)(g:Nat):List Nat:=(dig rc g).reverse
def rD (rc:List Nat)(g:Nat):D:=.con .tup (NI (rw_ rc g))
def RD (rc:List Nat):List D:=(List.range (prd rc)).map (rD rc)
section
variable {st:Zd}
theorem Zce {c:Nat}:Zt 0 (c:Int)=NI (List.range c):=by
 simp[Zt]
end
section
variable {st:Zd}
end
@[simp] theorem seq_dik {ks:List Key}:Kd.seq (.dik ks)=false:=rfl
@[simp] theorem seq_ins {c:Nat}:Kd.seq (.ins c)=false:=rfl
@[simp] theorem blt_dec {x y:Nat}:Nat.blt x y=decide (x<y):=by rw[Bool.eq_iff_iff];simp[Nat.blt_eq]
@[simp] theorem zs0:zs 0=[]:=rfl
@[simp] theorem zs1:zs 1=[.z]:=rfl
@[simp] theorem zs5:zs 5=[.z,.z,.z,.z,.z]:=rfl
@[simp] theorem zs6:zs 6=[.z,.z,.z,.z,.z,.z]:=rfl
@[simp] theorem zs2:zs 2=[.z,.z]:=rfl
@[simp] theorem zs3:zs 3=[.z,.z,.z]:=rfl
@[simp] theorem zs4:zs 4=[.z,.z,.z,.z]:=rfl
theorem toNat_inj {a b:Char}(h:a.toNat=b.toNat):a=b:=Char.toNat_inj.mp h
@[simp] theorem ofS_eq {a b:String}:(Str.ofString a=Str.ofString b)=(a=b):=by
 apply propext
 constructor
 ·intro h
  rw[Str.ofString_eq_toList,Str.ofString_eq_toList] at h
  have h1:=Str.mk.inj h
  have h2:=congrArg Array.toList h1
  exact String.toList_inj.mp ((List.map_inj_right λ_ _=>toNat_inj).mp h2)
 ·intro h;rw[h]
section
variable {α β:Type}
def nk (l:List (Int × α)):List Key:=l.map λx=>.inl x.1
def nv (f:α->D)(l:List (Int × α)):List D:=l.map λx=>f x.2
abbrev dcA (f:α->D)(l:List (Int × α)):D:=.con (.dik (nk l)) (nv f l)
def Ris (l:List (Int × α)):Prop:=l.Pairwise λx y=>x.1<y.1
def Blw (l:List (Int × α))(c:Int):Prop:=∀ x∈l,x.1<c
@[simp] theorem nk_nil:nk ([]:List (Int × α))=[]:=rfl
@[simp] theorem nv_nil {f:α->D}:nv f []=[]:=rfl
theorem Ris.nil:Ris ([]:List (Int × α)):=List.Pairwise.nil
theorem Blw.nil {c:Int}:Blw ([]:List (Int × α)) c:=λ_ h=>absurd h (by simp)
theorem Blw.mono {l:List (Int × α)}{c c':Int}(h:Blw l c)(k:c<=c'):Blw l c':=λx hx=>by have:=h x hx;omega
theorem Blw.snoc {l:List (Int × α)}{c:Int}{x:α}(h:Blw l c):Blw (l ++ [(c,x)]) (c+1):=λy hy=>by
 rcases List.mem_append.mp hy with hy | hy
 ·have:=h y hy;omega
 ·rw[List.mem_singleton] at hy;subst hy;show c<c+1;omega
theorem Ris.snoc {l:List (Int × α)}{c:Int}{x:α}(r:Ris l)(h:Blw l c):Ris (l ++ [(c,x)]):=
 List.pairwise_append.mpr ⟨r,List.pairwise_singleton _ _,λa ha b hb=>by rw[List.mem_singleton] at hb;subst hb;exact h a ha⟩
end
section
variable {x y z w v u:D}{xs:List D}
@[simp] theorem cut4_1:cutD [x,y,z,w] (some 1) none=[y,z,w]:=rfl
@[simp] theorem cut5_1:cutD [x,y,z,w,v] (some 1) none=[y,z,w,v]:=rfl
@[simp] theorem cut6_1:cutD [x,y,z,w,v,u] (some 1) none=[y,z,w,v,u]:=rfl
@[simp] theorem cut5_2:cutD [x,y,z,w,v] (some 2) none=[z,w,v]:=rfl
@[simp] theorem cut3_h2:cutD [x,y,z] none (some 2)=[x,y]:=rfl
@[simp] theorem cut6_13:cutD [x,y,z,w,v,u] (some 1) (some 3)=[y,z]:=rfl
@[simp] theorem cut6_35:cutD [x,y,z,w,v,u] (some 3) (some 5)=[w,v]:=rfl
end
abbrev cmD (a b c d:Int):D:=.con (.dik [.inr (Str.ofString "lamp"),.inr (Str.ofString "post"),.inr (Str.ofString "pane"),.inr (Str.ofString "look")]) [.int a,.int b,.int c,.int d]
abbrev StD (la po pa me no:D)(a b c d:Int):D:=.con (.ins 25) [.con .tup [la,po,pa],me,no,cmD a b c d]
section
variable {la po pa me no x:D}{a b c d:Int}{st:Zd}
variable {α:Type}{f:α->D}{l:List (Int × α)}{t:α}
end
section
variable {α β:Type}
def getN (l:List (Int × α))(n:Int):Option α:=(l.find? λx=>decide (x.1=n)).map (·.2)
end
structure Ch where
 (x y r g b:Int)
 deriving DecidableEq
structure Lf where
 (e n:Int)
 bn:Bool
structure Lm where
 ch:List Ch
 (e n:Int)
 bn:Bool
structure Po where
 (l w r h:Int)
structure Pa where
 (ax ay bx bY:Int)
 (p q r:Bool)
def Ch.d (c:Ch):D:=.con .tup [.int c.x,.int c.y,.int c.r,.int c.g,.int c.b]
def Lf.d (l:Lf):D:=.con .tup [.int l.e,.int l.n,.bl l.bn]
def Lm.f (l:Lm):D:=.con .tup [.int l.e,.int l.n,.bl l.bn]
def Lm.m (l:Lm):D:=.con .tup (l.ch.map Ch.d)
def Lm.w (l:Lm):D:=.con .tup [.con .tup (l.ch.map Ch.d),.int l.e,.int l.n,.bl l.bn]
def Po.d (p:Po):D:=.con .tup [.int p.l,.int p.w,.int p.r,.int p.h]
def Pa.d (p:Pa):D:=.con .tup [P2 p.ax p.ay,P2 p.bx p.bY,.str (LT p.p p.q p.r)]
structure Sn where
 la:List (Int × Lf)
 po:List (Int × Po)
 pa:List (Int × Pa)
def Sn.d (s:Sn):D:=.con .tup [dcA Lf.d s.la,dcA Po.d s.po,dcA Pa.d s.pa]
structure Lk where
 (x y r g b:Int)
 fl:Sn
def Lk.d (l:Lk):D:=.con .tup [P2 l.x l.y,T3 l.r l.g l.b,l.fl.d]
structure HM where
 la:List (Int × Lm)
 po:List (Int × Po)
 pa:List (Int × Pa)
 no:List (Int × Lk)
 (a b c d:Int)
abbrev HM.fl (m:HM):D:=.con .tup [dcA Lm.f m.la,dcA Po.d m.po,dcA Pa.d m.pa]
abbrev HM.std (m:HM):D:=StD (dcA Lm.f m.la) (dcA Po.d m.po) (dcA Pa.d m.pa) (dcA Lm.m m.la) (dcA Lk.d m.no) m.a m.b m.c m.d
def HM.new:HM:=⟨[],[],[],[],1,1,1,1⟩
def Ok6 (x:Int):Prop:=-1000000<=x∧x<=1000000
instance {x:Int}:Decidable (Ok6 x):=inferInstanceAs (Decidable (_∧_))
def Cl (n x:Int):Prop:=0<=x∧x<=n
instance {n x:Int}:Decidable (Cl n x):=inferInstanceAs (Decidable (_∧_))
inductive Dd
 | lamp (c:Ch)
 | unsure (cs:List Ch)
 | post (p:Po)
 | pane (ax ay bx bY:Int) (s:Str)
 | move (w:Str) (n r u:Int)
 | switch (n:Int)
 | drop (w:Str) (n:Int)
 | look (x y r g b:Int)
 | strike (n:Int)
 | settle (n k:Int)
def Dd.d:Dd->D
 | .lamp c=>.con .tup [.str (Str.ofString "lamp"),.int c.x,.int c.y,.int c.r,.int c.g,.int c.b]
 | .unsure cs=>.con .tup [.str (Str.ofString "unsure"),.con .tup (cs.map Ch.d)]
 | .post p=>.con .tup [.str (Str.ofString "post"),.int p.l,.int p.w,.int p.r,.int p.h]
 | .pane ax ay bx bY s=>.con .tup [.str (Str.ofString "pane"),.int ax,.int ay,.int bx,.int bY,.str s]
 | .move w n r u=>.con .tup [.str (Str.ofString "move"),.str w,.int n,.int r,.int u]
 | .switch n=>.con .tup [.str (Str.ofString "switch"),.int n]
 | .drop w n=>.con .tup [.str (Str.ofString "drop"),.str w,.int n]
 | .look x y r g b=>.con .tup [.str (Str.ofString "look"),.int x,.int y,.int r,.int g,.int b]
 | .strike n=>.con .tup [.str (Str.ofString "strike"),.int n]
 | .settle n k=>.con .tup [.str (Str.ofString "settle"),.int n,.int k]
inductive Rf
 | place | light | sift | block | piece | menu | choice | sort | deed | noth (w:Str) (n:Int) | nolook (n:Int) | full | looked (n:Int)
def Rf.c:Rf->Nat
 | .place=>3 | .light=>4 | .sift=>5 | .block=>6 | .piece=>7 | .menu=>8 | .choice=>9 | .sort=>11 | .deed=>12 | .noth _ _=>18 | .nolook _=>19 | .full=>21 | .looked _=>22
def Rf.a:Rf->List D
 | .place=>[.str (Str.ofString "badplace")] | .light=>[.str (Str.ofString "badlight")] | .sift=>[.str (Str.ofString "badsift")] | .block=>[.str (Str.ofString "badblock")]
 | .piece=>[.str (Str.ofString "badpiece")] | .menu=>[.str (Str.ofString "badmenu")] | .choice=>[.str (Str.ofString "badchoice")] | .sort=>[.str (Str.ofString "badsort")] | .deed=>[.str (Str.ofString "baddeed")]
 | .noth w n=>[.str (Str.ofString "nothing"),.str w,.int n] | .nolook n=>[.str (Str.ofString "nolook"),.int n] | .full=>[.str (Str.ofString "full")] | .looked n=>[.str (Str.ofString "looked"),.int n]
abbrev sL:Str:=Str.ofString "lamp"
abbrev sP:Str:=Str.ofString "post"
abbrev sN:Str:=Str.ofString "pane"
def Ch.sh (c:Ch)(e n:Int):Ch:=⟨c.x+e,c.y+n,c.r,c.g,c.b⟩
def cntL (la:List (Int × Lm)):List Nat:=(la.filter λx=>decide (1<x.2.ch.length)).map λx=>x.2.ch.length
def HM.cnt (m:HM):List Nat:=cntL m.la
structure HM.Nu (m:HM):Prop where
 la:Ris m.la
 po:Ris m.po
 pa:Ris m.pa
 no:Ris m.no
 la1:Blw m.la m.a
 po1:Blw m.po m.b
 pa1:Blw m.pa m.c
 no1:Blw m.no m.d
 l1:m.la.length<=12
 l2:m.po.length<=12
 l3:m.pa.length<=12
 l4:m.no.length<=24
section
variable {st:Zd}{m:HM}
end
section
variable {st:Zd}{m:HM}
@[simp] theorem cut4_h2 {x y z w:D}:cutD [x,y,z,w] none (some 2)=[x,y]:=rfl
@[simp] theorem cut4_2 {x y z w:D}:cutD [x,y,z,w] (some 2) none=[z,w]:=rfl
end
section
variable {st:Zd}{m:HM}
@[simp] theorem cut3_1 {x y z:D}:cutD [x,y,z] (some 1) none=[y,z]:=rfl
@[simp] theorem cut2_1 {x y:D}:cutD [x,y] (some 1) none=[y]:=rfl
end
section
variable {st:Zd}{m:HM}
end
section
variable {st:Zd}{m:HM}
end
section
variable {st:Zd}{m:HM}
@[simp] theorem ofS_beq {a b:String}:(Str.ofString a==Str.ofString b)=decide (a=b):=by rw[Bool.eq_iff_iff];simp
@[simp] theorem cut6_3 {x y z w v u:D}:cutD [x,y,z,w,v,u] (some 3) none=[w,v,u]:=rfl
end
structure Ch.Ok (c:Ch):Prop where
 x:Ok6 c.x
 y:Ok6 c.y
 r:Col c.r
 g:Col c.g
 b:Col c.b
structure Po.Ok (p:Po):Prop where
 l:Ok6 p.l
 w:Ok6 p.w
 r:Ok6 p.r
 h:Ok6 p.h
 lr:p.l<=p.r
 wh:p.w<=p.h
structure Pa.Ok (p:Pa):Prop where
 ax:Ok6 p.ax
 ay:Ok6 p.ay
 bx:Ok6 p.bx
 bY:Ok6 p.bY
 ne:p.ax≠p.bx∨p.ay≠p.bY
def Ch.at (c:Ch)(l:Lm):Ch:=c.sh l.e l.n
structure Lk.Ok (m:HM)(k:Lk):Prop where
 x:Ok6 k.x
 y:Ok6 k.y
 r:Cl 12000000 k.r
 g:Cl 12000000 k.g
 b:Cl 12000000 k.b
 rla:Ris k.fl.la
 rpo:Ris k.fl.po
 rpa:Ris k.fl.pa
 po:∀ x∈k.fl.po,x.2.Ok
 pa:∀ x∈k.fl.pa,x.2.Ok
 l1:k.fl.la.length<=12
 l2:k.fl.po.length<=12
 l3:k.fl.pa.length<=12
 lam:∀ z∈k.fl.la,∃ l,getN m.la z.1=some l∧∀ c∈l.ch,(c.sh z.2.e z.2.n).Ok
structure HM.Ok (m:HM):Prop where
 nu:m.Nu
 la:∀ x∈m.la,∀ c∈x.2.ch,(c.at x.2).Ok
 ne:∀ x∈m.la,x.2.ch ≠ []
 c6:∀ x∈m.la,x.2.ch.length<=6
 po:∀ x∈m.po,x.2.Ok
 pa:∀ x∈m.pa,x.2.Ok
 no:∀ x∈m.no,x.2.Ok m
 pr:m.cnt.foldl (· * ·) 1<=200
theorem HM.Ok.l1 {m:HM}(h:m.Ok):m.la.length<=12:=h.nu.l1
theorem HM.Ok.l2 {m:HM}(h:m.Ok):m.po.length<=12:=h.nu.l2
theorem HM.Ok.l3 {m:HM}(h:m.Ok):m.pa.length<=12:=h.nu.l3
section
variable {α:Type}
end
theorem Lk.Ok.map {m m':HM}{k:Lk}(h:k.Ok m)(f:∀ z∈k.fl.la,∀ l,getN m.la z.1=some l->∃ l',getN m'.la z.1=some l' ∧ ∀ c∈l'.ch,c∈l.ch):k.Ok m':=
 ⟨h.x,h.y,h.r,h.g,h.b,h.rla,h.rpo,h.rpa,h.po,h.pa,h.l1,h.l2,h.l3,λz hz=>by
  obtain⟨l,e,k⟩:=h.lam z hz
  obtain⟨l',e',k'⟩:=f z hz l e
  exact⟨l',e',λc hc=>k c (k' c hc)⟩⟩
section
variable {m:HM}
end
def Dd.ofPa (p:Pa):Dd:=.pane p.ax p.ay p.bx p.bY (LT p.p p.q p.r)
inductive Dd.Ok:Dd->Prop
 | lamp {c:Ch} (h:c.Ok):Dd.Ok (.lamp c)
 | post {p:Po} (h:p.Ok):Dd.Ok (.post p)
 | pane {p:Pa} (h:p.Ok):Dd.Ok (.ofPa p)
section
variable {st:Zd}{m:HM}
abbrev pe (x:D × HM):D:=.con .tup [x.1,x.2.std]
def hsD (m:HM)(p g:List (D × HM)):Fr × D:=(.o [.z,.c .z,.c .z,.z],.con (.ins 24) [m.std,.con .lst (p.map pe),.con .lst (g.map pe),.bl false])
def HX (st:Zd)(c:Nat)(m:HM)(p g:List (D × HM)):Prop:=st[c]?=some (hsD m p g)
theorem HX.ix {c:Nat}{p g:List (D × HM)}(h:HX st c m p g):∃ hc:c<st.length,st[c]=(.o [.z,.c .z,.c .z,.z],.con (.ins 24) [m.std,.con .lst (p.map pe),.con .lst (g.map pe),.bl false]):=List.getElem?_eq_some_iff.mp h
theorem HX.ins {c:Nat}{p g:List (D × HM)}(h:HX st c m p g):insAt 24 st (.ref c)=some ([.z,.c .z,.c .z,.z],[m.std,.con .lst (p.map pe),.con .lst (g.map pe),.bl false]):=by
 obtain⟨hc,e⟩:=h.ix
 simp[insAt,hc,e]
structure HC (k:Nat)(st:Zd)(c:Nat)(m:HM):Prop where
 ex:∃ p g,HX st c m p g∧p.length<=k
theorem HC.mono {k j c:Nat}(h:HC k st c m)(hk:k<=j):HC j st c m:=by
 obtain⟨p,g,e,l⟩:=h.ex
 exact⟨p,g,e,by omega⟩
theorem HC.ins {k c:Nat}(h:HC k st c m):∃ p g:List (D × HM),insAt 24 st (.ref c)=some ([.z,.c .z,.c .z,.z],[m.std,.con .lst (p.map pe),.con .lst (g.map pe),.bl false]):=by
 obtain⟨p,g,e,l⟩:=h.ex
 exact⟨p,g,e.ins⟩
end
structure FroG (c:Nat)(st st':Zd):Prop where
 len:st.length<=st'.length
 at_:∀ j,j<st.length->j≠c->st'[j]?=st[j]?
theorem FroG.refl {c:Nat}{st:Zd}:FroG c st st:=⟨Nat.le_refl _,λ_ _ _=>rfl⟩
theorem Fro1.g {c:Nat}{st st':Zd}(f:Fro1 c st st'):FroG c st st':=⟨by rw[f.len];exact Nat.le_refl _,λj _ h=>f.at_ j h⟩
theorem FroG.trans {c:Nat}{s1 s2 s3:Zd}(a:FroG c s1 s2)(b:FroG c s2 s3):FroG c s1 s3:=
 ⟨Nat.le_trans a.len b.len,λj hj h=>(b.at_ j (Nat.lt_of_lt_of_le hj a.len) h).trans (a.at_ j hj h)⟩
theorem FroG.app {c:Nat}{st:Zd}{x:Fr × D}:FroG c st (st ++ [x]):=⟨by simp,λj hj _=>List.getElem?_append_left hj⟩
theorem FroG.set {c r:Nat}{st s:Zd}{x:Fr × D}(f:FroG c st s)(hr:st.length<=r):FroG c st (s.set r x):=
 ⟨by rw[List.length_set];exact f.len,λj hj h=>by rw[List.getElem?_set_ne (by omega)];exact f.at_ j hj h⟩
theorem Bag.lt {k c:Nat}{st:Zd}(B:Bag k st c):c<st.length:=by
 obtain⟨xs,i,h,s,n,e,_⟩:=B.ex
 exact (List.getElem?_eq_some_iff.mp e).1
theorem Bag.set {k c r:Nat}{st:Zd}{x:Fr × D}(B:Bag k st c)(h:r≠c):Bag k (st.set r x) c:=by
 obtain⟨xs,i,h',s,n,e,a⟩:=B.ex
 exact⟨xs,i,h',s,n,by rw[List.getElem?_set_ne h];exact e,a⟩
theorem Bag.app {k c:Nat}{st:Zd}{x:Fr × D}(B:Bag k st c):Bag k (st ++ [x]) c:=by
 have hc:=B.lt
 obtain⟨xs,i,h',s,n,e,a⟩:=B.ex
 exact⟨xs,i,h',s,n,by rw[List.getElem?_append_left hc];exact e,a⟩
section
variable {st:Zd}{c k:Nat}
variable {wd a b:Int}
end
theorem lc_draw {α:Type}{p:Pat}{el:Den}{env:Hx.Env}{g:α->D}{P:α->Prop}{w c K:Nat}(hd:∀ k st d,k+w<=K->Bag k st c->∃ env1 x st',ZX p .z d env=some env1∧el env1 st=.ok .z false (g x) st' ∧ P x∧Bag (k+w) st' c∧FroG c st st'):
  ∀ (items:List D) (k:Nat) (st:Zd) (acc:List D),Bag k st c->k+w * items.length<=K ->
  ∃ (xs:List α) (st':Zd),lcGo p dYes el items env st acc=.ok (.c .z) false (.con .lst (acc++xs.map g)) st' ∧ xs.length=items.length∧(∀ x∈xs,P x)∧Bag (k+w * items.length) st' c∧FroG c st st'
 | [],k,st,acc,B,hk=>⟨[],st,by simp[lcGo],rfl,λ_ h=>absurd h (by simp),B,FroG.refl⟩
 | d :: items,k,st,acc,B,hk=>by
  rw[List.length_cons,Nat.mul_succ] at hk
  obtain⟨env1,x,s1,e1,e2,px,B1,f1⟩:=hd k st d (by omega) B
  obtain⟨xs,s2,e3,hl,pxs,B2,f2⟩:=lc_draw hd items (k+w) s1 (acc ++ [g x]) B1 (by omega)
  refine⟨x :: xs,s2,?_,by simp[hl],λy hy=>?_,?_,f1.trans f2⟩
  ·rw[lcGo,e1]
   simp[dYes,e2,e3]
  ·rcases List.mem_cons.mp hy with rfl | h
   ·exact px
   ·exact pxs y h
  ·rw[List.length_cons,Nat.mul_succ]
   rw[show k+(w * items.length+w)=k+w+w * items.length by omega]
   exact B2
section
variable {st:Zd}{c k:Nat}{wd a b:Int}
end
def HM.One (m:HM):Prop:=∀ x∈m.la,∃ c,x.2.ch=[c]
section
variable {st:Zd}{c k:Nat}
end
def siftP (t:Int × Int × Int)(p:Pa):Int × Int × Int:=(sftI p.p t.1,sftI p.q t.2.1,sftI p.r t.2.2)
def Uw (lx ly sx sy:Int)(p:Pa):Bool:=cutB p.ax p.ay p.bx p.bY lx ly sx sy
def hitP (lx ly sx sy:Int)(p:Po):Bool:=hitB p.l p.w p.r p.h lx ly sx sy
def through (lx ly sx sy:Int)(pas:List (Int × Pa))(t:Int × Int × Int):Int × Int × Int:=pas.foldl (λt p=>if Uw lx ly sx sy p.2 then siftP t p.2 else t) t
def ZaN (pos:List (Int × Po))(pas:List (Int × Pa))(sx sy:Int)(c:Ch):Int × Int × Int:=
 if pos.any (λp=>hitP c.x c.y sx sy p.2) then (0,0,0) else through c.x c.y sx sy pas (c.r,c.g,c.b)
def lightS (bs:List (Int × Ch))(pos:List (Int × Po))(pas:List (Int × Pa))(sx sy:Int):Int × Int × Int:=
 let xs:=bs.map λb=>ZaN pos pas sx sy b.2
 ((xs.map (·.1)).sum,(xs.map (·.2.1)).sum,(xs.map (·.2.2)).sum)
section
variable {st:Zd}{m:HM}{sx sy:Int}
structure PoL (p:Po):Prop where
 l:Le 900 p.l
 w:Le 900 p.w
 r:Le 900 p.r
 h:Le 900 p.h
structure PaL (p:Pa):Prop where
 ax:Le 900 p.ax
 ay:Le 900 p.ay
 bx:Le 900 p.bx
 bY:Le 900 p.bY
end
def dfl:Ch:=⟨0,0,0,0,0⟩
def isO (l:Lm):Bool:=decide (1<l.ch.length)
def RowOk:List (Int × Lm)->List Nat->Prop
 | [],r=>r=[]
 | x :: l,r=>if isO x.2 then ∃ k r',r=k :: r' ∧ k<x.2.ch.length∧RowOk l r' else RowOk l r
def c0 (x:Int × Lm):Ch:=x.2.ch.headD ⟨0,0,0,0,0⟩
theorem row_one:∀ {la:List (Int × Lm)},(∀ x∈la,isO x.2=false)->RowOk la []
 | [],_=>rfl
 | x :: l,h=>by
  have c:=h x (by simp)
  unfold RowOk
  rw[c,if_neg (by decide)]
  exact row_one λy hy=>h y (by simp[hy])
section
variable {st:Zd}{m:HM}{sx sy:Int}
theorem HM.Ok.cl (ok:m.Ok):m.cnt.length<=12:=by
 have h:=ok.l1
 have h2:m.cnt.length<=m.la.length:=by simp[HM.cnt,cntL,List.length_filter_le]
 omega
theorem One.closed (one:m.One):∀ x∈m.la,isO x.2=false:=λx hx=>by
 obtain⟨c,hc⟩:=one x hx
 simp[isO,hc]
theorem One.cnt (one:m.One):m.cnt=[]:=by
 unfold HM.cnt cntL
 rw[List.map_eq_nil_iff,List.filter_eq_nil_iff]
 intro x hx
 have:=One.closed one x hx
 unfold isO at this
 rw[this];decide
theorem One.row (one:m.One):RowOk m.la []:=row_one (One.closed one)
end
section
variable {st:Zd}{m:HM}{sx sy:Int}
end
section
variable {st:Zd}{m:HM}{c k:Nat}
end
def Pl (R:Res):Prop:=(∃ d s,R=.ok .z false d s)∨∃ k ds s,R=.exc k ds s
theorem Pl.ok {d:D}{s:Zd}:Pl (.ok .z false d s):=.inl ⟨d,s,rfl⟩
theorem Pl.x {k:Nat}{ds:List D}{s:Zd}:Pl (.exc k ds s):=.inr ⟨k,ds,s,rfl⟩
section
variable {st:Zd}{m:HM}{c:Nat}{y0:List Fr × List D}{R:Res}
end
section
variable {st:Zd}{k c:Nat}
end
structure Keep (P:Nat->Prop)(st st':Zd):Prop where
 len:st.length<=st'.length
 at_:∀ j,j<st.length->¬ P j->st'[j]?=st[j]?
theorem Keep.refl {P:Nat->Prop}{st:Zd}:Keep P st st:=⟨Nat.le_refl _,λ_ _ _=>rfl⟩
theorem Keep.trans {P:Nat->Prop}{s1 s2 s3:Zd}(a:Keep P s1 s2)(b:Keep P s2 s3):Keep P s1 s3:=
 ⟨Nat.le_trans a.len b.len,λj hj h=>(b.at_ j (Nat.lt_of_lt_of_le hj a.len) h).trans (a.at_ j hj h)⟩
theorem Keep.mono {P Q:Nat->Prop}{st st':Zd}(a:Keep P st st')(h:∀ j,j<st.length->P j->Q j):Keep Q st st':=⟨a.len,λj hj hq=>a.at_ j hj λhp=>hq (h j hj hp)⟩
theorem Fro1.keep {c:Nat}{st st':Zd}(f:Fro1 c st st'):Keep (λj=>j=c) st st':=⟨by rw[f.len];exact Nat.le_refl _,λj _ h=>f.at_ j h⟩
theorem FroG.keep {c:Nat}{st st':Zd}(f:FroG c st st'):Keep (λj=>j=c) st st':=⟨f.len,λj hj h=>f.at_ j hj h⟩
theorem Keep.app {P:Nat->Prop}{st l:Zd}:Keep P st (st++l):=⟨by simp,λj hj _=>List.getElem?_append_left hj⟩
theorem Bag.keep {k c:Nat}{P:Nat->Prop}{st st':Zd}(B:Bag k st c)(f:Keep P st st')(h:¬ P c):Bag k st' c:=by
 have hc:=B.lt
 obtain⟨xs,i,h',s,n,e,a⟩:=B.ex
 exact⟨xs,i,h',s,n,by rw[f.at_ c hc h];exact e,a⟩
section
variable {st:Zd}{m:HM}
theorem HX.lt {c:Nat}{p g:List (D × HM)}(h:HX st c m p g):c<st.length:=(List.getElem?_eq_some_iff.mp h).1
theorem HC.lt {c k:Nat}(h:HC k st c m):c<st.length:=by obtain⟨p,g,e,_⟩:=h.ex;exact e.lt
theorem HX.keep {c:Nat}{P:Nat->Prop}{st':Zd}{p g:List (D × HM)}(h:HX st c m p g)(f:Keep P st st')(hn:¬ P c):HX st' c m p g:=by
 unfold HX;rw[f.at_ c h.lt hn];exact h
theorem HC.keep {c k:Nat}{P:Nat->Prop}{st':Zd}(h:HC k st c m)(f:Keep P st st')(hn:¬ P c):HC k st' c m:=by
 obtain⟨p,g,e,l⟩:=h.ex
 exact⟨p,g,e.keep f hn,l⟩
def sum3 (l:List (Int × Int × Int)):Int × Int × Int:=((l.map (·.1)).sum,(l.map (·.2.1)).sum,(l.map (·.2.2)).sum)
def B3 (n:Int)(t:Int × Int × Int):Prop:=(0<=t.1∧t.1<=n)∧(0<=t.2.1∧t.2.1<=n)∧(0<=t.2.2∧t.2.2<=n)
end
end Hx
namespace Geo
section
variable {px py ax ay bx bY cx cy dx dy l w r h s x y:Rat}
def PDark (px py cx cy dx dy ax ay bx bY s:Rat):Prop:=Meets px py (pt ax bx s) (pt ay bY s) cx cy dx dy
def BDark (px py l w r h ax ay bx bY s:Rat):Prop:=Zay l w r h px py (pt ax bx s) (pt ay bY s)
end
end Geo
namespace Geo
section
variable {px py ax ay bx bY cx cy dx dy l w r h s x y qx qy:Rat}
end
end Geo
namespace Geo
section
variable {px py ax ay bx bY cx cy dx dy l w r h s x y qx qy wx wy e:Rat}
end
end Geo
namespace Hx
open PySem PySem.Spec L2
abbrev pD (c:Int × Int):D:=P2 c.1 c.2
section
variable {st:Zd}{ax ay bx bY px py cx cy x y l w r h:Int}
variable {cs:List (Int × Int)}
end
end Hx
namespace Geo
theorem key_mul {m a b:Rat}(hq:0<m):a * m<=b * m↔a<=b:=⟨λz=>by
  refine Rat.not_lt.mp λk=>?_
  have:=Rat.mul_lt_mul_of_pos_right k hq
  grind,λz=>Rat.mul_le_mul_of_nonneg_right z (Rat.le_of_lt hq)⟩
theorem bmeets_mul {m l w r h ax ay bx bY:Rat}(hm:0<m):Zay (l * m) (w * m) (r * m) (h * m) (ax * m) (ay * m) (bx * m) (bY * m)↔Zay l w r h ax ay bx bY:=by
 unfold Zay InB
 have e:∀ {a b s:Rat},pt (a * m) (b * m) s=pt a b s * m:=by intros;unfold pt;grind
 simp only[e,key_mul hm]
theorem meets_mul {m cx cy dx dy ax ay bx bY:Rat}(hm:0<m):Meets (ax * m) (ay * m) (bx * m) (bY * m) (cx * m) (cy * m) (dx * m) (dy * m)↔Meets ax ay bx bY cx cy dx dy:=by
 unfold Meets On
 have e:∀ {a b s:Rat},pt (a * m) (b * m) s=pt a b s * m:=by intros;unfold pt;grind
 simp only[e]
 have c:∀ {x y:Rat},x * m=y * m↔x=y:=by
  intro x y
  constructor
  ·intro z
   have:=key_mul hm (a:=x) (b:=y)
   have:=key_mul hm (a:=y) (b:=x)
   grind
  ·rintro rfl;rfl
 constructor
 ·rintro⟨s,hs,t,t0,t1,e1,e2⟩
  exact⟨s,hs,t,t0,t1,c.mp (by rw[e1];grind),c.mp (by rw[e2];grind)⟩
 ·rintro⟨s,hs,t,t0,t1,e1,e2⟩
  exact⟨s,hs,t,t0,t1,by rw[e1];grind,by rw[e2];grind⟩
end Geo
namespace Hx
open PySem PySem.Spec L2
section
variable {st:Zd}{ax ay bx bY px py cx cy dx dy x y l w r h:Int}
theorem Zbe {q:Rat}:((ax * q.den+(bx - ax) * q.num:Int):Rat)=Geo.pt ax bx q * ((q.den:Int):Rat):=by
 have e3:(q.num:Rat)=q * ((q.den:Int):Rat):=by
  have hm:((q.den:Int):Rat)≠0:=by
   have:=q.den_nz
   intro z;exact this (by exact_mod_cast z)
  have:=q_parts q;grind
 simp only[Rat.intCast_add,Rat.intCast_mul,Rat.intCast_sub,e3]
 unfold Geo.pt;grind
def bdB (px py l w r h ax ay bx bY:Int)(q:Rat):Bool:=
 hitB (l * q.den) (w * q.den) (r * q.den) (h * q.den) (px * q.den) (py * q.den) (ax * q.den+(bx - ax) * q.num) (ay * q.den+(bY - ay) * q.num)
def pdB (px py cx cy dx dy ax ay bx bY:Int)(q:Rat):Bool:=
 cutB (px * q.den) (py * q.den) (ax * q.den+(bx - ax) * q.num) (ay * q.den+(bY - ay) * q.num) (cx * q.den) (cy * q.den) (dx * q.den) (dy * q.den)
theorem bdB_iff {q:Rat}:bdB px py l w r h ax ay bx bY q=true↔Geo.BDark (px:Rat) py l w r h ax ay bx bY q:=by
 unfold bdB
 rw[hitB_iff,Zbe,Zbe]
 simp only[Rat.intCast_mul]
 rw[Geo.bmeets_mul (Zdb q)]
 rfl
theorem pdB_iff {q:Rat}:pdB px py cx cy dx dy ax ay bx bY q=true↔Geo.PDark (px:Rat) py cx cy dx dy ax ay bx bY q:=by
 unfold pdB
 rw[ZbY,Zbe,Zbe]
 simp only[Rat.intCast_mul]
 rw[Geo.meets_mul (Zdb q)]
 rfl
end
section
variable {st:Zd}{c k:Nat}{ax ay bx bY px py cx cy dx dy x y l w r h:Int}
end
def mpV {α:Type}(f:α->α)(l:List (Int × α)):List (Int × α):=l.map λx=>(x.1,f x.2)
def strPo (k:Int)(p:Po):Po:=⟨p.l * k,p.w * k,p.r * k,p.h * k⟩
def strPa (k:Int)(p:Pa):Pa:=⟨p.ax * k,p.ay * k,p.bx * k,p.bY * k,p.p,p.q,p.r⟩
section
variable {st:Zd}{m:HM}{ax ay bx bY:Int}{pos:List (Int × Po)}{pas:List (Int × Pa)}{q:Rat}
def Zbv (pos:List (Int × Po))(pas:List (Int × Pa))(ax ay bx bY:Int)(q:Rat)(c:Ch):Int × Int × Int:=
 ZaN (mpV (strPo q.den) pos) (mpV (strPa q.den) pas) (ax * q.den+(bx - ax) * q.num) (ay * q.den+(bY - ay) * q.num) ⟨c.x * q.den,c.y * q.den,c.r,c.g,c.b⟩
def ZbK (bs:List (Int × Ch))(pos:List (Int × Po))(pas:List (Int × Pa))(ax ay bx bY:Int)(q:Rat):Int × Int × Int:=sum3 (bs.map λb=>Zbv pos pas ax ay bx bY q b.2)
end
section
variable {st:Zd}
end
section
variable {st:Zd}{m:HM}{ax ay bx bY:Int}{pos:List (Int × Po)}{pas:List (Int × Pa)}
end
abbrev T3i:=Int × Int × Int
structure Stc where
 lo:Rat
 li:Bool
 hi:Rat
 hin:Bool
 t:T3i
def Stc.d (s:Stc):D:=.con .tup [DR s.lo,.bl s.li,DR s.hi,.bl s.hin,Tt s.t]
section
variable {st:Zd}
end
section
variable {st:Zd}{m:HM}{ax ay bx bY:Int}{pos:List (Int × Po)}{pas:List (Int × Pa)}
end
def Pa.flip (p:Pa):Pa:=⟨p.bx,p.bY,p.ax,p.ay,p.p,p.q,p.r⟩
def Pa.same (p q:Pa):Prop:=p=q∨p=q.flip
def keepP (lx ly sx sy:Int)(ps:List Pa)(f:Pa->Bool):Bool:=ps.all λp=>!Uw lx ly sx sy p||f p
theorem Vo {lx ly sx sy:Int}:∀ (pas:List (Int × Pa)) (t:T3i),through lx ly sx sy pas t=(sftI (keepP lx ly sx sy (pas.map (·.2)) Pa.p) t.1,sftI (keepP lx ly sx sy (pas.map (·.2)) Pa.q) t.2.1,sftI (keepP lx ly sx sy (pas.map (·.2)) Pa.r) t.2.2)
 | [],t=>by simp[through,keepP,sftI]
 | p :: pas,t=>by
  show through lx ly sx sy pas (if Uw lx ly sx sy p.2 then siftP t p.2 else t)=_
  rw[Vo pas]
  unfold keepP
  simp only[List.map_cons,List.all_cons]
  cases hc:Uw lx ly sx sy p.2 with
  | false=>simp[hc]
  | true=>
   simp only[if_true,Bool.not_true,Bool.false_or,siftP]
   cases p.2.p<;>cases p.2.q<;>cases p.2.r<;>simp only[sftI,Bool.true_and,Bool.false_and,Bool.false_eq_true,if_true,if_false,ite_self]
def PSub (a b:List Pa):Prop:=∀ p∈a,∃ q∈b,p.same q
theorem mp_snd {k:Int}{pas:List (Int × Pa)}:(mpV (strPa k) pas).map (·.2)=(pas.map (·.2)).map (strPa k):=by simp[mpV,Function.comp_def]
section
variable {st:Zd}{m:HM}{c k:Nat}
theorem PSub.refl {a:List Pa}:PSub a a:=λp hp=>⟨p,hp,.inl rfl⟩
theorem PSub.app {a b c d:List Pa}(h:PSub a b)(g:PSub c d):PSub (a++c) (b++d):=λp hp=>by
 rcases List.mem_append.mp hp with hp | hp
 ·obtain⟨q,hq,e⟩:=h p hp;exact⟨q,List.mem_append.mpr (.inl hq),e⟩
 ·obtain⟨q,hq,e⟩:=g p hp;exact⟨q,List.mem_append.mpr (.inr hq),e⟩
end
section
variable {bs:List (Int × Ch)}{pos:List (Int × Po)}{pas:List (Int × Pa)}{ax ay bx bY:Int}{q q':Rat}
theorem crossQ {c:Ch}{p:Pa}:Uw (c.x * q.den) (c.y * q.den) (ax * q.den+(bx - ax) * q.num) (ay * q.den+(bY - ay) * q.num) (strPa q.den p)=pdB c.x c.y p.ax p.ay p.bx p.bY ax ay bx bY q:=by
 unfold Uw pdB
 rw[Bool.eq_iff_iff,ZbY,ZbY]
 exact Geo.ZdT
theorem anyQ {c:Ch}:((mpV (strPo q.den) pos).any λp=>hitP (c.x * q.den) (c.y * q.den) (ax * q.den+(bx - ax) * q.num) (ay * q.den+(bY - ay) * q.num) p.2)=pos.any λp=>bdB c.x c.y p.2.l p.2.w p.2.r p.2.h ax ay bx bY q:=by
 unfold mpV;rw[List.any_map];rfl
theorem keepQ {c:Ch}{f:Pa->Bool}(hf:∀ k p,f (strPa k p)=f p):keepP (c.x * q.den) (c.y * q.den) (ax * q.den+(bx - ax) * q.num) (ay * q.den+(bY - ay) * q.num) ((mpV (strPa q.den) pas).map (·.2)) f=(pas.map (·.2)).all λp=>!pdB c.x c.y p.ax p.ay p.bx p.bY ax ay bx bY q||f p:=by
 rw[mp_snd]
 unfold keepP
 rw[List.all_map]
 congr 1
 funext p
 show (!Uw _ _ _ _ (strPa q.den p)||f (strPa q.den p))=_
 rw[crossQ,hf]
end
section
variable {L:Rat->T3i}{lo hi:Rat}{li hin:Bool}
end
section
variable {L:Rat->T3i}{lo hi:Rat}{li hin:Bool}
end
section
variable {bs:List (Int × Ch)}{pos:List (Int × Po)}{pas:List (Int × Pa)}{ax ay bx bY:Int}{q q':Rat}{st:Zd}
theorem light_pt {x y:Int}(hx:(x:Rat)=Geo.pt ax bx q)(hy:(y:Rat)=Geo.pt ay bY q):lightS bs pos pas x y=ZbK bs pos pas ax ay bx bY q:=by
 have h1:∀ (c:Ch) (p:Po),hitP c.x c.y x y p=bdB c.x c.y p.l p.w p.r p.h ax ay bx bY q:=λc p=>by
  rw[Bool.eq_iff_iff,bdB_iff]
  unfold hitP Geo.BDark
  rw[hitB_iff,hx,hy]
 have h2:∀ (c:Ch) (p:Pa),Uw c.x c.y x y p=pdB c.x c.y p.ax p.ay p.bx p.bY ax ay bx bY q:=λc p=>by
  rw[Bool.eq_iff_iff,pdB_iff]
  unfold Uw Geo.PDark
  rw[ZbY,hx,hy]
  exact Geo.ZdT
 have h3:∀ c:Ch,ZaN pos pas x y c=Zbv pos pas ax ay bx bY q c:=λc=>by
  unfold Zbv ZaN
  show (if (pos.any λp=>hitP c.x c.y x y p.2)=true then _ else _)=(if ((mpV (strPo q.den) pos).any λp=>hitP (c.x * q.den) (c.y * q.den) _ _ p.2)=true then _ else _)
  rw[anyQ,show (pos.any λp=>hitP c.x c.y x y p.2)=pos.any λp=>bdB c.x c.y p.2.l p.2.w p.2.r p.2.h ax ay bx bY q from by congr 1;funext p;exact h1 c p.2]
  split
  ·rfl
  ·rw[Vo,Vo,keepQ (f:=Pa.p) (λ_ _=>rfl),keepQ (f:=Pa.q) (λ_ _=>rfl),keepQ (f:=Pa.r) (λ_ _=>rfl)]
   have k:∀ f:Pa->Bool,keepP c.x c.y x y (pas.map (·.2)) f=(pas.map (·.2)).all λp=>!pdB c.x c.y p.ax p.ay p.bx p.bY ax ay bx bY q||f p:=λf=>by
    unfold keepP;congr 1;funext p;rw[h2]
   rw[k,k,k]
 unfold lightS ZbK
 rw[show (λb:Int × Ch=>ZaN pos pas x y b.2)=λb=>Zbv pos pas ax ay bx bY q b.2 from funext λb=>h3 b.2]
 rfl
end
section
variable {bs:List (Int × Ch)}{pos:List (Int × Po)}{pas:List (Int × Pa)}{ax ay bx bY ax' ay' bx' bY':Int}{q q':Rat}
end
section
variable {L L':Rat->T3i}{lo hi:Rat}{li hin:Bool}
def Stc.back (s:Stc):Stc:=⟨1 - s.hi,s.hin,1 - s.lo,s.li,s.t⟩
def Stc.join (z f:Stc):Stc:=⟨z.lo,z.li,f.hi,f.hin,z.t⟩
end
section
variable {L:Rat->T3i}{lo hi:Rat}{li hin:Bool}{st:Zd}
end
section
variable {st:Zd}{m:HM}{sx sy:Int}
end
section
variable {st:Zd}{m:HM}{sx sy:Int}
end
section
variable {st:Zd}{m:HM}{sx sy:Int}
section
variable {d0 d1 d2 d3 d4 d5:Option (Fr × D)}{lx ly:Int}
end
end
section
variable {st:Zd}{m:HM}{sx sy:Int}
end
section
variable {st:Zd}{m M:HM}{c k:Nat}
end
section
variable {st:Zd}{m:HM}{c k:Nat}
end
section
variable {st:Zd}{m:HM}{c k:Nat}
end
theorem pt0 {x:Rat}:x=Geo.pt x x 0:=by unfold Geo.pt;grind
structure Sim where
 fx:Rat->Rat->Rat
 fy:Rat->Rat->Rat
 ix:Int->Int->Int
 iy:Int->Int->Int
 bo:Po->Po
 cx:∀ x y:Int,((ix x y:Int):Rat)=fx x y
 cy:∀ x y:Int,((iy x y:Int):Rat)=fy x y
 px:∀ a b c d s,fx (Geo.pt a b s) (Geo.pt c d s)=Geo.pt (fx a c) (fx b d) s
 py:∀ a b c d s,fy (Geo.pt a b s) (Geo.pt c d s)=Geo.pt (fy a c) (fy b d) s
 inj:∀ x y x' y',fx x y=fx x' y' -> fy x y=fy x' y' -> x=x' ∧ y=y'
 box:∀ (p:Po) (x y:Rat),Geo.InB ((bo p).l:Rat) (bo p).w (bo p).r (bo p).h (fx x y) (fy x y)↔Geo.InB (p.l:Rat) p.w p.r p.h x y
namespace Sim
variable (T:Sim)
def ch (c:Ch):Ch:=⟨T.ix c.x c.y,T.iy c.x c.y,c.r,c.g,c.b⟩
def pa (p:Pa):Pa:=⟨T.ix p.ax p.ay,T.iy p.ax p.ay,T.ix p.bx p.bY,T.iy p.bx p.bY,p.p,p.q,p.r⟩
theorem meets {ax ay bx bY cx cy dx dy:Rat}:Geo.Meets (T.fx ax ay) (T.fy ax ay) (T.fx bx bY) (T.fy bx bY) (T.fx cx cy) (T.fy cx cy) (T.fx dx dy) (T.fy dx dy)↔Geo.Meets ax ay bx bY cx cy dx dy:=by
 rw[Geo.UI,Geo.UI]
 constructor
 ·rintro⟨s,t,hs,ht,e1,e2⟩
  rw[<- T.px,<- T.px] at e1
  rw[<- T.py,<- T.py] at e2
  obtain⟨a,b⟩:=T.inj _ _ _ _ e1 e2
  exact⟨s,t,hs,ht,a,b⟩
 ·rintro⟨s,t,hs,ht,e1,e2⟩
  refine⟨s,t,hs,ht,?_,?_⟩
  ·rw[<- T.px,<- T.px,e1,e2]
  ·rw[<- T.py,<- T.py,e1,e2]
theorem bmeets {p:Po}{ax ay bx bY:Rat}:Geo.Zay ((T.bo p).l:Rat) (T.bo p).w (T.bo p).r (T.bo p).h (T.fx ax ay) (T.fy ax ay) (T.fx bx bY) (T.fy bx bY)↔Geo.Zay (p.l:Rat) p.w p.r p.h ax ay bx bY:=by
 unfold Geo.Zay
 constructor
 ·rintro⟨s,hs,h⟩
  rw[<- T.px,<- T.py,T.box] at h
  exact⟨s,hs,h⟩
 ·rintro⟨s,hs,h⟩
  refine⟨s,hs,?_⟩
  rw[<- T.px,<- T.py,T.box];exact h
variable {ax ay bx bY x y:Int}{q:Rat}{bs:List (Int × Ch)}{pos:List (Int × Po)}{pas:List (Int × Pa)}
theorem bd (c:Ch)(p:Po):bdB (T.ch c).x (T.ch c).y (T.bo p).l (T.bo p).w (T.bo p).r (T.bo p).h (T.ix ax ay) (T.iy ax ay) (T.ix bx bY) (T.iy bx bY) q=bdB c.x c.y p.l p.w p.r p.h ax ay bx bY q:=by
 rw[Bool.eq_iff_iff,bdB_iff,bdB_iff]
 unfold Geo.BDark
 rw[T.cx,T.cx,T.cy,T.cy,show ((T.ch c).x:Rat)=T.fx c.x c.y from T.cx _ _,show ((T.ch c).y:Rat)=T.fy c.x c.y from T.cy _ _,<- T.px,<- T.py,T.bmeets]
theorem pd (c:Ch)(p:Pa):pdB (T.ch c).x (T.ch c).y (T.pa p).ax (T.pa p).ay (T.pa p).bx (T.pa p).bY (T.ix ax ay) (T.iy ax ay) (T.ix bx bY) (T.iy bx bY) q=pdB c.x c.y p.ax p.ay p.bx p.bY ax ay bx bY q:=by
 rw[Bool.eq_iff_iff,pdB_iff,pdB_iff]
 unfold Geo.PDark
 rw[T.cx,T.cx,T.cy,T.cy,show ((T.ch c).x:Rat)=T.fx c.x c.y from T.cx _ _,show ((T.ch c).y:Rat)=T.fy c.x c.y from T.cy _ _,show ((T.pa p).ax:Rat)=T.fx p.ax p.ay from T.cx _ _,show ((T.pa p).ay:Rat)=T.fy p.ax p.ay from T.cy _ _,show ((T.pa p).bx:Rat)=T.fx p.bx p.bY from T.cx _ _,show ((T.pa p).bY:Rat)=T.fy p.bx p.bY from T.cy _ _,<- T.px,<- T.py,T.meets]
theorem comes (c:Ch):Zbv (mpV T.bo pos) (mpV T.pa pas) (T.ix ax ay) (T.iy ax ay) (T.ix bx bY) (T.iy bx bY) q (T.ch c)=Zbv pos pas ax ay bx bY q c:=by
 unfold Zbv ZaN
 show (if ((mpV (strPo q.den) (mpV T.bo pos)).any λp=>hitP ((T.ch c).x * q.den) ((T.ch c).y * q.den) _ _ p.2)=true then _ else _)=(if ((mpV (strPo q.den) pos).any λp=>hitP (c.x * q.den) (c.y * q.den) _ _ p.2)=true then _ else _)
 rw[anyQ,anyQ,show ((mpV T.bo pos).any λp=>bdB (T.ch c).x (T.ch c).y p.2.l p.2.w p.2.r p.2.h (T.ix ax ay) (T.iy ax ay) (T.ix bx bY) (T.iy bx bY) q)=pos.any λp=>bdB c.x c.y p.2.l p.2.w p.2.r p.2.h ax ay bx bY q from by
  unfold mpV;rw[List.any_map];congr 1;funext p;exact T.bd c p.2]
 split
 ·rfl
 ·have k:∀ f:Pa->Bool,(∀ p,f (T.pa p)=f p)->(((mpV T.pa pas).map (·.2)).all λp=>!pdB (T.ch c).x (T.ch c).y p.ax p.ay p.bx p.bY (T.ix ax ay) (T.iy ax ay) (T.ix bx bY) (T.iy bx bY) q||f p)=(pas.map (·.2)).all λp=>!pdB c.x c.y p.ax p.ay p.bx p.bY ax ay bx bY q||f p:=λf hf=>by
   unfold mpV
   rw[List.map_map,List.all_map,List.all_map]
   congr 1;funext p
   show (!pdB (T.ch c).x (T.ch c).y (T.pa p.2).ax (T.pa p.2).ay (T.pa p.2).bx (T.pa p.2).bY _ _ _ _ q||f (T.pa p.2))=_
   rw[T.pd,hf];rfl
  rw[Vo,Vo,keepQ (f:=Pa.p) (λ_ _=>rfl),keepQ (f:=Pa.q) (λ_ _=>rfl),keepQ (f:=Pa.r) (λ_ _=>rfl),keepQ (f:=Pa.p) (λ_ _=>rfl),keepQ (f:=Pa.q) (λ_ _=>rfl),keepQ (f:=Pa.r) (λ_ _=>rfl),k Pa.p (λ_=>rfl),k Pa.q (λ_=>rfl),k Pa.r (λ_=>rfl)]
  rfl
def bu (bs:List (Int × Ch)):List (Int × Ch):=bs.map λb=>(b.1,T.ch b.2)
theorem ZbK:ZbK (T.bu bs) (mpV T.bo pos) (mpV T.pa pas) (T.ix ax ay) (T.iy ax ay) (T.ix bx bY) (T.iy bx bY) q=Hx.ZbK bs pos pas ax ay bx bY q:=by
 unfold Hx.ZbK bu
 rw[List.map_map]
 congr 1
 exact List.map_congr_left λb _=>T.comes b.2
theorem light:lightS (T.bu bs) (mpV T.bo pos) (mpV T.pa pas) (T.ix x y) (T.iy x y)=lightS bs pos pas x y:=by
 rw[light_pt (bs:=bs) (pos:=pos) (pas:=pas) (x:=x) (y:=y) (ax:=x) (ay:=y) (bx:=x) (bY:=y) (q:=0) pt0 pt0,light_pt (bs:=T.bu bs) (x:=T.ix x y) (y:=T.iy x y) (ax:=T.ix x y) (ay:=T.iy x y) (bx:=T.ix x y) (bY:=T.iy x y) (q:=0) pt0 pt0]
 exact T.ZbK
theorem ne (h:ax≠bx∨ay≠bY):T.ix ax ay≠T.ix bx bY∨T.iy ax ay≠T.iy bx bY:=by
 by_cases c:T.ix ax ay=T.ix bx bY
 ·right;intro c2
  have a1:T.fx ax ay=T.fx bx bY:=by rw[<- T.cx,<- T.cx,c]
  have a2:T.fy ax ay=T.fy bx bY:=by rw[<- T.cy,<- T.cy,c2]
  obtain⟨e1,e2⟩:=T.inj _ _ _ _ a1 a2
  have e1:ax=bx:=by exact_mod_cast e1
  have e2:ay=bY:=by exact_mod_cast e2
  rcases h with h | h
  ·exact h e1
  ·exact h e2
 ·exact .inl c
end Sim
end Hx
namespace Hx
open PySem PySem.Spec L2
def Nr (x:Int):Prop:=-150<=x∧x<=150
theorem Nr.ok {x:Int}(h:Nr x):Ok6 x:=by unfold Nr at h;unfold Ok6;omega
section
variable {st:Zd}{c k:Nat}{m:HM}{wd a b w:Int}
end
section
variable {st:Zd}{m mo:HM}{c:Nat}{p g:List (D × HM)}{d:D}
end
def Le3 (a b:T3i):Prop:=a.1<=b.1∧a.2.1<=b.2.1∧a.2.2<=b.2.2
theorem Le3.refl {a:T3i}:Le3 a a:=⟨Int.le_refl _,Int.le_refl _,Int.le_refl _⟩
section
variable {bs:List (Int × Ch)}{pos:List (Int × Po)}{pas:List (Int × Pa)}{sx sy lx ly:Int}
end
section
variable {m:HM}{p:Po}{q:Pa}
end
section
variable {st:Zd}{m:HM}{c k:Nat}
end
section
variable {st:Zd}{m:HM}{c k:Nat}
end
def Ch.row (c:Ch):List Int:=[c.x,c.y,c.r,c.g,c.b]
theorem Ch.row_inj {a b:Ch}(h:a.row=b.row):a=b:=by
 cases a;cases b;simp[Ch.row] at h;simp[h]
section
variable {st:Zd}{m:HM}
end
abbrev sK:Str:=Str.ofString "look"
section
variable {st:Zd}{m:HM}
@[simp] theorem cut5_13 {a b c d e:D}:cutD [a,b,c,d,e] (some 1) (some 3)=[b,c]:=rfl
@[simp] theorem cut3_13 {a b c:D}:cutD [a,b,c] (some 1) (some 3)=[b,c]:=rfl
variable {A X d:D}{w k:Str}{n r u:Int}{b:Bool}
inductive Dd.Turn:Dd->Prop
 | move {w:Str} {n r u:Int} (h:w=sL∨w=sP∨w=sN∨w=sK):Dd.Turn (.move w n r u)
 | drop {w:Str} {n:Int} (h:w=sL∨w=sP∨w=sN∨w=sK):Dd.Turn (.drop w n)
 | switch {n:Int}:Dd.Turn (.switch n)
end
section
variable {st:Zd}{m:HM}{c k:Nat}
end
section
variable {st:Zd}{m:HM}{c k:Nat}
end
instance:DecidableEq Ch:=λa b=>if h:a.row=b.row then isTrue (Ch.row_inj h) else isFalse λe=>h (by rw[e])
theorem pys_any {a:D}{x:PyData}(ha:nb 64 a=true)(hx:a.py=some x):∀ {ds:List D} {xs:List PyData},(∀ d∈ds,nb 64 d=true)->D.pys ds=some xs->((xs.any λz=>PyData.eqv z x)=true↔a∈ds)
 | [],xs,_,h=>by cases h;simp
 | d :: ds,xs,hd,h=>by
  rw[D.pys] at h
  split at h
  ·rename_i z zs e1 e2
   cases h
   have ih:=pys_any ha hx (ds:=ds) (λd h=>hd d (by simp[h])) e2
   obtain⟨c,e,k⟩:=eqD_nb (hd d (by simp)) ha
   have hc:PyData.eqv z x=c:=by
    obtain⟨x',y',q1,q2,_,_,q5⟩:=Zcu e
    rw[e1] at q1
    rw[hx] at q2
    cases q1
    cases q2
    exact q5
   rw[List.any_cons,Bool.or_eq_true,ih,hc,k,List.mem_cons]
   constructor
   ·rintro (h | h)
    ·exact .inl h.symm
    ·exact .inr h
   ·rintro (h | h)
    ·exact .inl h.symm
    ·exact .inr h
  ·cases h
theorem inLD_nb {a:D}{ds:List D}(ha:nb 64 a=true)(hd:∀ d∈ds,nb 64 d=true)(hL:nb 64 (.con .lst ds)=true):∃ c,inLD a ds=some c∧(c=true↔a∈ds):=by
 obtain⟨x,e1,h1,g1⟩:=nb_py _ _ ha
 obtain⟨s1,d1⟩:=shp _ _ h1
 obtain⟨y,e2,h2,g2⟩:=nb_py _ _ hL
 obtain⟨s2,d2⟩:=shp _ _ h2
 have e2:(D.pys ds).map PyData.list=some y:=by simpa [D.py] using e2
 obtain⟨xs,q1,rfl⟩:=Option.map_eq_some_iff.mp e2
 exact⟨xs.any λz=>PyData.eqv z x,by simp[inLD,e1,q1,SeqAt.shaped,s1,s2,d1,d2],pys_any ha e1 hd q1⟩
section
variable {st:Zd}{m:HM}{c k:Nat}{wd a b:Int}
end
section
variable {st:Zd}{m:HM}
end
section
variable {st:Zd}{m:HM}{pos:List (Int × Po)}{pas:List (Int × Pa)}{sx sy:Int}
end
section
variable {st:Zd}{m:HM}{pos:List (Int × Po)}{pas:List (Int × Pa)}{sx sy:Int}
end
section
variable {st:Zd}{m:HM}{pos:List (Int × Po)}{pas:List (Int × Pa)}{sx sy:Int}
end
section
variable {st:Zd}{m:HM}
end
section
variable {st:Zd}{m:HM}
end
section
variable {st:Zd}{m:HM}
end
section
variable {st:Zd}{m:HM}
end
section
variable {st:Zd}{m:HM}
end
section
variable {st:Zd}{m:HM}
end
section
variable {m:HM}
end
section
variable {m:HM}
end
section
variable {st:Zd}{m:HM}
theorem Ub {α:Type}(f:α->Bool):∀ l:List α,bools (l.map λx=>D.bl (f x))=some (l.map f)
 | []=>rfl
 | x :: l=>by
  show (bools (l.map λx=>D.bl (f x))).map (f x :: ·)=_
  rw[Ub f l];rfl
end
section
variable {st:Zd}{c k:Nat}
end
section
variable {st:Zd}{m:HM}{c k:Nat}
end
structure Stir (m m':HM):Prop where
 ch:m'.la.map (λx=>(x.1,x.2.ch))=m.la.map (λx=>(x.1,x.2.ch))
 po:m'.po.map (·.1)=m.po.map (·.1)
 pa:m'.pa.map (·.1)=m.pa.map (·.1)
 no:m'.no=m.no
 n4:m'.a=m.a∧m'.b=m.b∧m'.c=m.c∧m'.d=m.d
theorem Stir.refl {m:HM}:Stir m m:=⟨rfl,rfl,rfl,rfl,rfl,rfl,rfl,rfl⟩
theorem Stir.trans {m m' m'':HM}(h:Stir m m')(g:Stir m' m''):Stir m m'':=
 ⟨g.ch.trans h.ch,g.po.trans h.po,g.pa.trans h.pa,g.no.trans h.no,g.n4.1.trans h.n4.1,g.n4.2.1.trans h.n4.2.1,g.n4.2.2.1.trans h.n4.2.2.1,g.n4.2.2.2.trans h.n4.2.2.2⟩
theorem Stir.lk {m m':HM}(h:Stir m m'):m'.la.map (·.1)=m.la.map (·.1):=by
 have:=congrArg (List.map Prod.fst) h.ch
 simpa [Function.comp_def] using this
section
variable {st:Zd}{m:HM}{c k:Nat}
end
def InT (n:Int)(t:T3i):Prop:=Cl n t.1∧Cl n t.2.1∧Cl n t.2.2
theorem InT.sift {n:Int}{t:T3i}{p:Pa}(h:InT n t)(hn:0<=n):InT n (siftP t p):=by
 obtain⟨a,b,c⟩:=h
 unfold siftP sftI InT Cl at *
 refine⟨?_,?_,?_⟩<;>dsimp only<;>split<;>omega
theorem InT.through {n:Int}{lx ly sx sy:Int}(hn:0<=n):∀ {l:List (Int × Pa)} {t:T3i},InT n t->InT n (through lx ly sx sy l t)
 | [],t,h=>h
 | p :: l,t,h=>by
  show InT n (Hx.through lx ly sx sy l (if Uw lx ly sx sy p.2 then siftP t p.2 else t))
  refine InT.through hn ?_
  split
  ·exact h.sift hn
  ·exact h
theorem InT.comes {pos:List (Int × Po)}{pas:List (Int × Pa)}{sx sy:Int}{c:Ch}(h:c.Ok):InT 1000000 (ZaN pos pas sx sy c):=by
 unfold ZaN
 split
 ·unfold InT Cl;dsimp only;omega
 ·have h1:=h.r
  have h2:=h.g
  have h3:=h.b
  exact InT.through (by omega) ⟨h1,h2,h3⟩
section
variable {st:Zd}{m:HM}{c k:Nat}{wd a b:Int}
inductive Dd.Note:Dd->Prop
 | look {x y r g b:Int}:Dd.Note (.look x y r g b)
 | strike {n:Int}:Dd.Note (.strike n)
 | settle {n k:Int}:Dd.Note (.settle n k)
end
section
variable {st:Zd}{m:HM}{c k:Nat}
end
section
variable {st:Zd}{m:HM}{j r:Nat}
end
section
variable {st:Zd}{m:HM}{c k:Nat}{wd a b:Int}
end
section
variable {st:Zd}{m:HM}{j r:Nat}
end
abbrev tx (a:List Nat):D:=.str (SX.S a)
def Zn (a:List Nat):List Nat:=if a.head?=some 45 then a.tail else a
def digB (a:List Nat):Bool:=a.all λc=>decide (48<=c)&&decide (c<=57)
def numV (a:List Nat):Int:=if a.head?=some 45 then -(NumText.digitsVal (Zn a):Int) else (NumText.digitsVal (Zn a):Int)
def ZW (a:List Nat):Option Int:=
 if (1<=(Zn a).length∧(Zn a).length<=9)∧digB (Zn a)=true∧¬ ((Zn a).head?=some 48∧a ≠ [48]) then some (numV a) else none
def oI:Option Int->D
 | some i=>.int i
 | none=>.non
theorem pre_S (a p:List Nat):Txt.removeprefix (SX.S a) (SX.S p)=SX.S (if a.take p.length=p then a.drop p.length else a):=by
 rw[PySem.StrLaws.removeprefix_eq,PySem.StrLaws.subAt_eq,SX.S_len,SX.S_len,Nat.zero_add]
 simp only[SX.S,List.drop_zero]
 by_cases c:a.take p.length=p
 ·have hl:p.length<=a.length:=by
   have:=congrArg List.length c
   rw[List.length_take] at this
   omega
  have hc:(decide (p.length<=a.length)&&(List.take p.length a==p))=true:=by simp[hl,c]
  rw[if_pos hc,if_pos c]
  rw[List.take_of_length_le (by simp)]
 ·have hc:¬ (decide (p.length<=a.length)&&(List.take p.length a==p))=true:=by simp[c]
  rw[if_neg hc,if_neg c]
theorem pre_minus {a:List Nat}:Txt.removeprefix (SX.S a) (Str.ofString "-")=SX.S (Zn a):=by
 rw[show Str.ofString "-"=SX.S [45] from rfl,pre_S]
 congr 1
 unfold Zn
 cases a with
 | nil=>rfl
 | cons x r=>
  by_cases c:x=45
  ·subst c;rfl
  ·rw[if_neg (by simpa using c),if_neg (by simpa using c)]
theorem dig_all {a:List Nat}:digB a=true↔NumText.AllDigits a:=by
 unfold digB NumText.AllDigits
 rw[List.all_eq_true]
 constructor
 ·intro h c hc
  have:=h c hc
  simpa using this
 ·intro h c hc
  have:=h c hc
  simpa using this
theorem ZbZ {a:List Nat}(h:digB (Zn a)=true)(h1:Zn a ≠ [])(hl:a.length<=640):PySem.intText? (SX.S a)=some (numV a):=by
 have hd:=dig_all.mp h
 unfold numV
 by_cases c:a.head?=some 45
 ·rw[if_pos c]
  unfold Zn at *
  rw[if_pos c] at *
  obtain⟨x,r,rfl⟩:∃ x r,a=x :: r:=by cases a<;>simp_all
  cases c
  exact PySem.intText_neg (cs:=r) rfl hd h1 (by rw[SX.S_len];omega)
 ·rw[if_neg c]
  unfold Zn at *
  rw[if_neg c] at *
  exact PySem.intText_digits (x:=SX.S a) hd h1 (by rw[SX.S_len];omega)
theorem toStr_S (i:Int):Str.ofString (toString i)=SX.S (if i<0 then 45 :: TL.numL i.natAbs else TL.numL i.natAbs):=by
 cases i with
 | ofNat n=>
  have h:¬ (Int.ofNat n<0):=Int.not_lt.mpr (Int.ofNat_nonneg n)
  rw[if_neg h];exact SX.num_S n
 | negSucc n=>
  rw[if_pos (Int.negSucc_lt_zero n)]
  apply TL.ext_tl
  rw[TL.tl_ofString]
  show ("-" ++ toString (n+1)).toList.map Char.toNat=_
  rw[String.toList_append,List.map_append]
  have:=TL.tl_num (n+1)
  rw[TL.tl_ofString] at this
  exact congrArg (λz=>45 :: z) this
def numC (i:Int):List Nat:=if i<0 then 45 :: TL.numL i.natAbs else TL.numL i.natAbs
theorem bare_len (a:List Nat):(Zn a).length<=a.length:=by
 unfold Zn
 split
 ·simp
 ·exact Nat.le_refl _
theorem bare_len' (a:List Nat):a.length<=(Zn a).length+1:=by
 unfold Zn
 split
 ·simp;omega
 ·omega
def okC (a:List Nat):Bool:=a.all λc=>decide (c<0x110000)
theorem ZM {a:List Nat}(h:okC a=true):PyData.strOk (SX.S a)=true:=by
 unfold PyData.strOk okC at *
 simpa using h
theorem shaped_tx {a:List Nat}(h:okC a=true):SeqAt.shaped (.str (SX.S a))=true:=by
 unfold SeqAt.shaped
 rw[show (PyData.str (SX.S a)).canLay0=PyData.strOk (SX.S a) from rfl,ZM h]
 rfl
theorem UJ {a b:List Nat}(ha:okC a=true)(hb:okC b=true):eqD (tx a) (tx b)=some (decide (a=b)):=by
 show (bif SeqAt.shaped (.str (SX.S a))&&SeqAt.shaped (.str (SX.S b)) then some (PyData.eqv (.str (SX.S a)) (.str (SX.S b))) else none)=_
 have e:PyData.eqv (.str (SX.S a)) (.str (SX.S b))=(SX.S a==SX.S b):=rfl
 rw[e,SX.S_beq_eq,shaped_tx ha,shaped_tx hb]
 rfl
def dgB (c:Nat):Bool:=decide (c∈(Str.ofString "0123456789").cps.toList)
theorem dig_chars (a:List Nat):(a.all dgB)=digB a:=by
 unfold digB
 congr 1
 funext c
 unfold dgB
 have:(Str.ofString "0123456789").cps.toList=[48,49,50,51,52,53,54,55,56,57]:=rfl
 rw[this]
 rw[Bool.eq_iff_iff]
 simp
 omega
theorem ZaD {a:List Nat}{st:Zd}(hl:a.length<=1000000)(ok:okC a=true):ZQ [(.z,tx a)] st=.ok .z false (oI (ZW a)) st:=by
 have hb:=bare_len a
 have hb':=bare_len' a
 have e0:=@pre_minus a
 have hle:(SX.S a).length<=16777216:=by rw[SX.S_len];omega
 have hlb:(SX.S (Zn a)).length<=16777216:=by rw[SX.S_len];omega
 have i1:=UE (p:=.nm 2) (env:=[some (.z,tx a),some (.z,tx (Zn a)),none]) (st:=st) (el:=dOp oIn (Zb (Ze 2) (Za (dC (.str (Str.ofString "0123456789")))))) (λc:Nat=>D.str ⟨#[c]⟩) (λc=>.bl (dgB c)) (Zn a) [] (λc hc=>⟨_,rfl,by
  simp[inS,orOp,dgB]⟩)
 have i2:=Ub (λc:Nat=>dgB c) (Zn a)
 have hln:(SX.S (Zn a)).length=(Zn a).length:=SX.S_len _
 have hch:chars (SX.S (Zn a))=(Zn a).map λc=>D.str ⟨#[c]⟩:=rfl
 have hd:=dig_chars (Zn a)
 unfold ZW
 have hi:∀ x r,Zn a=x :: r->atI (SX.S (Zn a)).cps.toList 0=some x:=λx r h=>by rw[h];simp[atI,ixN]
 have q0:eqD (tx a) (.str (Str.ofString "0"))=some (decide (a=[48])):=UJ ok (by rfl)
 have q1:∀ x,x<0x110000->eqD (.str ⟨#[x]⟩) (.str (Str.ofString "0"))=some (decide (x=48)):=λx hx=>by
  have:=UJ (a:=[x]) (b:=[48]) (by simpa [okC] using hx) (by rfl)
  rw[show decide (([x]:List Nat)=[48])=decide (x=48) by simp] at this
  exact this
 by_cases c1:1<=(Zn a).length∧(Zn a).length<=9
 ·by_cases c2:digB (Zn a)=true
  ·obtain⟨x,r,hx⟩:∃ x r,Zn a=x :: r:=by cases h:Zn a with
    | nil=>rw[h] at c1;exact absurd c1.1 (by decide)
    | cons x r=>exact⟨x,r,rfl⟩
   have h0:=hi x r hx
   have hx1:x<0x110000:=by
    rw[hx] at c2
    unfold digB at c2
    rw[List.all_cons] at c2
    simp at c2
    omega
   have hq:=q1 x hx1
   have hint:=ZbZ (a:=a) c2 (by rw[hx];simp) (by omega)
   have hmx:(Zn a).head?=some x:=by rw[hx];rfl
   rw[hmx]
   simp only[c1,c2,true_and,and_self,if_true]
   have i2:bools ((Zn a).map λc=>D.bl (dgB c))=some ((Zn a).map λc=>dgB c):=i2
   have hd:((Zn a).map λc=>dgB c).all id=true:=by rw[List.all_map];exact hd.trans c2
   have hm:(Zn a).length<=16777215:=by omega
   have hm2:(Zn a).length<=16777216:=by omega
   have c11:(1:Int)<=((Zn a).length:Int):=by omega
   have c12:((Zn a).length:Int)<=9:=by omega
   have hax:(SX.S a).length<=640:=by rw[SX.S_len];omega
   have q0:eqD (.str (SX.S a)) (.str (Str.ofString "0"))=some (decide (a=[48])):=q0
   have i1:lcGo (.nm 2) dYes (dOp oIn (Zb (Ze 2) (Za (dC (.str (Str.ofString "0123456789")))))) ((Zn a).map λc=>D.str ⟨#[c]⟩) [some (.z,.str (SX.S a)),some (.z,.str (SX.S (Zn a))),none] st []=_:=i1
   show ZQ [(.z,.str (SX.S a))] st=_
   generalize SX.S a=X at *
   generalize SX.S (Zn a)=Y at *
   generalize Zn a=ys at *
   generalize numV a=v at *
   have hix:atI Y.cps.toList 0=some x:=h0
   have fin:(if ¬ (some x=some 48∧a ≠ [48]) then some v else none)=if (decide (x=48) && !decide (a=[48]))=true then none else some v:=by
    by_cases c3:x=48<;>by_cases c4:a=[48]<;>simp[c3,c4]
   rw[fin]
   generalize decide (x=48)=p at *
   generalize decide (a=[48])=q at *
   cases p<;>cases q <;>
    simp[ZQ,dLc,e0,hle,hlb,hch,i1,i2,hd,hm,hax,hix,hq,q0,hln,hm2,c11,c12,hint,lk,Zy,oI,oIntS]
  ·have hm:(Zn a).length<=16777215:=by omega
   have hm2:(Zn a).length<=16777216:=by omega
   have c11:(1:Int)<=((Zn a).length:Int):=by omega
   have c12:((Zn a).length:Int)<=9:=by omega
   have hd:((Zn a).map λc=>dgB c).all id=false:=by rw[List.all_map];exact hd.trans (by simpa using c2)
   rw[if_neg (by simp[c2])]
   have i1:lcGo (.nm 2) dYes (dOp oIn (Zb (Ze 2) (Za (dC (.str (Str.ofString "0123456789")))))) ((Zn a).map λc=>D.str ⟨#[c]⟩) [some (.z,.str (SX.S a)),some (.z,.str (SX.S (Zn a))),none] st []=_:=i1
   show ZQ [(.z,.str (SX.S a))] st=_
   generalize SX.S a=X at *
   generalize SX.S (Zn a)=Y at *
   generalize Zn a=ys at *
   simp[ZQ,dLc,e0,hle,hlb,hch,i1,i2,hd,hm,hln,hm2,c11,c12,lk,Zy,oI]
 ·rw[if_neg (λh=>c1 h.1)]
  have hm2:(Zn a).length<=16777216:=by omega
  show ZQ [(.z,.str (SX.S a))] st=_
  have c5:(1:Int)<=((Zn a).length:Int)->¬ ((Zn a).length:Int)<=9:=by omega
  generalize SX.S a=X at *
  generalize SX.S (Zn a)=Y at *
  generalize Zn a=ys at *
  by_cases c6:(1:Int)<=(ys.length:Int)
  ·have c7:=c5 c6
   simp[ZQ,e0,hle,hlb,hln,hm2,lk,oI,c6,c7]
  ·simp[ZQ,e0,hle,hlb,hln,hm2,lk,oI,c6]
theorem numC_okC (i:Int):okC (numC i)=true:=by
 have h:=TL.numL_digits i.natAbs
 unfold okC
 rw[List.all_eq_true]
 intro c hc
 unfold numC at hc
 split at hc
 ·rcases List.mem_cons.mp hc with rfl | hc
  ·rfl
  ·have:=h c hc
   simp;omega
 ·have:=h c hc
  simp;omega
theorem ZaX {i:Int}{s:Nat}(h:s<45∨57<s∨s=47):s ∉ numC i:=λhc=>by
 have h2:=TL.numL_digits i.natAbs
 unfold numC at hc
 split at hc
 ·rcases List.mem_cons.mp hc with rfl | hc
  ·omega
  ·have:=h2 s hc;omega
 ·have:=h2 s hc;omega
theorem ZaS {i:Int}(h:i.natAbs<10 ^ 9):(numC i).length<=10:=by
 have:=TL.numL_len (n:=i.natAbs) (k:=9) (by decide) h
 unfold numC
 split
 ·simp;omega
 ·omega
theorem ZcW:∀ l:List (List Nat),strsOf (l.map tx)=some (l.map SX.S)
 | []=>rfl
 | a :: l=>by
  rw[List.map_cons,List.map_cons,strsOf,ZcW l];rfl
def Wk (ws:List (List Nat)):Option (List Int):=if none∈ws.map ZW then none else some (ws.filterMap ZW)
def oIs:Option (List Int)->D
 | some is=>.con .tup (is.map D.int)
 | none=>.non
theorem oI_nb {o:Option Int}:nb 64 (oI o)=true:=by cases o<;>rfl
theorem in_none (l:List (Option Int)):oIn [.non,.con .lst (l.map oI)]=some (.z,.bl (decide (none∈l))):=by
 obtain⟨c,e,k⟩:=inLD_nb (a:=.non) (ds:=l.map oI) (by simp[nb]) (λd hd=>by
  obtain⟨y,_,rfl⟩:=List.mem_map.mp hd
  exact oI_nb) (by
  have:∀ d∈l.map oI,nb 63 d=true:=λd hd=>by
   obtain⟨y,_,rfl⟩:=List.mem_map.mp hd
   cases y<;>rfl
  rw[nb,List.all_eq_true]
  exact this)
 have k2:c=decide (none∈l):=by
  rw[Bool.eq_iff_iff,k,decide_eq_true_iff,List.mem_map]
  constructor
  ·rintro⟨y,h1,h2⟩
   cases y with
   | none=>exact h1
   | some z=>cases h2
  ·intro h
   exact⟨none,h,rfl⟩
 subst k2
 simp[oIn,e]
theorem oI_fm:∀ (l:List (Option Int)),none ∉ l->l.map oI=(l.filterMap id).map D.int
 | [],_=>rfl
 | none :: l,h=>absurd (List.mem_cons_self ..) h
 | some i :: l,h=>by
  have:=oI_fm l (λhh=>h (List.mem_cons_of_mem _ hh))
  simp[oI,this]
theorem Zcd {ws:List (List Nat)}{st:Zd}(hw:∀ w∈ws,w.length<=1000000∧okC w=true)(hl:ws.length<=1000000):
  ZE [(.z,.con .lst (ws.map tx))] st=.ok .z false (oIs (Wk ws)) st:=by
 have i1:=UE (p:=.nm 2) (env:=[some (.z,.con .lst (ws.map tx)),none,none]) (st:=st) (el:=Zu ZQ [] (Za (Ze 2))) tx (λw=>oI (ZW w)) ws [] (λw hw'=>⟨_,rfl,by
  have e:=ZaD (st:=st) (hw w hw').1 (hw w hw').2
  generalize tx w=X at *
  generalize oI (ZW w)=Y at *
  simp[lk,e]⟩)
 have e2:(ws.map λw=>oI (ZW w))=(ws.map ZW).map oI:=by rw[List.map_map];rfl
 rw[e2] at i1
 have i2:=in_none (ws.map ZW)
 have hm:ws.length<=16777215:=by omega
 unfold Wk
 by_cases c:none∈ws.map ZW
 ·rw[if_pos c]
  rw[decide_eq_true c] at i2
  generalize (ws.map ZW).map oI=R at *
  generalize hT:ws.map tx=T at *
  have hT2:T.length<=16777215:=by rw[<- hT,List.length_map];exact hm
  simp[-oIn,ZE,dLc,Zy,i1,i2,hT2,oIs]
 ·rw[if_neg c]
  rw[decide_eq_false c] at i2
  have e3:=oI_fm _ c
  rw[List.filterMap_map] at e3
  rw[e3] at i1 i2
  have e4:ws.filterMap (id ∘ ZW)=ws.filterMap ZW:=rfl
  rw[e4] at i1 i2
  show _=Res.ok .z false (.con .tup ((ws.filterMap ZW).map D.int)) st
  generalize (ws.filterMap ZW).map D.int=R at *
  generalize hT:ws.map tx=T at *
  have hT2:T.length<=16777215:=by rw[<- hT,List.length_map];exact hm
  simp[-oIn,ZE,dLc,Zy,i1,i2,hT2,oIs]
inductive Th where
 | n (i:Int)
 | s (x:List Nat)
def Th.d:Th->D
 | .n i=>.int i
 | .s x=>tx x
def Th.t:Th->List Nat
 | .n i=>numC i
 | .s x=>if x=[] then [45] else x
def Th.Ok:Th->Prop
 | .n i=>i.natAbs<10 ^ 9
 | .s x=>okC x=true∧x.length<=100∧32 ∉ x∧10 ∉ x
def Ws (r:List Int):List Nat:=TL.joinL [32] (r.map numC)
inductive WD where
 | row (w:List Nat) (ts:List Th)
 | uns (rows:List (List Int))
def WD.d:WD->D
 | .row w ts=>.con .tup (tx w :: ts.map Th.d)
 | .uns rows=>.con .tup [.str (Str.ofString "unsure"),.con .tup (rows.map λr=>.con .tup (r.map D.int))]
def cs (s:String):List Nat:=(Str.ofString s).cps.toList
theorem cs_S (s:String):Str.ofString s=SX.S (cs s):=(SX.S_tl _).symm
def WD.t:WD->List Nat
 | .row w ts=>TL.joinL [32] (w :: ts.map Th.t)
 | .uns rows=>cs "unsure " ++ TL.joinL (cs " / ") (rows.map Ws)
theorem strOk_num {i:Int}(h:i.natAbs<10 ^ 9):strOkI i=true:=by
 unfold strOkI
 rw[decide_eq_true_iff]
 by_cases c:i.natAbs=0
 ·rw[c];decide
 ·have h30:i.natAbs<2 ^ 30:=by omega
  have:=(Nat.log2_lt c (k:=30)).mpr h30
  omega
theorem str_num {i:Int}(h:i.natAbs<10 ^ 9):oStr [.int i]=some (.z,tx (numC i)):=by
 have e:(Str.ofString (toString i))=SX.S (numC i):=toStr_S i
 show (match (bif strOkI i then some (D.str (Str.ofString (toString i))) else none).map (λd=>(Fr.z,d)) with | x=>x)=_
 rw[strOk_num h,e];rfl
theorem Th.t_len {x:Th}(h:x.Ok):x.t.length<=100:=by
 cases x with
 | n i=>have:=ZaS h;show (numC i).length<=100;omega
 | s x=>
  show (if x=[] then [45] else x).length<=100
  split
  ·decide
  ·exact h.2.1
theorem Th.t_okC {x:Th}(h:x.Ok):okC x.t=true:=by
 cases x with
 | n i=>exact numC_okC i
 | s x=>
  show okC (if x=[] then [45] else x)=true
  split
  ·rfl
  ·exact h.1
theorem Th.t_free {x:Th}(h:x.Ok):32 ∉ x.t∧10 ∉ x.t:=by
 cases x with
 | n i=>exact⟨ZaX (by decide),ZaX (by decide)⟩
 | s x=>
  show 32 ∉ (if x=[] then [45] else x)∧10 ∉ (if x=[] then [45] else x)
  split
  ·decide
  ·exact h.2.2
theorem UX {sep:List Nat}{m:Nat}:∀ {ps:List (List Nat)},(∀ p∈ps,p.length<=m)->(TL.joinL sep ps).length<=ps.length * (m+sep.length)
 | [],_=>by simp[TL.joinL]
 | [p],h=>by have:=h p (by simp);simp[TL.joinL];omega
 | p :: q :: r,h=>by
  have h1:=h p (by simp)
  have ih:=UX (sep:=sep) (ps:=q :: r) (λx hx=>h x (by simp[hx]))
  rw[TL.joinL,List.length_append,List.length_append,List.length_cons,Nat.succ_mul]
  omega
theorem sum_len {m:Nat}:∀ {ps:List (List Nat)},(∀ p∈ps,p.length<=m)->(ps.map List.length).sum<=ps.length * m
 | [],_=>by simp
 | p :: r,h=>by
  have h1:=h p (by simp)
  have ih:=sum_len (ps:=r) (λx hx=>h x (by simp[hx]))
  rw[List.map_cons,List.sum_cons,List.length_cons,Nat.succ_mul]
  omega
theorem join_tx {sep:List Nat}{ps:List (List Nat)}{m:Nat}{k:Kd}(hk:k.seq=true)(h:∀ p∈ps,p.length<=m)(hl:ps.length * (m+sep.length)<=1000000):Wn (SX.S sep) [.con k (ps.map tx)]=some (.z,tx (TL.joinL sep ps)):=by
 have e:=SX.join_S sep ps
 have e2:=SX.lens ps
 have h1:=sum_len h
 have h2:(((ps.map SX.S).map (·.length)).sum+(ps.map SX.S).length * (SX.S sep).length).ble 16777216=true:=Nat.ble_eq_true_of_le (by
  rw[e2,List.length_map,SX.S_len]
  rw[Nat.mul_add] at hl
  have:(List.map (λx:List Nat=>x.length) ps).sum<=ps.length * m:=h1
  omega)
 show (bif k.seq then (strsOf (ps.map tx)).bind λys=>bif ((ys.map (·.length)).sum+ys.length * (SX.S sep).length).ble 16777216 then some (D.str (Txt.join (SX.S sep) ys)) else none else none).map (λd=>(Fr.z,d))=_
 rw[hk,ZcW]
 show (bif (((ps.map SX.S).map (·.length)).sum+(ps.map SX.S).length * (SX.S sep).length).ble 16777216 then some (D.str (Txt.join (SX.S sep) (ps.map SX.S))) else none).map (λd=>(Fr.z,d))=_
 rw[h2,e];rfl
def Th.e (x:Th):Bool:=match x with
 | .n _=>false
 | .s x=>decide (x=[])
theorem th_eq (x:Th)(h:x.Ok):eqD x.d (.str (Str.ofString ""))=some x.e:=by
 cases x with
 | n i=>exact eqD_not (a:=.int i) (b:=tx []) (by simp[nb]) (ZM (a:=[]) rfl) (by intro h;cases h)
 | s x=>
  have:=UJ (a:=x) (b:=[]) h.1 (by rfl)
  exact this
theorem th_str (x:Th)(h:x.Ok)(c:x.e=false):oStr [x.d]=some (.z,tx x.t):=by
 cases x with
 | n i=>exact str_num h
 | s x=>
  have c':x ≠ []:=by simpa [Th.e] using c
  show some (Fr.z,D.str (SX.S x))=some (Fr.z,tx (if x=[] then [45] else x))
  rw[if_neg c']
theorem th_dash (x:Th)(h:x.Ok)(c:x.e=true):tx x.t=.str (Str.ofString "-"):=by
 cases x with
 | n i=>cases c
 | s x=>
  have c':x=[]:=by simpa [Th.e] using c
  subst c'
  rfl
theorem num_row (r:List Int)(h:∀ i∈r,i.natAbs<10 ^ 9)(p:Nat){env:Hx.Env}{st:Zd}(hp:p<env.length):
  lcGo (.nm p) dYes (dOp oStr (Za (Ze p))) (r.map D.int) env st []=.ok (.c .z) false (.con .lst ((r.map numC).map tx)) st:=by
 have i:=UE (p:=.nm p) (env:=env) (st:=st) (el:=dOp oStr (Za (Ze p))) D.int (λi=>tx (numC i)) r [] (λi hi=>⟨env.set p (some (.z,.int i)),by simp[ZX,hp],by
  have e:=str_num (h i hi)
  simp[-oStr,hp,lk,e]⟩)
 rw[i,List.map_map];rfl
theorem th_lcN (ts:List Th)(h:∀ x∈ts,x.Ok)(p:Nat){env:Hx.Env}{st:Zd}(hp:p<env.length):
  lcGo (.nm p) dYes (dIf (dB (dOp oNe (Zb (Ze p) (Za (dC (.str "")))))) (dOp oStr (Za (Ze p))) (dC (.str "-"))) (ts.map Th.d) env st []=.ok (.c .z) false (.con .lst ((ts.map Th.t).map tx)) st:=by
 have i:=UE (p:=.nm p) (env:=env) (st:=st) (el:=dIf (dB (dOp oNe (Zb (Ze p) (Za (dC (.str "")))))) (dOp oStr (Za (Ze p))) (dC (.str "-"))) Th.d (λx=>tx x.t) ts [] (λx hx=>⟨env.set p (some (.z,x.d)),by simp[ZX,hp],by
  have e1:=th_eq x (h x hx)
  have e2:=th_str x (h x hx)
  have e3:=th_dash x (h x hx)
  have e4:lk st x.d=x.d:=by cases x<;>rfl
  generalize x.d=X at *
  generalize tx x.t=T at *
  cases hc:x.e with
  | true=>simp[-oStr,hp,e1,e4,hc,e3 hc]
  | false=>simp[-oStr,hp,e1,e4,hc,e2 hc]⟩)
 rw[i,List.map_map];rfl
def WD.Ok:WD->Prop
 | .row w ts=>okC w=true∧w.length<=100∧32 ∉ w∧10 ∉ w∧w ≠ []∧w≠cs "unsure" ∧ w≠cs "many" ∧ ts.length<=5∧∀ x∈ts,x.Ok
 | .uns rows=>rows ≠ []∧rows.length<=8∧∀ r∈rows,r.length=5∧∀ i∈r,i.natAbs<10 ^ 9
theorem ZbL {r:List Int}(h:∀ i∈r,i.natAbs<10 ^ 9)(hl:r.length<=5):(Ws r).length<=100:=by
 have:=UX (sep:=[32]) (m:=10) (ps:=r.map numC) (λp hp=>by
  obtain⟨i,hi,rfl⟩:=List.mem_map.mp hp
  exact ZaS (h i hi))
 rw[List.length_map] at this
 unfold Ws
 have h2:r.length * (10 + [32].length)<=5 * 11:=Nat.mul_le_mul hl (by decide)
 omega
theorem join_num (r:List Int)(h:∀ i∈r,i.natAbs<10 ^ 9)(hl:r.length<=5):Wn (Str.ofString " ") [.con .lst ((r.map numC).map tx)]=some (.z,tx (Ws r)):=
 join_tx (sep:=[32]) (m:=10) rfl (λp hp=>by
  obtain⟨i,hi,rfl⟩:=List.mem_map.mp hp
  exact ZaS (h i hi)) (by
  rw[List.length_map]
  have h2:r.length * (10 + [32].length)<=5 * 11:=Nat.mul_le_mul hl (by decide)
  omega)
theorem uns_lc (rows:List (List Int))(h:∀ r∈rows,r.length=5∧∀ i∈r,i.natAbs<10 ^ 9)(p q:Nat)(hpq:p<q){env:Hx.Env}{st:Zd}(hp:q<env.length)(hq:env[q]?=some none):
  lcGo (.nm p) dYes (dSM Wn (dC (.str " ")) (Za (dLc (dIv (Ze p)) [q] (.nm q) (dYes) (dOp oStr (Za (Ze q)))))) (rows.map λr=>D.con .tup (r.map D.int)) env st []=.ok (.c .z) false (.con .lst ((rows.map Ws).map tx)) st:=by
 have i:=UE (p:=.nm p) (env:=env) (st:=st) (el:=dSM Wn (dC (.str " ")) (Za (dLc (dIv (Ze p)) [q] (.nm q) (dYes) (dOp oStr (Za (Ze q)))))) (λr=>D.con .tup (r.map D.int)) (λr=>tx (Ws r)) rows [] (λr hr=>⟨env.set p (some (.z,.con .tup (r.map D.int))),(by simp[ZX,show p<env.length by omega]),by
  have hpl:p<env.length:=by omega
  obtain⟨hl,hr⟩:=h r hr
  have e1:=num_row r hr q (env:=env.set p (some (.z,.con .tup (r.map D.int)))) (st:=st) (by simpa using hp)
  have e2:=join_num r hr (by omega)
  have hn:Zy [q] (env.set p (some (.z,.con .tup (r.map D.int))))=true:=by
   unfold Zy
   simp[List.getElem?_set,hq,show p≠q by omega]
  have hm:(r.map D.int).length<=16777215:=by simp;omega
  generalize r.map D.int=R at *
  generalize (r.map numC).map tx=T at *
  generalize tx (Ws r)=N at *
  simp[-oStr,-Wn,hpl,dLc,hn,hm,e1,e2]⟩)
 rw[i,List.map_map];rfl
theorem uns_join (rows:List (List Int))(hn:rows.length<=8)(h:∀ r∈rows,r.length=5∧∀ i∈r,i.natAbs<10 ^ 9):Wn (Str.ofString " / ") [.con .lst ((rows.map Ws).map tx)]=some (.z,tx (TL.joinL (cs " / ") (rows.map Ws))):=
 join_tx (sep:=cs " / ") (m:=100) rfl (λp hp=>by
  obtain⟨r,hr,rfl⟩:=List.mem_map.mp hp
  exact ZbL (h r hr).2 (by have:=(h r hr).1;omega)) (by
  rw[List.length_map]
  have h2:rows.length * (100+(cs " / ").length)<=8 * 103:=Nat.mul_le_mul hn (by decide)
  omega)
theorem uns_add (a:List Nat)(hl:a.length<=1000000):oAdd [.str (Str.ofString "unsure "),tx a]=some (.z,tx (cs "unsure " ++ a)):=by
 have e:=SX.S_cat (cs "unsure ") a
 rw[<- cs_S] at e
 have h2:(Str.ofString "unsure ").length+(SX.S a).length<=16777216:=by
  have h1:(SX.S a).length=a.length:=SX.S_len a
  have:(Str.ofString "unsure ").length=7:=rfl
  omega
 show oAdd [.str (Str.ofString "unsure "),.str (SX.S a)]=some (.z,.str (SX.S (cs "unsure " ++ a)))
 rw[<- e]
 generalize SX.S a=X at *
 simp[h2]
theorem row_join (w:List Nat)(ts:List Th)(hw:w.length<=100)(hl:ts.length<=5)(h:∀ x∈ts,x.Ok):Wn (Str.ofString " ") [.con .lst (tx w :: (ts.map Th.t).map tx)]=some (.z,tx (TL.joinL [32] (w :: ts.map Th.t))):=
 join_tx (sep:=[32]) (m:=100) (ps:=w :: ts.map Th.t) rfl (λp hp=>by
  rcases List.mem_cons.mp hp with rfl | hp
  ·exact hw
  ·obtain⟨r,hr,rfl⟩:=List.mem_map.mp hp
   exact Th.t_len (h r hr)) (by
  rw[List.length_cons,List.length_map]
  have h2:(ts.length+1) * (100 + [32].length)<=6 * 101:=Nat.mul_le_mul (by omega) (by decide)
  omega)
theorem Zcj {d:WD}(h:d.Ok){st:Zd}:Wg [(.z,d.d)] st=.ok .z false (tx d.t) st:=by
 cases d with
 | row w ts=>
  obtain⟨h1,h2,h3,h4,h5,h6,h7,h8,h9⟩:=h
  have q:eqD (tx w) (.str (Str.ofString "unsure"))=some false:=by
   rw[cs_S]
   exact (UJ h1 (by decide)).trans (by rw[decide_eq_false h6])
  have hw:(Th.s w).t=w:=by show (if w=[] then [45] else w)=w;rw[if_neg h5]
  have i1:=th_lcN (Th.s w :: ts) (λx hx=>by
   rcases List.mem_cons.mp hx with rfl | hx
   ·exact⟨h1,h2,h3,h4⟩
   ·exact h9 x hx) 2 (env:=[some (.z,(WD.row w ts).d),none,none]) (st:=st) (by simp)
  rw[List.map_cons,List.map_cons,List.map_cons,hw] at i1
  have i1:lcGo (.nm 2) dYes (dIf (dB (dOp oNe (Zb (Ze 2) (Za (dC (.str "")))))) (dOp oStr (Za (Ze 2))) (dC (.str "-"))) (tx w :: ts.map Th.d) [some (.z,.con .tup (tx w :: ts.map Th.d)),none,none] st []=.ok (.c .z) false (.con .lst (tx w :: (ts.map Th.t).map tx)) st:=i1
  have i2:=row_join w ts h2 h8 h9
  show Wg [(.z,.con .tup (tx w :: ts.map Th.d))] st=.ok .z false (tx (TL.joinL [32] (w :: ts.map Th.t))) st
  have hm:(ts.map Th.d).length+1<=16777215:=by simp;omega
  have hlk:lk st (tx w)=tx w:=rfl
  generalize tx (TL.joinL [32] (w :: ts.map Th.t))=R at *
  generalize tx w=W at *
  generalize (ts.map Th.t).map tx=T at *
  generalize ts.map Th.d=TD at *
  simp[-oStr,-Wn,-oNe,Wg,dLc,Zy,hm,i1,i2,q,hlk]
 | uns rows=>
  obtain⟨h1,h2,h3⟩:=h
  have q:eqD (.str (Str.ofString "unsure")) (.str (Str.ofString "unsure"))=some true:=eqD_yes (ZM (a:=cs "unsure") (by decide))
  have i1:=uns_lc rows h3 1 2 (by decide) (env:=[some (.z,(WD.uns rows).d),none,none]) (st:=st) (by simp) rfl
  have i2:=uns_join rows h2 h3
  have i3:=uns_add (TL.joinL (cs " / ") (rows.map Ws)) (by
   have:=UX (sep:=cs " / ") (m:=100) (ps:=rows.map Ws) (λp hp=>by
    obtain⟨r,hr,rfl⟩:=List.mem_map.mp hp
    exact ZbL (h3 r hr).2 (by have:=(h3 r hr).1;omega))
   rw[List.length_map] at this
   have h4:rows.length * (100+(cs " / ").length)<=8 * 103:=Nat.mul_le_mul h2 (by decide)
   omega)
  have i1:lcGo (.nm 1) dYes (dSM Wn (dC (.str " ")) (Za (dLc (dIv (Ze 1)) [2] (.nm 2) (dYes) (dOp oStr (Za (Ze 2)))))) (rows.map λr=>D.con .tup (r.map D.int)) [some (.z,.con .tup [.str (Str.ofString "unsure"),.con .tup (rows.map λr=>.con .tup (r.map D.int))]),none,none] st []=_:=i1
  show Wg [(.z,.con .tup [.str (Str.ofString "unsure"),.con .tup (rows.map λr=>.con .tup (r.map D.int))])] st=.ok .z false (tx (cs "unsure " ++ TL.joinL (cs " / ") (rows.map Ws))) st
  have hm:(rows.map λr=>D.con .tup (r.map D.int)).length<=16777215:=by simp;omega
  have hlk:lk st (tx (TL.joinL (cs " / ") (rows.map Ws)))=tx (TL.joinL (cs " / ") (rows.map Ws)):=rfl
  generalize tx (cs "unsure " ++ TL.joinL (cs " / ") (rows.map Ws))=R at *
  generalize tx (TL.joinL (cs " / ") (rows.map Ws))=R2 at *
  generalize (rows.map Ws).map tx=T at *
  generalize (rows.map λr=>D.con .tup (r.map D.int))=RD at *
  simp[-oStr,-Wn,-oAdd,Wg,dLc,Zy,hm,i1,i2,i3,q,hlk]
theorem ZaM {a b:D}{c:Bool}(h:eqD a b=some c):oEq [a,b]=some (.z,.bl c):=by simp[h]
theorem cutF (xs:List D)(i:Nat)(h:i<=xs.length):cutD xs (some (i:Int)) none=xs.drop i:=by
 unfold cutD
 rw[HT.sIx_nat,HT.sIx_none,Nat.min_eq_left h]
 rw[List.take_of_length_le (by simp)]
theorem cutFT (xs:List D)(i j:Nat)(h:i<=j)(hj:j<=xs.length):cutD xs (some (i:Int)) (some (j:Int))=(xs.drop i).take (j - i):=by
 unfold cutD
 rw[HT.sIx_nat,HT.sIx_nat,Nat.min_eq_left (show i<=xs.length by omega),Nat.min_eq_left hj]
theorem ZcU {sep a:List Nat}{ps:List (List Nat)}(hne:sep ≠ [])(hk:sep.all (·<256)=true)(e:TL.spl sep 0 [] a=ps)(hl:a.length<=1000000):
  Zq (SX.S a) [.str (SX.S sep)]=some (.c .z,.con .lst (ps.map tx)):=by
 have e1:=SX.split_S (a:=a) (b:=sep) hne hk
 rw[e] at e1
 have h1:(SX.S a).length.ble 1000000=true:=Nat.ble_eq_true_of_le (by rw[SX.S_len];exact hl)
 have h2:((SX.S sep).length==0)=false:=by
  rw[SX.S_len]
  cases sep with
  | nil=>exact absurd rfl hne
  | cons x r=>rfl
 show (bif !((SX.S sep).length==0)&&(SX.S a).length.ble 1000000 then some (Fr.c .z,D.con .lst ((Txt.split (SX.S a) (SX.S sep)).map D.str)) else none)=_
 rw[h1,h2,e1,List.map_map];rfl
theorem num_free {r:List Int}{s:Nat}(h:s<32∨(32<s∧s<45)∨57<s∨s=47):s ∉ Ws r:=by
 have:∀ l:List (List Nat),(∀ p∈l,s ∉ p)->s ∉ TL.joinL [32] l:=λl=>by
  induction l with
  | nil=>intro _ hh;cases hh
  | cons p l ih=>
   intro hp
   cases l with
   | nil=>exact hp p (by simp)
   | cons q r=>
    show s ∉ p++([32]++TL.joinL [32] (q :: r))
    intro hh
    rcases List.mem_append.mp hh with h1 | h1
    ·exact hp p (by simp) h1
    ·rcases List.mem_append.mp h1 with h2 | h2
     ·have:=List.mem_singleton.mp h2;omega
     ·exact ih (λx hx=>hp x (by simp[hx])) h2
 exact this _ (λp hp=>by
  obtain⟨i,_,rfl⟩:=List.mem_map.mp hp
  exact ZaX (by omega))
abbrev uU:D:=.str (Str.ofString "unsure")
abbrev tMU:D:=.con .tup [.str (Str.ofString "many"),.str (Str.ofString "unsure")]
abbrev tMD:D:=.con .tup [.str (Str.ofString "move"),.str (Str.ofString "drop")]
structure WdOk (w:String)(n:Nat):Prop where
 ok:okC (cs w)=true
 sp:32 ∉ cs w
 nl:10 ∉ cs w
 ln:(cs w).length<=100
 e:oEq [.str (Str.ofString w),uU]=some (.z,.bl false)
 mu:oIn [.str (Str.ofString w),tMU]=some (.z,.bl false)
 tl:tlook ZC (Str.ofString w)=some (.int (n:Int))
theorem WV {a:D}{l m:List D}(h:l.length+m.length<=1000):oAdd [.con .tup l,.con .tup m]=some (.z,.con .tup (l++m)):=by
 have h2:l.length+m.length<=16777216:=by omega
 simp[h2]
theorem ZaK (S:List Nat):∀ (l:List Nat) (k:Nat) (acc:List Nat),1<=(TL.spl S k acc l).length∧(TL.spl S k acc l).length<=l.length+1
 | [],k,acc=>by rw[TL.spl_nil];simp
 | c :: r,0,acc=>by
  rw[TL.spl]
  split
  ·have:=ZaK S r (S.length - 1) []
   simp;omega
  ·have:=ZaK S r 0 (acc ++ [c])
   simp;omega
 | c :: r,k+1,acc=>by
  rw[TL.spl]
  have:=ZaK S r k acc
  simp;omega
def unsX (rows:List (List Int)):List Nat:=TL.joinL (cs " / ") (rows.map Ws)
theorem unsX_len {rows:List (List Int)}(hn:rows.length<=8)(h:∀ r∈rows,r.length=5∧∀ i∈r,i.natAbs<10 ^ 9):(unsX rows).length<=1000:=by
 have:=UX (sep:=cs " / ") (m:=100) (ps:=rows.map Ws) (λp hp=>by
  obtain⟨r,hr,rfl⟩:=List.mem_map.mp hp
  exact ZbL (h r hr).2 (by have:=(h r hr).1;omega))
 rw[List.length_map] at this
 have h4:rows.length * (100+(cs " / ").length)<=8 * 103:=Nat.mul_le_mul hn (by decide)
 unfold unsX
 omega
structure WdNe (w:String):Prop where
 n0:cs w ≠ []
 n1:cs w≠cs "unsure"
 n2:cs w≠cs "many"
def XOk (x:List Nat):Prop:=okC x=true∧x.length<=100∧32 ∉ x∧10 ∉ x
def NOk (is:List Int):Prop:=∀ i∈is,i.natAbs<10 ^ 9
inductive WD.Good:WD->Prop
 | num {w:String} {n:Nat} {is:List Int} (W:WdOk w n) (N:WdNe w) (hm:oIn [.str (Str.ofString w),tMD]=some (.z,.bl false)) (hp:oEq [.str (Str.ofString w),.str (Str.ofString "pane")]=some (.z,.bl false))
   (hn:is.length+1=n) (hl:is.length<=5) (h0:is ≠ []) (h:NOk is):WD.Good (.row (cs w) (is.map Th.n))
 | ref {w:String} {n:Nat} {x:List Nat} {is:List Int} (W:WdOk w n) (N:WdNe w) (hm:oIn [.str (Str.ofString w),tMD]=some (.z,.bl true)) (hn:is.length+2=n) (hl:is.length<=4) (hx:XOk x) (hx0:x ≠ []) (h:NOk is) :
   WD.Good (.row (cs w) (.s x :: is.map Th.n))
 | pane {x:List Nat} {a b c d:Int} (hx:XOk x) (hd:x ≠ [45]) (h:NOk [a,b,c,d]):WD.Good (.row (cs "pane") [.n a,.n b,.n c,.n d,.s x])
 | uns {rows:List (List Int)} (h0:rows ≠ []) (hn:rows.length<=8) (h:∀ r∈rows,r.length=5∧NOk r):WD.Good (.uns rows)
theorem nums_ok {is:List Int}(h:NOk is):∀ x∈is.map Th.n,x.Ok:=λx hx=>by
 obtain⟨i,hi,rfl⟩:=List.mem_map.mp hx
 exact h i hi
theorem WD.Good.ok {d:WD}(g:d.Good):d.Ok:=by
 cases g with
 | num W N hm hp hn hl h0 h=>exact⟨W.ok,W.ln,W.sp,W.nl,N.n0,N.n1,N.n2,by simpa using hl,nums_ok h⟩
 | ref W N hm hn hl hx hx0 h=>
  refine⟨W.ok,W.ln,W.sp,W.nl,N.n0,N.n1,N.n2,by simp;omega,λy hy=>?_⟩
  rcases List.mem_cons.mp hy with rfl | hy
  ·exact hx
  ·exact nums_ok h y hy
 | pane hx hd h=>
  refine⟨by decide,by decide,by decide,by decide,by decide,by decide,by decide,by simp,λy hy=>?_⟩
  simp only[List.mem_cons,List.not_mem_nil,or_false] at hy
  rcases hy with rfl | rfl | rfl | rfl | rfl
  ·exact h _ (by simp)
  ·exact h _ (by simp)
  ·exact h _ (by simp)
  ·exact h _ (by simp)
  ·exact hx
 | uns h0 hn h=>exact⟨h0,hn,h⟩
theorem cs_d (w:String):tx (cs w)=.str (Str.ofString w):=by rw[cs_S]
theorem join_mem {s:Nat}{sep:List Nat}(hs:s ∉ sep):∀ {l:List (List Nat)},(∀ p∈l,s ∉ p)->s ∉ TL.joinL sep l
 | [],_=>by intro hh;cases hh
 | [p],h=>h p (by simp)
 | p :: q :: r,h=>by
  show s ∉ p++(sep++TL.joinL sep (q :: r))
  intro hh
  rcases List.mem_append.mp hh with h1 | h1
  ·exact h p (by simp) h1
  ·rcases List.mem_append.mp h1 with h2 | h2
   ·exact hs h2
   ·exact join_mem hs (λx hx=>h x (by simp[hx])) h2
theorem Vz {a b:List Nat}:okC (a++b)=(okC a&&okC b):=by unfold okC;rw[List.all_append]
theorem UG {sep:List Nat}(hs:okC sep=true):∀ {l:List (List Nat)},(∀ p∈l,okC p=true)->okC (TL.joinL sep l)=true
 | [],_=>rfl
 | [p],h=>h p (by simp)
 | p :: q :: r,h=>by
  show okC (p++(sep++TL.joinL sep (q :: r)))=true
  rw[Vz,Vz,h p (by simp),hs,UG hs (λx hx=>h x (by simp[hx]))];rfl
theorem okC_numRow (r:List Int):okC (Ws r)=true:=UG (by decide) λp hp=>by
 obtain⟨i,_,rfl⟩:=List.mem_map.mp hp
 exact numC_okC i
theorem WD.Ok.nl {d:WD}(h:d.Ok):10 ∉ d.t:=by
 cases d with
 | row w ts=>
  obtain⟨h1,h2,h3,h4,h5,h6,h7,h8,h9⟩:=h
  exact join_mem (by decide) λp hp=>by
   rcases List.mem_cons.mp hp with rfl | hp
   ·exact h4
   ·obtain⟨x,hx,rfl⟩:=List.mem_map.mp hp
    exact (Th.t_free (h9 x hx)).2
 | uns rows=>
  show 10 ∉ cs "unsure " ++ TL.joinL (cs " / ") (rows.map Ws)
  intro hh
  rcases List.mem_append.mp hh with h1 | h1
  ·exact absurd h1 (by decide)
  ·exact join_mem (by decide) (λp hp=>by
    obtain⟨r,_,rfl⟩:=List.mem_map.mp hp
    exact num_free (by decide)) h1
theorem WD.Ok.len {d:WD}(h:d.Ok):d.t.length<=2000:=by
 cases d with
 | row w ts=>
  obtain⟨h1,h2,h3,h4,h5,h6,h7,h8,h9⟩:=h
  have:=UX (sep:=[32]) (m:=100) (ps:=w :: ts.map Th.t) (λp hp=>by
   rcases List.mem_cons.mp hp with rfl | hp
   ·exact h2
   ·obtain⟨x,hx,rfl⟩:=List.mem_map.mp hp
    exact Th.t_len (h9 x hx))
  rw[List.length_cons,List.length_map] at this
  have h2:(ts.length+1) * (100 + [32].length)<=6 * 101:=Nat.mul_le_mul (by omega) (by decide)
  show (TL.joinL [32] (w :: ts.map Th.t)).length<=2000
  omega
 | uns rows=>
  have:=unsX_len h.2.1 h.2.2
  show (cs "unsure " ++ unsX rows).length<=2000
  rw[List.length_append,show (cs "unsure ").length=7 from rfl];omega
theorem WD.Ok.okC {d:WD}(h:d.Ok):okC d.t=true:=by
 cases d with
 | row w ts=>
  obtain⟨h1,h2,h3,h4,h5,h6,h7,h8,h9⟩:=h
  exact UG (by decide) λp hp=>by
   rcases List.mem_cons.mp hp with rfl | hp
   ·exact h1
   ·obtain⟨x,hx,rfl⟩:=List.mem_map.mp hp
    exact Th.t_okC (h9 x hx)
 | uns rows=>
  show Hx.okC (cs "unsure " ++ TL.joinL (cs " / ") (rows.map Ws))=true
  rw[Vz,UG (by decide) (λp hp=>by
    obtain⟨r,_,rfl⟩:=List.mem_map.mp hp
    exact okC_numRow r)];decide
theorem part_tx {a p q:List Nat}(e:a=p++([32]++q))(h:32 ∉ p)(hl:a.length<=1000000):Zaw (SX.S a) [.str (Str.ofString " ")]=some (.z,.con .tup [tx p,.str (Str.ofString " "),tx q]):=by
 have e1:=SX.partition_some (a:=a) (b:=[32]) (by simp) (by rw[e];exact SX.par_head (c:=32) (sep:=[]) q h)
 have h1:(SX.S a).length.ble 1000000=true:=Nat.ble_eq_true_of_le (by rw[SX.S_len];exact hl)
 show (bif !((SX.S [32]).length==0)&&(SX.S a).length.ble 1000000 then some (Fr.z,D.con .tup [.str (Txt.partition (SX.S a) (SX.S [32])).1,.str (Txt.partition (SX.S a) (SX.S [32])).2.1,.str (Txt.partition (SX.S a) (SX.S [32])).2.2]) else none)=_
 rw[h1,e1];rfl
def Us (n:Nat):List Nat:=cs "many " ++ numC (n:Int)
theorem manyC_ok (n:Nat):okC (Us n)=true:=by unfold Us;rw[Vz,numC_okC];decide
theorem manyC_nl (n:Nat):10 ∉ Us n:=by
 unfold Us
 intro hh
 rcases List.mem_append.mp hh with h | h
 ·exact absurd h (by decide)
 ·exact ZaX (by decide) h
theorem manyC_len {n:Nat}(h:n<=1000):(Us n).length<=100:=by
 unfold Us
 have:=ZaS (i:=(n:Int)) (by simp;omega)
 rw[List.length_append,show (cs "many ").length=5 from rfl]
 omega
abbrev ED (rows:List D)(n:Nat)(acc:List D)(v5:Option (Fr × D)):Env:=[some (.z,.con .lst rows),some (.z,.int 0),some (.z,.int (n:Int)),none,some (.c .z,.con .lst acc),v5]
inductive LD where
 | one (d:WD)
 | many (ds:List WD)
def LD.rows:LD->List (List Nat)
 | .one d=>[d.t]
 | .many ds=>Us ds.length :: ds.map WD.t
def LD.d:LD->D
 | .one d=>d.d
 | .many ds=>.con .tup [.str (Str.ofString "many"),.con .tup (ds.map WD.d)]
def LD.t (l:LD):List Nat:=TL.joinL [10] l.rows
def LD.Good:LD->Prop
 | .one d=>d.Good
 | .many ds=>ds.length<=1000∧∀ d∈ds,d.Good
theorem LD.Good.row {l:LD}(g:l.Good):∀ p∈l.rows,10 ∉ p∧p.length<=2000:=by
 intro p hp
 cases l with
 | one d=>
  rcases List.mem_singleton.mp hp with rfl
  exact⟨g.ok.nl,g.ok.len⟩
 | many ds=>
  rcases List.mem_cons.mp hp with rfl | hp
  ·exact⟨manyC_nl _,by have:=manyC_len g.1;omega⟩
  ·obtain⟨d,hd,rfl⟩:=List.mem_map.mp hp
   exact⟨(g.2 d hd).ok.nl,(g.2 d hd).ok.len⟩
section
variable {st:Zd}{c k:Nat}
theorem wd_of {w:String}{n:Nat}(h1:okC (cs w)=true)(h2:32 ∉ cs w)(h3:10 ∉ cs w)(h4:(cs w).length<=100)(h5:cs w≠cs "unsure")(mu:oIn [.str (Str.ofString w),tMU]=some (.z,.bl false))(tl:tlook ZC (Str.ofString w)=some (.int (n:Int))):WdOk w n:=
 ⟨h1,h2,h3,h4,by rw[cs_S,uU,cs_S "unsure"];exact ZaM ((UJ h1 (by decide)).trans (by rw[decide_eq_false h5])),mu,tl⟩
theorem Zba {w:String}(h1:okC (cs w)=true)(h:cs w≠cs "pane"):oEq [.str (Str.ofString w),.str (Str.ofString "pane")]=some (.z,.bl false):=by
 rw[cs_S,cs_S "pane"]
 exact ZaM ((UJ h1 (by decide)).trans (by rw[decide_eq_false h]))
theorem WY {v w:String}(h1:okC (cs v)=true)(h2:okC (cs w)=true):oEq [.str (Str.ofString v),.str (Str.ofString w)]=some (.z,.bl (decide (cs v=cs w))):=by
 rw[cs_S,cs_S w]
 exact ZaM (UJ h1 h2)
theorem good_lamp {a b c d e:Int}(h:NOk [a,b,c,d,e]):WD.Good (.row (cs "lamp") ([a,b,c,d,e].map Th.n)):=
 .num (n:=6) (wd_of (by decide) (by decide) (by decide) (by decide) (by decide) (by rfl) (by rfl)) ⟨by decide,by decide,by decide⟩ (by rfl) (Zba (by decide) (by decide)) rfl (by simp) (by simp) h
theorem good_post {a b c d:Int}(h:NOk [a,b,c,d]):WD.Good (.row (cs "post") ([a,b,c,d].map Th.n)):=
 .num (n:=5) (wd_of (by decide) (by decide) (by decide) (by decide) (by decide) (by rfl) (by rfl)) ⟨by decide,by decide,by decide⟩ (by rfl) (Zba (by decide) (by decide)) rfl (by simp) (by simp) h
theorem good_look {a b c d e:Int}(h:NOk [a,b,c,d,e]):WD.Good (.row (cs "look") ([a,b,c,d,e].map Th.n)):=
 .num (n:=6) (wd_of (by decide) (by decide) (by decide) (by decide) (by decide) (by rfl) (by rfl)) ⟨by decide,by decide,by decide⟩ (by rfl) (Zba (by decide) (by decide)) rfl (by simp) (by simp) h
theorem good_switch {a:Int}(h:NOk [a]):WD.Good (.row (cs "switch") ([a].map Th.n)):=
 .num (n:=2) (wd_of (by decide) (by decide) (by decide) (by decide) (by decide) (by rfl) (by rfl)) ⟨by decide,by decide,by decide⟩ (by rfl) (Zba (by decide) (by decide)) rfl (by simp) (by simp) h
theorem good_strike {a:Int}(h:NOk [a]):WD.Good (.row (cs "strike") ([a].map Th.n)):=
 .num (n:=2) (wd_of (by decide) (by decide) (by decide) (by decide) (by decide) (by rfl) (by rfl)) ⟨by decide,by decide,by decide⟩ (by rfl) (Zba (by decide) (by decide)) rfl (by simp) (by simp) h
theorem good_settle {a b:Int}(h:NOk [a,b]):WD.Good (.row (cs "settle") ([a,b].map Th.n)):=
 .num (n:=3) (wd_of (by decide) (by decide) (by decide) (by decide) (by decide) (by rfl) (by rfl)) ⟨by decide,by decide,by decide⟩ (by rfl) (Zba (by decide) (by decide)) rfl (by simp) (by simp) h
theorem good_move {x:List Nat}{a b c:Int}(hx:XOk x)(h0:x ≠ [])(h:NOk [a,b,c]):WD.Good (.row (cs "move") (.s x :: [a,b,c].map Th.n)):=
 .ref (n:=5) (wd_of (by decide) (by decide) (by decide) (by decide) (by decide) (by rfl) (by rfl)) ⟨by decide,by decide,by decide⟩ (by rfl) rfl (by simp) hx h0 h
theorem good_drop {x:List Nat}{a:Int}(hx:XOk x)(h0:x ≠ [])(h:NOk [a]):WD.Good (.row (cs "drop") (.s x :: [a].map Th.n)):=
 .ref (n:=3) (wd_of (by decide) (by decide) (by decide) (by decide) (by decide) (by rfl) (by rfl)) ⟨by decide,by decide,by decide⟩ (by rfl) rfl (by simp) hx h0 h
theorem pow9:powOk 10 9=true:=by decide
theorem ZdB (B:Bag k st c)(hk:k+4<2 ^ 100):∃ (i:Int) (st':Zd),Zp [(.z,.ref c)] st=.ok .z false (.int i) st' ∧ i.natAbs<10 ^ 9∧Bag (k+4) st' c∧Fro1 c st st':=by
 obtain⟨a,s1,e1,a0,a1,_,B,f1⟩:=pull (n:=8) 10 B (by omega) (by decide) (by decide) (by decide)
 obtain⟨b,s2,e2,b0,b1,_,B,f2⟩:=pull (n:=31) 1000000000 B (by omega) (by decide) (by decide) (by decide)
 obtain⟨g,s3,e3,g0,g1,_,B,f3⟩:=pull (n:=8) 4 B (by omega) (by decide) (by decide) (by decide)
 obtain⟨h,s4,e4,h0,h1,_,B,f4⟩:=pull (n:=8) 2 B (by omega) (by decide) (by decide) (by decide)
 have p9:=pow9
 have key:∀ v:Int,v.natAbs<10 ^ 9->((if h=0 then v else 0 - v):Int).natAbs<10 ^ 9:=λv hv=>by split<;>omega
 have F:=((f1.trans f2).trans f3).trans f4
 unfold Zp Vf Ur Uk
 generalize ZV=PL at *
 have hg:g=0∨g=1∨g=2∨g=3:=by omega
 have hh:h=0∨h=1:=by omega
 rcases hg with rfl | rfl | rfl | rfl<;>rcases hh with rfl | rfl
 ·exact⟨a,s4,by simp[e1,e2,e3,e4,p9],by omega,B,F⟩
 ·exact⟨0 - a,s4,by simp[e1,e2,e3,e4,p9],by omega,B,F⟩
 ·exact⟨b,s4,by simp[e1,e2,e3,e4,p9],by omega,B,F⟩
 ·exact⟨0 - b,s4,by simp[e1,e2,e3,e4,p9],by omega,B,F⟩
 ·exact⟨999999999,s4,by simp[e1,e2,e3,e4,p9],by decide,B,F⟩
 ·exact⟨-999999999,s4,by simp[e1,e2,e3,e4,p9],by decide,B,F⟩
 ·exact⟨0,s4,by simp[e1,e2,e3,e4,p9],by decide,B,F⟩
 ·exact⟨0,s4,by simp[e1,e2,e3,e4,p9],by decide,B,F⟩
theorem f_l_word (B:Bag k st c)(hk:k+1<2 ^ 100):∃ (x:List Nat) (st':Zd),Zct [(.z,.ref c)] st=.ok .z false (tx x) st' ∧ XOk x∧x ≠ []∧Bag (k+1) st' c∧Fro1 c st st':=by
 obtain⟨g,d,s,e,u1,u2,u3,B,f⟩:=f_l_one (n:=8) (ds:=[.str (Str.ofString "lamp"),.str (Str.ofString "post"),.str (Str.ofString "pane"),.str (Str.ofString "x"),.str (Str.ofString "Lamp"),.str (Str.ofString "9"),.str (Str.ofString "/"),.str (Str.ofString "many"),.str (Str.ofString "~!")]) B (by omega) (by simp) (by simp) (by decide)
 have hm:=List.mem_of_getElem? u2
 have key:∃ x,d=tx x∧XOk x∧x ≠ []:=by
  simp only[List.mem_cons,List.not_mem_nil,or_false] at hm
  rcases hm with rfl | rfl | rfl | rfl | rfl | rfl | rfl | rfl | rfl
  ·exact⟨cs "lamp",(cs_d _).symm,⟨by decide,by decide,by decide,by decide⟩,by decide⟩
  ·exact⟨cs "post",(cs_d _).symm,⟨by decide,by decide,by decide,by decide⟩,by decide⟩
  ·exact⟨cs "pane",(cs_d _).symm,⟨by decide,by decide,by decide,by decide⟩,by decide⟩
  ·exact⟨cs "x",(cs_d _).symm,⟨by decide,by decide,by decide,by decide⟩,by decide⟩
  ·exact⟨cs "Lamp",(cs_d _).symm,⟨by decide,by decide,by decide,by decide⟩,by decide⟩
  ·exact⟨cs "9",(cs_d _).symm,⟨by decide,by decide,by decide,by decide⟩,by decide⟩
  ·exact⟨cs "/",(cs_d _).symm,⟨by decide,by decide,by decide,by decide⟩,by decide⟩
  ·exact⟨cs "many",(cs_d _).symm,⟨by decide,by decide,by decide,by decide⟩,by decide⟩
  ·exact⟨cs "~!",(cs_d _).symm,⟨by decide,by decide,by decide,by decide⟩,by decide⟩
 obtain⟨x,rfl,hx,h0⟩:=key
 exact⟨x,s,by simp[Zct,e],hx,h0,B,f⟩
theorem pane_wd (B:Bag k st c)(hk:k+1<2 ^ 100):∃ (x:List Nat) (st':Zd),Uh [(.z,.ref c),(.z,.con .lst [.str (Str.ofString ""),.str (Str.ofString "r"),.str (Str.ofString "rgb"),.str (Str.ofString "gr"),.str (Str.ofString "zz")])] st=.ok .z false (tx x) st' ∧ XOk x∧x ≠ [45]∧Bag (k+1) st' c∧Fro1 c st st':=by
 obtain⟨g,d,s,e,u1,u2,u3,B,f⟩:=f_l_one (n:=8) (ds:=[.str (Str.ofString ""),.str (Str.ofString "r"),.str (Str.ofString "rgb"),.str (Str.ofString "gr"),.str (Str.ofString "zz")]) B (by omega) (by simp) (by simp) (by decide)
 have hm:=List.mem_of_getElem? u2
 have key:∃ x,d=tx x∧XOk x∧x ≠ [45]:=by
  simp only[List.mem_cons,List.not_mem_nil,or_false] at hm
  rcases hm with rfl | rfl | rfl | rfl | rfl
  ·exact⟨cs "",(cs_d _).symm,⟨by decide,by decide,by decide,by decide⟩,by decide⟩
  ·exact⟨cs "r",(cs_d _).symm,⟨by decide,by decide,by decide,by decide⟩,by decide⟩
  ·exact⟨cs "rgb",(cs_d _).symm,⟨by decide,by decide,by decide,by decide⟩,by decide⟩
  ·exact⟨cs "gr",(cs_d _).symm,⟨by decide,by decide,by decide,by decide⟩,by decide⟩
  ·exact⟨cs "zz",(cs_d _).symm,⟨by decide,by decide,by decide,by decide⟩,by decide⟩
 obtain⟨x,rfl,hx,h0⟩:=key
 exact⟨x,s,e,hx,h0,B,f⟩
theorem draw_nums {p:Nat}{env:Hx.Env}(hp:p<env.length)(h0:env[0]?=some (some (.z,.ref c)))(hp0:p≠0)(n:Nat)(B:Bag k st c)(hk:k+4 * n+4<2 ^ 100):
  ∃ (is:List Int) (st':Zd),lcGo (.nm p) dYes (Zu Zp [] (Za (Ze 0))) (Zt 0 (n:Int)) env st []=.ok (.c .z) false (.con .lst (is.map D.int)) st' ∧ is.length=n∧NOk is∧Bag (k+4 * n) st' c∧FroG c st st':=by
 have hl:(Zt 0 (n:Int)).length=n:=by rw[Zce];simp[NI]
 obtain⟨xs,s,e,l,p1,B1,f1⟩:=lc_draw (p:=.nm p) (el:=Zu Zp [] (Za (Ze 0))) (env:=env) (g:=D.int) (P:=λi=>i.natAbs<10 ^ 9) (w:=4) (c:=c) (K:=k+4 * n) (λk' st' d hk' B'=>by
  obtain⟨i,s,e,hi,B2,f2⟩:=ZdB B' (by omega)
  refine⟨env.set p (some (.z,d)),i,s,by simp[ZX,hp],?_,hi,B2,f2.g⟩
  have hs:(env.set p (some (.z,d)))[0]?=some (some (.z,.ref c)):=by
   rw[List.getElem?_set_ne hp0];exact h0
  generalize Zp=F at *
  simp[hs,e]) (Zt 0 (n:Int)) k st [] B (by rw[hl];omega)
 rw[hl] at B1 l
 exact⟨xs,s,by rw[e];simp,l,p1,B1,f1⟩
theorem draw_rows {v1 v2 v3 v4:Option (Fr × D)}(n:Nat)(hn:n<=100)(B:Bag k st c)(hk:k+20 * n+40<2 ^ 100):
  ∃ (rs:List (List Int)) (st':Zd),lcGo (.nm 5) dYes (dOp WN (Za (dLc (ZaL (Za (dC (.int 5)))) [6] (.nm 6) (dYes) (Zu Zp [] (Za (Ze 0)))))) (Zt 0 (n:Int)) [some (.z,.ref c),v1,v2,v3,v4,none,none] st []=.ok (.c .z) false (.con .lst (rs.map λr=>.con .tup (r.map D.int))) st' ∧
   rs.length=n∧(∀ r∈rs,r.length=5∧NOk r)∧Bag (k+20 * n) st' c:=by
 have hl:(Zt 0 (n:Int)).length=n:=by rw[Zce];simp[NI]
 obtain⟨xs,s,e,l,p1,B1,f1⟩:=lc_draw (p:=.nm 5) (el:=dOp WN (Za (dLc (ZaL (Za (dC (.int 5)))) [6] (.nm 6) (dYes) (Zu Zp [] (Za (Ze 0)))))) (env:=[some (.z,.ref c),v1,v2,v3,v4,none,none]) (g:=λr:List Int=>D.con .tup (r.map D.int)) (P:=λr=>r.length=5∧NOk r) (w:=20) (c:=c) (K:=k+20 * n) (λk' st' d hk' B'=>by
  obtain⟨is,s,e,hi,h2,B2,f2⟩:=draw_nums (p:=6) (env:=[some (.z,.ref c),v1,v2,v3,v4,some (.z,d),none]) (by simp) rfl (by decide) 5 B' (by omega)
  refine⟨[some (.z,.ref c),v1,v2,v3,v4,some (.z,d),none],is,s,rfl,?_,⟨hi,h2⟩,B2,f2⟩
  have h5:(Zt 0 5).length<=16777215:=by decide
  have e:lcGo (.nm 6) dYes (Zu Zp [] (Za (Ze 0))) (Zt 0 5) [some (.z,.ref c),v1,v2,v3,v4,some (.z,d),none] st' []=_:=e
  have hs5:Wq 5=true:=by decide
  simp[dLc,Zy,hs5,h5,e]) (Zt 0 (n:Int)) k st [] B (by rw[hl];omega)
 rw[hl] at B1 l
 exact⟨xs,s,by rw[e];rfl,l,p1,B1⟩
abbrev wKs:List Key:=[Sum.inr (Str.ofString "lamp"),Sum.inr (Str.ofString "post"),Sum.inr (Str.ofString "switch"),Sum.inr (Str.ofString "look"),Sum.inr (Str.ofString "strike"),Sum.inr (Str.ofString "settle")]
abbrev wWs:List D:=[.str (Str.ofString "lamp"),.str (Str.ofString "unsure"),.str (Str.ofString "post"),.str (Str.ofString "pane"),.str (Str.ofString "move"),.str (Str.ofString "switch"),.str (Str.ofString "drop"),.str (Str.ofString "look"),.str (Str.ofString "strike"),.str (Str.ofString "settle")]
theorem Zbh (a b c d e:D):cutD [a,b,c,d,e] none (some 5)=[a,b,c,d,e]∧cutD [a,b,c,d,e] none (some 4)=[a,b,c,d]∧cutD [a,b,c,d,e] none (some 3)=[a,b,c]∧cutD [a,b,c,d,e] none (some 2)=[a,b]∧cutD [a,b,c,d,e] none (some 1)=[a]:=⟨rfl,rfl,rfl,rfl,rfl⟩
theorem Zbr (B:Bag k st c)(hk:k+400<2 ^ 100):∃ (d:WD) (st':Zd),Zo [(.z,.ref c)] st=.ok .z false d.d st' ∧ d.Good∧Bag (k+300) st' c:=by
 obtain⟨g,s1,e1,g0,g1,_,B,f1⟩:=pull (n:=8) 10 B (by omega) (by decide) (by decide) (by decide)
 have hg:g=0∨g=1∨g=2∨g=3∨g=4∨g=5∨g=6∨g=7∨g=8∨g=9:=by omega
 have nums:=λw:String=>draw_nums (p:=5) (env:=[some (.z,.ref c),some (.z,.str (Str.ofString w)),none,none,none,none,none]) (st:=s1) (by simp) rfl (by decide) 5 B (by omega)
 have h5:(Zt 0 5).length<=16777215:=by decide
 have hs5:Wq 5=true:=by decide
 rcases hg with rfl | rfl | rfl | rfl | rfl | rfl | rfl | rfl | rfl | rfl
 ·have hat:atI wWs 0=some (.str (Str.ofString "lamp")):=by rfl
  obtain⟨is,s2,e2,hl,hi,B,f2⟩:=nums "lamp"
  obtain⟨a,b,c',d,e,rfl⟩:∃ a b c' d e,is=[a,b,c',d,e]:=by
   match is,hl with
   | [a,b,c',d,e],_=>exact⟨a,b,c',d,e,rfl⟩
  have e2:lcGo (.nm 5) dYes (Zu Zp [] (Za (Ze 0))) (Zt 0 5) [some (.z,.ref c),some (.z,.str (Str.ofString "lamp")),none,none,none,none,none] s1 []=.ok (.c .z) false (.con .lst [.int a,.int b,.int c',.int d,.int e]) s2:=e2
  obtain⟨c5,c4,c3,c2,c1⟩:=Zbh (.int a) (.int b) (.int c') (.int d) (.int e)
  have q1:=WY (v:="lamp") (w:="unsure") (by decide) (by decide)
  rw[decide_eq_false (by decide)] at q1
  have q2:=WY (v:="lamp") (w:="pane") (by decide) (by decide)
  rw[decide_eq_false (by decide)] at q2
  have q3:oIn [.str (Str.ofString "lamp"),tMD]=some (.z,.bl false):=by rfl
  have kq:getK wKs [D.int 5,D.int 4,D.int 1,D.int 5,D.int 1,D.int 2] (Sum.inr (Str.ofString "lamp"))=some (.int 5):=by rfl
  refine⟨.row (cs "lamp") ([a,b,c',d,e].map Th.n),s2,?_,good_lamp (λi h=>hi i (by simp at h ⊢;omega)),B.mono (by omega)⟩
  show Zo [(.z,.ref c)] st=.ok .z false (.con .tup [tx (cs "lamp"),.int a,.int b,.int c',.int d,.int e]) s2
  rw[cs_d]
  simp[-oEq,-oIn,Zo,dLc,Zy,hat,hs5,h5,e1,e2,q1,q2,q3,kq,c5,c4,c3,c2,c1]
 ·have hat:atI wWs 1=some (.str (Str.ofString "unsure")):=by rfl
  obtain⟨is,s2,e2,hl,hi,B,f2⟩:=nums "unsure"
  obtain⟨a,b,c',d,e,rfl⟩:∃ a b c' d e,is=[a,b,c',d,e]:=by
   match is,hl with
   | [a,b,c',d,e],_=>exact⟨a,b,c',d,e,rfl⟩
  have e2:lcGo (.nm 5) dYes (Zu Zp [] (Za (Ze 0))) (Zt 0 5) [some (.z,.ref c),some (.z,.str (Str.ofString "unsure")),none,none,none,none,none] s1 []=.ok (.c .z) false (.con .lst [.int a,.int b,.int c',.int d,.int e]) s2:=e2
  obtain⟨c5,c4,c3,c2,c1⟩:=Zbh (.int a) (.int b) (.int c') (.int d) (.int e)
  have q1:=WY (v:="unsure") (w:="unsure") (by decide) (by decide)
  rw[decide_eq_true rfl] at q1
  have q2:=WY (v:="unsure") (w:="pane") (by decide) (by decide)
  rw[decide_eq_false (by decide)] at q2
  have q3:oIn [.str (Str.ofString "unsure"),tMD]=some (.z,.bl false):=by rfl
  obtain⟨h,s3,e3,h0,h1,_,B,f3⟩:=pull (n:=8) 8 B (by omega) (by decide) (by decide) (by decide)
  have hh:((h.toNat:Nat):Int)=h:=by omega
  obtain⟨rs,s4,e4,hr,hrs,B⟩:=draw_rows (v1:=some (.z,.str (Str.ofString "unsure"))) (v2:=some (.z,.con .lst [.int a,.int b,.int c',.int d,.int e])) (v3:=none) (v4:=none) (1+h.toNat) (by omega) B (by omega)
  have hh2:(((1+h.toNat:Nat):Nat):Int)=1+h:=by omega
  rw[hh2] at e4
  have hl2:(Zt 0 (1+h)).length<=16777215:=by rw[<- hh2,Zce];simp[NI];omega
  have hs2:Wq (1+h)=true:=by unfold Wq;simp;omega
  refine⟨.uns rs,s4,?_,.uns (by intro e;rw[e] at hr;simp at hr;omega) (by omega) hrs,B.mono (by omega)⟩
  show Zo [(.z,.ref c)] st=.ok .z false (.con .tup [.str (Str.ofString "unsure"),.con .tup (rs.map λr=>.con .tup (r.map D.int))]) s4
  generalize (rs.map λr=>D.con .tup (r.map D.int))=RS at *
  simp[-oEq,-oIn,Zo,dLc,Zy,hat,hs5,h5,e1,e2,e3,e4,q1,hs2,hl2]
 ·have hat:atI wWs 2=some (.str (Str.ofString "post")):=by rfl
  obtain⟨is,s2,e2,hl,hi,B,f2⟩:=nums "post"
  obtain⟨a,b,c',d,e,rfl⟩:∃ a b c' d e,is=[a,b,c',d,e]:=by
   match is,hl with
   | [a,b,c',d,e],_=>exact⟨a,b,c',d,e,rfl⟩
  have e2:lcGo (.nm 5) dYes (Zu Zp [] (Za (Ze 0))) (Zt 0 5) [some (.z,.ref c),some (.z,.str (Str.ofString "post")),none,none,none,none,none] s1 []=.ok (.c .z) false (.con .lst [.int a,.int b,.int c',.int d,.int e]) s2:=e2
  obtain⟨c5,c4,c3,c2,c1⟩:=Zbh (.int a) (.int b) (.int c') (.int d) (.int e)
  have q1:=WY (v:="post") (w:="unsure") (by decide) (by decide)
  rw[decide_eq_false (by decide)] at q1
  have q2:=WY (v:="post") (w:="pane") (by decide) (by decide)
  rw[decide_eq_false (by decide)] at q2
  have q3:oIn [.str (Str.ofString "post"),tMD]=some (.z,.bl false):=by rfl
  have kq:getK wKs [D.int 5,D.int 4,D.int 1,D.int 5,D.int 1,D.int 2] (Sum.inr (Str.ofString "post"))=some (.int 4):=by rfl
  refine⟨.row (cs "post") ([a,b,c',d].map Th.n),s2,?_,good_post (λi h=>hi i (by simp at h ⊢;omega)),B.mono (by omega)⟩
  show Zo [(.z,.ref c)] st=.ok .z false (.con .tup [tx (cs "post"),.int a,.int b,.int c',.int d]) s2
  rw[cs_d]
  simp[-oEq,-oIn,Zo,dLc,Zy,hat,hs5,h5,e1,e2,q1,q2,q3,kq,c5,c4,c3,c2,c1]
 ·have hat:atI wWs 3=some (.str (Str.ofString "pane")):=by rfl
  obtain⟨is,s2,e2,hl,hi,B,f2⟩:=nums "pane"
  obtain⟨a,b,c',d,e,rfl⟩:∃ a b c' d e,is=[a,b,c',d,e]:=by
   match is,hl with
   | [a,b,c',d,e],_=>exact⟨a,b,c',d,e,rfl⟩
  have e2:lcGo (.nm 5) dYes (Zu Zp [] (Za (Ze 0))) (Zt 0 5) [some (.z,.ref c),some (.z,.str (Str.ofString "pane")),none,none,none,none,none] s1 []=.ok (.c .z) false (.con .lst [.int a,.int b,.int c',.int d,.int e]) s2:=e2
  obtain⟨c5,c4,c3,c2,c1⟩:=Zbh (.int a) (.int b) (.int c') (.int d) (.int e)
  have q1:=WY (v:="pane") (w:="unsure") (by decide) (by decide)
  rw[decide_eq_false (by decide)] at q1
  have q2:=WY (v:="pane") (w:="pane") (by decide) (by decide)
  rw[decide_eq_true rfl] at q2
  have q3:oIn [.str (Str.ofString "pane"),tMD]=some (.z,.bl false):=by rfl
  obtain⟨x,s3,e3,hx,hx0,B,f3⟩:=pane_wd B (by omega)
  refine⟨.row (cs "pane") [.n a,.n b,.n c',.n d,.s x],s3,?_,.pane hx hx0 (λi h=>hi i (by simp at h ⊢;omega)),B.mono (by omega)⟩
  show Zo [(.z,.ref c)] st=.ok .z false (.con .tup [tx (cs "pane"),.int a,.int b,.int c',.int d,tx x]) s3
  rw[cs_d]
  have hlx:lk s3 (tx x)=tx x:=rfl
  generalize tx x=X at *
  simp[-oEq,-oIn,Zo,dLc,Zy,hat,hs5,h5,e1,e2,e3,q1,q2,q3,c5,c4,c3,c2,c1,hlx]
 ·have hat:atI wWs 4=some (.str (Str.ofString "move")):=by rfl
  obtain⟨is,s2,e2,hl,hi,B,f2⟩:=nums "move"
  obtain⟨a,b,c',d,e,rfl⟩:∃ a b c' d e,is=[a,b,c',d,e]:=by
   match is,hl with
   | [a,b,c',d,e],_=>exact⟨a,b,c',d,e,rfl⟩
  have e2:lcGo (.nm 5) dYes (Zu Zp [] (Za (Ze 0))) (Zt 0 5) [some (.z,.ref c),some (.z,.str (Str.ofString "move")),none,none,none,none,none] s1 []=.ok (.c .z) false (.con .lst [.int a,.int b,.int c',.int d,.int e]) s2:=e2
  obtain⟨c5,c4,c3,c2,c1⟩:=Zbh (.int a) (.int b) (.int c') (.int d) (.int e)
  have q1:=WY (v:="move") (w:="unsure") (by decide) (by decide)
  rw[decide_eq_false (by decide)] at q1
  have q2:=WY (v:="move") (w:="pane") (by decide) (by decide)
  rw[decide_eq_false (by decide)] at q2
  have q3:oIn [.str (Str.ofString "move"),tMD]=some (.z,.bl true):=by rfl
  obtain⟨x,s3,e3,hx,hx0,B,f3⟩:=f_l_word B (by omega)
  have q4:=WY (v:="move") (w:="move") (by decide) (by decide)
  rw[decide_eq_true rfl] at q4
  refine⟨.row (cs "move") (.s x :: [a,b,c'].map Th.n),s3,?_,good_move hx hx0 (λi h=>hi i (by simp at h ⊢;omega)),B.mono (by omega)⟩
  show Zo [(.z,.ref c)] st=.ok .z false (.con .tup [tx (cs "move"),tx x,.int a,.int b,.int c']) s3
  rw[cs_d]
  have hlx:lk s3 (tx x)=tx x:=rfl
  generalize tx x=X at *
  simp[-oEq,-oIn,Zo,dLc,Zy,hat,hs5,h5,e1,e2,e3,q1,q2,q3,q4,c5,c4,c3,c2,c1,hlx]
 ·have hat:atI wWs 5=some (.str (Str.ofString "switch")):=by rfl
  obtain⟨is,s2,e2,hl,hi,B,f2⟩:=nums "switch"
  obtain⟨a,b,c',d,e,rfl⟩:∃ a b c' d e,is=[a,b,c',d,e]:=by
   match is,hl with
   | [a,b,c',d,e],_=>exact⟨a,b,c',d,e,rfl⟩
  have e2:lcGo (.nm 5) dYes (Zu Zp [] (Za (Ze 0))) (Zt 0 5) [some (.z,.ref c),some (.z,.str (Str.ofString "switch")),none,none,none,none,none] s1 []=.ok (.c .z) false (.con .lst [.int a,.int b,.int c',.int d,.int e]) s2:=e2
  obtain⟨c5,c4,c3,c2,c1⟩:=Zbh (.int a) (.int b) (.int c') (.int d) (.int e)
  have q1:=WY (v:="switch") (w:="unsure") (by decide) (by decide)
  rw[decide_eq_false (by decide)] at q1
  have q2:=WY (v:="switch") (w:="pane") (by decide) (by decide)
  rw[decide_eq_false (by decide)] at q2
  have q3:oIn [.str (Str.ofString "switch"),tMD]=some (.z,.bl false):=by rfl
  have kq:getK wKs [D.int 5,D.int 4,D.int 1,D.int 5,D.int 1,D.int 2] (Sum.inr (Str.ofString "switch"))=some (.int 1):=by rfl
  refine⟨.row (cs "switch") ([a].map Th.n),s2,?_,good_switch (λi h=>hi i (by simp at h ⊢;omega)),B.mono (by omega)⟩
  show Zo [(.z,.ref c)] st=.ok .z false (.con .tup [tx (cs "switch"),.int a]) s2
  rw[cs_d]
  simp[-oEq,-oIn,Zo,dLc,Zy,hat,hs5,h5,e1,e2,q1,q2,q3,kq,c5,c4,c3,c2,c1]
 ·have hat:atI wWs 6=some (.str (Str.ofString "drop")):=by rfl
  obtain⟨is,s2,e2,hl,hi,B,f2⟩:=nums "drop"
  obtain⟨a,b,c',d,e,rfl⟩:∃ a b c' d e,is=[a,b,c',d,e]:=by
   match is,hl with
   | [a,b,c',d,e],_=>exact⟨a,b,c',d,e,rfl⟩
  have e2:lcGo (.nm 5) dYes (Zu Zp [] (Za (Ze 0))) (Zt 0 5) [some (.z,.ref c),some (.z,.str (Str.ofString "drop")),none,none,none,none,none] s1 []=.ok (.c .z) false (.con .lst [.int a,.int b,.int c',.int d,.int e]) s2:=e2
  obtain⟨c5,c4,c3,c2,c1⟩:=Zbh (.int a) (.int b) (.int c') (.int d) (.int e)
  have q1:=WY (v:="drop") (w:="unsure") (by decide) (by decide)
  rw[decide_eq_false (by decide)] at q1
  have q2:=WY (v:="drop") (w:="pane") (by decide) (by decide)
  rw[decide_eq_false (by decide)] at q2
  have q3:oIn [.str (Str.ofString "drop"),tMD]=some (.z,.bl true):=by rfl
  obtain⟨x,s3,e3,hx,hx0,B,f3⟩:=f_l_word B (by omega)
  have q4:=WY (v:="drop") (w:="move") (by decide) (by decide)
  rw[decide_eq_false (by decide)] at q4
  refine⟨.row (cs "drop") (.s x :: [a].map Th.n),s3,?_,good_drop hx hx0 (λi h=>hi i (by simp at h ⊢;omega)),B.mono (by omega)⟩
  show Zo [(.z,.ref c)] st=.ok .z false (.con .tup [tx (cs "drop"),tx x,.int a]) s3
  rw[cs_d]
  have hlx:lk s3 (tx x)=tx x:=rfl
  generalize tx x=X at *
  simp[-oEq,-oIn,Zo,dLc,Zy,hat,hs5,h5,e1,e2,e3,q1,q2,q3,q4,c5,c4,c3,c2,c1,hlx]
 ·have hat:atI wWs 7=some (.str (Str.ofString "look")):=by rfl
  obtain⟨is,s2,e2,hl,hi,B,f2⟩:=nums "look"
  obtain⟨a,b,c',d,e,rfl⟩:∃ a b c' d e,is=[a,b,c',d,e]:=by
   match is,hl with
   | [a,b,c',d,e],_=>exact⟨a,b,c',d,e,rfl⟩
  have e2:lcGo (.nm 5) dYes (Zu Zp [] (Za (Ze 0))) (Zt 0 5) [some (.z,.ref c),some (.z,.str (Str.ofString "look")),none,none,none,none,none] s1 []=.ok (.c .z) false (.con .lst [.int a,.int b,.int c',.int d,.int e]) s2:=e2
  obtain⟨c5,c4,c3,c2,c1⟩:=Zbh (.int a) (.int b) (.int c') (.int d) (.int e)
  have q1:=WY (v:="look") (w:="unsure") (by decide) (by decide)
  rw[decide_eq_false (by decide)] at q1
  have q2:=WY (v:="look") (w:="pane") (by decide) (by decide)
  rw[decide_eq_false (by decide)] at q2
  have q3:oIn [.str (Str.ofString "look"),tMD]=some (.z,.bl false):=by rfl
  have kq:getK wKs [D.int 5,D.int 4,D.int 1,D.int 5,D.int 1,D.int 2] (Sum.inr (Str.ofString "look"))=some (.int 5):=by rfl
  refine⟨.row (cs "look") ([a,b,c',d,e].map Th.n),s2,?_,good_look (λi h=>hi i (by simp at h ⊢;omega)),B.mono (by omega)⟩
  show Zo [(.z,.ref c)] st=.ok .z false (.con .tup [tx (cs "look"),.int a,.int b,.int c',.int d,.int e]) s2
  rw[cs_d]
  simp[-oEq,-oIn,Zo,dLc,Zy,hat,hs5,h5,e1,e2,q1,q2,q3,kq,c5,c4,c3,c2,c1]
 ·have hat:atI wWs 8=some (.str (Str.ofString "strike")):=by rfl
  obtain⟨is,s2,e2,hl,hi,B,f2⟩:=nums "strike"
  obtain⟨a,b,c',d,e,rfl⟩:∃ a b c' d e,is=[a,b,c',d,e]:=by
   match is,hl with
   | [a,b,c',d,e],_=>exact⟨a,b,c',d,e,rfl⟩
  have e2:lcGo (.nm 5) dYes (Zu Zp [] (Za (Ze 0))) (Zt 0 5) [some (.z,.ref c),some (.z,.str (Str.ofString "strike")),none,none,none,none,none] s1 []=.ok (.c .z) false (.con .lst [.int a,.int b,.int c',.int d,.int e]) s2:=e2
  obtain⟨c5,c4,c3,c2,c1⟩:=Zbh (.int a) (.int b) (.int c') (.int d) (.int e)
  have q1:=WY (v:="strike") (w:="unsure") (by decide) (by decide)
  rw[decide_eq_false (by decide)] at q1
  have q2:=WY (v:="strike") (w:="pane") (by decide) (by decide)
  rw[decide_eq_false (by decide)] at q2
  have q3:oIn [.str (Str.ofString "strike"),tMD]=some (.z,.bl false):=by rfl
  have kq:getK wKs [D.int 5,D.int 4,D.int 1,D.int 5,D.int 1,D.int 2] (Sum.inr (Str.ofString "strike"))=some (.int 1):=by rfl
  refine⟨.row (cs "strike") ([a].map Th.n),s2,?_,good_strike (λi h=>hi i (by simp at h ⊢;omega)),B.mono (by omega)⟩
  show Zo [(.z,.ref c)] st=.ok .z false (.con .tup [tx (cs "strike"),.int a]) s2
  rw[cs_d]
  simp[-oEq,-oIn,Zo,dLc,Zy,hat,hs5,h5,e1,e2,q1,q2,q3,kq,c5,c4,c3,c2,c1]
 ·have hat:atI wWs 9=some (.str (Str.ofString "settle")):=by rfl
  obtain⟨is,s2,e2,hl,hi,B,f2⟩:=nums "settle"
  obtain⟨a,b,c',d,e,rfl⟩:∃ a b c' d e,is=[a,b,c',d,e]:=by
   match is,hl with
   | [a,b,c',d,e],_=>exact⟨a,b,c',d,e,rfl⟩
  have e2:lcGo (.nm 5) dYes (Zu Zp [] (Za (Ze 0))) (Zt 0 5) [some (.z,.ref c),some (.z,.str (Str.ofString "settle")),none,none,none,none,none] s1 []=.ok (.c .z) false (.con .lst [.int a,.int b,.int c',.int d,.int e]) s2:=e2
  obtain⟨c5,c4,c3,c2,c1⟩:=Zbh (.int a) (.int b) (.int c') (.int d) (.int e)
  have q1:=WY (v:="settle") (w:="unsure") (by decide) (by decide)
  rw[decide_eq_false (by decide)] at q1
  have q2:=WY (v:="settle") (w:="pane") (by decide) (by decide)
  rw[decide_eq_false (by decide)] at q2
  have q3:oIn [.str (Str.ofString "settle"),tMD]=some (.z,.bl false):=by rfl
  have kq:getK wKs [D.int 5,D.int 4,D.int 1,D.int 5,D.int 1,D.int 2] (Sum.inr (Str.ofString "settle"))=some (.int 2):=by rfl
  refine⟨.row (cs "settle") ([a,b].map Th.n),s2,?_,good_settle (λi h=>hi i (by simp at h ⊢;omega)),B.mono (by omega)⟩
  show Zo [(.z,.ref c)] st=.ok .z false (.con .tup [tx (cs "settle"),.int a,.int b]) s2
  rw[cs_d]
  simp[-oEq,-oIn,Zo,dLc,Zy,hat,hs5,h5,e1,e2,q1,q2,q3,kq,c5,c4,c3,c2,c1]
end
theorem WD.Ok.plain {d:WD}(h:d.Ok)(m:Nat):WZ (m+5) d.d=true:=by
 cases d with
 | row w ts=>
  obtain⟨h1,h2,h3,h4,h5,h6,h7,h8,h9⟩:=h
  show (decide ((tx w :: ts.map Th.d).length<=1000)&&(tx w :: ts.map Th.d).all (WZ (m+4)))=true
  rw[Bool.and_eq_true,decide_eq_true_iff,List.all_eq_true]
  refine⟨by simp;omega,λx hx=>?_⟩
  rcases List.mem_cons.mp hx with rfl | hx
  ·exact ZM h1
  ·obtain⟨y,hy,rfl⟩:=List.mem_map.mp hx
   cases y with
   | n i=>rfl
   | s x=>exact ZM (h9 _ hy).1
 | uns rows=>
  obtain⟨h1,h2,h3⟩:=h
  show (decide (2<=1000)&&(WZ (m+4) (.str (Str.ofString "unsure"))&&(WZ (m+4) (.con .tup (rows.map λr=>.con .tup (r.map D.int)))&&true)))=true
  have a1:WZ (m+4) (.str (Str.ofString "unsure"))=true:=ZM (a:=cs "unsure") (by decide)
  have a2:WZ (m+4) (.con .tup (rows.map λr=>.con .tup (r.map D.int)))=true:=by
   show (decide ((rows.map λr=>D.con .tup (r.map D.int)).length<=1000)&&(rows.map λr=>D.con .tup (r.map D.int)).all (WZ (m+3)))=true
   rw[Bool.and_eq_true,decide_eq_true_iff,List.all_eq_true]
   refine⟨by simp;omega,λx hx=>?_⟩
   obtain⟨r,hr,rfl⟩:=List.mem_map.mp hx
   show (decide ((r.map D.int).length<=1000)&&(r.map D.int).all (WZ (m+2)))=true
   rw[Bool.and_eq_true,decide_eq_true_iff,List.all_eq_true]
   refine⟨by have:=(h3 r hr).1;simp;omega,λy hy=>?_⟩
   obtain⟨i,_,rfl⟩:=List.mem_map.mp hy
   rfl
  rw[a1,a2];rfl
theorem LD.Good.plain {l:LD}(g:l.Good):WZ 8 l.d=true:=by
 cases l with
 | one d=>exact WD.Ok.plain (WD.Good.ok g) 3
 | many ds=>
  show (decide (2<=1000)&&(WZ 7 (.str (Str.ofString "many"))&&(WZ 7 (.con .tup (ds.map WD.d))&&true)))=true
  have a1:WZ 7 (.str (Str.ofString "many"))=true:=ZM (a:=cs "many") (by decide)
  have a2:WZ 7 (.con .tup (ds.map WD.d))=true:=by
   show (decide ((ds.map WD.d).length<=1000)&&(ds.map WD.d).all (WZ 6))=true
   rw[Bool.and_eq_true,decide_eq_true_iff,List.all_eq_true]
   refine⟨by simpa using g.1,λx hx=>?_⟩
   obtain⟨d,hd,rfl⟩:=List.mem_map.mp hx
   exact (g.2 d hd).ok.plain 1
  rw[a1,a2];rfl
theorem LD.Good.tok {l:LD}(g:l.Good):okC l.t=true:=UG (by decide) λp hp=>by
 cases l with
 | one d=>rcases List.mem_singleton.mp hp with rfl;exact WD.Ok.okC (WD.Good.ok g)
 | many ds=>
  rcases List.mem_cons.mp hp with rfl | hp
  ·exact manyC_ok _
  ·obtain⟨d,hd,rfl⟩:=List.mem_map.mp hp
   exact (g.2 d hd).ok.okC
theorem spl_mem {S:List Nat}:∀ (l:List Nat) (k:Nat) (acc:List Nat),∀ p∈TL.spl S k acc l,(∀ c∈p,c∈acc++l)∧p.length<=acc.length+l.length
 | [],k,acc,p,h=>by
  rw[TL.spl_nil] at h
  rw[List.mem_singleton.mp h]
  simp
 | c :: r,0,acc,p,h=>by
  rw[TL.spl] at h
  split at h
  ·rcases List.mem_cons.mp h with rfl | h
   ·exact⟨λc hc=>by simp[hc],by simp⟩
   ·obtain⟨h1,h2⟩:=spl_mem r (S.length - 1) [] p h
    refine⟨λd hd=>?_,by simp at h2 ⊢;omega⟩
    have:=h1 d hd
    simp at this
    simp[this]
  ·obtain⟨h1,h2⟩:=spl_mem r 0 (acc ++ [c]) p h
   refine⟨λd hd=>?_,by simp at h2 ⊢;omega⟩
   have:=h1 d hd
   simpa using this
 | c :: r,k+1,acc,p,h=>by
  rw[TL.spl] at h
  obtain⟨h1,h2⟩:=spl_mem r k acc p h
  refine⟨λd hd=>?_,by simp;omega⟩
  have:=h1 d hd
  simp at this
  rcases this with h | h<;>simp[h]
theorem VI {a p:List Nat}(h:okC a=true)(hs:∀ c∈p,c∈a):okC p=true:=
 List.all_eq_true.mpr λc hc=>List.all_eq_true.mp h c (hs c hc)
structure Tok (n:Nat)(a:List Nat):Prop where
 ok:okC a=true
 ln:a.length<=n
theorem Tok.spl {n:Nat}{S a p:List Nat}(h:Tok n a)(hp:p∈TL.spl S 0 [] a):Tok n p:=by
 obtain⟨h1,h2⟩:=spl_mem a 0 [] p hp
 exact⟨VI h.ok λc hc=>by simpa using h1 c hc,Nat.le_trans h2 (by simpa using h.ln)⟩
theorem Tok.drop {n k:Nat}{a:List Nat}(h:Tok n a):Tok n (a.drop k):=⟨VI h.ok λc hc=>List.mem_of_mem_drop hc,by rw[List.length_drop];have:=h.ln;omega⟩
theorem Tok.take {n k:Nat}{a:List Nat}(h:Tok n a):Tok n (a.take k):=⟨VI h.ok λc hc=>List.mem_of_mem_take hc,by rw[List.length_take];have:=h.ln;omega⟩
theorem cutS_lo {a:List Nat}{k:Nat}:cutS (SX.S a) (some (k:Int)) none=SX.S (a.drop k):=by
 have e1:(SX.S a).length=a.length:=SX.S_len _
 unfold cutS
 rw[HT.sIx_nat,HT.sIx_none,e1]
 show (⟨((a.drop (min k a.length)).take (a.length - min k a.length)).toArray⟩:Str)=⟨(a.drop k).toArray⟩
 congr 2
 by_cases c:k<=a.length
 ·rw[Nat.min_eq_left c,List.take_of_length_le (by rw[List.length_drop];exact Nat.le_refl _)]
 ·rw[Nat.min_eq_right (by omega),List.drop_length,List.drop_eq_nil_of_le (by omega)];simp
theorem cutS_hi {a:List Nat}{k:Nat}:cutS (SX.S a) none (some (k:Int))=SX.S (a.take k):=by
 have e1:(SX.S a).length=a.length:=SX.S_len _
 unfold cutS
 rw[HT.sIx_nat,HT.sIx_none,e1]
 show (⟨((a.drop 0).take (min k a.length - 0)).toArray⟩:Str)=⟨(a.take k).toArray⟩
 congr 2
 rw[List.drop_zero,Nat.sub_zero,List.take_eq_take_iff]
 omega
theorem len_tx {a:List Nat}(hl:a.length<=1000000):(SX.S a).length.ble 1000000=true:=Nat.ble_eq_true_of_le (by rw[SX.S_len];exact hl)
theorem slL_tx {a:List Nat}{k:Nat}(hl:a.length<=1000000):Vp [tx a,.int (k:Int)]=some (.z,tx (a.drop k)):=by
 have:oSlLt [tx a,.int (k:Int)]=some (.z,tx (a.drop k)):=by
  show (bif (SX.S a).length.ble 1000000 then some (Fr.z,D.str (cutS (SX.S a) (some (k:Int)) none)) else none)=_
  rw[len_tx hl,cutS_lo];rfl
 show orOp oSlL oSlLt [tx a,.int (k:Int)]=_
 unfold orOp
 have h0:oSlL [tx a,.int (k:Int)]=none:=rfl
 rw[h0]
 exact this
theorem slH_tx {a:List Nat}{k:Nat}(hl:a.length<=1000000):Um [tx a,.int (k:Int)]=some (.z,tx (a.take k)):=by
 have:oSlHt [tx a,.int (k:Int)]=some (.z,tx (a.take k)):=by
  show (bif (SX.S a).length.ble 1000000 then some (Fr.z,D.str (cutS (SX.S a) none (some (k:Int)))) else none)=_
  rw[len_tx hl,cutS_hi];rfl
 show orOp oSlH oSlHt [tx a,.int (k:Int)]=_
 unfold orOp
 have h0:oSlH [tx a,.int (k:Int)]=none:=rfl
 rw[h0]
 exact this
theorem fig0 {a:List Nat}{st:Zd}(hl:a.length<=1000000)(ok:okC a=true):WC [some (.z,.str (SX.S a)),none,none] st=.nx [some (.z,.str (SX.S a)),some (.z,.str (SX.S (Zn a))),none] st:=by
 have ha1:Um [tx a,.int 1]=some (.z,tx (a.take 1)):=slH_tx (k:=1) hl
 have ha2:Vp [tx a,.int 1]=some (.z,tx (a.drop 1)):=slL_tx (k:=1) hl
 have hq45:oEq [tx (a.take 1),.str (Str.ofString "-")]=some (.z,.bl (decide (a.take 1=[45]))):=ZaM (UJ (VI ok λc hc=>List.mem_of_mem_take hc) (by rfl))
 have hlk:∀ s b,lk s (tx b)=tx b:=λ_ _=>rfl
 have hb:Zn a=if a.take 1=[45] then a.drop 1 else a:=by
  cases a with
  | nil=>rfl
  | cons x r=>
   unfold Zn
   by_cases c:x=45
   ·subst c;simp
   ·simp[c]
 show WC [some (.z,tx a),none,none] st=.nx [some (.z,tx a),some (.z,tx (Zn a)),none] st
 rw[hb]
 by_cases c:a.take 1=[45]
 ·rw[decide_eq_true c] at hq45
  rw[if_pos c]
  have l1:=λs=>hlk s a
  have l2:=λs=>hlk s (a.take 1)
  generalize tx (a.take 1)=A1 at *
  generalize tx (a.drop 1)=A2 at *
  generalize tx a=A at *
  simp[-oEq,ha1,ha2,hq45,l1,l2]
 ·rw[decide_eq_false c] at hq45
  rw[if_neg c]
  have l1:=λs=>hlk s a
  have l2:=λs=>hlk s (a.take 1)
  generalize tx (a.take 1)=A1 at *
  generalize tx (a.drop 1)=A2 at *
  generalize tx a=A at *
  simp[-oEq,ha1,ha2,hq45,l1,l2]
theorem Zdd {a:List Nat}{st:Zd}(hl:a.length<=1000000)(ok:okC a=true):Wc [(.z,tx a)] st=.ok .z false (oI (ZW a)) st:=by
 have hb:=bare_len a
 have hb':=bare_len' a
 have e0:=fig0 (st:=st) hl ok
 have hle:(SX.S a).length<=16777216:=by rw[SX.S_len];omega
 have hlb:(SX.S (Zn a)).length<=16777216:=by rw[SX.S_len];omega
 have i1:=UE (p:=.nm 2) (env:=[some (.z,tx a),some (.z,tx (Zn a)),none]) (st:=st) (el:=dOp oIn (Zb (Ze 2) (Za (dC (.str (Str.ofString "0123456789")))))) (λc:Nat=>D.str ⟨#[c]⟩) (λc=>.bl (dgB c)) (Zn a) [] (λc hc=>⟨_,rfl,by
  simp[inS,orOp,dgB]⟩)
 have i2:=Ub (λc:Nat=>dgB c) (Zn a)
 have hln:(SX.S (Zn a)).length=(Zn a).length:=SX.S_len _
 have hch:chars (SX.S (Zn a))=(Zn a).map λc=>D.str ⟨#[c]⟩:=rfl
 have hd:=dig_chars (Zn a)
 unfold ZW
 have hi:∀ x r,Zn a=x :: r->atI (SX.S (Zn a)).cps.toList 0=some x:=λx r h=>by rw[h];simp[atI,ixN]
 have q0:eqD (tx a) (.str (Str.ofString "0"))=some (decide (a=[48])):=UJ ok (by rfl)
 have q1:∀ x,x<0x110000->eqD (.str ⟨#[x]⟩) (.str (Str.ofString "0"))=some (decide (x=48)):=λx hx=>by
  have:=UJ (a:=[x]) (b:=[48]) (by simpa [okC] using hx) (by rfl)
  rw[show decide (([x]:List Nat)=[48])=decide (x=48) by simp] at this
  exact this
 by_cases c1:1<=(Zn a).length∧(Zn a).length<=9
 ·by_cases c2:digB (Zn a)=true
  ·obtain⟨x,r,hx⟩:∃ x r,Zn a=x :: r:=by cases h:Zn a with
    | nil=>rw[h] at c1;exact absurd c1.1 (by decide)
    | cons x r=>exact⟨x,r,rfl⟩
   have h0:=hi x r hx
   have hx1:x<0x110000:=by
    rw[hx] at c2
    unfold digB at c2
    rw[List.all_cons] at c2
    simp at c2
    omega
   have hq:=q1 x hx1
   have hint:=ZbZ (a:=a) c2 (by rw[hx];simp) (by omega)
   have hmx:(Zn a).head?=some x:=by rw[hx];rfl
   rw[hmx]
   simp only[c1,c2,true_and,and_self,if_true]
   have i2:bools ((Zn a).map λc=>D.bl (dgB c))=some ((Zn a).map λc=>dgB c):=i2
   have hd:((Zn a).map λc=>dgB c).all id=true:=by rw[List.all_map];exact hd.trans c2
   have hm:(Zn a).length<=16777215:=by omega
   have hm2:(Zn a).length<=16777216:=by omega
   have c11:(1:Int)<=((Zn a).length:Int):=by omega
   have c12:((Zn a).length:Int)<=9:=by omega
   have hax:(SX.S a).length<=640:=by rw[SX.S_len];omega
   have q0:eqD (.str (SX.S a)) (.str (Str.ofString "0"))=some (decide (a=[48])):=q0
   have i1:lcGo (.nm 2) dYes (dOp oIn (Zb (Ze 2) (Za (dC (.str (Str.ofString "0123456789")))))) ((Zn a).map λc=>D.str ⟨#[c]⟩) [some (.z,.str (SX.S a)),some (.z,.str (SX.S (Zn a))),none] st []=_:=i1
   show Wc [(.z,.str (SX.S a))] st=_
   generalize SX.S a=X at *
   generalize SX.S (Zn a)=Y at *
   generalize Zn a=ys at *
   generalize numV a=v at *
   have hix:atI Y.cps.toList 0=some x:=h0
   have fin:(if ¬ (some x=some 48∧a ≠ [48]) then some v else none)=if (decide (x=48) && !decide (a=[48]))=true then none else some v:=by
    by_cases c3:x=48<;>by_cases c4:a=[48]<;>simp[c3,c4]
   rw[fin]
   generalize decide (x=48)=p at *
   generalize decide (a=[48])=q at *
   cases p<;>cases q <;>
    simp[-WC,Wc,dLc,e0,hle,hlb,hch,i1,i2,hd,hm,hax,hix,hq,q0,hln,hm2,c11,c12,hint,lk,Zy,oI,oIntS]
  ·have hm:(Zn a).length<=16777215:=by omega
   have hm2:(Zn a).length<=16777216:=by omega
   have c11:(1:Int)<=((Zn a).length:Int):=by omega
   have c12:((Zn a).length:Int)<=9:=by omega
   have hd:((Zn a).map λc=>dgB c).all id=false:=by rw[List.all_map];exact hd.trans (by simpa using c2)
   rw[if_neg (by simp[c2])]
   have i1:lcGo (.nm 2) dYes (dOp oIn (Zb (Ze 2) (Za (dC (.str (Str.ofString "0123456789")))))) ((Zn a).map λc=>D.str ⟨#[c]⟩) [some (.z,.str (SX.S a)),some (.z,.str (SX.S (Zn a))),none] st []=_:=i1
   show Wc [(.z,.str (SX.S a))] st=_
   generalize SX.S a=X at *
   generalize SX.S (Zn a)=Y at *
   generalize Zn a=ys at *
   simp[-WC,Wc,dLc,e0,hle,hlb,hch,i1,i2,hd,hm,hln,hm2,c11,c12,lk,Zy,oI]
 ·rw[if_neg (λh=>c1 h.1)]
  have hm2:(Zn a).length<=16777216:=by omega
  show Wc [(.z,.str (SX.S a))] st=_
  have c5:(1:Int)<=((Zn a).length:Int)->¬ ((Zn a).length:Int)<=9:=by omega
  generalize SX.S a=X at *
  generalize SX.S (Zn a)=Y at *
  generalize Zn a=ys at *
  by_cases c6:(1:Int)<=(ys.length:Int)
  ·have c7:=c5 c6
   simp[-WC,Wc,e0,hle,hlb,hln,hm2,lk,oI,c6,c7]
  ·simp[-WC,Wc,e0,hle,hlb,hln,hm2,lk,oI,c6]
theorem Zau {ws:List (List Nat)}{st:Zd}(hw:∀ w∈ws,w.length<=1000000∧okC w=true)(hl:ws.length<=1000000):
  Zz [(.z,.con .lst (ws.map tx))] st=.ok .z false (oIs (Wk ws)) st:=by
 have i1:=UE (p:=.nm 2) (env:=[some (.z,.con .lst (ws.map tx)),none,none]) (st:=st) (el:=Zu Wc [] (Za (Ze 2))) tx (λw=>oI (ZW w)) ws [] (λw hw'=>⟨_,rfl,by
  have e:=Zdd (st:=st) (hw w hw').1 (hw w hw').2
  generalize tx w=X at *
  generalize oI (ZW w)=Y at *
  simp[lk,e]⟩)
 have e2:(ws.map λw=>oI (ZW w))=(ws.map ZW).map oI:=by rw[List.map_map];rfl
 rw[e2] at i1
 have i2:=in_none (ws.map ZW)
 have hm:ws.length<=16777215:=by omega
 unfold Wk
 by_cases c:none∈ws.map ZW
 ·rw[if_pos c]
  rw[decide_eq_true c] at i2
  generalize (ws.map ZW).map oI=R at *
  generalize hT:ws.map tx=T at *
  have hT2:T.length<=16777215:=by rw[<- hT,List.length_map];exact hm
  simp[-oIn,Zz,dLc,Zy,i1,i2,hT2,oIs]
 ·rw[if_neg c]
  rw[decide_eq_false c] at i2
  have e3:=oI_fm _ c
  rw[List.filterMap_map] at e3
  rw[e3] at i1 i2
  have e4:ws.filterMap (id ∘ ZW)=ws.filterMap ZW:=rfl
  rw[e4] at i1 i2
  show _=Res.ok .z false (.con .tup ((ws.filterMap ZW).map D.int)) st
  generalize (ws.filterMap ZW).map D.int=R at *
  generalize hT:ws.map tx=T at *
  have hT2:T.length<=16777215:=by rw[<- hT,List.length_map];exact hm
  simp[-oIn,Zz,dLc,Zy,i1,i2,hT2,oIs]
def wds (a:List Nat):List (List Nat):=TL.spl [32] 0 [] a
def pts (a:List Nat):List (List Nat):=TL.spl [32,47,32] 0 [] a
abbrev M6:Nat:=900000
theorem Tok.m {a:List Nat}(h:Tok M6 a):a.length<=1000000:=Nat.le_trans h.ln (by decide)
theorem Uc {a:List Nat}(h:Tok M6 a):Zq (SX.S a) [.str (Str.ofString " ")]=some (.c .z,.con .lst ((wds a).map tx)):=ZcU (sep:=[32]) (by simp) (by decide) rfl h.m
theorem split_sl {a:List Nat}(h:Tok M6 a):Zq (SX.S a) [.str (Str.ofString " / ")]=some (.c .z,.con .lst ((pts a).map tx)):=ZcU (sep:=[32,47,32]) (by simp) (by decide) rfl h.m
theorem cut32:∀ (a:List Nat),32 ∉ a∨∃ p q,a=p++32 :: q∧32 ∉ p
 | []=>.inl (by simp)
 | x :: a=>by
  by_cases c:x=32
  ·exact .inr ⟨[],a,by rw[c];rfl,by simp⟩
  ·rcases cut32 a with h | ⟨p,q,e,h⟩
   ·exact .inl (by simp[h];exact λe=>c e.symm)
   ·exact .inr ⟨x :: p,q,by rw[e];rfl,by simp[h];exact λe=>c e.symm⟩
theorem wds_one {a:List Nat}(h:32 ∉ a):wds a=[a]:=by
 have:=SX.spl_join (c:=32) (sep:=[]) (parts:=[a]) (by simp) (by simpa using h)
 exact this
theorem wds_two {p q:List Nat}(h:32 ∉ p):wds (p++32 :: q)=p :: wds q:=by
 have:=TL.spl_part1 (s:=32) (S:=[]) (p:=p) (rest:=q) (acc:=[]) h
 simpa [wds] using this
theorem Zbt (a:List Nat):wds a ≠ []:=λe=>by
 have:=(ZaK [32] a 0 []).1
 rw[show TL.spl [32] 0 [] a=[] from e] at this
 simp at this
theorem VM (a:List Nat):(wds a).length<=a.length+1:=(ZaK [32] a 0 []).2
theorem Vc {a w:List Nat}(h:Tok M6 a)(hw:w∈wds a):Tok M6 w:=h.spl hw
theorem wds_cons {a w:List Nat}{r:List (List Nat)}(h:wds a=w :: r):(r=[]∧a=w)∨∃ q,a=w++32 :: q∧r=wds q∧32 ∉ w:=by
 rcases cut32 a with h32 | ⟨p,q,e,hp⟩
 ·rw[wds_one h32] at h
  cases h
  exact .inl ⟨rfl,rfl⟩
 ·rw[e,wds_two hp] at h
  cases h
  exact .inr ⟨q,e,rfl,hp⟩
def ZZ (b:List Nat):List (Option (List Int)):=(pts b).map λp=>Wk (wds p)
def chsV (b:List Nat):Option (List (List Int)):=if none∈ZZ b then none else if ((ZZ b).filterMap id).all (λr=>decide (r.length=5)) then some ((ZZ b).filterMap id) else none
theorem oIs_nb {o:Option (List Int)}:nb 63 (oIs o)=true:=by
 cases o with
 | none=>rfl
 | some l=>simp[oIs,nb,List.all_map,Function.comp_def]
theorem in_noneR (l:List (Option (List Int))):oIn [.non,.con .lst (l.map oIs)]=some (.z,.bl (decide (none∈l)))∧Wm [.non,.con .lst (l.map oIs)]=some (.z,.bl (!decide (none∈l))):=by
 obtain⟨c,e,k⟩:=inLD_nb (a:=.non) (ds:=l.map oIs) (by simp[nb]) (λd hd=>by
  obtain⟨y,_,rfl⟩:=List.mem_map.mp hd
  cases y with
  | none=>rfl
  | some l=>simp[oIs,nb,List.all_map,Function.comp_def]) (by
  have:∀ d∈l.map oIs,nb 63 d=true:=λd hd=>by
   obtain⟨y,_,rfl⟩:=List.mem_map.mp hd
   exact oIs_nb
  rw[nb,List.all_eq_true]
  exact this)
 have k2:c=decide (none∈l):=by
  rw[Bool.eq_iff_iff,k,decide_eq_true_iff,List.mem_map]
  constructor
  ·rintro⟨y,h1,h2⟩
   cases y with
   | none=>exact h1
   | some z=>cases h2
  ·intro h
   exact⟨none,h,rfl⟩
 subst k2
 exact⟨by simp[oIn,e],by simp[Wm,e]⟩
theorem oIs_fm:∀ (l:List (Option (List Int))),none ∉ l->l.map oIs=(l.filterMap id).map λr=>D.con .tup (r.map D.int)
 | [],_=>rfl
 | none :: l,h=>absurd (List.mem_cons_self ..) h
 | some i :: l,h=>by
  have:=oIs_fm l (λhh=>h (List.mem_cons_of_mem _ hh))
  simp[oIs,this]
theorem words_nums {a:List Nat}{st:Zd}(h:Tok M6 a):ZE [(.z,.con .lst ((wds a).map tx))] st=.ok .z false (oIs (Wk (wds a))) st:=
 Zcd (λw hw=>⟨(Vc h hw).m,(Vc h hw).ok⟩) (by have:=VM a;have:a.length<=900000:=h.ln;omega)
theorem words_figs {a:List Nat}{st:Zd}(h:Tok M6 a):Zz [(.z,.con .lst ((wds a).map tx))] st=.ok .z false (oIs (Wk (wds a))) st:=
 Zau (λw hw=>⟨(Vc h hw).m,(Vc h hw).ok⟩) (by have:=VM a;have:a.length<=900000:=h.ln;omega)
theorem pts_tok {a w:List Nat}(h:Tok M6 a)(hw:w∈pts a):Tok M6 w:=h.spl hw
theorem Zca (a:List Nat):(pts a).length<=a.length+1:=(ZaK [32,47,32] a 0 []).2
theorem parts_lc {F:Fn}{b:List Nat}{p:Nat}{env:Hx.Env}{st:Zd}(h:Tok M6 b)(hp:p<env.length)(hF:∀ a,Tok M6 a->F [(.z,.con .lst ((wds a).map tx))] st=.ok .z false (oIs (Wk (wds a))) st):
  lcGo (.nm p) dYes (Zu F [] (Za (dSM Zq (Ze p) (Za (dC (.str (Str.ofString " "))))))) ((pts b).map tx) env st []=.ok (.c .z) false (.con .lst ((ZZ b).map oIs)) st:=by
 have i:=UE (p:=.nm p) (env:=env) (st:=st) (el:=Zu F [] (Za (dSM Zq (Ze p) (Za (dC (.str (Str.ofString " "))))))) tx (λa=>oIs (Wk (wds a))) (pts b) [] (λa ha=>⟨env.set p (some (.z,tx a)),by simp[ZX,hp],by
  have e1:=Uc (pts_tok h ha)
  have e2:=hF a (pts_tok h ha)
  have hg:(env.set p (some (.z,tx a)))[p]?=some (some (.z,tx a)):=List.getElem?_set_self hp
  generalize env.set p (some (.z,tx a))=E at *
  generalize oIs (Wk (wds a))=O at *
  generalize (wds a).map tx=W at *
  have hg:E[p]?=some (some (.z,.str (SX.S a))):=hg
  generalize SX.S a=X at *
  simp[-Zq,hg,e1,e2]⟩)
 have e:(pts b).map (λa=>oIs (Wk (wds a)))=(ZZ b).map oIs:=by unfold ZZ;rw[List.map_map]<;>rfl
 rw[i,List.nil_append,e]
theorem len5_lc {p:Nat}{env:Hx.Env}{st:Zd}(hp:p<env.length)(l:List (List Int)):
  lcGo (.nm p) dYes (dOp oEq (Zb (dOp oLen (Za (Ze p))) (Za (dC (.int 5))))) (l.map λr=>D.con .tup (r.map D.int)) env st []=.ok (.c .z) false (.con .lst (l.map λr=>.bl (decide (r.length=5)))) st:=by
 have i:=UE (p:=.nm p) (env:=env) (st:=st) (el:=dOp oEq (Zb (dOp oLen (Za (Ze p))) (Za (dC (.int 5))))) (λr:List Int=>D.con .tup (r.map D.int)) (λr=>.bl (decide (r.length=5))) l [] (λr hr=>⟨env.set p (some (.z,.con .tup (r.map D.int))),by simp[ZX,hp],by
  have hg:(env.set p (some (.z,.con .tup (r.map D.int))))[p]?=some (some (.z,.con .tup (r.map D.int))):=List.getElem?_set_self hp
  have hl:oLen [.con .tup (r.map D.int)]=some (.z,.int (r.length:Int)):=by simp
  generalize env.set p (some (.z,.con .tup (r.map D.int)))=E at *
  generalize r.map D.int=R at *
  have h5:decide ((r.length:Int)=5)=decide (r.length=5):=by congr 1;apply propext;omega
  simp[-oLen,hg,hl,<- h5]⟩)
 rw[i,List.nil_append]
theorem f_choices_gen {b:List Nat}{st:Zd}(h:Tok M6 (cs "unsure " ++ b)):Wf [(.z,tx (cs "unsure " ++ b))] st=.ok .z false (match chsV b with | some l=>.con .tup (l.map λr=>.con .tup (r.map D.int)) | none=>.non) st:=by
 have hb:Tok M6 b:=⟨VI h.ok λc hc=>by simp[hc],by have:=h.ln;rw[List.length_append] at this;omega⟩
 have e1:Txt.removeprefix (SX.S (cs "unsure " ++ b)) (Str.ofString "unsure ")=SX.S b:=by
  rw[cs_S,pre_S,List.take_left,if_pos rfl,List.drop_left]
 have e2:=split_sl hb
 have i1:=parts_lc (F:=ZE) (p:=3) (env:=[some (.z,.str (SX.S (cs "unsure " ++ b))),some (.z,.con .lst ((pts b).map tx)),none,none,none]) (st:=st) hb (by simp) λa ha=>words_nums ha
 have i2:=(in_noneR (ZZ b)).1
 have hll:(SX.S (cs "unsure " ++ b)).length<=16777216:=by rw[SX.S_len];have:=h.m;omega
 have hm1:((pts b).map tx).length<=16777215:=by have:=Zca b;have:=hb.m;rw[List.length_map];omega
 have hm2:(ZZ b).length<=16777215:=by unfold ZZ;have:=Zca b;have:=hb.m;rw[List.length_map];omega
 show Wf [(.z,.str (SX.S (cs "unsure " ++ b)))] st=_
 unfold chsV
 by_cases c:none∈ZZ b
 ·rw[if_pos c]
  rw[decide_eq_true c] at i2
  generalize SX.S (cs "unsure " ++ b)=X at *
  generalize SX.S b=Y at *
  generalize (pts b).map tx=T at *
  generalize (ZZ b).map oIs=R at *
  simp[-Zq,-oIn,-oEq,-oLen,Wf,dLc,Zy,e1,e2,i1,i2,hll,hm1]
 ·rw[if_neg c]
  rw[decide_eq_false c,oIs_fm _ c] at i2
  rw[oIs_fm _ c] at i1
  have i3:=len5_lc (p:=4) (env:=[some (.z,.str (SX.S (cs "unsure " ++ b))),some (.z,.con .lst ((pts b).map tx)),some (.z,.con .lst (((ZZ b).filterMap id).map λr=>.con .tup (r.map D.int))),none,none]) (st:=st) (by simp) ((ZZ b).filterMap id)
  have i4:=Ub (λr:List Int=>decide (r.length=5)) ((ZZ b).filterMap id)
  have i5:(((ZZ b).filterMap id).map λr=>decide (r.length=5)).all id=((ZZ b).filterMap id).all (λr=>decide (r.length=5)):=by rw[List.all_map];rfl
  have hm3:(((ZZ b).filterMap id).map λr=>D.con .tup (r.map D.int)).length<=16777215:=by
   have:=List.length_filterMap_le id (ZZ b)
   rw[List.length_map];omega
  cases hA:((ZZ b).filterMap id).all (λr=>decide (r.length=5)) with
  | true=>
   rw[hA] at i5
   simp only[if_true]
   generalize (((ZZ b).filterMap id).map λr=>decide (r.length=5))=BT at *
   generalize (((ZZ b).filterMap id).map λr=>D.bl (decide (r.length=5)))=BB at *
   generalize (((ZZ b).filterMap id).map λr=>D.con .tup (r.map D.int))=R at *
   generalize SX.S (cs "unsure " ++ b)=X at *
   generalize SX.S b=Y at *
   generalize (pts b).map tx=T at *
   simp[-Zq,-oIn,-oEq,-oLen,Wf,dLc,Zy,e1,e2,i1,i2,i3,i4,i5,hll,hm1,hm3]
  | false=>
   rw[hA] at i5
   simp only[Bool.false_eq_true,if_false]
   generalize (((ZZ b).filterMap id).map λr=>decide (r.length=5))=BT at *
   generalize (((ZZ b).filterMap id).map λr=>D.bl (decide (r.length=5)))=BB at *
   generalize (((ZZ b).filterMap id).map λr=>D.con .tup (r.map D.int))=R at *
   generalize SX.S (cs "unsure " ++ b)=X at *
   generalize SX.S b=Y at *
   generalize (pts b).map tx=T at *
   simp[-Zq,-oIn,-oEq,-oLen,Wf,dLc,Zy,e1,e2,i1,i2,i3,i4,i5,hll,hm1,hm3]
def arT:List (List Nat × Nat):=[(cs "lamp",5),(cs "post",4),(cs "pane",5),(cs "move",4),(cs "switch",1),(cs "drop",2),(cs "look",5),(cs "strike",1),(cs "settle",2)]
def arO (w:List Nat):Option Nat:=(arT.find? λq=>decide (q.1=w)).map (·.2)
theorem wcase {P:List Nat->Prop}(w:List Nat)(h:∀ q∈arT,P q.1)(hn:(∀ q∈arT,q.1≠w)->P w):P w:=by
 by_cases c:∃ q∈arT,q.1=w
 ·obtain⟨q,hq,e⟩:=c
  exact e▸h q hq
 ·exact hn λq hq e=>c ⟨q,hq,e⟩
theorem arO_no {w:List Nat}(h:∀ q∈arT,q.1≠w):arO w=none:=by
 unfold arO
 rw[List.find?_eq_none.mpr λq hq=>by simpa using h q hq]<;>rfl
theorem ky (s:String)(w:List Nat):decide ((Sum.inr (Str.ofString s):Key)=Sum.inr (SX.S w))=decide (cs s=w):=by
 rw[decide_eq_decide,cs_S]
 exact⟨λe=>SX.S_inj (Sum.inr.inj e),λe=>by rw[e]⟩
theorem ks (s:String)(w:List Nat):decide (Str.ofString s=SX.S w)=decide (cs s=w):=by
 rw[decide_eq_decide,cs_S]
 exact⟨λe=>SX.S_inj e,λe=>by rw[e]⟩
theorem kb (s:String)(w:List Nat):(Str.ofString s==SX.S w)=decide (cs s=w):=by
 rw[<- ks,Bool.eq_iff_iff,beq_iff_eq,decide_eq_true_iff]
abbrev lawD:D:=.con (.dik [Sum.inr (Str.ofString "lamp"),Sum.inr (Str.ofString "post"),Sum.inr (Str.ofString "pane"),Sum.inr (Str.ofString "move"),Sum.inr (Str.ofString "switch"),Sum.inr (Str.ofString "drop"),Sum.inr (Str.ofString "look"),Sum.inr (Str.ofString "strike"),Sum.inr (Str.ofString "settle")]) [.int 5,.int 4,.int 5,.int 4,.int 1,.int 2,.int 5,.int 1,.int 2]
theorem law_in (w:List Nat):Wm [tx w,lawD]=some (.z,.bl (arO w).isNone):=by
 refine wcase (P:=λw=>Wm [tx w,lawD]=some (.z,.bl (arO w).isNone)) w ?_ ?_
 ·intro q hq
  simp only[arT,List.mem_cons,List.not_mem_nil,or_false] at hq
  rcases hq with rfl | rfl | rfl | rfl | rfl | rfl | rfl | rfl | rfl<;>rfl
 ·intro h
  rw[arO_no h]
  have hk:memK (Sum.inr (SX.S w)) [Sum.inr (Str.ofString "lamp"),Sum.inr (Str.ofString "post"),Sum.inr (Str.ofString "pane"),Sum.inr (Str.ofString "move"),Sum.inr (Str.ofString "switch"),Sum.inr (Str.ofString "drop"),Sum.inr (Str.ofString "look"),Sum.inr (Str.ofString "strike"),Sum.inr (Str.ofString "settle")]=false:=by
   unfold memK
   rw[List.any_eq_false]
   intro x hx
   simp only[List.mem_cons,List.not_mem_nil,or_false] at hx
   have g:∀ s:String,cs s≠w->¬ decide ((Sum.inr (Str.ofString s):Key)=Sum.inr (SX.S w))=true:=λs hs=>by rw[ky,decide_eq_true_iff];exact hs
   rcases hx with rfl | rfl | rfl | rfl | rfl | rfl | rfl | rfl | rfl
   ·exact g _ (h (cs "lamp",5) (by simp[arT]))
   ·exact g _ (h (cs "post",4) (by simp[arT]))
   ·exact g _ (h (cs "pane",5) (by simp[arT]))
   ·exact g _ (h (cs "move",4) (by simp[arT]))
   ·exact g _ (h (cs "switch",1) (by simp[arT]))
   ·exact g _ (h (cs "drop",2) (by simp[arT]))
   ·exact g _ (h (cs "look",5) (by simp[arT]))
   ·exact g _ (h (cs "strike",1) (by simp[arT]))
   ·exact g _ (h (cs "settle",2) (by simp[arT]))
  show some (Fr.z,D.bl (!memK (Sum.inr (SX.S w)) _))=_
  rw[hk]<;>rfl
theorem law_ix {w:List Nat}{n:Nat}(h:arO w=some n):oIx [lawD,tx w]=some (.z,.int (n:Int)):=by
 revert h
 refine wcase (P:=λw=>arO w=some n->oIx [lawD,tx w]=some (.z,.int (n:Int))) w ?_ ?_
 ·intro q hq e
  simp only[arT,List.mem_cons,List.not_mem_nil,or_false] at hq
  rcases hq with rfl | rfl | rfl | rfl | rfl | rfl | rfl | rfl | rfl<;>(cases e;rfl)
 ·intro h e
  rw[arO_no h] at e
  cases e
theorem tl_ar {w:List Nat}(h1:w≠cs "many")(h2:w≠cs "unsure"):tlook ZC (SX.S w)=(arO w).map λn=>.int ((n:Int)+1):=by
 revert h1 h2
 refine wcase (P:=λw=>w≠cs "many" -> w≠cs "unsure" -> tlook ZC (SX.S w)=(arO w).map λn=>.int ((n:Int)+1)) w ?_ ?_
 ·intro q hq _ _
  simp only[arT,List.mem_cons,List.not_mem_nil,or_false] at hq
  rcases hq with rfl | rfl | rfl | rfl | rfl | rfl | rfl | rfl | rfl<;>rfl
 ·intro h h1 h2
  rw[arO_no h]
  unfold tlook
  rw[List.find?_eq_none.mpr]
  ·rfl
  intro x hx
  simp only[ZC,List.mem_cons,List.not_mem_nil,or_false] at hx
  have g:∀ s:String,cs s≠w->¬ decide (Str.ofString s=SX.S w)=true:=λs hs=>by rw[ks,decide_eq_true_iff];exact hs
  rcases hx with rfl | rfl | rfl | rfl | rfl | rfl | rfl | rfl | rfl | rfl | rfl
  ·exact g _ (h (cs "lamp",5) (by simp[arT]))
  ·exact g _ (Ne.symm h2)
  ·exact g _ (h (cs "post",4) (by simp[arT]))
  ·exact g _ (h (cs "pane",5) (by simp[arT]))
  ·exact g _ (h (cs "move",4) (by simp[arT]))
  ·exact g _ (h (cs "switch",1) (by simp[arT]))
  ·exact g _ (h (cs "drop",2) (by simp[arT]))
  ·exact g _ (h (cs "look",5) (by simp[arT]))
  ·exact g _ (h (cs "strike",1) (by simp[arT]))
  ·exact g _ (h (cs "settle",2) (by simp[arT]))
  ·exact g _ (Ne.symm h1)
theorem in2 (s t:String)(w:List Nat):oIn [tx w,.con .tup [.str (Str.ofString s),.str (Str.ofString t)]]=some (.z,.bl (decide (cs s=w)||decide (cs t=w))):=by
 show some (Fr.z,D.bl ((Str.ofString s==SX.S w)||((Str.ofString t==SX.S w)||false)))=_
 rw[kb,kb,Bool.or_false]
theorem in_ws {x:List Nat}{l:List (List Nat)}(hx:okC x=true)(hl:∀ p∈l,okC p=true):oIn [tx x,.con .lst (l.map tx)]=some (.z,.bl (decide (x∈l))):=by
 obtain⟨c,e,k⟩:=inLD_nb (a:=tx x) (ds:=l.map tx) (by exact ZM hx) (λd hd=>by
  obtain⟨y,hy,rfl⟩:=List.mem_map.mp hd
  exact ZM (hl y hy)) (by
  have:∀ d∈l.map tx,nb 63 d=true:=λd hd=>by
   obtain⟨y,hy,rfl⟩:=List.mem_map.mp hd
   exact ZM (hl y hy)
  rw[nb,List.all_eq_true]
  exact this)
 have k2:c=decide (x∈l):=by
  rw[Bool.eq_iff_iff,k,decide_eq_true_iff,List.mem_map]
  constructor
  ·rintro⟨y,h1,h2⟩
   have:=SX.S_inj (D.str.inj h2)
   exact this▸h1
  ·intro h
   exact⟨x,h,rfl⟩
 subst k2
 simp[oIn,e]
def ZaH (x:List Nat):List Nat:=if x=[45] then [] else x
def rowW (w:List Nat)(r:List (List Nat)):Option D:=
 match arO w with
 | none=>none
 | some n=>if r.length=n then
   (if cs "move"=w∨cs "drop"=w then (match r with
    | []=>none
    | x :: q=>if x=[] then none else (Wk q).map λis=>.con .tup (tx w :: tx x :: is.map D.int))
   else if cs "pane"=w then (match r with
    | [a,b,c,d,x]=>if x=[] then none else (Wk [a,b,c,d]).map λis=>.con .tup (tx w :: (is.map D.int ++ [tx (ZaH x)]))
    | _=>none)
   else (Wk r).map λis=>.con .tup (tx w :: is.map D.int)) else none
def dUns (l:List (List Int)):D:=.con .tup [.str (Str.ofString "unsure"),.con .tup (l.map λr=>.con .tup (r.map D.int))]
def rowV (a:List Nat):Option D:=
 match wds a with
 | []=>none
 | w :: r=>if w=cs "unsure" then (if r=[] then none else (chsV (a.drop 7)).map dUns) else rowW w r
def oR:Option D->D:=λo=>o.getD .non
theorem ZcV {r:List (List Nat)}{is:List Int}(h:Wk r=some is):[] ∉ r:=λhm=>by
 unfold Wk at h
 rw[if_pos (List.mem_map.mpr ⟨[],hm,by decide⟩)] at h
 cases h
theorem arO_ne {w:List Nat}{n:Nat}(h:arO w=some n):w ≠ []∧w≠cs "unsure" ∧ w≠cs "many" ∧ n<=5∧1<=n∧(cs "pane"=w->n=5)∧((cs "move"=w∨cs "drop"=w)->2<=n∧cs "pane" ≠ w):=by
 revert h
 refine wcase (P:=λw=>arO w=some n->w ≠ []∧w≠cs "unsure" ∧ w≠cs "many" ∧ n<=5∧1<=n∧(cs "pane"=w->n=5)∧((cs "move"=w∨cs "drop"=w)->2<=n∧cs "pane" ≠ w)) w ?_ ?_
 ·intro q hq e
  simp only[arT,List.mem_cons,List.not_mem_nil,or_false] at hq
  rcases hq with rfl | rfl | rfl | rfl | rfl | rfl | rfl | rfl | rfl<;>(cases e;decide)
 ·intro h e
  rw[arO_no h] at e
  cases e
theorem nums_g {r:List (List Nat)}{st:Zd}(hr:∀ x∈r,Tok M6 x)(hl:r.length<=1000000):ZE [(.z,.con .lst (r.map tx))] st=.ok .z false (oIs (Wk r)) st:=
 Zcd (λx hx=>⟨(hr x hx).m,(hr x hx).ok⟩) hl
theorem figs_g {r:List (List Nat)}{st:Zd}(hr:∀ x∈r,Tok M6 x)(hl:r.length<=1000000):Zz [(.z,.con .lst (r.map tx))] st=.ok .z false (oIs (Wk r)) st:=
 Zau (λx hx=>⟨(hr x hx).m,(hr x hx).ok⟩) hl
theorem Uy {w:List Nat}(s:String)(hw:Tok M6 w)(hs:okC (cs s)=true):oEq [tx w,.str (Str.ofString s)]=some (.z,.bl (decide (cs s=w))):=by
 rw[cs_S s]
 refine ZaM ((UJ hw.ok hs).trans ?_)
 congr 1
 rw[decide_eq_decide]
 exact eq_comm
theorem WI {r:List (List Nat)}{is:List Int}(h:Wk r=some is):is.length<=r.length:=by
 unfold Wk at h
 split at h
 ·cases h
 ·cases h
  exact List.length_filterMap_le _ _
theorem f_row_w {a w:List Nat}{r:List (List Nat)}{st:Zd}(h:Tok M6 a)(e:wds a=w :: r)(hu:w≠cs "unsure"):ZJ [(.z,tx a)] st=.ok .z false (oR (rowW w r)) st:=by
 have hl:=VM a
 have hm:=h.m
 rw[e,List.length_cons] at hl
 have hw:Tok M6 w:=Vc h (by rw[e];simp)
 have hr:∀ x∈r,Tok M6 x:=λx hx=>Vc h (by rw[e];simp[hx])
 have e1:=Uc h
 rw[e,List.map_cons] at e1
 have qu:=Uy "unsure" hw (by decide)
 rw[decide_eq_false (Ne.symm hu)] at qu
 have qm:=in2 "many" "unsure" w
 rw[decide_eq_false (Ne.symm hu),Bool.or_false] at qm
 have qd:=in2 "move" "drop" w
 have qp:=Uy "pane" hw (by decide)
 have hrl:(r.map tx).length=r.length:=List.length_map _
 have hb:(r.map tx).length+1<=16777216:=by omega
 have lw:∀ s,lk s (tx w)=tx w:=λ_=>rfl
 show ZJ [(.z,.str (SX.S a))] st=_
 unfold rowW
 by_cases hmany:cs "many"=w
 ·have ta:∃ d,tlook ZC (SX.S w)=some d:=by subst hmany;exact⟨_,rfl⟩
  obtain⟨d,ta⟩:=ta
  have h0:arO w=none:=by subst hmany;rfl
  rw[decide_eq_true hmany] at qm
  rw[h0]
  generalize hT:r.map tx=T at *
  generalize SX.S a=A at *
  have lw:∀ s,lk s (.str (SX.S w))=.str (SX.S w):=lw
  simp[-Zq,-oEq,-oIn,-oAdd,ZJ,e1,qu,qm,ta,hb,oR]
 have ta:=tl_ar (Ne.symm hmany) hu
 rw[decide_eq_false hmany] at qm
 cases ho:arO w with
 | none=>
  rw[ho] at ta
  have ta:tlook ZC (SX.S w)=none:=ta
  generalize hT:r.map tx=T at *
  generalize SX.S a=A at *
  have lw:∀ s,lk s (.str (SX.S w))=.str (SX.S w):=lw
  simp[-Zq,-oEq,-oIn,-oAdd,ZJ,e1,qu,qm,ta,hb,oR]
 | some n=>
  rw[ho] at ta
  have ta:tlook ZC (SX.S w)=some (.int ((n:Int)+1)):=ta
  obtain⟨k1,k2,k3,k4,k5,k6,k7⟩:=arO_ne ho
  show _=Res.ok .z false (oR (if r.length=n then _ else none)) st
  by_cases c:r.length=n
  ·rw[if_pos c]
   have hc:((r.map tx).length:Int)=(n:Int):=by omega
   by_cases cm:cs "move"=w∨cs "drop"=w
   ·rw[if_pos cm]
    have cm2:(decide (cs "move"=w)||decide (cs "drop"=w))=true:=by simpa using cm
    rw[cm2] at qd
    cases r with
    | nil=>exact absurd (k7 cm).1 (by simp at c;omega)
    | cons x q=>
     have e2:=nums_g (r:=q) (st:=st) (λy hy=>hr y (by simp[hy])) (by simp at hl;omega)
     have q0:oEq [tx x,.str (Str.ofString "")]=some (.z,.bl (decide (cs ""=x))):=Uy "" (hr x (by simp)) (by decide)
     have lx:∀ s,lk s (tx x)=tx x:=λ_=>rfl
     have hcx:decide (cs ""=x)=decide (x=[]):=by rw[decide_eq_decide];exact eq_comm
     rw[hcx] at q0
     have hT3:cutD (tx w :: tx x :: q.map tx) (some 2) none=q.map tx:=cutF (tx w :: tx x :: q.map tx) 2 (by simp)
     rw[List.map_cons] at e1 hb hc
     rw[List.length_cons] at hb hc
     show _=Res.ok .z false (oR (if x=[] then none else _)) st
     cases hn:Wk q with
     | none=>
      rw[hn] at e2
      have e2:ZE [(.z,.con .lst (q.map tx))] st=.ok .z false .non st:=e2
      have:oR (if x=[] then none else (none:Option (List Int)).map λis=>D.con .tup (tx w :: tx x :: is.map D.int))=.non:=by split<;>rfl
      rw[this]
      generalize q.map tx=T at *
      generalize SX.S a=A at *
      generalize tx x=Y at *
      have lw:∀ s,lk s (.str (SX.S w))=.str (SX.S w):=lw
      have hT3:cutD (.str (SX.S w) :: Y :: T) (some 2) none=T:=hT3
      have hc2:(T.length:Int)+1=n:=by omega
      simp[-Zq,-oEq,-oIn,-oAdd,ZJ,e1,e2,qu,qm,qd,ta,hb,lw,hc2,hT3]
     | some is=>
      rw[hn] at e2
      have e2:ZE [(.z,.con .lst (q.map tx))] st=.ok .z false (.con .tup (is.map D.int)) st:=e2
      have e4:=WV (a:=.non) (l:=[tx w,tx x]) (m:=is.map D.int) (by
       have:=WI hn
       simp at c ⊢;omega)
      by_cases cx:x=[]
      ·rw[decide_eq_true cx] at q0
       rw[if_pos cx]
       clear cx hcx
       generalize q.map tx=T at *
       generalize SX.S a=A at *
       generalize tx x=Y at *
       have lw:∀ s,lk s (.str (SX.S w))=.str (SX.S w):=lw
       have hT3:cutD (.str (SX.S w) :: Y :: T) (some 2) none=T:=hT3
       have hc2:(T.length:Int)+1=n:=by omega
       simp[-Zq,-oEq,-oIn,-oAdd,ZJ,e1,e2,qu,qm,qd,q0,ta,hb,lw,lx,hc2,hT3,oR]
      ·rw[decide_eq_false cx] at q0
       rw[if_neg cx]
       show _=Res.ok .z false (.con .tup (tx w :: tx x :: is.map D.int)) st
       clear cx hcx
       generalize q.map tx=T at *
       generalize SX.S a=A at *
       generalize tx x=Y at *
       have lw:∀ s,lk s (.str (SX.S w))=.str (SX.S w):=lw
       have hT3:cutD (.str (SX.S w) :: Y :: T) (some 2) none=T:=hT3
       have hc2:(T.length:Int)+1=n:=by omega
       simp[-Zq,-oEq,-oIn,-oAdd,ZJ,e1,e2,e4,qu,qm,qd,q0,ta,hb,lw,lx,hc2,hT3,oR]
   ·rw[if_neg cm]
    have cm2:(decide (cs "move"=w)||decide (cs "drop"=w))=false:=by simpa using cm
    rw[cm2] at qd
    by_cases cp:cs "pane"=w
    ·rw[if_pos cp]
     rw[decide_eq_true cp] at qp
     have hn5:=k6 cp
     have w5:tx w=.str (Str.ofString "pane"):=by rw[<- cp,cs_d]
     subst hn5
     match r,c with
     | [p1,p2,p3,p4,x],_=>
      have e2:=nums_g (r:=[p1,p2,p3,p4]) (st:=st) (λy hy=>hr y (by
       simp only[List.mem_cons,List.not_mem_nil,or_false] at hy ⊢
       rcases hy with h | h | h | h<;>simp[h])) (by simp)
      have q0:oEq [tx x,.str (Str.ofString "")]=some (.z,.bl (decide (cs ""=x))):=Uy "" (hr x (by simp)) (by decide)
      have hcx:decide (cs ""=x)=decide (x=[]):=by rw[decide_eq_decide];exact eq_comm
      rw[hcx] at q0
      have q1:=Uy "-" (hr x (by simp)) (by decide)
      have lx:∀ s,lk s (tx x)=tx x:=λ_=>rfl
      have hT3:cutD [tx w,tx p1,tx p2,tx p3,tx p4,tx x] (some 1) (some 5)=[tx p1,tx p2,tx p3,tx p4]:=rfl
      have hix:oIx [.con .lst [tx w,tx p1,tx p2,tx p3,tx p4,tx x],.int 5]=some (.z,tx x):=rfl
      have hix0:oIx [.con .lst [tx w,tx p1,tx p2,tx p3,tx p4,tx x],.int 0]=some (.z,tx w):=rfl
      show _=Res.ok .z false (oR (if x=[] then none else _)) st
      simp only[List.map_cons,List.map_nil] at e1 e2
      have hdash:tx (ZaH x)=if cs "-"=x then tx [] else tx x:=by
       unfold ZaH
       by_cases cd:x=[45]
       ·rw[if_pos cd,if_pos (by rw[cd];rfl)]
       ·rw[if_neg cd,if_neg (λhh=>cd (by rw[<- hh];rfl))]
      have t0:tx []=.str (Str.ofString ""):=by rw[cs_S]<;>rfl
      cases hn:Wk [p1,p2,p3,p4] with
      | none=>
       rw[hn] at e2
       have e2:ZE [(.z,.con .lst [tx p1,tx p2,tx p3,tx p4])] st=.ok .z false .non st:=e2
       have:oR (if x=[] then none else (none:Option (List Int)).map λis=>D.con .tup (tx w :: (is.map D.int ++ [tx (ZaH x)])))=.non:=by split<;>rfl
       rw[this]
       clear hdash this
       generalize decide (cs "-"=x)=B1 at *
       generalize SX.S a=A at *
       generalize tx x=Y at *
       generalize tx p1=P1 at *
       generalize tx p2=P2 at *
       generalize tx p3=P3 at *
       generalize tx p4=P4 at *
       have lw:∀ s,lk s (.str (SX.S w))=.str (SX.S w):=lw
       have hT3:cutD [.str (SX.S w),P1,P2,P3,P4,Y] (some 1) (some 5)=[P1,P2,P3,P4]:=hT3
       cases B1<;>simp[-Zq,-oEq,-oIn,-oAdd,-oIx,ZJ,dSlB,e1,e2,qu,qm,qd,qp,q0,q1,ta,lw,lx,hT3,hix,hix0]
      | some is=>
       rw[hn] at e2
       have e2:ZE [(.z,.con .lst [tx p1,tx p2,tx p3,tx p4])] st=.ok .z false (.con .tup (is.map D.int)) st:=e2
       have hil:is.length<=4:=WI hn
       have e4:=WV (a:=.non) (l:=[.str (Str.ofString "pane")]) (m:=is.map D.int) (by simp;omega)
       have e5:=λy=>WV (a:=.non) (l:=.str (Str.ofString "pane") :: is.map D.int) (m:=[y]) (by simp;omega)
       by_cases cx:x=[]
       ·rw[decide_eq_true cx] at q0
        rw[if_pos cx]
        clear hdash cx hcx
        generalize decide (cs "-"=x)=B1 at *
        generalize SX.S a=A at *
        generalize tx x=Y at *
        generalize tx p1=P1 at *
        generalize tx p2=P2 at *
        generalize tx p3=P3 at *
        generalize tx p4=P4 at *
        have lw:∀ s,lk s (.str (SX.S w))=.str (SX.S w):=lw
        have hT3:cutD [.str (SX.S w),P1,P2,P3,P4,Y] (some 1) (some 5)=[P1,P2,P3,P4]:=hT3
        cases B1<;>simp[-Zq,-oEq,-oIn,-oAdd,-oIx,ZJ,dSlB,e1,e2,qu,qm,qd,qp,q0,q1,ta,lw,lx,hT3,hix,hix0,oR]
       ·rw[decide_eq_false cx] at q0
        rw[if_neg cx]
        show _=Res.ok .z false (.con .tup (tx w :: (is.map D.int ++ [tx (ZaH x)]))) st
        rw[hdash,w5]
        clear hdash cx hcx
        by_cases cd:cs "-"=x
        ·rw[if_pos cd,t0]
         rw[decide_eq_true cd] at q1
         clear cd
         generalize SX.S a=A at *
         generalize tx x=Y at *
         generalize tx p1=P1 at *
         generalize tx p2=P2 at *
         generalize tx p3=P3 at *
         generalize tx p4=P4 at *
         simp[-Zq,-oEq,-oIn,-oAdd,-oIx,ZJ,dSlB,e1,e2,e4,e5,qu,qm,qd,qp,q0,q1,ta,lw,lx,hT3,hix,hix0,oR]
        ·rw[if_neg cd]
         rw[decide_eq_false cd] at q1
         clear cd
         generalize SX.S a=A at *
         generalize tx x=Y at *
         generalize tx p1=P1 at *
         generalize tx p2=P2 at *
         generalize tx p3=P3 at *
         generalize tx p4=P4 at *
         simp[-Zq,-oEq,-oIn,-oAdd,-oIx,ZJ,dSlB,e1,e2,e4,e5,qu,qm,qd,qp,q0,q1,ta,lw,lx,hT3,hix,hix0,oR]
    ·rw[if_neg cp]
     rw[decide_eq_false cp] at qp
     have e2:=nums_g (r:=r) (st:=st) hr (by omega)
     have hT3:cutD (tx w :: r.map tx) (some 1) none=r.map tx:=cutF (tx w :: r.map tx) 1 (by simp)
     cases hn:Wk r with
     | none=>
      rw[hn] at e2
      have e2:ZE [(.z,.con .lst (r.map tx))] st=.ok .z false .non st:=e2
      show _=Res.ok .z false .non st
      generalize r.map tx=T at *
      generalize SX.S a=A at *
      have lw:∀ s,lk s (.str (SX.S w))=.str (SX.S w):=lw
      have hT3:cutD (.str (SX.S w) :: T) (some 1) none=T:=hT3
      simp[-Zq,-oEq,-oIn,-oAdd,ZJ,e1,e2,qu,qm,qd,qp,ta,hb,lw,hc,hT3]
     | some is=>
      rw[hn] at e2
      have e2:ZE [(.z,.con .lst (r.map tx))] st=.ok .z false (.con .tup (is.map D.int)) st:=e2
      have e4:=WV (a:=.non) (l:=[tx w]) (m:=is.map D.int) (by
       have:=WI hn
       simp;omega)
      show _=Res.ok .z false (.con .tup (tx w :: is.map D.int)) st
      generalize r.map tx=T at *
      generalize SX.S a=A at *
      have lw:∀ s,lk s (.str (SX.S w))=.str (SX.S w):=lw
      have hT3:cutD (.str (SX.S w) :: T) (some 1) none=T:=hT3
      simp[-Zq,-oEq,-oIn,-oAdd,ZJ,e1,e2,e4,qu,qm,qd,qp,ta,hb,lw,hc,hT3]
  ·rw[if_neg c]
   have hc:¬ ((r.map tx).length:Int)=(n:Int):=by omega
   generalize hT:r.map tx=T at *
   generalize SX.S a=A at *
   have lw:∀ s,lk s (.str (SX.S w))=.str (SX.S w):=lw
   simp[-Zq,-oEq,-oIn,-oAdd,ZJ,e1,qu,qm,ta,hb,hc,oR]
theorem Zev {a:List Nat}{st:Zd}(h:Tok M6 a):ZJ [(.z,tx a)] st=.ok .z false (oR (rowV a)) st:=by
 obtain⟨w,r,e⟩:∃ w r,wds a=w :: r:=by
  cases e:wds a with
  | nil=>exact absurd e (Zbt a)
  | cons w r=>exact⟨w,r,rfl⟩
 have hv:rowV a=if w=cs "unsure" then (if r=[] then none else (chsV (a.drop 7)).map dUns) else rowW w r:=by unfold rowV;rw[e]
 rw[hv]
 by_cases hu:w=cs "unsure"
 ·rw[if_pos hu]
  have e1:=Uc h
  rw[e,List.map_cons,hu,cs_d] at e1
  have hl:=VM a
  have hm:=h.m
  rw[e,List.length_cons] at hl
  have qu:oEq [.str (Str.ofString "unsure"),.str (Str.ofString "unsure")]=some (.z,.bl true):=ZaM (eqD_yes (a:=.str (Str.ofString "unsure")) (ZM (a:=cs "unsure") (by decide)))
  rcases wds_cons e with ⟨r0,aw⟩ | ⟨q,ea,er,_⟩
  ·rw[if_pos r0]
   subst r0
   rw[List.map_nil] at e1
   have qm:oIn [.str (Str.ofString "unsure"),tMU]=some (.z,.bl true):=rfl
   have ta:tlook ZC (Str.ofString "unsure")=some (.int 2):=rfl
   show ZJ [(.z,.str (SX.S a))] st=_
   generalize SX.S a=A at *
   simp[-Zq,-oEq,-oIn,-oAdd,ZJ,e1,qu,qm,ta,oR]
  ·have ea:a=cs "unsure " ++ q:=by
    rw[ea,hu,show cs "unsure "=cs "unsure" ++ [32] from by decide,List.append_assoc]<;>rfl
   have hd:a.drop 7=q:=by rw[ea];exact List.drop_left' (by decide)
   rw[hd]
   subst ea
   have e2:=f_choices_gen (st:=st) h
   have hr0:r ≠ []:=by rw[er];exact Zbt q
   rw[if_neg hr0]
   have hr1:0<r.length:=List.length_pos_iff.mpr hr0
   have hrl:(r.map tx).length=r.length:=List.length_map _
   have hb:(r.map tx).length+1<=16777216:=by omega
   have hg:(1:Int)<((r.map tx).length:Int)+1:=by omega
   have la:∀ s,lk s (tx (cs "unsure " ++ q))=tx (cs "unsure " ++ q):=λ_=>rfl
   show ZJ [(.z,.str (SX.S (cs "unsure " ++ q)))] st=_
   have e2:Wf [(.z,.str (SX.S (cs "unsure " ++ q)))] st=_:=e2
   have la:∀ s,lk s (.str (SX.S (cs "unsure " ++ q)))=.str (SX.S (cs "unsure " ++ q)):=la
   cases hc:chsV q with
   | none=>
    rw[hc] at e2
    show _=Res.ok .z false .non st
    generalize SX.S (cs "unsure " ++ q)=A at *
    generalize r.map tx=T at *
    have e2:Wf [(.z,.str A)] st=.ok .z false .non st:=e2
    simp[-Zq,-oEq,-oIn,-oAdd,ZJ,e1,e2,qu,hb,hg,la]
   | some l=>
    rw[hc] at e2
    show _=Res.ok .z false (dUns l) st
    unfold dUns
    generalize SX.S (cs "unsure " ++ q)=A at *
    generalize r.map tx=T at *
    have e2:Wf [(.z,.str A)] st=.ok .z false (.con .tup (l.map λr=>.con .tup (r.map D.int))) st:=e2
    generalize (l.map λr=>D.con .tup (r.map D.int))=L at *
    simp[-Zq,-oEq,-oIn,-oAdd,ZJ,e1,e2,qu,hb,hg,la,lk]
 ·rw[if_neg hu]
  exact f_row_w h e hu
theorem add_int (i j:Int):oAdd [.int i,.int j]=some (.z,.int (i+j)):=by simp
theorem e_tx:tx []=.str (Str.ofString ""):=by rw[cs_S]<;>rfl
abbrev E5 (A W:D)(ws:List D)(v6 v7 v8:Option (Fr × D)):Hx.Env:=[some (.z,A),some (.z,.con .lst ws),some (.z,W),none,none,some (.z,lawD),v6,v7,v8,none,none,none]
theorem law3 {A W:D}{ws:List D}{st:Zd}:Vn [some (.z,A),some (.z,.con .lst ws),some (.z,W),none,none,none,none,none,none,none,none,none] st=.nx (E5 A W ws none none none) st:=rfl
theorem l_row_t4 {w:List Nat}{r:List (List Nat)}{A:D}{st:Zd}(hw:Tok M6 w)(hr:∀ x∈r,Tok M6 x)(hl:r.length<=1000000):Vi (E5 A (tx w) (tx w :: r.map tx) none none none) st=.rt .z (oR (rowW w r)) st:=by
 have qd:=in2 "move" "drop" w
 have qp:=Uy "pane" hw (by decide)
 have q8:=in_ws (x:=[]) (l:=w :: r) (by rfl) (λp hp=>by
  rcases List.mem_cons.mp hp with rfl | hp
  ·exact hw.ok
  ·exact (hr p hp).ok)
 rw[e_tx,List.map_cons] at q8
 have li:=law_in w
 have hrl:(r.map tx).length=r.length:=List.length_map _
 have hb:(r.map tx).length+1<=16777216:=by omega
 have lw:∀ s,lk s (tx w)=tx w:=λ_=>rfl
 have lL:∀ s,lk s lawD=lawD:=λ_=>rfl
 unfold rowW
 unfold E5
 cases ho:arO w with
 | none=>
  rw[ho] at li
  have li:Wm [tx w,lawD]=some (.z,.bl true):=li
  generalize lawD=LD at *
  generalize tx w=W at *
  generalize r.map tx=T at *
  simp[-Wm,li,lL,lw,oR]
 | some n=>
  rw[ho] at li
  have li:Wm [tx w,lawD]=some (.z,.bl false):=li
  have lx:=law_ix ho
  obtain⟨k1,k2,k3,k4,k5,k6,k7⟩:=arO_ne ho
  show _=ResS.rt .z (oR (if r.length=n then _ else none)) st
  by_cases c:r.length=n
  ·rw[if_pos c]
   have hc:((r.map tx).length:Int)=(n:Int):=by omega
   by_cases cm:cs "move"=w∨cs "drop"=w
   ·rw[if_pos cm]
    have cm2:(decide (cs "move"=w)||decide (cs "drop"=w))=true:=by simpa using cm
    rw[cm2] at qd
    rw[decide_eq_false (k7 cm).2] at qp
    cases r with
    | nil=>exact absurd (k7 cm).1 (by simp at c;omega)
    | cons x q=>
     have e2:=figs_g (r:=q) (st:=st) (λy hy=>hr y (by simp[hy])) (by simp at hl;omega)
     have lx2:∀ s,lk s (tx x)=tx x:=λ_=>rfl
     rw[List.map_cons] at hb hc q8 ⊢
     rw[List.length_cons] at hb hc
     have hT3:cutD (tx w :: tx x :: q.map tx) (some 2) (some (((q.map tx).length:Int)+1+1))=q.map tx:=by
      have:=cutFT (tx w :: tx x :: q.map tx) 2 ((q.map tx).length+1+1) (by omega) (by simp)
      rw[show (((q.map tx).length+1+1:Nat):Int)=((q.map tx).length:Int)+1+1 by omega] at this
      rw[show ((2:Nat):Int)=2 from rfl] at this
      rw[this]
      show (q.map tx).take _=_
      rw[List.take_of_length_le (by omega)]
     have hT4:cutD (tx w :: tx x :: q.map tx) (some 1) (some 2)=[tx x]:=by
      have:=cutFT (tx w :: tx x :: q.map tx) 1 2 (by omega) (by simp)
      rw[show ((2:Nat):Int)=2 from rfl,show ((1:Nat):Int)=1 from rfl] at this
      rw[this]<;>rfl
     have hT5:cutD (tx w :: tx x :: q.map tx) (some (((q.map tx).length:Int)+1+1)) none=[]:=by
      have:=cutF (tx w :: tx x :: q.map tx) ((q.map tx).length+1+1) (by simp)
      rw[show (((q.map tx).length+1+1:Nat):Int)=((q.map tx).length:Int)+1+1 by omega] at this
      rw[this,List.drop_eq_nil_of_le (by simp)]
     show _=ResS.rt .z (oR (if x=[] then none else _)) st
     cases hn:Wk q with
     | none=>
      rw[hn] at e2
      have e2:Zz [(.z,.con .lst (q.map tx))] st=.ok .z false .non st:=e2
      have:oR (if x=[] then none else (none:Option (List Int)).map λis=>D.con .tup (tx w :: tx x :: is.map D.int))=.non:=by split<;>rfl
      rw[this]
      generalize lawD=LD at *
      generalize tx w=W at *
      generalize q.map tx=T at *
      generalize tx x=Y at *
      have hc2:(T.length:Int)+1=n:=by omega
      rw[<- hc2] at lx
      simp[-oEq,-oIn,-Wm,-oIx,-oAdd,dSlB,li,lL,add_int,lx,e2,qd,qp,hb,lw,hT3]
     | some is=>
      rw[hn] at e2
      have e2:Zz [(.z,.con .lst (q.map tx))] st=.ok .z false (.con .tup (is.map D.int)) st:=e2
      have hil:=WI hn
      have e3:=WV (a:=.non) (l:=[tx w]) (m:=[tx x]) (by simp)
      have e4:=WV (a:=.non) (l:=[tx w,tx x]) (m:=is.map D.int) (by simp at c ⊢;omega)
      have e5:=WV (a:=.non) (l:=tx w :: tx x :: is.map D.int) (m:=[]) (by simp at c ⊢;omega)
      have h8:decide ([]∈w :: x :: q)=decide (x=[]):=by
       rw[decide_eq_decide]
       simp only[List.mem_cons]
       constructor
       ·rintro (h | h | h)
        ·exact absurd h.symm k1
        ·exact h.symm
        ·exact absurd h (ZcV hn)
       ·intro h
        exact .inr (.inl h.symm)
      rw[h8] at q8
      by_cases cx:x=[]
      ·rw[decide_eq_true cx] at q8
       rw[if_pos cx]
       clear cx h8
       generalize lawD=LD at *
       generalize tx w=W at *
       generalize q.map tx=T at *
       generalize tx x=Y at *
       have hc2:(T.length:Int)+1=n:=by omega
       rw[<- hc2] at lx
       simp[-oEq,-oIn,-Wm,-oIx,-oAdd,dSlB,li,lL,add_int,lx,e2,qd,qp,q8,hb,lw,hT3,oR]
      ·rw[decide_eq_false cx] at q8
       rw[if_neg cx]
       show _=ResS.rt .z (.con .tup (tx w :: tx x :: is.map D.int)) st
       clear cx h8
       generalize lawD=LD at *
       generalize tx w=W at *
       generalize q.map tx=T at *
       generalize tx x=Y at *
       have hc2:(T.length:Int)+1=n:=by omega
       rw[<- hc2] at lx
       simp[-oEq,-oIn,-Wm,-oIx,-oAdd,dSlB,dLc,lcGo,Zy,dYes,Vp,orOp,li,lL,add_int,lx,e2,e3,e4,e5,qd,qp,q8,hb,lw,hT3,hT4,hT5]
   ·rw[if_neg cm]
    have cm2:(decide (cs "move"=w)||decide (cs "drop"=w))=false:=by simpa using cm
    rw[cm2] at qd
    by_cases cp:cs "pane"=w
    ·rw[if_pos cp]
     rw[decide_eq_true cp] at qp
     have hn5:=k6 cp
     subst hn5
     match r,c with
     | [p1,p2,p3,p4,x],_=>
      have e2:=figs_g (r:=[p1,p2,p3,p4]) (st:=st) (λy hy=>hr y (by
       simp only[List.mem_cons,List.not_mem_nil,or_false] at hy ⊢
       rcases hy with h | h | h | h<;>simp[h])) (by simp)
      have q1:=Uy "-" (hr x (by simp)) (by decide)
      have lx2:∀ s,lk s (tx x)=tx x:=λ_=>rfl
      have hT3:cutD [tx w,tx p1,tx p2,tx p3,tx p4,tx x] (some 1) (some 5)=[tx p1,tx p2,tx p3,tx p4]:=rfl
      have hT4:cutD [tx w,tx p1,tx p2,tx p3,tx p4,tx x] (some 1) (some 1)=[]:=rfl
      have hT5:cutD [tx w,tx p1,tx p2,tx p3,tx p4,tx x] (some 5) none=[tx x]:=rfl
      show _=ResS.rt .z (oR (if x=[] then none else _)) st
      simp only[List.map_cons,List.map_nil] at e2 q8 ⊢
      have hdash:tx (ZaH x)=if cs "-"=x then tx [] else tx x:=by
       unfold ZaH
       by_cases cd:x=[45]
       ·rw[if_pos cd,if_pos (by rw[cd];rfl)]
       ·rw[if_neg cd,if_neg (λhh=>cd (by rw[<- hh];rfl))]
      have t0:=e_tx
      cases hn:Wk [p1,p2,p3,p4] with
      | none=>
       rw[hn] at e2
       have e2:Zz [(.z,.con .lst [tx p1,tx p2,tx p3,tx p4])] st=.ok .z false .non st:=e2
       have:oR (if x=[] then none else (none:Option (List Int)).map λis=>D.con .tup (tx w :: (is.map D.int ++ [tx (ZaH x)])))=.non:=by split<;>rfl
       rw[this]
       clear hdash this
       generalize lawD=LD at *
       generalize tx w=W at *
       generalize tx x=Y at *
       generalize tx p1=P1 at *
       generalize tx p2=P2 at *
       generalize tx p3=P3 at *
       generalize tx p4=P4 at *
       have lx:oIx [LD,W]=some (.z,.int 5):=lx
       simp[-oEq,-oIn,-Wm,-oIx,-oAdd,dSlB,li,lL,add_int,lx,e2,qd,qp,lw,hT3]
      | some is=>
       rw[hn] at e2
       have e2:Zz [(.z,.con .lst [tx p1,tx p2,tx p3,tx p4])] st=.ok .z false (.con .tup (is.map D.int)) st:=e2
       have hil:is.length<=4:=WI hn
       have e3:=WV (a:=.non) (l:=[tx w]) (m:=[]) (by simp)
       have e4:=WV (a:=.non) (l:=[tx w]) (m:=is.map D.int) (by simp;omega)
       have e5:=λy=>WV (a:=.non) (l:=tx w :: is.map D.int) (m:=[y]) (by simp;omega)
       have h8:decide ([] ∈ [w,p1,p2,p3,p4,x])=decide (x=[]):=by
        rw[decide_eq_decide]
        have hne:=ZcV hn
        simp only[List.mem_cons,List.not_mem_nil,or_false,not_or] at hne ⊢
        constructor
        ·rintro (h | h | h | h | h | h)
         ·exact absurd h.symm k1
         ·exact absurd h hne.1
         ·exact absurd h hne.2.1
         ·exact absurd h hne.2.2.1
         ·exact absurd h hne.2.2.2
         ·exact h.symm
        ·intro h
         simp[h]
       rw[h8] at q8
       by_cases cx:x=[]
       ·rw[decide_eq_true cx] at q8
        rw[if_pos cx]
        clear hdash cx h8
        generalize lawD=LD at *
        generalize tx w=W at *
        generalize tx x=Y at *
        generalize tx p1=P1 at *
        generalize tx p2=P2 at *
        generalize tx p3=P3 at *
        generalize tx p4=P4 at *
        have lx:oIx [LD,W]=some (.z,.int 5):=lx
        simp[-oEq,-oIn,-Wm,-oIx,-oAdd,dSlB,li,lL,add_int,lx,e2,qd,qp,q8,lw,hT3,oR]
       ·rw[decide_eq_false cx] at q8
        rw[if_neg cx]
        show _=ResS.rt .z (.con .tup (tx w :: (is.map D.int ++ [tx (ZaH x)]))) st
        rw[hdash]
        clear hdash cx h8
        by_cases cd:cs "-"=x
        ·rw[if_pos cd,t0]
         rw[decide_eq_true cd] at q1
         clear cd
         generalize lawD=LD at *
         generalize tx w=W at *
         generalize tx x=Y at *
         generalize tx p1=P1 at *
         generalize tx p2=P2 at *
         generalize tx p3=P3 at *
         generalize tx p4=P4 at *
         have lx:oIx [LD,W]=some (.z,.int 5):=lx
         simp[-oEq,-oIn,-Wm,-oIx,-oAdd,dSlB,dLc,lcGo,Zy,dYes,ZX,Vp,orOp,li,lL,add_int,lx,e2,e3,e4,e5,qd,qp,q1,q8,lw,lx2,hT3,hT4,hT5]
        ·rw[if_neg cd]
         rw[decide_eq_false cd] at q1
         clear cd
         generalize lawD=LD at *
         generalize tx w=W at *
         generalize tx x=Y at *
         generalize tx p1=P1 at *
         generalize tx p2=P2 at *
         generalize tx p3=P3 at *
         generalize tx p4=P4 at *
         have lx:oIx [LD,W]=some (.z,.int 5):=lx
         simp[-oEq,-oIn,-Wm,-oIx,-oAdd,dSlB,dLc,lcGo,Zy,dYes,ZX,Vp,orOp,li,lL,add_int,lx,e2,e3,e4,e5,qd,qp,q1,q8,lw,lx2,hT3,hT4,hT5]
    ·rw[if_neg cp]
     rw[decide_eq_false cp] at qp
     have e2:=figs_g (r:=r) (st:=st) hr (by omega)
     have hT3:cutD (tx w :: r.map tx) (some 1) (some (((r.map tx).length:Int)+1))=r.map tx:=by
      have:=cutFT (tx w :: r.map tx) 1 ((r.map tx).length+1) (by omega) (by simp)
      rw[show (((r.map tx).length+1:Nat):Int)=((r.map tx).length:Int)+1 by omega] at this
      rw[show ((1:Nat):Int)=1 from rfl] at this
      rw[this]
      show (r.map tx).take _=_
      rw[List.take_of_length_le (by omega)]
     have hT4:cutD (tx w :: r.map tx) (some 1) (some 1)=[]:=by
      have:=cutFT (tx w :: r.map tx) 1 1 (by omega) (by simp)
      rw[show ((1:Nat):Int)=1 from rfl] at this
      rw[this]<;>rfl
     have hT5:cutD (tx w :: r.map tx) (some (((r.map tx).length:Int)+1)) none=[]:=by
      have:=cutF (tx w :: r.map tx) ((r.map tx).length+1) (by simp)
      rw[show (((r.map tx).length+1:Nat):Int)=((r.map tx).length:Int)+1 by omega] at this
      rw[this,List.drop_eq_nil_of_le (by simp)]
     cases hn:Wk r with
     | none=>
      rw[hn] at e2
      have e2:Zz [(.z,.con .lst (r.map tx))] st=.ok .z false .non st:=e2
      show _=ResS.rt .z .non st
      generalize lawD=LD at *
      generalize tx w=W at *
      generalize r.map tx=T at *
      rw[<- hc] at lx
      simp[-oEq,-oIn,-Wm,-oIx,-oAdd,dSlB,li,lL,add_int,lx,e2,qd,qp,hb,lw,hT3]
     | some is=>
      rw[hn] at e2
      have e2:Zz [(.z,.con .lst (r.map tx))] st=.ok .z false (.con .tup (is.map D.int)) st:=e2
      have hil:=WI hn
      have e3:=WV (a:=.non) (l:=[tx w]) (m:=[]) (by simp)
      have e4:=WV (a:=.non) (l:=[tx w]) (m:=is.map D.int) (by simp;omega)
      have e5:=WV (a:=.non) (l:=tx w :: is.map D.int) (m:=[]) (by simp;omega)
      have h8:decide ([]∈w :: r)=false:=by
       rw[decide_eq_false_iff_not,List.mem_cons,not_or]
       exact⟨λh=>k1 h.symm,ZcV hn⟩
      rw[h8] at q8
      show _=ResS.rt .z (.con .tup (tx w :: is.map D.int)) st
      generalize lawD=LD at *
      generalize tx w=W at *
      generalize r.map tx=T at *
      rw[<- hc] at lx
      simp[-oEq,-oIn,-Wm,-oIx,-oAdd,dSlB,dLc,lcGo,Zy,dYes,Vp,orOp,li,lL,add_int,lx,e2,e3,e4,e5,qd,qp,q8,hb,lw,hT3,hT4,hT5]
  ·rw[if_neg c]
   have hc:¬ ((r.map tx).length:Int)=(n:Int):=by omega
   generalize lawD=LD at *
   generalize tx w=W at *
   generalize r.map tx=T at *
   simp[-Wm,-oIx,li,lL,add_int,lx,hb,lw,hc,oR]
theorem l_row_w {a w:List Nat}{r:List (List Nat)}{st:Zd}(h:Tok M6 a)(e:wds a=w :: r)(hu:w≠cs "unsure"):ZF [(.z,tx a)] st=.ok .z false (oR (rowW w r)) st:=by
 have hl:=VM a
 have hm:=h.m
 rw[e,List.length_cons] at hl
 have hw:Tok M6 w:=Vc h (by rw[e];simp)
 have hr:∀ x∈r,Tok M6 x:=λx hx=>Vc h (by rw[e];simp[hx])
 have e1:=Uc h
 rw[e,List.map_cons] at e1
 have qu:=Uy "unsure" hw (by decide)
 rw[decide_eq_false (Ne.symm hu)] at qu
 have lw:∀ s,lk s (tx w)=tx w:=λ_=>rfl
 have l3:=law3 (A:=tx a) (W:=tx w) (ws:=tx w :: r.map tx) (st:=st)
 have l4:=l_row_t4 (A:=tx a) (st:=st) hw hr (by omega)
 show ZF [(.z,.str (SX.S a))] st=_
 have l3:Vn [some (.z,.str (SX.S a)),some (.z,.con .lst (tx w :: r.map tx)),some (.z,tx w),none,none,none,none,none,none,none,none,none] st=.nx (E5 (.str (SX.S a)) (tx w) (tx w :: r.map tx) none none none) st:=l3
 have l4:Vi (E5 (.str (SX.S a)) (tx w) (tx w :: r.map tx) none none none) st=.rt .z (oR (rowW w r)) st:=l4
 generalize oR (rowW w r)=O at *
 generalize E5 (.str (SX.S a)) (tx w) (tx w :: r.map tx) none none none=E at *
 generalize tx w=W at *
 generalize r.map tx=T at *
 generalize SX.S a=A at *
 simp[-Zq,-oEq,-Vn,-Vi,ZF,e1,qu,l3,l4,lw]
theorem l_row_uns {a:List Nat}{r:List (List Nat)}{st:Zd}(h:Tok M6 a)(e:wds a=cs "unsure" :: r):ZF [(.z,tx a)] st=.ok .z false (oR (if r=[] then none else (chsV (a.drop 7)).map dUns)) st:=by
 have hl:=VM a
 have hm:=h.m
 rw[e,List.length_cons] at hl
 have e1:=Uc h
 rw[e,List.map_cons,cs_d] at e1
 have hb:(r.map tx).length+1<=16777216:=by rw[List.length_map];omega
 have qu:oEq [.str (Str.ofString "unsure"),.str (Str.ofString "unsure")]=some (.z,.bl true):=ZaM (eqD_yes (a:=.str (Str.ofString "unsure")) (ZM (a:=cs "unsure") (by decide)))
 have hB:Tok M6 (a.drop 7):=h.drop
 have ht:Tok M6 (a.take 7):=h.take
 have s1:Vp [tx a,.int 7]=some (.z,tx (a.drop 7)):=slL_tx (k:=7) h.m
 have s2:Um [tx a,.int 7]=some (.z,tx (a.take 7)):=slH_tx (k:=7) h.m
 have q7:=Uy "unsure " ht (by decide)
 have e2:=split_sl hB
 have hm1:((pts (a.drop 7)).map tx).length<=16777215:=by have:=Zca (a.drop 7);have:=hB.m;rw[List.length_map];omega
 have i1:=parts_lc (F:=Zz) (p:=10) (env:=[some (.z,tx a),some (.z,.con .lst (.str (Str.ofString "unsure") :: r.map tx)),some (.z,.str (Str.ofString "unsure")),none,none,none,none,none,none,none,none,none]) (st:=st) hB (by simp) λa ha=>words_figs ha
 have i2:=(in_noneR (ZZ (a.drop 7))).2
 have hm2:(ZZ (a.drop 7)).length<=16777215:=by unfold ZZ;have:=Zca (a.drop 7);have:=hB.m;rw[List.length_map];omega
 have la:∀ s,lk s (tx a)=tx a:=λ_=>rfl
 have l7:∀ s,lk s (tx (a.drop 7))=tx (a.drop 7):=λ_=>rfl
 have l8:∀ s,lk s (tx (a.take 7))=tx (a.take 7):=λ_=>rfl
 have hcase:(r=[]∧cs "unsure " ≠ a.take 7)∨(r ≠ []∧cs "unsure "=a.take 7):=by
  rcases wds_cons e with ⟨r0,aw⟩ | ⟨q,ea,er,_⟩
  ·refine .inl ⟨r0,?_⟩
   rw[aw];decide
  ·refine .inr ⟨by rw[er];exact Zbt q,?_⟩
   rw[ea,show (cs "unsure" ++ 32 :: q)=cs "unsure " ++ q from by rw[show cs "unsure "=cs "unsure" ++ [32] from by decide,List.append_assoc]<;>rfl]
   exact (List.take_left' (by decide)).symm
 show ZF [(.z,.str (SX.S a))] st=_
 generalize hTT:(pts (a.drop 7)).map tx=TT at *
 rcases hcase with ⟨c1,c2⟩ | ⟨c1,c2⟩
 ·rw[if_pos c1]
  rw[decide_eq_false c2] at q7
  clear hTT c2
  generalize (ZZ (a.drop 7)).map oIs=RR at *
  generalize tx (a.take 7)=A8 at *
  have l7:∀ s,lk s (.str (SX.S (a.drop 7)))=.str (SX.S (a.drop 7)):=l7
  have s1:Vp [.str (SX.S a),.int 7]=some (.z,.str (SX.S (a.drop 7))):=s1
  have s2:Um [.str (SX.S a),.int 7]=some (.z,A8):=s2
  generalize SX.S (a.drop 7)=A7 at *
  generalize r.map tx=T at *
  have i1:lcGo (.nm 10) dYes _ _ [some (.z,.str (SX.S a)),some (.z,.con .lst (.str (Str.ofString "unsure") :: T)),some (.z,.str (Str.ofString "unsure")),none,none,none,none,none,none,none,none,none] st []=_:=i1
  have la:∀ s,lk s (.str (SX.S a))=.str (SX.S a):=la
  generalize SX.S a=A at *
  simp[-Zq,-oEq,-Wm,ZF,dLc,Zy,e1,e2,qu,s1,s2,i1,q7,hb,hm1,la,l7,l8,oR]
 ·rw[if_neg c1]
  rw[decide_eq_true c2] at q7
  clear hTT c2
  generalize tx (a.take 7)=A8 at *
  have l7:∀ s,lk s (.str (SX.S (a.drop 7)))=.str (SX.S (a.drop 7)):=l7
  have s1:Vp [.str (SX.S a),.int 7]=some (.z,.str (SX.S (a.drop 7))):=s1
  have s2:Um [.str (SX.S a),.int 7]=some (.z,A8):=s2
  unfold chsV
  by_cases c:none∈ZZ (a.drop 7)
  ·rw[if_pos c]
   rw[decide_eq_true c] at i2
   clear c hm2
   generalize (ZZ (a.drop 7)).map oIs=RR at *
   generalize SX.S (a.drop 7)=A7 at *
   generalize r.map tx=T at *
   have i1:lcGo (.nm 10) dYes _ _ [some (.z,.str (SX.S a)),some (.z,.con .lst (.str (Str.ofString "unsure") :: T)),some (.z,.str (Str.ofString "unsure")),none,none,none,none,none,none,none,none,none] st []=_:=i1
   have la:∀ s,lk s (.str (SX.S a))=.str (SX.S a):=la
   generalize SX.S a=A at *
   simp[-Zq,-oEq,-Wm,ZF,dLc,Zy,e1,e2,qu,s1,s2,i1,i2,q7,hb,hm1,la,l7,l8,oR]
  ·rw[if_neg c]
   rw[decide_eq_false c,oIs_fm _ c] at i2
   rw[oIs_fm _ c] at i1
   have hm3:(((ZZ (a.drop 7)).filterMap id).map λr=>D.con .tup (r.map D.int)).length<=16777215:=by
    have:=List.length_filterMap_le id (ZZ (a.drop 7))
    rw[List.length_map];omega
   have i4:=Ub (λr:List Int=>decide (r.length=5)) ((ZZ (a.drop 7)).filterMap id)
   have i5:(((ZZ (a.drop 7)).filterMap id).map λr=>decide (r.length=5)).all id=((ZZ (a.drop 7)).filterMap id).all (λr=>decide (r.length=5)):=by rw[List.all_map]<;>rfl
   generalize (ZZ (a.drop 7)).filterMap id=L at *
   have i3:=len5_lc (p:=11) (env:=[some (.z,tx a),some (.z,.con .lst (.str (Str.ofString "unsure") :: r.map tx)),some (.z,.str (Str.ofString "unsure")),some (.z,.con .lst (L.map λr=>.con .tup (r.map D.int))),none,none,none,none,none,none,none,none]) (st:=st) (by simp) L
   generalize SX.S (a.drop 7)=A7 at *
   generalize r.map tx=T at *
   have i1:lcGo (.nm 10) dYes _ _ [some (.z,.str (SX.S a)),some (.z,.con .lst (.str (Str.ofString "unsure") :: T)),some (.z,.str (Str.ofString "unsure")),none,none,none,none,none,none,none,none,none] st []=_:=i1
   have i3:lcGo (.nm 11) dYes _ _ [some (.z,.str (SX.S a)),some (.z,.con .lst (.str (Str.ofString "unsure") :: T)),some (.z,.str (Str.ofString "unsure")),some (.z,.con .lst (L.map λr=>.con .tup (r.map D.int))),none,none,none,none,none,none,none,none] st []=_:=i3
   have la:∀ s,lk s (.str (SX.S a))=.str (SX.S a):=la
   generalize SX.S a=A at *
   cases hA:L.all (λr=>decide (r.length=5)) with
   | true=>
    rw[hA] at i5
    rw[if_pos rfl]
    show _=Res.ok .z false (dUns L) st
    unfold dUns
    generalize (L.map λr=>decide (r.length=5))=BT at *
    generalize (L.map λr=>D.bl (decide (r.length=5)))=BB at *
    generalize (L.map λr=>D.con .tup (r.map D.int))=R at *
    simp[-Zq,-oEq,-Wm,ZF,dLc,Zy,e1,e2,qu,s1,s2,i1,i2,i3,i4,i5,q7,hb,hm1,hm3,la,l7,l8]
   | false=>
    rw[hA] at i5
    show _=Res.ok .z false .non st
    generalize (L.map λr=>decide (r.length=5))=BT at *
    generalize (L.map λr=>D.bl (decide (r.length=5)))=BB at *
    generalize (L.map λr=>D.con .tup (r.map D.int))=R at *
    simp[-Zq,-oEq,-Wm,ZF,dLc,Zy,e1,e2,qu,s1,s2,i1,i2,i3,i4,i5,q7,hb,hm1,hm3,la,l7,l8]
theorem l_row_g {a:List Nat}{st:Zd}(h:Tok M6 a):ZF [(.z,tx a)] st=.ok .z false (oR (rowV a)) st:=by
 obtain⟨w,r,e⟩:∃ w r,wds a=w :: r:=by
  cases e:wds a with
  | nil=>exact absurd e (Zbt a)
  | cons w r=>exact⟨w,r,rfl⟩
 have hv:rowV a=if w=cs "unsure" then (if r=[] then none else (chsV (a.drop 7)).map dUns) else rowW w r:=by unfold rowV;rw[e]
 rw[hv]
 by_cases hu:w=cs "unsure"
 ·rw[if_pos hu]
  subst hu
  exact l_row_uns h e
 ·rw[if_neg hu]
  exact l_row_w h e hu
def posO (o:Option Int):Option Int:=o.bind λi=>if i<0 then none else some i
def UO (a:List Nat):Option Int:=match wds a with
 | [w,q]=>if cs "many"=w then posO (ZW q) else none
 | _=>none
theorem numIn_free {q:List Nat}{i:Int}(h:ZW q=some i):32 ∉ q:=by
 unfold ZW at h
 split at h
 ·rename_i hc
  have hd:=hc.2.1
  unfold digB at hd
  rw[List.all_eq_true] at hd
  intro hm
  unfold Zn at hd
  split at hd
  ·cases q with
   | nil=>cases hm
   | cons x r=>
    rename_i h45
    rcases List.mem_cons.mp hm with e | hm
    ·rw[<- e] at h45
     simp at h45
    ·have:=hd 32 hm
     simp at this
  ·have:=hd 32 hm
   simp at this
 ·cases h
theorem oI_lk {o:Option Int}(s:Zd):lk s (oI o)=oI o:=by cases o<;>rfl
theorem f_many_g {a:List Nat}{st:Zd}(h:Tok M6 a):Wx [(.z,tx a)] st=.ok .z false (oI (UO a)) st:=by
 have hm:=h.m
 rcases cut32 a with h32 | ⟨p,q,e,hp⟩
 ·have hv:UO a=none:=by unfold UO;rw[wds_one h32]
  rw[hv]
  have e1:Zaw (SX.S a) [.str (Str.ofString " ")]=some (.z,.con .tup [tx a,tx [],tx []]):=by
   have e1:=SX.partition_none (a:=a) (b:=[32]) (by simp) (SX.par_head_none (c:=32) (sep:=[]) h32)
   have h1:(SX.S a).length.ble 1000000=true:=Nat.ble_eq_true_of_le (by rw[SX.S_len];exact hm)
   show (bif !((SX.S [32]).length==0)&&(SX.S a).length.ble 1000000 then some (Fr.z,D.con .tup [.str (Txt.partition (SX.S a) (SX.S [32])).1,.str (Txt.partition (SX.S a) (SX.S [32])).2.1,.str (Txt.partition (SX.S a) (SX.S [32])).2.2]) else none)=_
   rw[h1,e1]<;>rfl
  have e2:ZQ [(.z,tx [])] st=.ok .z false .non st:=ZaD (st:=st) (a:=[]) (by decide) (by rfl)
  obtain⟨b,q1⟩:∃ b,oNe [tx a,.str (Str.ofString "many")]=some (.z,.bl b):=⟨!decide (a=cs "many"),by
   have:=UJ (a:=a) (b:=cs "many") h.ok (by decide)
   rw[show tx (cs "many")=.str (Str.ofString "many") from cs_d _] at this
   simp[this]⟩
  have hlp:lk st (tx a)=tx a:=rfl
  have hlq:lk st (tx [])=tx []:=rfl
  show Wx [(.z,.str (SX.S a))] st=.ok .z false .non st
  have e1:Zaw (SX.S a) [.str (Str.ofString " ")]=some (.z,.con .tup [.str (SX.S a),tx [],tx []]):=e1
  have q1:oNe [.str (SX.S a),.str (Str.ofString "many")]=some (.z,.bl b):=q1
  have hlp:lk st (.str (SX.S a))=.str (SX.S a):=hlp
  generalize SX.S a=A at *
  generalize tx []=N at *
  cases b<;>simp[-Zaw,-oNe,Wx,e1,e2,q1,dUnp,ZX,ZS,hlp,hlq]
 ·have hq:Tok M6 q:=⟨VI h.ok λc hc=>by rw[e];simp[hc],by have:=h.ln;rw[e] at this;simp at this;omega⟩
  have hpt:Tok M6 p:=⟨VI h.ok λc hc=>by rw[e];simp[hc],by have:=h.ln;rw[e] at this;simp at this;omega⟩
  have e1:=part_tx (a:=a) (p:=p) (q:=q) e hp hm
  have e2:=ZaD (st:=st) (a:=q) hq.m hq.ok
  have q1:oNe [tx p,.str (Str.ofString "many")]=some (.z,.bl (!decide (cs "many"=p))):=by
   have:=UJ (a:=p) (b:=cs "many") hpt.ok (by decide)
   rw[show tx (cs "many")=.str (Str.ofString "many") from cs_d _] at this
   rw[show decide (p=cs "many")=decide (cs "many"=p) from by rw[decide_eq_decide];exact eq_comm] at this
   simp[this]
  have hv:UO a=if cs "many"=p then posO (ZW q) else none:=by
   unfold UO
   rw[e,wds_two hp]
   rcases cut32 q with h2 | ⟨p2,q2,e2,hp2⟩
   ·rw[wds_one h2]
   ·have hn:ZW q=none:=by
     cases hn:ZW q with
     | none=>rfl
     | some i=>exact absurd (numIn_free hn) (by rw[e2];simp)
    rw[e2,wds_two hp2,<- e2,hn]
    have:=Zbt q2
    cases hw:wds q2 with
    | nil=>exact absurd hw this
    | cons x y=>show none=if _ then posO none else none;split<;>rfl
  rw[hv]
  have hlk:=oI_lk (o:=ZW q) st
  have hlp:lk st (tx p)=tx p:=rfl
  have hlq:lk st (tx q)=tx q:=rfl
  show Wx [(.z,.str (SX.S a))] st=_
  by_cases c:cs "many"=p
  ·rw[if_pos c]
   rw[decide_eq_true c] at q1
   clear c hv e
   generalize SX.S a=X at *
   generalize tx p=P at *
   generalize tx q=Q at *
   cases hn:ZW q with
   | none=>
    rw[hn] at e2
    have e2:ZQ [(.z,Q)] st=.ok .z false .non st:=e2
    show _=Res.ok .z false .non st
    simp[-Zaw,-oNe,Wx,e1,e2,q1,dUnp,ZX,ZS,hlp,hlq]
   | some i=>
    rw[hn] at e2
    have e2:ZQ [(.z,Q)] st=.ok .z false (.int i) st:=e2
    by_cases ci:i<0
    ·show _=Res.ok .z false (oI (if i<0 then none else some i)) st
     rw[if_pos ci]
     show _=Res.ok .z false .non st
     simp[-Zaw,-oNe,Wx,e1,e2,q1,dUnp,ZX,ZS,hlp,hlq,ci]
    ·show _=Res.ok .z false (oI (if i<0 then none else some i)) st
     rw[if_neg ci]
     show _=Res.ok .z false (.int i) st
     simp[-Zaw,-oNe,Wx,e1,e2,q1,dUnp,ZX,ZS,hlp,hlq,ci]
  ·rw[if_neg c]
   rw[decide_eq_false c] at q1
   clear c hv e
   show _=Res.ok .z false .non st
   generalize SX.S a=X at *
   generalize tx p=P at *
   generalize tx q=Q at *
   generalize oI (ZW q)=N at *
   simp[-Zaw,-oNe,Wx,e1,e2,q1,dUnp,ZX,ZS,hlk,hlp,hlq]
theorem UW {a:List Nat}{d:D}(h:rowV a=some d):∃ ds,d=.con .tup ds:=by
 unfold rowV at h
 split at h
 ·cases h
 ·split at h
  ·split at h
   ·cases h
   ·obtain⟨x,_,rfl⟩:=Option.map_eq_some_iff.mp h
    exact⟨_,rfl⟩
  ·unfold rowW at h
   split at h
   ·cases h
   ·split at h
    ·split at h
     ·split at h
      ·cases h
      ·split at h
       ·cases h
       ·obtain⟨x,_,rfl⟩:=Option.map_eq_some_iff.mp h
        exact⟨_,rfl⟩
     ·split at h
      ·split at h
       ·split at h
        ·cases h
        ·obtain⟨x,_,rfl⟩:=Option.map_eq_some_iff.mp h
         exact⟨_,rfl⟩
       ·cases h
      ·obtain⟨x,_,rfl⟩:=Option.map_eq_some_iff.mp h
       exact⟨_,rfl⟩
    ·cases h
theorem oR_lk {a:List Nat}(s:Zd):lk s (oR (rowV a))=oR (rowV a):=by
 cases h:rowV a with
 | none=>rfl
 | some d=>
  obtain⟨ds,rfl⟩:=UW h
  rfl
theorem oR_is {a:List Nat}:oIsN [oR (rowV a),.non]=some (.z,.bl (rowV a).isNone):=by
 cases h:rowV a with
 | none=>rfl
 | some d=>
  obtain⟨ds,rfl⟩:=UW h
  rfl
theorem deed_bodyG {rows:List D}{n:Nat}{acc:List D}{a:List Nat}(h:Tok M6 a){i:Nat}{st:Zd}(hi:rows[i]?=some (tx a))(ha:acc.length<=1000000):
  ZT (ED rows n acc (some (.z,.int (i:Int)))) st=match rowV a with
   | some d=>.nx (ED rows n (acc ++ [d]) (some (.z,.int (i:Int)))) st
   | none=>.exc 15 [.str (Str.ofString "badtext"),.int (i:Int)] (ED rows n (acc ++ [.non]) (some (.z,.int (i:Int)))) st:=by
 have e2:=Zev h (st:=st)
 have hlk:lk st (tx a)=tx a:=rfl
 have hx:oIx [.con .lst rows,.int (i:Int)]=some (.z,tx a):=by
  have:atI rows (i:Int)=some (tx a):=by
   have hl:=(List.getElem?_eq_some_iff.mp hi).1
   have h2:(i:Int)<(rows.length:Int):=by omega
   simp[atI,ixN,h2,hi]
  simp[this]
 have hla:∀ x,atI (acc ++ [x]) (-1)=some x:=λx=>by
  have e:ixN (acc.length+1) (-1)=some acc.length:=by
   unfold ixN
   simp
   try omega
  simp[atI,e]
 have hld:=oR_lk (a:=a) st
 have hq:=oR_is (a:=a)
 cases hr:rowV a with
 | none=>
  rw[hr] at e2
  have e2:ZJ [(.z,tx a)] st=.ok .z false .non st:=e2
  generalize tx a=X at *
  simp[-oIx,ZT,dApp,dIx1L,hx,e2,hlk,ha,hla,UD]
 | some d=>
  obtain⟨ds,rfl⟩:=UW hr
  rw[hr] at e2
  have e2:ZJ [(.z,tx a)] st=.ok .z false (.con .tup ds) st:=e2
  generalize tx a=X at *
  simp[-oIx,ZT,dApp,dIx1L,hx,e2,hlk,lk,ha,hla]
def PlnM:Nat->D->Prop
 | 0,_=>False
 | _+1,.non=>True
 | _+1,.int _=>True
 | _+1,.str s=>PyData.strOk s=true
 | m+1,.con .tup ds=>ds.length<=1000000∧∀ d∈ds,PlnM m d
 | _,_=>False
theorem Zei:∀ (m:Nat) (d:D) (st:Zd),PlnM m d->WH m [(.z,d),(.z,d)] st=.ok .z false (.bl true) st
 | 0,d,st,h=>by cases d<;>exact h.elim
 | m+1,d,st,h=>by
  cases d with
  | non=>simp[WH,VU,VT,Zbn]
  | bl b=>exact h.elim
  | int i=>simp[WH,VU,VT,Zag,Zaf,UC]
  | str s=>
   have e:=eqD_str (show PyData.strOk s=true from h) (show PyData.strOk s=true from h)
   simp[WH,VU,VT,Zag,Zaf,UC,e]
  | fnv s j=>exact h.elim
  | ref s=>exact h.elim
  | con k ds=>
   have hl:ds.length<=1000000∧∀ d∈ds,PlnM m d:=by cases k<;>first | exact h | exact h.elim
   have hk:k=.tup:=by cases k<;>first | rfl | exact h.elim
   subst hk
   have L:=same_loop (rec:=WH m) (k1:=.tup) (k2:=.tup) (ds:=ds) (st:=st) rfl rfl (λd hd=>Zei m d st (hl.2 d hd)) (List.range ds.length) [] λi hi=>List.mem_range.mp hi
   have s62:Wq (ds.length:Int)=true:=by simp[Wq];omega
   have rg:Zt 0 (ds.length:Int)=(List.range ds.length).map λ(i:Nat)=>D.int (0+(i:Int)):=by simp[Zt]
   have hb:=bools_true (List.range ds.length)
   have hlen:(ds.length<=16777215):=by omega
   simp at L hlen
   simp[WH,VU,VT,Zag,Zaf,Zes,Zeq,dLc,s62,rg,Zy,hlen,L,hb]
inductive RwS (n:Nat):D->Prop
 | row {w:List Nat} {xs:List D} (hw:okC w=true) (hl:xs.length<=n) (h:∀ x∈xs,(∃ i,x=.int i)∨∃ p,x=tx p∧okC p=true):RwS n (.con .tup (tx w :: xs))
 | uns {l:List (List Int)} (hl:l.length<=n) (h:∀ r∈l,r.length=5):RwS n (dUns l)
theorem ZbN {is:List Int}:∀ x∈is.map D.int,(∃ i,x=.int i)∨∃ p,x=tx p∧okC p=true:=λx hx=>by
 obtain⟨i,_,rfl⟩:=List.mem_map.mp hx
 exact .inl ⟨i,rfl⟩
theorem dash_ok {x:List Nat}(h:okC x=true):okC (ZaH x)=true:=by
 unfold ZaH
 split
 ·rfl
 ·exact h
theorem ZbD {a:List Nat}{d:D}(ha:Tok M6 a)(h:rowV a=some d):RwS (a.length+1) d:=by
 have hwl:=VM a
 unfold rowV at h
 split at h
 ·cases h
 ·rename_i w r e
  rw[e,List.length_cons] at hwl
  have hr:∀ x∈w :: r,okC x=true:=λx hx=>(Vc ha (by rw[e];exact hx)).ok
  split at h
  ·split at h
   ·cases h
   ·obtain⟨l,hl,rfl⟩:=Option.map_eq_some_iff.mp h
    unfold chsV at hl
    split at hl
    ·cases hl
    ·split at hl
     ·rename_i h5
      cases hl
      rw[List.all_eq_true] at h5
      refine .uns ?_ λx hx=>by simpa using h5 x hx
      have h1:=List.length_filterMap_le id (ZZ (a.drop 7))
      have h2:=Zca (a.drop 7)
      have h3:(ZZ (a.drop 7)).length=(pts (a.drop 7)).length:=by unfold ZZ;rw[List.length_map]
      have h4:(a.drop 7).length<=a.length:=by rw[List.length_drop];omega
      omega
     ·cases hl
  ·unfold rowW at h
   split at h
   ·cases h
   ·rename_i n _
    split at h
    ·split at h
     ·split at h
      ·cases h
      ·rename_i x q
       split at h
       ·cases h
       ·obtain⟨is,hi,rfl⟩:=Option.map_eq_some_iff.mp h
        have:=WI hi
        refine .row (hr _ (by simp)) (by simp at hwl ⊢;omega) λy hy=>?_
        rcases List.mem_cons.mp hy with rfl | hy
        ·exact .inr ⟨_,rfl,hr _ (by simp)⟩
        ·exact ZbN y hy
     ·split at h
      ·split at h
       ·rename_i p1 p2 p3 p4 x
        split at h
        ·cases h
        ·obtain⟨is,hi,rfl⟩:=Option.map_eq_some_iff.mp h
         have:=WI hi
         refine .row (hr _ (by simp)) (by simp at this hwl ⊢;omega) λy hy=>?_
         rcases List.mem_append.mp hy with hy | hy
         ·exact ZbN y hy
         ·rw[List.mem_singleton.mp hy]
          exact .inr ⟨_,rfl,dash_ok (hr _ (by simp))⟩
       ·cases h
      ·obtain⟨is,hi,rfl⟩:=Option.map_eq_some_iff.mp h
       have:=WI hi
       exact .row (hr _ (by simp)) (by simp;omega) ZbN
    ·cases h
theorem RwS.nb {n:Nat}{d:D}(h:RwS n d):nb 63 d=true:=by
 cases h with
 | row hw hl h=>
  show (_ :: _:List D).all (Hx.nb 62)=true
  rw[List.all_eq_true]
  intro x hx
  rcases List.mem_cons.mp hx with rfl | hx
  ·exact ZM hw
  ·rcases h x hx with ⟨i,rfl⟩ | ⟨p,rfl,hp⟩
   ·rfl
   ·exact ZM hp
 | @uns l hl h=>
  have h1:(l.map λr=>D.con .tup (r.map D.int)).all (Hx.nb 61)=true:=by
   rw[List.all_eq_true]
   intro x hx
   obtain⟨r,_,rfl⟩:=List.mem_map.mp hx
   show (r.map D.int).all (Hx.nb 60)=true
   rw[List.all_eq_true]
   intro y hy
   obtain⟨i,_,rfl⟩:=List.mem_map.mp hy
   rfl
  show (PyData.strOk (Str.ofString "unsure")&&((l.map λr=>D.con .tup (r.map D.int)).all (Hx.nb 61)&&true))=true
  rw[h1,show PyData.strOk (Str.ofString "unsure")=true from ZM (a:=cs "unsure") (by decide)]<;>rfl
theorem RwS.pln {n m:Nat}{d:D}(hn:n<=999999)(h:RwS n d):PlnM (m+4) d:=by
 cases h with
 | row hw hl h=>
  refine⟨by simp;omega,λx hx=>?_⟩
  rcases List.mem_cons.mp hx with rfl | hx
  ·exact ZM hw
  ·rcases h x hx with ⟨i,rfl⟩ | ⟨p,rfl,hp⟩
   ·trivial
   ·exact ZM hp
 | @uns l hl h=>
  refine⟨by simp,λx hx=>?_⟩
  rcases List.mem_cons.mp hx with rfl | hx
  ·exact ZM (a:=cs "unsure") (by decide)
  ·rw[List.mem_singleton.mp hx]
   refine⟨by simp;omega,λy hy=>?_⟩
   obtain⟨r,hr,rfl⟩:=List.mem_map.mp hy
   refine⟨by simp;have:=h r hr;omega,λz hz=>?_⟩
   obtain⟨i,_,rfl⟩:=List.mem_map.mp hz
   trivial
theorem RwS.ne {n:Nat}{d:D}(h:RwS n d):d ≠ .non:=by
 cases h<;>intro e<;>cases e
theorem nb_upG:∀ (n:Nat) (d:D),nb n d=true->nb (n+1) d=true
  | 0,.non,_=>rfl
  | 0,.bl _,h=>by cases h
  | 0,.int _,_=>rfl
  | 0,.str _,h=>h
  | 0,.fnv _ _,h=>by cases h
  | 0,.ref _,h=>by cases h
  | 0,.con k ds,h=>by cases k<;>cases h
  | n+1,.non,_=>rfl
  | n+1,.bl _,h=>by cases h
  | n+1,.int _,_=>rfl
  | n+1,.str _,h=>h
  | n+1,.fnv _ _,h=>by cases h
  | n+1,.ref _,h=>by cases h
  | n+1,.con k ds,h=>by
    cases k<;>first
      | (cases h;done)
      | (rw[nb,List.all_eq_true] at h ⊢
         exact λd hd=>nb_upG n d (h d hd))
theorem nb_up {d:D}(h:nb 63 d=true):nb 64 d=true:=nb_upG 63 d h
theorem none_in {vs:List (Option D)}(h:∀ d,some d∈vs->nb 63 d=true∧d ≠ .non):oIn [.non,.con .lst (vs.map oR)]=some (.z,.bl (vs.any Option.isNone)):=by
 have h63:∀ d∈vs.map oR,nb 63 d=true:=λd hd=>by
  obtain⟨y,hy,rfl⟩:=List.mem_map.mp hd
  cases y with
  | none=>rfl
  | some z=>exact (h z hy).1
 have h64:∀ d∈vs.map oR,nb 64 d=true:=λd hd=>nb_up (h63 d hd)
 obtain⟨c,e,k⟩:=inLD_nb (a:=.non) (ds:=vs.map oR) (by simp[nb]) h64 (by rw[nb,List.all_eq_true];exact h63)
 have k2:c=vs.any Option.isNone:=by
  rw[Bool.eq_iff_iff,k,List.any_eq_true,List.mem_map]
  constructor
  ·rintro⟨y,h1,h2⟩
   cases y with
   | none=>exact⟨none,h1,rfl⟩
   | some z=>exact absurd h2 (h z h1).2
  ·rintro⟨y,h1,h2⟩
   cases y with
   | none=>exact⟨none,h1,rfl⟩
   | some z=>cases h2
 subst k2
 simp[oIn,e]
theorem pys_ix:∀ {vs:List (Option D)} {ys:List PyData},(∀ d,some d∈vs->nb 63 d=true∧d ≠ .non)->D.pys (vs.map oR)=some ys->(ys.findIdx? λz=>PyData.eqv z .none)=vs.findIdx? Option.isNone
 | [],ys,_,h=>by cases h;rfl
 | v :: vs,ys,hv,h=>by
  rw[List.map_cons,D.pys] at h
  split at h
  ·rename_i z zs e1 e2
   cases h
   have ih:=pys_ix (vs:=vs) (λd hd=>hv d (by simp[hd])) e2
   have hd:nb 64 (oR v)=true:=by
    cases v with
    | none=>rfl
    | some d=>exact nb_up (hv d (by simp)).1
   obtain⟨c,e,k⟩:=eqD_nb hd (show nb 64 D.non=true by rfl)
   have hc:PyData.eqv z .none=c:=by
    obtain⟨x',y',q1,q2,_,_,q5⟩:=Zcu e
    rw[e1] at q1
    cases q1
    cases q2
    exact q5
   have hcv:c=v.isNone:=by
    rw[Bool.eq_iff_iff,k]
    cases v with
    | none=>exact⟨λ_=>rfl,λ_=>rfl⟩
    | some d=>exact⟨λhh=>absurd hh (hv d (by simp)).2,λhh=>by cases hh⟩
   rw[List.findIdx?_cons,List.findIdx?_cons,hc,hcv,ih]
  ·cases h
theorem none_ix {vs:List (Option D)}(h:∀ d,some d∈vs->nb 63 d=true∧d ≠ .non):ZaY [.con .lst (vs.map oR),.non]=(vs.findIdx? Option.isNone).map λj=>(.z,.int (j:Nat)):=by
 have h63:∀ d∈vs.map oR,nb 63 d=true:=λd hd=>by
  obtain⟨y,hy,rfl⟩:=List.mem_map.mp hd
  cases y with
  | none=>rfl
  | some z=>exact (h z hy).1
 obtain⟨y,e2,h2,g2⟩:=nb_py 64 (.con .lst (vs.map oR)) (by rw[nb,List.all_eq_true];exact h63)
 obtain⟨s2,d2⟩:=shp _ _ h2
 have e2:(D.pys (vs.map oR)).map PyData.list=some y:=by simpa [D.py] using e2
 obtain⟨xs,q1,rfl⟩:=Option.map_eq_some_iff.mp e2
 have hs:SeqAt.shaped (.list xs)=true:=by simp[SeqAt.shaped,s2,d2]
 show (match D.pys (vs.map oR) with
  | some ys=>bif SeqAt.shaped (.list ys) then (ys.findIdx? λz=>PyData.eqv z .none).map λj=>((.z,.int (j:Nat)):Fr × D) else none
  | none=>none)=_
 rw[q1]
 show (bif SeqAt.shaped (.list xs) then _ else none)=_
 rw[hs,pys_ix h q1]<;>rfl
def vsV (rest:List (List Nat))(n:Int):List (Option D):=(rest.take n.toNat).map rowV
def VW (a:List Nat)(rest:List (List Nat)):Option D × Nat:=
 match UO a with
 | none=>(rowV a,if (rowV a).isSome then 1 else 0)
 | some n=>match (vsV rest n).findIdx? Option.isNone with
  | some j=>(none,1+j)
  | none=>if n.toNat<=rest.length then (some (.con .tup [.str (Str.ofString "many"),.con .tup ((vsV rest n).filterMap id)]),1+n.toNat) else (none,rest.length+1)
def dinR:Option D × Nat->Zd->Res
 | (some d,e),st=>.ok .z false (.con .tup [d,.int (e:Int)]) st
 | (none,i),st=>.exc 15 [.str (Str.ofString "badtext"),.int (i:Int)] st
def lpR (rows:List D)(n:Nat)(acc:List D)(i:Nat)(vs:List (Option D))(st:Zd)(r:ResS):Prop:=
 match vs.findIdx? Option.isNone with
 | none=>∃ w5,r=.nx (ED rows n (acc++vs.filterMap id) w5) st
 | some j=>∃ env,r=.exc 15 [.str (Str.ofString "badtext"),.int ((i+j:Nat):Int)] env st
theorem Zeb {rows:List D}{n:Nat}{st:Zd}:∀ (ps:List (List Nat)) (i:Nat) (acc:List D) (v5:Option (Fr × D)),(∀ p∈ps,Tok M6 p)->(∀ j,(h:j<ps.length)->rows[i+j]?=some (tx ps[j]))->acc.length+ps.length<=1000000 ->
  lpR rows n acc i (ps.map rowV) st (WK (.nm 5) ZT [] ((List.range ps.length).map λ(k:Nat)=>D.int ((i:Int)+(k:Int))) (ED rows n acc v5) st)
 | [],i,acc,v5,_,_,_=>⟨v5,by simp[WK]⟩
 | p :: ps,i,acc,v5,g,hr,hl=>by
  have hr0:=hr 0 (by simp)
  have b:=deed_bodyG (n:=n) (acc:=acc) (g p (by simp)) (i:=i) (st:=st) hr0 (by simp at hl;omega)
  have e1:((List.range (p :: ps).length).map λ(k:Nat)=>D.int ((i:Int)+(k:Int)))=.int (i:Int) :: ((List.range ps.length).map λ(k:Nat)=>D.int (((i+1:Nat):Int)+(k:Int))):=by
   rw[List.length_cons,List.range_succ_eq_map,List.map_cons,List.map_map]
   have a1:D.int ((i:Int)+((0:Nat):Int))=D.int (i:Int):=by simp
   have a2:((List.range ps.length).map ((λ(k:Nat)=>D.int ((i:Int)+(k:Int))) ∘ Nat.succ))=((List.range ps.length).map λ(k:Nat)=>D.int (((i+1:Nat):Int)+(k:Int))):=List.map_congr_left λa _=>by
    have:(i:Int)+((a+1:Nat):Int)=((i+1:Nat):Int)+(a:Int):=by omega
    exact congrArg D.int this
   rw[a1,a2]
  have e2:WK (.nm 5) ZT [] (.int (i:Int) :: ((List.range ps.length).map λ(k:Nat)=>D.int (((i+1:Nat):Int)+(k:Int)))) (ED rows n acc v5) st=(match ZT (ED rows n acc (some (.z,.int (i:Int)))) st with
   | .nx env2 st2=>WK (.nm 5) ZT [] ((List.range ps.length).map λ(k:Nat)=>D.int (((i+1:Nat):Int)+(k:Int))) (Uj [] env2) st2
   | .ct env2 st2=>WK (.nm 5) ZT [] ((List.range ps.length).map λ(k:Nat)=>D.int (((i+1:Nat):Int)+(k:Int))) (Uj [] env2) st2
   | .bk env2 st2=>.nx (Uj [] env2) st2
   | r=>r):=rfl
  rw[e1,e2,b]
  cases hv:rowV p with
  | none=>
   have hf:((p :: ps).map rowV).findIdx? Option.isNone=some 0:=by rw[List.map_cons,hv,List.findIdx?_cons]<;>rfl
   unfold lpR
   rw[hf]
   exact⟨_,rfl⟩
  | some d=>
   have ih:=Zeb (n:=n) (st:=st) ps (i+1) (acc ++ [d]) (some (.z,.int (i:Int))) (λx hx=>g x (by simp[hx])) (λj h=>by
    have:=hr (j+1) (by simp;omega)
    rw[show i+(j+1)=i+1+j by omega] at this
    simpa using this) (by simp at hl ⊢;omega)
   have hf:((p :: ps).map rowV).findIdx? Option.isNone=((ps.map rowV).findIdx? Option.isNone).map (· + 1):=by rw[List.map_cons,hv,List.findIdx?_cons];simp
   have hm:((p :: ps).map rowV).filterMap id=d :: (ps.map rowV).filterMap id:=by rw[List.map_cons,hv]<;>rfl
   have hk:Uj [] (ED rows n (acc ++ [d]) (some (.z,.int (i:Int))))=ED rows n (acc ++ [d]) (some (.z,.int (i:Int))):=rfl
   unfold lpR at ih ⊢
   rw[hf,hm]
   cases hc:(ps.map rowV).findIdx? Option.isNone with
   | none=>
    rw[hc] at ih
    obtain⟨w5,ih⟩:=ih
    refine⟨w5,?_⟩
    show WK (.nm 5) ZT [] _ (Uj [] (ED rows n (acc ++ [d]) (some (.z,.int (i:Int))))) st=_
    rw[hk,ih]
    simp
   | some j=>
    rw[hc] at ih
    obtain⟨env,ih⟩:=ih
    refine⟨env,?_⟩
    show WK (.nm 5) ZT [] _ (Uj [] (ED rows n (acc ++ [d]) (some (.z,.int (i:Int))))) st=_
    rw[hk,ih]
    rw[show i+1+j=i+(j+1) by omega]
theorem posO_ge {a:List Nat}{n:Int}(h:UO a=some n):0<=n:=by
 unfold UO at h
 split at h
 ·split at h
  ·obtain⟨i,_,h2⟩:=Option.bind_eq_some_iff.mp h
   split at h2
   ·cases h2
   ·cases h2;omega
  ·cases h
 ·cases h
theorem f_deed_in_g {a:List Nat}{rest:List (List Nat)}{st:Zd}(ha:Tok M6 a)(hr:∀ p∈rest,Tok M6 p)(hl:rest.length<=900000):
  WL [(.z,.con .lst (tx a :: rest.map tx)),(.z,.int 0)] st=dinR (VW a rest) st:=by
 have e1:=f_many_g ha (st:=st)
 have hlk:∀ s,lk s (tx a)=tx a:=λ_=>rfl
 have hix:oIx [.con .lst (tx a :: rest.map tx),.int 0]=some (.z,tx a):=by simp[atI,ixN]
 unfold VW
 cases hm:UO a with
 | none=>
  rw[hm] at e1
  have e1:Wx [(.z,tx a)] st=.ok .z false .non st:=e1
  have e2:=Zev ha (st:=st)
  cases hv:rowV a with
  | none=>
   rw[hv] at e2
   have e2:ZJ [(.z,tx a)] st=.ok .z false .non st:=e2
   show _=Res.exc 15 [.str (Str.ofString "badtext"),.int 0] st
   generalize tx a=X at *
   generalize rest.map tx=T at *
   simp[-oIx,WL,e1,e2,hlk,hix,UD]
  | some d=>
   rw[hv] at e2
   have e2:ZJ [(.z,tx a)] st=.ok .z false d st:=e2
   show _=Res.ok .z false (.con .tup [d,.int 1]) st
   obtain⟨ds,rfl⟩:=UW hv
   generalize tx a=X at *
   generalize rest.map tx=T at *
   simp[-oIx,WL,e1,e2,hlk,hix,lk]
 | some n=>
  have hn:=posO_ge hm
  obtain⟨k,rfl⟩:∃ k:Nat,n=(k:Int):=⟨n.toNat,by omega⟩
  rw[hm] at e1
  have e1:Wx [(.z,tx a)] st=.ok .z false (.int (k:Int)) st:=e1
  have htk:((k:Nat):Int).toNat=k:=by simp
  have lp:=Zeb (rows:=tx a :: rest.map tx) (n:=k) (st:=st) (rest.take k) 1 [] none (λp hp=>hr p (List.mem_of_mem_take hp)) (λj h=>by
   have h2:j<rest.length:=by rw[List.length_take] at h;omega
   rw[show 1+j=j+1 by omega,List.getElem?_cons_succ,List.getElem?_map,List.getElem?_eq_getElem h2,List.getElem_take];rfl) (by rw[List.length_take];simp;omega)
  have hlt:(rest.take k).length=min k rest.length:=List.length_take ..
  have hrg:Zt 1 (1+((min k rest.length:Nat):Int))=(List.range (rest.take k).length).map λ(j:Nat)=>D.int (((1:Nat):Int)+(j:Int)):=by
   unfold Zt
   rw[show (1+((min k rest.length:Nat):Int) - 1).toNat=min k rest.length by omega,hlt]<;>rfl
  rw[<- hrg] at lp
  have hT:(rest.map tx).length=rest.length:=List.length_map _
  have hT2:(rest.map tx).length+1<=16777216:=by omega
  have hlen:oLen [.con .lst (tx a :: rest.map tx)]=some (.z,.int ((rest.length:Int)+1)):=by simp[hT2]
  have hmin:UN [.int (1+(k:Int)),.int ((rest.length:Int)+1)]=some (.z,.int (1+((min k rest.length:Nat):Int))):=by
   show some (Fr.z,D.int (if (rest.length:Int)+1<1+(k:Int) then (rest.length:Int)+1 else 1+(k:Int)))=_
   split<;>(congr 3;omega)
  have hs1:Wq (1+((min k rest.length:Nat):Int))=true:=by unfold Wq;simp;omega
  have hs0:Wq 1=true:=by decide
  show _=dinR (match (vsV rest (k:Int)).findIdx? Option.isNone with
   | some j=>(none,1+j)
   | none=>if (k:Int).toNat<=rest.length then (some (.con .tup [.str (Str.ofString "many"),.con .tup ((vsV rest (k:Int)).filterMap id)]),1+(k:Int).toNat) else (none,rest.length+1)) st
  have hvs:vsV rest (k:Int)=(rest.take k).map rowV:=by unfold vsV;rw[htk]
  rw[hvs,htk]
  unfold lpR at lp
  have hvl:((rest.take k).map rowV).length=min k rest.length:=by rw[List.length_map,hlt]
  generalize hV:(rest.take k).map rowV=V at *
  cases hc:V.findIdx? Option.isNone with
  | some j=>
   rw[hc] at lp
   obtain⟨env,lp⟩:=lp
   have lp:WK (.nm 5) ZT [] (Zt 1 (1+((min k rest.length:Nat):Int))) [some (.z,.con .lst (tx a :: rest.map tx)),some (.z,.int 0),some (.z,.int (k:Int)),none,some (.c .z,.con .lst []),none] st=_:=lp
   show _=Res.exc 15 [.str (Str.ofString "badtext"),.int ((1+j:Nat):Int)] st
   generalize tx a=X at *
   generalize rest.map tx=T at *
   generalize ((1+j:Nat):Int)=J at *
   generalize (1+((min k rest.length:Nat):Int))=M at *
   generalize ((rest.length:Int)+1)=L at *
   simp[-oIx,-oLen,-UN,WL,dFor,dFrz,hix,e1,hlk,hlen,hmin,lp,hs1,hs0]
  | none=>
   rw[hc] at lp
   obtain⟨w5,lp⟩:=lp
   have hfl:(V.filterMap id).length=V.length:=by
    have:∀ l:List (Option D),l.findIdx? Option.isNone=none->(l.filterMap id).length=l.length:=λl=>by
     induction l with
     | nil=>intro _;rfl
     | cons v l ih=>
      intro h
      rw[List.findIdx?_cons] at h
      cases v with
      | none=>cases h
      | some d=>
       have h2:l.findIdx? Option.isNone=none:=by simpa using h
       have e:(some d :: l).filterMap id=d :: l.filterMap id:=rfl
       rw[e,List.length_cons,ih h2,List.length_cons]
    exact this V hc
   rw[List.nil_append] at lp
   have lp:WK (.nm 5) ZT [] (Zt 1 (1+((min k rest.length:Nat):Int))) [some (.z,.con .lst (tx a :: rest.map tx)),some (.z,.int 0),some (.z,.int (k:Int)),none,some (.c .z,.con .lst []),none] st=_:=lp
   generalize V.filterMap id=DD at *
   have hd2:DD.length<=16777216:=by omega
   by_cases ck:k<=rest.length
   ·rw[if_pos ck]
    show _=Res.ok .z false (.con .tup [.con .tup [.str (Str.ofString "many"),.con .tup DD],.int ((1+k:Nat):Int)]) st
    have hlD:oLen [.con .lst DD]=some (.z,.int (k:Int)):=by
     have:DD.length=k:=by omega
     simp[hd2,this]
    have hlt2:¬ ((k:Int)<(k:Int)):=by omega
    have hfin:((1+k:Nat):Int)=1+(k:Int):=by omega
    rw[hfin]
    generalize tx a=X at *
    generalize rest.map tx=T at *
    generalize (1+((min k rest.length:Nat):Int))=M at *
    generalize ((rest.length:Int)+1)=L at *
    simp[-oIx,-oLen,-UN,WL,dFor,dFrz,hix,e1,hlk,hlen,hlD,hmin,lp,hs1,hs0]
   ·rw[if_neg ck]
    show _=Res.exc 15 [.str (Str.ofString "badtext"),.int ((rest.length+1:Nat):Int)] st
    have hlD:oLen [.con .lst DD]=some (.z,.int (rest.length:Int)):=by
     have:DD.length=rest.length:=by omega
     simp[hd2,this]
    have hlt2:((rest.length:Int)<(k:Int)):=by omega
    have hfin:((rest.length+1:Nat):Int)=(rest.length:Int)+1:=by omega
    rw[hfin]
    generalize tx a=X at *
    generalize rest.map tx=T at *
    generalize (1+((min k rest.length:Nat):Int))=M at *
    generalize hL:(rest.length:Int)=L at *
    simp[-oIx,-oLen,-UN,WL,dFor,dFrz,UD,hix,e1,hlk,hlen,hlD,hmin,lp,hs1,hs0,hlt2]
theorem cutFT2 (xs:List D)(i j:Nat)(h:i<=xs.length):cutD xs (some (i:Int)) (some (j:Int))=(xs.drop i).take (j - i):=by
 unfold cutD
 rw[HT.sIx_nat,HT.sIx_nat,Nat.min_eq_left h,List.take_eq_take_iff,List.length_drop]
 omega
def mmV (a:List Nat):Option Int:=match wds a with
 | [w,q]=>if cs "many"=w then ZW q else none
 | _=>none
theorem manyV_mm (a:List Nat):UO a=posO (mmV a):=by
 unfold UO mmV
 generalize wds a=W
 match W with
 | []=>rfl
 | [w]=>rfl
 | [w,q]=>
  show (if cs "many"=w then posO (ZW q) else none)=posO (if cs "many"=w then ZW q else none)
  split<;>rfl
 | w :: q :: r :: t=>rfl
theorem eq_int (i j:Int):oEq [.int i,.int j]=some (.z,.bl (decide (i=j))):=by simp
abbrev EA (rows:List D)(ws:List (List Nat))(v3 v4 v5:Option (Fr × D)):Hx.Env:=[some (.z,.con .lst rows),some (.z,.int 0),some (.z,.con .lst (ws.map tx)),v3,v4,v5,none]
theorem l_many {rows:List D}{a:List Nat}{st:Zd}(ha:Tok M6 a):ZR (EA rows (wds a) none none none) st=.nx (EA rows (wds a) (some (.z,oI (mmV a))) none none) st:=by
 have hl:=VM a
 have hm:=ha.m
 obtain⟨w,r,e⟩:∃ w r,wds a=w :: r:=by
  cases e:wds a with
  | nil=>exact absurd e (Zbt a)
  | cons w r=>exact⟨w,r,rfl⟩
 rw[e,List.length_cons] at hl
 have hw:Tok M6 w:=Vc ha (by rw[e];simp)
 have q1:=Uy "many" hw (by decide)
 have lw:∀ s,lk s (tx w)=tx w:=λ_=>rfl
 unfold mmV EA
 rw[e,List.map_cons]
 by_cases c:cs "many"=w
 ·rw[decide_eq_true c] at q1
  match r,e with
  | [],e=>
   show _=ResS.nx [some (.z,.con .lst rows),some (.z,.int 0),some (.z,.con .lst [tx w]),some (.z,.non),none,none,none] st
   clear e c
   simp only[List.map_nil]
   generalize tx w=W at *
   simp[-oEq,q1,lw,eq_int]
  | [q],e=>
   have hq:Tok M6 q:=Vc ha (by rw[e];simp)
   have e2:=Zdd (st:=st) hq.m hq.ok
   have lq:∀ s,lk s (tx q)=tx q:=λ_=>rfl
   show _=ResS.nx [some (.z,.con .lst rows),some (.z,.int 0),some (.z,.con .lst [tx w,tx q]),some (.z,oI (if cs "many"=w then ZW q else none)),none,none,none] st
   rw[if_pos c]
   clear e c
   simp only[List.map_cons,List.map_nil]
   generalize oI (ZW q)=O at *
   generalize tx w=W at *
   generalize tx q=Q at *
   simp[-oEq,q1,e2,lw,lq,eq_int]
  | q1' :: q2 :: r2,e=>
   have hT:((q2 :: r2).map tx).length+1+1<=16777216:=by simp at hl ⊢;omega
   show _=ResS.nx [some (.z,.con .lst rows),some (.z,.int 0),some (.z,.con .lst (tx w :: tx q1' :: (q2 :: r2).map tx)),some (.z,.non),none,none,none] st
   have hne:¬ ((((q2 :: r2).map tx).length:Int)+1+1=2):=by simp;omega
   clear e c
   rw[List.map_cons] at hT hne ⊢
   generalize tx w=W at *
   generalize tx q1'=Q at *
   generalize hTT:(tx q2 :: r2.map tx)=T at *
   rw[List.map_cons,hTT]
   simp[-oEq,q1,lw,hT,hne,eq_int]
 ·rw[decide_eq_false c] at q1
  have:(match w :: r with
   | [w,q]=>if cs "many"=w then ZW q else none
   | _=>none)=none:=by
   split
   ·rename_i h
    cases h
    rw[if_neg c]
   ·rfl
  rw[this]
  show _=ResS.nx [some (.z,.con .lst rows),some (.z,.int 0),some (.z,.con .lst (tx w :: r.map tx)),some (.z,.non),none,none,none] st
  clear e this
  generalize tx w=W at *
  generalize r.map tx=T at *
  simp[-oEq,q1,lw]
theorem f_l_read_at_g {a:List Nat}{rest:List (List Nat)}{st:Zd}(ha:Tok M6 a)(hr:∀ p∈rest,Tok M6 p)(hl:rest.length<=900000):
  ZY [(.z,.con .lst (tx a :: rest.map tx)),(.z,.int 0)] st=.ok .z false (.con .tup [oR (VW a rest).1,.int ((VW a rest).2:Int)]) st:=by
 have e0:=Uc ha
 have e1:=l_many (rows:=tx a :: rest.map tx) (st:=st) ha
 have hlk:∀ s,lk s (tx a)=tx a:=λ_=>rfl
 have hix:oIx [.con .lst (tx a :: rest.map tx),.int 0]=some (.z,tx a):=by simp[atI,ixN]
 have hT:(rest.map tx).length=rest.length:=List.length_map _
 have hT2:(rest.map tx).length+1<=16777216:=by omega
 have hlen:oLen [.con .lst (tx a :: rest.map tx)]=some (.z,.int ((rest.length:Int)+1)):=by simp[hT2]
 have single:UO a=none->ZY [(.z,.con .lst (tx a :: rest.map tx)),(.z,.int 0)] st=.ok .z false (.con .tup [oR (rowV a),.int ((if (rowV a).isSome then 1 else 0:Nat):Int)]) st:=λhm=>by
  have e2:=l_row_g (st:=st) ha
  rw[manyV_mm] at hm
  have hq:oIsN [oI (mmV a),.non]=some (.z,.bl true)∨∃ i,mmV a=some i∧i<0:=by
   cases hh:mmV a with
   | none=>exact .inl rfl
   | some i=>
    rw[hh] at hm
    refine .inr ⟨i,rfl,?_⟩
    have hm:(if i<0 then none else some i)=(none:Option Int):=hm
    split at hm
    ·assumption
    ·cases hm
  have hI:oIsN [oR (rowV a),.non]=some (.z,.bl (rowV a).isNone):=oR_is
  have e0:Zq (SX.S a) [.str (Str.ofString " ")]=some (.c .z,.con .lst ((wds a).map tx)):=e0
  unfold EA at e1
  have hix:oIx [.con .lst (tx a :: rest.map tx),.int 0]=some (.z,.str (SX.S a)):=hix
  have hlk:∀ s,lk s (.str (SX.S a))=.str (SX.S a):=hlk
  have e2:ZF [(.z,.str (SX.S a))] st=.ok .z false (oR (rowV a)) st:=e2
  generalize hRR:tx a :: rest.map tx=RR at *
  generalize (wds a).map tx=WW at *
  have hor:∀ s,lk s (oR (rowV a))=oR (rowV a):=λs=>oR_lk s
  cases hv:rowV a with
  | none=>
   rw[hv] at e2
   have e2:ZF [(.z,.str (SX.S a))] st=.ok .z false .non st:=e2
   show _=Res.ok .z false (.con .tup [.non,.int 0]) st
   generalize SX.S a=A at *
   rcases hq with hq | ⟨i,hi,hi2⟩
   ·have hoi:=oI_lk (o:=mmV a)
    generalize oI (mmV a)=O at *
    simp[-oIx,-Zq,-oIsN,-ZR,ZY,e0,e1,e2,hix,hlk,hq,hoi]
   ·rw[hi] at e1
    have e1:ZR [some (.z,.con .lst RR),some (.z,.int 0),some (.z,.con .lst WW),none,none,none,none] st=.nx [some (.z,.con .lst RR),some (.z,.int 0),some (.z,.con .lst WW),some (.z,.int i),none,none,none] st:=e1
    simp[-oIx,-Zq,-ZR,ZY,e0,e1,e2,hix,hlk,hi2]
  | some d=>
   rw[hv] at e2
   obtain⟨ds,rfl⟩:=UW hv
   have e2:ZF [(.z,.str (SX.S a))] st=.ok .z false (.con .tup ds) st:=e2
   show _=Res.ok .z false (.con .tup [.con .tup ds,.int 1]) st
   have hlds:∀ s,lk s (.con .tup ds)=.con .tup ds:=λ_=>rfl
   generalize SX.S a=A at *
   rcases hq with hq | ⟨i,hi,hi2⟩
   ·have hoi:=oI_lk (o:=mmV a)
    generalize oI (mmV a)=O at *
    have hN:oNotN [.con .tup ds,.non]=some (.z,.bl true):=rfl
    simp[-oIx,-Zq,-oIsN,-oNotN,-ZR,ZY,e0,e1,e2,hix,hlk,hq,hoi,hlds,hN]
   ·rw[hi] at e1
    have e1:ZR [some (.z,.con .lst RR),some (.z,.int 0),some (.z,.con .lst WW),none,none,none,none] st=.nx [some (.z,.con .lst RR),some (.z,.int 0),some (.z,.con .lst WW),some (.z,.int i),none,none,none] st:=e1
    simp[-oIx,-Zq,-ZR,ZY,e0,e1,e2,hix,hlk,hi2,hlds]
 unfold VW
 cases hm:UO a with
 | none=>exact single hm
 | some n=>
  have hn:=posO_ge hm
  obtain⟨k,rfl⟩:∃ k:Nat,n=(k:Int):=⟨n.toNat,by omega⟩
  have hmm:mmV a=some (k:Int):=by
   rw[manyV_mm] at hm
   obtain⟨i,h1,h2⟩:=Option.bind_eq_some_iff.mp hm
   split at h2
   ·cases h2
   ·cases h2;exact h1
  rw[hmm] at e1
  have htk:((k:Nat):Int).toNat=k:=by simp
  have hlt:(rest.take k).length=min k rest.length:=List.length_take ..
  have hmin:UN [.int (k:Int),.int ((rest.length:Int)+1)]=some (.z,.int ((min k (rest.length+1):Nat):Int)):=by
   show some (Fr.z,D.int (if (rest.length:Int)+1<(k:Int) then (rest.length:Int)+1 else (k:Int)))=_
   split<;>(congr 3;omega)
  have hcut:cutD (tx a :: rest.map tx) (some 1) (some (1+((min k (rest.length+1):Nat):Int)))=(rest.take k).map tx:=by
   have:=cutFT2 (tx a :: rest.map tx) 1 (1+min k (rest.length+1)) (by simp)
   rw[show ((1+min k (rest.length+1):Nat):Int)=1+((min k (rest.length+1):Nat):Int) by omega,show ((1:Nat):Int)=1 from rfl] at this
   rw[this]
   show (rest.map tx).take _=_
   rw[<- List.map_take]
   congr 1
   rw[show 1+min k (rest.length+1) - 1=min k (rest.length+1) by omega,List.take_eq_take_iff]
   omega
  show _=Res.ok .z false (.con .tup [oR ((match (vsV rest (k:Int)).findIdx? Option.isNone with
   | some j=>(none,1+j)
   | none=>if (k:Int).toNat<=rest.length then (some (.con .tup [.str (Str.ofString "many"),.con .tup ((vsV rest (k:Int)).filterMap id)]),1+(k:Int).toNat) else (none,rest.length+1)):Option D × Nat).1,.int (((match (vsV rest (k:Int)).findIdx? Option.isNone with
   | some j=>(none,1+j)
   | none=>if (k:Int).toNat<=rest.length then (some (.con .tup [.str (Str.ofString "many"),.con .tup ((vsV rest (k:Int)).filterMap id)]),1+(k:Int).toNat) else (none,rest.length+1)):Option D × Nat).2:Int)]) st
  have hvs:vsV rest (k:Int)=(rest.take k).map rowV:=by unfold vsV;rw[htk]
  rw[hvs,htk]
  have hvl:((rest.take k).map rowV).length=min k rest.length:=by rw[List.length_map,hlt]
  have hvn:∀ d,some d∈(rest.take k).map rowV->nb 63 d=true∧d ≠ .non:=λd hd=>by
   obtain⟨p,hp,e⟩:=List.mem_map.mp hd
   have:=ZbD (hr p (List.mem_of_mem_take hp)) e
   exact⟨this.nb,this.ne⟩
  have i2:=none_in hvn
  have i3:=none_ix hvn
  have i1:=UE (p:=.nm 6) (env:=EA (tx a :: rest.map tx) (wds a) (some (.z,.int (k:Int))) none none) (st:=st) (el:=Zu ZF [] (Za (Ze 6))) tx (λp=>oR (rowV p)) (rest.take k) [] (λp hp=>⟨_,rfl,by
   have e:=l_row_g (st:=st) (hr p (List.mem_of_mem_take hp))
   generalize tx p=X at *
   generalize oR (rowV p)=Y at *
   simp[e]⟩)
  have hmm2:(rest.take k).map (λp=>oR (rowV p))=((rest.take k).map rowV).map oR:=by rw[List.map_map]<;>rfl
  rw[hmm2,List.nil_append] at i1
  have htl:((rest.take k).map tx).length<=16777215:=by rw[List.length_map,hlt];omega
  generalize hV:(rest.take k).map rowV=V at *
  have hany:V.any Option.isNone=(V.findIdx? Option.isNone).isSome:=by rw[List.findIdx?_isSome]
  rw[hany] at i2
  have e0:Zq (SX.S a) [.str (Str.ofString " ")]=some (.c .z,.con .lst ((wds a).map tx)):=e0
  unfold EA at e1 i1
  have hix:oIx [.con .lst (tx a :: rest.map tx),.int 0]=some (.z,.str (SX.S a)):=hix
  have hlk:∀ s,lk s (.str (SX.S a))=.str (SX.S a):=hlk
  have e1:ZR [some (.z,.con .lst (tx a :: rest.map tx)),some (.z,.int 0),some (.z,.con .lst ((wds a).map tx)),none,none,none,none] st=.nx [some (.z,.con .lst (tx a :: rest.map tx)),some (.z,.int 0),some (.z,.con .lst ((wds a).map tx)),some (.z,.int (k:Int)),none,none,none] st:=e1
  have hk0:¬ ((k:Int)<0):=by omega
  have hvL:(V.map oR).length=min k rest.length:=by rw[List.length_map,hvl]
  have hvL2:(V.map oR).length<=16777216:=by omega
  generalize hRR:tx a :: rest.map tx=RR at *
  generalize (wds a).map tx=WW at *
  generalize (rest.take k).map tx=TK at *
  generalize SX.S a=A at *
  cases hc:V.findIdx? Option.isNone with
  | some j=>
   rw[hc] at i2 i3
   have i2:oIn [.non,.con .lst (V.map oR)]=some (.z,.bl true):=i2
   have i3:ZaY [.con .lst (V.map oR),.non]=some (.z,.int (j:Int)):=i3
   show _=Res.ok .z false (.con .tup [.non,.int ((1+j:Nat):Int)]) st
   have hfin:((1+j:Nat):Int)=1+(j:Int):=by omega
   rw[hfin]
   generalize V.map oR=VV at *
   generalize ((min k (rest.length+1):Nat):Int)=M at *
   generalize ((rest.length:Int)+1)=L at *
   simp[-oIx,-Zq,-oLen,-UN,-oIn,-ZR,ZY,dSlB,dLc,dIdxN,isLst2,Zy,e0,e1,hix,hlk,hk0,hlen,hmin,hcut,i1,i2,i3,htl]
  | none=>
   rw[hc] at i2
   have i2:oIn [.non,.con .lst (V.map oR)]=some (.z,.bl false):=i2
   have hfl:V.map oR=V.filterMap id:=by
    have:∀ l:List (Option D),l.findIdx? Option.isNone=none->l.map oR=l.filterMap id:=λl=>by
     induction l with
     | nil=>intro _;rfl
     | cons v l ih=>
      intro h
      rw[List.findIdx?_cons] at h
      cases v with
      | none=>cases h
      | some d=>
       have h2:l.findIdx? Option.isNone=none:=by simpa using h
       have e:(some d :: l).filterMap id=d :: l.filterMap id:=rfl
       rw[e,List.map_cons,ih h2]<;>rfl
    exact this V hc
   rw[hfl] at i1 i2 hvL hvL2
   generalize V.filterMap id=VV at *
   by_cases ck:k<=rest.length
   ·rw[if_pos ck]
    show _=Res.ok .z false (.con .tup [.con .tup [.str (Str.ofString "many"),.con .tup VV],.int ((1+k:Nat):Int)]) st
    have hlD:oLen [.con .lst VV]=some (.z,.int (k:Int)):=by
     have:VV.length=k:=by omega
     simp[hvL2,this]
    have hfin:((1+k:Nat):Int)=1+(k:Int):=by omega
    rw[hfin]
    generalize ((min k (rest.length+1):Nat):Int)=M at *
    generalize ((rest.length:Int)+1)=L at *
    simp[-oIx,-Zq,-oLen,-UN,-oIn,-ZR,ZY,dSlB,dLc,Zy,e0,e1,hix,hlk,hk0,hlen,hlD,hmin,hcut,i1,i2,htl]
   ·rw[if_neg ck]
    show _=Res.ok .z false (.con .tup [.non,.int ((rest.length+1:Nat):Int)]) st
    have hlD:oLen [.con .lst VV]=some (.z,.int (rest.length:Int)):=by
     have:VV.length=rest.length:=by omega
     simp[hvL2,this]
    have hfin:((rest.length+1:Nat):Int)=(rest.length:Int)+1:=by omega
    have hne:¬ ((rest.length:Int)=(k:Int)):=by omega
    rw[hfin]
    generalize ((min k (rest.length+1):Nat):Int)=M at *
    generalize (rest.length:Int)=L at *
    simp[-oIx,-Zq,-oLen,-UN,-oIn,-ZR,ZY,dSlB,dLc,Zy,e0,e1,hix,hlk,hk0,hlen,hlD,hmin,hcut,i1,i2,htl,hne]
def rws (a:List Nat):List (List Nat):=TL.spl [10] 0 [] a
theorem rws_ne (a:List Nat):rws a ≠ []:=λe=>by
 have:=(ZaK [10] a 0 []).1
 rw[show TL.spl [10] 0 [] a=[] from e] at this
 simp at this
theorem ZbU (a:List Nat):(rws a).length<=a.length+1:=(ZaK [10] a 0 []).2
theorem VN {a w:List Nat}(h:Tok M6 a)(hw:w∈rws a):Tok M6 w:=h.spl hw
theorem ZbR {a:List Nat}(h:Tok M6 a):Zq (SX.S a) [.str (Str.ofString "\n")]=some (.c .z,.con .lst ((rws a).map tx)):=ZcU (sep:=[10]) (by simp) (by decide) rfl h.m
def finF (r0:List Nat)(rest:List (List Nat)):D ⊕ Nat:=match VW r0 rest with
 | (some d,e)=>if e<rest.length+1 then .inr e else .inl d
 | (none,i)=>.inr i
def VY (a:List Nat):D ⊕ Nat:=match rws a with
 | []=>.inr 0
 | r0 :: rest=>finF r0 rest
def finX:D ⊕ Nat->Zd->Res
 | .inl d,st=>.ok .z false d st
 | .inr i,st=>.exc 15 [.str (Str.ofString "badtext"),.int (i:Int)] st
def resD:D ⊕ Nat->D
 | .inl d=>.con .tup [.str (Str.ofString "told"),d]
 | .inr i=>.con .tup [.str (Str.ofString "badtext"),.int (i:Int)]
theorem readV_tup {a:List Nat}{rest:List (List Nat)}{d:D}(h:(VW a rest).1=some d):∃ ds,d=.con .tup ds:=by
 unfold VW at h
 split at h
 ·exact UW h
 ·split at h
  ·cases h
  ·split at h
   ·cases h;exact⟨_,rfl⟩
   ·cases h
theorem Zbi {a:List Nat}{st:Zd}(h:Tok M6 a):Wb [(.z,tx a)] st=finX (VY a) st:=by
 have e0:=ZbR h
 have hl:=ZbU a
 have hm:=h.ln
 have hM:M6=900000:=rfl
 rw[hM] at hm
 unfold VY
 cases e:rws a with
 | nil=>exact absurd e (rws_ne a)
 | cons r0 rest=>
  rw[e,List.map_cons] at e0
  rw[e,List.length_cons] at hl
  have e1:=f_deed_in_g (st:=st) (VN (w:=r0) h (by rw[e];simp)) (λp hp=>VN h (by rw[e];simp[hp])) (rest:=rest) (by omega)
  have hT:(rest.map tx).length=rest.length:=List.length_map _
  have hT2:(rest.map tx).length+1<=16777216:=by omega
  have hlen:oLen [.con .lst (tx r0 :: rest.map tx)]=some (.z,.int ((rest.length+1:Nat):Int)):=by simp[hT2]
  have ht:∀ d,(VW r0 rest).1=some d->∃ ds,d=.con .tup ds:=λd hd=>readV_tup hd
  show Wb [(.z,.str (SX.S a))] st=finX (finF r0 rest) st
  unfold finF
  generalize VW r0 rest=R at *
  generalize tx r0 :: rest.map tx=RR at *
  generalize SX.S a=A at *
  obtain⟨o,n⟩:=R
  cases o with
  | none=>
   have e1:WL [(.z,.con .lst RR),(.z,.int 0)] st=.exc 15 [.str (Str.ofString "badtext"),.int (n:Int)] st:=e1
   show _=Res.exc 15 [.str (Str.ofString "badtext"),.int (n:Int)] st
   simp[-Zq,Wb,dUnp,e0,e1]
  | some d=>
   have e1:WL [(.z,.con .lst RR),(.z,.int 0)] st=.ok .z false (.con .tup [d,.int (n:Int)]) st:=e1
   obtain⟨ds,rfl⟩:=ht d rfl
   have hld:∀ s,lk s (.con .tup ds)=.con .tup ds:=λ_=>rfl
   by_cases c:n<rest.length+1
   ·have c2:(n:Int)<((rest.length+1:Nat):Int):=by omega
    show _=finX (if n<rest.length+1 then .inr n else .inl (.con .tup ds)) st
    rw[if_pos c]
    show _=Res.exc 15 [.str (Str.ofString "badtext"),.int (n:Int)] st
    generalize ((rest.length+1:Nat):Int)=L at *
    simp[-Zq,-oLen,Wb,dUnp,ZX,ZS,e0,e1,hlen,c2,UD,hld]
   ·have c2:¬ (n:Int)<((rest.length+1:Nat):Int):=by omega
    show _=finX (if n<rest.length+1 then .inr n else .inl (.con .tup ds)) st
    rw[if_neg c]
    show _=Res.ok .z false (.con .tup ds) st
    generalize ((rest.length+1:Nat):Int)=L at *
    simp[-Zq,-oLen,Wb,dUnp,ZX,ZS,e0,e1,hlen,c2,hld]
theorem ZdI {a:List Nat}{st:Zd}(h:Tok M6 a):WJ [(.z,tx a)] st=.ok .z false (resD (VY a)) st:=by
 have e0:=ZbR h
 have hl:=ZbU a
 have hm:=h.ln
 have hM:M6=900000:=rfl
 rw[hM] at hm
 unfold VY
 cases e:rws a with
 | nil=>exact absurd e (rws_ne a)
 | cons r0 rest=>
  rw[e,List.map_cons] at e0
  rw[e,List.length_cons] at hl
  have e1:=f_l_read_at_g (st:=st) (VN (w:=r0) h (by rw[e];simp)) (λp hp=>VN h (by rw[e];simp[hp])) (rest:=rest) (by omega)
  have hT:(rest.map tx).length=rest.length:=List.length_map _
  have hT2:(rest.map tx).length+1<=16777216:=by omega
  have hlen:oLen [.con .lst (tx r0 :: rest.map tx)]=some (.z,.int ((rest.length+1:Nat):Int)):=by simp[hT2]
  have ht:∀ d,(VW r0 rest).1=some d->∃ ds,d=.con .tup ds:=λd hd=>readV_tup hd
  show WJ [(.z,.str (SX.S a))] st=.ok .z false (resD (finF r0 rest)) st
  unfold finF
  generalize VW r0 rest=R at *
  generalize tx r0 :: rest.map tx=RR at *
  generalize SX.S a=A at *
  obtain⟨o,n⟩:=R
  cases o with
  | none=>
   have e1:ZY [(.z,.con .lst RR),(.z,.int 0)] st=.ok .z false (.con .tup [.non,.int (n:Int)]) st:=e1
   show _=Res.ok .z false (.con .tup [.str (Str.ofString "badtext"),.int (n:Int)]) st
   simp[-Zq,-oLen,WJ,dUnp,ZX,ZS,e0,e1,hlen]
  | some d=>
   have e1:ZY [(.z,.con .lst RR),(.z,.int 0)] st=.ok .z false (.con .tup [d,.int (n:Int)]) st:=e1
   obtain⟨ds,rfl⟩:=ht d rfl
   have hld:∀ s,lk s (.con .tup ds)=.con .tup ds:=λ_=>rfl
   by_cases c:n<rest.length+1
   ·have c2:(n:Int)<((rest.length+1:Nat):Int):=by omega
    show _=Res.ok .z false (resD (if n<rest.length+1 then .inr n else .inl (.con .tup ds))) st
    rw[if_pos c]
    show _=Res.ok .z false (.con .tup [.str (Str.ofString "badtext"),.int (n:Int)]) st
    generalize ((rest.length+1:Nat):Int)=L at *
    simp[-Zq,-oLen,WJ,dUnp,ZX,ZS,e0,e1,hlen,c2,hld]
   ·have c2:¬ (n:Int)<((rest.length+1:Nat):Int):=by omega
    show _=Res.ok .z false (resD (if n<rest.length+1 then .inr n else .inl (.con .tup ds))) st
    rw[if_neg c]
    show _=Res.ok .z false (.con .tup [.str (Str.ofString "told"),.con .tup ds]) st
    generalize ((rest.length+1:Nat):Int)=L at *
    simp[-Zq,-oLen,WJ,dUnp,ZX,ZS,e0,e1,hlen,c2,hld]
theorem tried_g {db:Den}{cd:List D}{r:D ⊕ Nat}{st:Zd}(h:db (cd.map λd=>some (.z,d)) st=finX r st):∀ f:Addr,Vw (oneL f 0 (UM db cd)) [(.z,.fnv f 0)] st=.ok .z false (resD r) st:=λf=>by
 cases r with
 | inl d=>
  have h:db (cd.map λd=>some (.z,d)) st=.ok .z false d st:=h
  show _=Res.ok .z false (.con .tup [.str (Str.ofString "told"),d]) st
  simp[Vw,UM,dTry,h,oneL,dClo]
 | inr i=>
  have h:db (cd.map λd=>some (.z,d)) st=.exc 15 [.str (Str.ofString "badtext"),.int (i:Int)] st:=h
  show _=Res.ok .z false (.con .tup [.str (Str.ofString "badtext"),.int (i:Int)]) st
  simp[Vw,UM,dTry,h,oneL,dClo,List.lookup_cons]
theorem readV_pln {a:List Nat}{rest:List (List Nat)}{d:D}{n:Nat}(ha:Tok M6 a)(hr:∀ p∈rest,Tok M6 p)(hl:rest.length<=900000)(h:(VW a rest).1=some d):PlnM (n+6) d:=by
 have hM:M6=900000:=rfl
 unfold VW at h
 split at h
 ·have:=ha.ln
  exact (ZbD ha h).pln (m:=n+2) (by omega)
 ·split at h
  ·cases h
  ·split at h
   ·cases h
    refine⟨by simp,λx hx=>?_⟩
    rcases List.mem_cons.mp hx with rfl | hx
    ·exact ZM (a:=cs "many") (by decide)
    ·rw[List.mem_singleton.mp hx]
     refine⟨?_,λy hy=>?_⟩
     ·have h1:=List.length_filterMap_le id (vsV rest (by assumption))
      have h2:(vsV rest (by assumption)).length<=rest.length:=by unfold vsV;rw[List.length_map,List.length_take];omega
      omega
     ·obtain⟨o,ho,e⟩:=List.mem_filterMap.mp hy
      cases o with
      | none=>cases e
      | some z=>
       cases e
       obtain⟨p,hp,e⟩:=List.mem_map.mp ho
       have hp:=hr p (List.mem_of_mem_take hp)
       have:=hp.ln
       exact (ZbD hp e).pln (m:=n) (by omega)
   ·cases h
theorem readF_pln {a:List Nat}(h:Tok M6 a):PlnM 8 (resD (VY a)):=by
 have hl:=ZbU a
 have hm:=h.ln
 have hM:M6=900000:=rfl
 rw[hM] at hm
 have bad:∀ i:Nat,PlnM 8 (resD (.inr i)):=λi=>by
  refine⟨by simp,λx hx=>?_⟩
  rcases List.mem_cons.mp hx with rfl | hx
  ·exact ZM (a:=cs "badtext") (by decide)
  ·rw[List.mem_singleton.mp hx];trivial
 unfold VY
 cases e:rws a with
 | nil=>exact bad 0
 | cons r0 rest=>
  rw[e,List.length_cons] at hl
  have k:=λd=>readV_pln (n:=1) (d:=d) (VN (w:=r0) h (by rw[e];simp)) (λp hp=>VN h (by rw[e];simp[hp])) (rest:=rest) (by omega)
  show PlnM 8 (resD (finF r0 rest))
  unfold finF
  generalize VW r0 rest=R at *
  obtain⟨o,n⟩:=R
  cases o with
  | none=>exact bad n
  | some d=>
   show PlnM 8 (resD (if n<rest.length+1 then .inr n else .inl d))
   split
   ·exact bad n
   ·refine⟨by simp,λx hx=>?_⟩
    rcases List.mem_cons.mp hx with rfl | hx
    ·exact ZM (a:=cs "told") (by decide)
    ·rw[List.mem_singleton.mp hx]
     exact k d rfl
theorem same_g {a:List Nat}{st:Zd}(h:Tok M6 a):WH 8 [(.z,resD (VY a)),(.z,resD (VY a))] st=.ok .z false (.bl true) st:=Zei 8 _ st (readF_pln h)
theorem read_empty:VY []=.inr 0:=by rfl
def tot (ps:List (List Nat)):Nat:=(ps.map List.length).sum+ps.length
theorem Wr (p:List Nat)(ps:List (List Nat)):tot (p :: ps)=p.length+1+tot ps:=by unfold tot;rw[List.map_cons,List.sum_cons,List.length_cons];omega
theorem Vu (ps qs:List (List Nat)):tot (ps++qs)=tot ps+tot qs:=by unfold tot;rw[List.map_append,List.sum_append,List.length_append];omega
theorem tot_cut (ps:List (List Nat))(j:Nat):tot (ps.take j)+tot (ps.drop j)=tot ps:=by rw[<- Vu,List.take_append_drop]
theorem tot_drop (ps:List (List Nat))(j:Nat):tot (ps.drop (j+1))<=tot (ps.drop j):=by
 have:=tot_cut (ps.drop j) 1
 rw[List.drop_drop] at this
 omega
theorem tot_mem {ps:List (List Nat)}{p:List Nat}(h:p∈ps):p.length+1<=tot ps:=by
 induction ps with
 | nil=>cases h
 | cons q ps ih=>
  rw[Wr]
  rcases List.mem_cons.mp h with rfl | h
  ·omega
  ·have:=ih h;omega
theorem tot_set (ps:List (List Nat))(j:Nat)(x:List Nat):tot (ps.set j x)<=tot ps+x.length+1:=by
 induction ps generalizing j with
 | nil=>simp[tot]
 | cons q ps ih=>
  cases j with
  | zero=>rw[List.set_cons_zero,Wr,Wr];omega
  | succ j=>
   rw[List.set_cons_succ,Wr,Wr]
   have:=ih j
   omega
theorem ZbV {c:Nat}:∀ (l acc:List Nat),tot (TL.spl [c] 0 acc l)=acc.length+l.length+1
 | [],acc=>by rw[TL.spl_nil];simp[tot]
 | x :: r,acc=>by
  by_cases h:TL.pre [c] (x :: r)=true
  ·rw[TL.spl_hit h,Wr]
   have:=ZbV (c:=c) r []
   show acc.length+1+tot (TL.spl [c] 0 [] r)=_
   rw[this];simp;omega
  ·have h:TL.pre [c] (x :: r)=false:=by simpa using h
   rw[TL.spl_miss h,ZbV r (acc ++ [x])]
   simp;omega
theorem Vv {c:Nat}:∀ (ps:List (List Nat)),(TL.joinL [c] ps).length<=tot ps
 | []=>by simp[TL.joinL]
 | [p]=>by rw[Wr];simp[TL.joinL,tot]
 | p :: q :: r=>by
  have ih:=Vv (c:=c) (q :: r)
  rw[TL.joinL,List.length_append,List.length_append,Wr]
  simp;omega
theorem US {c:Nat}{ps:List (List Nat)}{k:Kd}(hk:k.seq=true)(hl:tot ps<=1000000):Wn (SX.S [c]) [.con k (ps.map tx)]=some (.z,tx (TL.joinL [c] ps)):=by
 have e:=SX.join_S [c] ps
 have e2:=SX.lens ps
 have h2:(((ps.map SX.S).map (·.length)).sum+(ps.map SX.S).length * (SX.S [c]).length).ble 16777216=true:=Nat.ble_eq_true_of_le (by
  rw[e2,List.length_map,SX.S_len]
  unfold tot at hl
  have:(List.map (λx:List Nat=>x.length) ps).sum=(ps.map List.length).sum:=rfl
  show _+_ * 1<=_
  omega)
 show (bif k.seq then (strsOf (ps.map tx)).bind λys=>bif ((ys.map (·.length)).sum+ys.length * (SX.S [c]).length).ble 16777216 then some (D.str (Txt.join (SX.S [c]) ys)) else none else none).map (λd=>(Fr.z,d))=_
 rw[hk,ZcW]
 show (bif (((ps.map SX.S).map (·.length)).sum+(ps.map SX.S).length * (SX.S [c]).length).ble 16777216 then some (D.str (Txt.join (SX.S [c]) (ps.map SX.S))) else none).map (λd=>(Fr.z,d))=_
 rw[h2,e]<;>rfl
theorem ZcJ {x y:List Nat}(h:x.length+y.length<=1000000):oAdd [tx x,tx y]=some (.z,tx (x++y)):=by
 have e:=SX.S_cat x y
 have h2:(SX.S x).length+(SX.S y).length<=16777216:=by
  have h1:(SX.S x).length=x.length:=SX.S_len _
  have h3:(SX.S y).length=y.length:=SX.S_len _
  omega
 show oAdd [.str (SX.S x),.str (SX.S y)]=some (.z,.str (SX.S (x++y)))
 rw[<- e]
 generalize SX.S x=X at *
 generalize SX.S y=Y at *
 simp[h2]
theorem Zbs {x y:List D}(h:x.length+y.length<=16777216):oAdd [.con .lst x,.con .lst y]=some (.c .z,.con .lst (x++y)):=by simp[h]
theorem cutH (xs:List D)(j:Nat):cutD xs none (some (j:Int))=xs.take j:=by
 unfold cutD
 rw[HT.sIx_nat,HT.sIx_none,List.drop_zero,List.take_eq_take_iff]
 omega
theorem cutL (xs:List D)(j:Nat):cutD xs (some (j:Int)) none=xs.drop j:=by
 unfold cutD
 rw[HT.sIx_nat,HT.sIx_none]
 by_cases c:j<=xs.length
 ·rw[Nat.min_eq_left c,List.take_of_length_le (by rw[List.length_drop];exact Nat.le_refl _)]
 ·rw[Nat.min_eq_right (by omega),List.drop_length,List.drop_eq_nil_of_le (by omega)];simp
theorem slH_ls {ps:List (List Nat)}{j:Nat}(hl:ps.length<=1000000):Um [.con .lst (ps.map tx),.int (j:Int)]=some (.c .z,.con .lst ((ps.take j).map tx)):=by
 have h:=cutH (ps.map tx) j
 rw[<- List.map_take] at h
 have hm:(ps.map tx).length<=16777216:=by rw[List.length_map];omega
 unfold Um orOp
 generalize ps.map tx=T at *
 simp[h,hm]
theorem slL_ls {ps:List (List Nat)}{j:Nat}(hl:ps.length<=1000000):Vp [.con .lst (ps.map tx),.int (j:Int)]=some (.c .z,.con .lst ((ps.drop j).map tx)):=by
 have h:=cutL (ps.map tx) j
 rw[<- List.map_drop] at h
 have hm:(ps.map tx).length<=16777216:=by rw[List.length_map];omega
 unfold Vp orOp
 generalize ps.map tx=T at *
 simp[h,hm]
theorem ix_ls {ps:List (List Nat)}{j:Nat}(h:j<ps.length):oIx [.con .lst (ps.map tx),.int (j:Int)]=some (.z,tx ps[j]):=by
 have h1:(ps.map tx)[j]?=some (tx ps[j]):=by rw[List.getElem?_map,List.getElem?_eq_getElem h]<;>rfl
 have:atI (ps.map tx) (j:Int)=some (tx ps[j]):=atI_nat h1
 simp[this]
theorem sign10 {g:Int}(h0:0<=g)(h1:g<10):∃ s,oIx [.str (Str.ofString " 0-179/x\n."),.int g]=some (.z,tx [s])∧s<0x110000:=by
 have:g=0∨g=1∨g=2∨g=3∨g=4∨g=5∨g=6∨g=7∨g=8∨g=9:=by omega
 rcases this with rfl | rfl | rfl | rfl | rfl | rfl | rfl | rfl | rfl | rfl
 ·exact⟨32,rfl,by decide⟩
 ·exact⟨48,rfl,by decide⟩
 ·exact⟨45,rfl,by decide⟩
 ·exact⟨49,rfl,by decide⟩
 ·exact⟨55,rfl,by decide⟩
 ·exact⟨57,rfl,by decide⟩
 ·exact⟨47,rfl,by decide⟩
 ·exact⟨120,rfl,by decide⟩
 ·exact⟨10,rfl,by decide⟩
 ·exact⟨46,rfl,by decide⟩
abbrev oddL:List D:=[.str (Str.ofString ""),.str (Str.ofString "0"),.str (Str.ofString "00"),.str (Str.ofString "-0"),.str (Str.ofString "07"),.str (Str.ofString "1234567890"),.str (Str.ofString "-"),.str (Str.ofString "/"),.str (Str.ofString "many"),.str (Str.ofString "lamp"),.str (Str.ofString "9"),.str (Str.ofString "rg"),.str (Str.ofString "many 1"),.str (Str.ofString "unsure")]
theorem odd_mem {d:D}(h:d∈oddL):∃ x,d=tx x∧okC x=true∧x.length<=10:=by
 simp only[List.mem_cons,List.not_mem_nil,or_false] at h
 rcases h with rfl | rfl | rfl | rfl | rfl | rfl | rfl | rfl | rfl | rfl | rfl | rfl | rfl | rfl
 all_goals exact⟨cs _,(cs_d _).symm,by decide,by decide⟩
theorem Tok.mono {n m:Nat}{a:List Nat}(h:Tok n a)(hm:n<=m):Tok m a:=⟨h.ok,Nat.le_trans h.ln hm⟩
theorem okC_take {a:List Nat}(h:okC a=true)(j:Nat):okC (a.take j)=true:=VI h λc hc=>List.mem_of_mem_take hc
theorem okC_drop {a:List Nat}(h:okC a=true)(j:Nat):okC (a.drop j)=true:=VI h λc hc=>List.mem_of_mem_drop hc
abbrev ES (c:Nat)(A:D)(v2 v3 v4 v5 v6 v7 v8 v9:Option (Fr × D)):Hx.Env:=[some (.z,.ref c),some (.z,A),v2,v3,v4,v5,v6,v7,v8,v9]
section
variable {st:Zd}{k c:Nat}
theorem sp_way {a:List Nat}{L:Nat}{s:Nat}{j:Nat}{w:Int}(h:Tok L a)(hL:L<=100000)(hs:s<0x110000)(hj:j<=a.length)(hw0:0<=w)(hw:w<3):
  ∃ b,Wh (ES c (tx a) (some (.z,.int (j:Int))) (some (.z,tx [s])) (some (.z,.int w)) none none none none none) st=.rt .z (tx b) st∧Tok (2 * L+40) b:=by
 have hm:a.length<=1000000:=by have:=h.ln;omega
 have s1:=slH_tx (k:=j) hm
 have s2:=slL_tx (k:=j) hm
 have s3:=slL_tx (k:=j+1) hm
 rw[show ((j+1:Nat):Int)=(j:Int)+1 by omega] at s3
 have lt:(a.take j).length<=a.length:=by rw[List.length_take];omega
 have ld:(a.drop j).length<=a.length:=by rw[List.length_drop];omega
 have ld1:(a.drop (j+1)).length<=a.length:=by rw[List.length_drop];omega
 have hla:=h.ln
 have m1:oMul4 [tx [s],.int 1]=some (.z,tx [s]):=rfl
 have m0:oMul4 [tx [s],.int 0]=some (.z,tx []):=rfl
 have a1:=ZcJ (x:=a.take j) (y:=[s]) (by simp;omega)
 have a2:=ZcJ (x:=a.take j ++ [s]) (y:=a.drop j) (by simp;omega)
 have a3:=ZcJ (x:=a.take j) (y:=[]) (by simp;omega)
 have a4:=ZcJ (x:=a.take j ++ []) (y:=a.drop (j+1)) (by simp;omega)
 have a5:=ZcJ (x:=a.take j ++ [s]) (y:=a.drop (j+1)) (by simp;omega)
 have lks:∀ st (x:List Nat),lk st (tx x)=tx x:=λ_ _=>rfl
 have hok:okC [s]=true:=by simpa [okC] using hs
 have:w=0∨w=1∨w=2:=by omega
 rcases this with rfl | rfl | rfl
 ·refine⟨a.take j ++ [s]++a.drop j,?_,⟨by rw[Vz,Vz,okC_take h.ok,okC_drop h.ok,hok];rfl,by simp;omega⟩⟩
  have l1:=λst=>lks st a
  have l2:=λst=>lks st [s]
  have l3:=λst=>lks st (a.take j)
  have l4:=λst=>lks st (a.take j ++ [s])
  have l5:=λst=>lks st (a.drop j)
  generalize tx (a.take j ++ [s]++a.drop j)=R at *
  generalize tx (a.take j ++ [s])=R1 at *
  generalize tx (a.take j)=R2 at *
  generalize tx (a.drop j)=R3 at *
  generalize tx [s]=S at *
  generalize tx a=A at *
  simp[-oAdd,ES,s1,s2,m1,a1,a2,l1,l2,l3,l4,l5,add_int]
 ·refine⟨a.take j ++ []++a.drop (j+1),?_,⟨by rw[Vz,Vz,okC_take h.ok,okC_drop h.ok];rfl,by simp;omega⟩⟩
  have l1:=λst=>lks st a
  have l2:=λst=>lks st [s]
  have l3:=λst=>lks st (a.take j)
  have l4:=λst=>lks st (a.take j ++ [])
  have l5:=λst=>lks st (a.drop (j+1))
  have l6:=λst=>lks st []
  generalize tx (a.take j ++ []++a.drop (j+1))=R at *
  generalize tx (a.take j ++ [])=R1 at *
  generalize tx (a.take j)=R2 at *
  generalize tx (a.drop (j+1))=R3 at *
  generalize tx [s]=S at *
  generalize tx []=N at *
  generalize tx a=A at *
  simp[-oAdd,ES,s1,s3,m0,a3,a4,l1,l2,l3,l4,l5,l6,add_int]
 ·refine⟨a.take j ++ [s]++a.drop (j+1),?_,⟨by rw[Vz,Vz,okC_take h.ok,okC_drop h.ok,hok];rfl,by simp;omega⟩⟩
  have l1:=λst=>lks st a
  have l2:=λst=>lks st [s]
  have l3:=λst=>lks st (a.take j)
  have l4:=λst=>lks st (a.take j ++ [s])
  have l5:=λst=>lks st (a.drop (j+1))
  generalize tx (a.take j ++ [s]++a.drop (j+1))=R at *
  generalize tx (a.take j ++ [s])=R1 at *
  generalize tx (a.take j)=R2 at *
  generalize tx (a.drop (j+1))=R3 at *
  generalize tx [s]=S at *
  generalize tx a=A at *
  simp[-oAdd,ES,s1,s3,m1,a1,a5,l1,l2,l3,l4,l5,add_int]
theorem Vy {c:Nat}(hc:c<256){l:List (List Nat)}(h:∀ p∈l,okC p=true):okC (TL.joinL [c] l)=true:=UG (by simp[okC];omega) h
theorem sp_row {a:List Nat}{L:Nat}{v2 v3:Option (Fr × D)}{w:Int}(h:Tok L a)(hL:L<=100000)(hw:w=3∨w=4)(B:Bag k st c)(hk:k+10<2 ^ 100):
  ∃ b st',Wh (ES c (tx a) v2 v3 (some (.z,.int w)) none none none none none) st=.rt .z (tx b) st' ∧ Tok (2 * L+40) b∧Bag (k+1) st' c:=by
 have hln:=h.ln
 have hM:M6=900000:=rfl
 have hT:Tok M6 a:=h.mono (by omega)
 have e1:=ZbR hT
 have ht:tot (rws a)=a.length+1:=by have:=ZbV (c:=10) a [];rw[List.length_nil,Nat.zero_add] at this;exact this
 have hne:=rws_ne a
 have hrl:=ZbU a
 have hok:∀ p∈rws a,okC p=true:=λp hp=>(VN hT hp).ok
 have hc:=B.lt
 have B1:=B.app (x:=(.c .z,.con .lst ((rws a).map tx)))
 have hpos:0<(rws a).length:=List.length_pos_iff.mpr hne
 obtain⟨g,s5,e2,g0,g1,_,B2,f2⟩:=pull (n:=30) ((rws a).length:Int) B1 (by omega) (by omega) (by simp;omega) (by decide)
 obtain⟨j,rfl⟩:∃ j:Nat,g=(j:Int):=⟨g.toNat,by omega⟩
 have hj:j<(rws a).length:=by omega
 have hs5:s5[st.length]?=some (.c .z,.con .lst ((rws a).map tx)):=by
  rw[f2.at_ _ (by omega),List.getElem?_append_right (Nat.le_refl _)];simp
 have hsa:(st ++ [(Fr.c .z,D.con .lst ((rws a).map tx))])[st.length]?=some (.c .z,.con .lst ((rws a).map tx)):=by
  rw[List.getElem?_append_right (Nat.le_refl _)];simp
 have lka:lk (st ++ [(Fr.c .z,D.con .lst ((rws a).map tx))]) (.ref st.length)=.con .lst ((rws a).map tx):=by simp[lk,hsa,Fr.flat]
 have lk5:lk s5 (.ref st.length)=.con .lst ((rws a).map tx):=by simp[lk,hs5,Fr.flat]
 have hlen:oLen [.con .lst ((rws a).map tx)]=some (.z,.int ((rws a).length:Int)):=by
  have:((rws a).map tx).length<=16777216:=by rw[List.length_map];omega
  have h2:((rws a).map tx).length=(rws a).length:=List.length_map _
  simp[h2]
 have c1:=slH_ls (ps:=rws a) (j:=j) (by omega)
 have c2:=slL_ls (ps:=rws a) (j:=j) (by omega)
 have c3:=slL_ls (ps:=rws a) (j:=j+1) (by omega)
 rw[show ((j+1:Nat):Int)=(j:Int)+1 by omega] at c3
 have c4:=ix_ls hj
 have tc:=tot_cut (rws a) j
 have td:=tot_drop (rws a) j
 have tm:=tot_mem (List.getElem_mem hj)
 have lks:∀ st (x:List Nat),lk st (tx x)=tx x:=λ_ _=>rfl
 have lll:∀ st (x:List D),lk st (.con .lst x)=.con .lst x:=λ_ _=>rfl
 have e1:Zq (SX.S a) [.str (Str.ofString "\n")]=some (.c .z,.con .lst ((rws a).map tx)):=e1
 have htl:∀ i,((rws a).take i).length<=(rws a).length:=λi=>by rw[List.length_take];omega
 have hdl:∀ i,((rws a).drop i).length<=(rws a).length:=λi=>by rw[List.length_drop];omega
 rcases hw with rfl | rfl
 ·refine⟨TL.joinL [10] ((rws a).take j++(rws a).drop (j+1)),s5,?_,⟨Vy (by decide) λp hp=>?_,?_⟩,B2⟩
  ·have ad:=Zbs (x:=((rws a).take j).map tx) (y:=((rws a).drop (j+1)).map tx) (by have:=htl j;have:=hdl (j+1);rw[List.length_map,List.length_map];omega)
   rw[<- List.map_append] at ad
   have jo:=US (c:=10) (ps:=(rws a).take j++(rws a).drop (j+1)) (k:=.lst) rfl (by rw[Vu];omega)
   have jo:Wn (Str.ofString "\n") [.con .lst (((rws a).take j++(rws a).drop (j+1)).map tx)]=some (.z,tx (TL.joinL [10] ((rws a).take j++(rws a).drop (j+1)))):=jo
   show Wh [some (.z,.ref c),some (.z,.str (SX.S a)),v2,v3,some (.z,.int 3),none,none,none,none,none] st=_
   generalize tx (TL.joinL [10] ((rws a).take j++(rws a).drop (j+1)))=R at *
   generalize ((rws a).take j++(rws a).drop (j+1)).map tx=R1 at *
   generalize ((rws a).take j).map tx=R2 at *
   generalize ((rws a).drop (j+1)).map tx=R3 at *
   generalize (rws a).map tx=RR at *
   generalize ((rws a).length:Int)=N at *
   generalize SX.S a=A at *
   simp[-oAdd,-Zq,-oLen,-oIx,-Wn,e1,hlen,e2,lka,lk5,c1,c3,ad,jo,add_int]
  ·rcases List.mem_append.mp hp with hp | hp
   ·exact hok p (List.mem_of_mem_take hp)
   ·exact hok p (List.mem_of_mem_drop hp)
  ·have:=Vv (c:=10) ((rws a).take j++(rws a).drop (j+1))
   rw[Vu] at this
   omega
 ·refine⟨TL.joinL [10] ((rws a).take j ++ [(rws a)[j]]++(rws a).drop j),s5,?_,⟨Vy (by decide) λp hp=>?_,?_⟩,B2⟩
  ·have ad:=Zbs (x:=((rws a).take j).map tx) (y:=[tx (rws a)[j]]) (by have:=htl j;rw[List.length_map];simp;omega)
   rw[show ((rws a).take j).map tx ++ [tx (rws a)[j]]=((rws a).take j ++ [(rws a)[j]]).map tx from by rw[List.map_append];rfl] at ad
   have ad2:=Zbs (x:=((rws a).take j ++ [(rws a)[j]]).map tx) (y:=((rws a).drop j).map tx) (by have:=htl j;have:=hdl j;rw[List.length_map,List.length_map,List.length_append];simp;omega)
   rw[<- List.map_append] at ad2
   have htt:tot ((rws a).take j ++ [(rws a)[j]]++(rws a).drop j)<=2 * tot (rws a):=by
    rw[Vu,Vu,Wr,show tot []=0 from rfl];omega
   have jo:=US (c:=10) (ps:=(rws a).take j ++ [(rws a)[j]]++(rws a).drop j) (k:=.lst) rfl (by omega)
   have jo:Wn (Str.ofString "\n") [.con .lst (((rws a).take j ++ [(rws a)[j]]++(rws a).drop j).map tx)]=some (.z,tx (TL.joinL [10] ((rws a).take j ++ [(rws a)[j]]++(rws a).drop j))):=jo
   have lr:=λst=>lks st (rws a)[j]
   show Wh [some (.z,.ref c),some (.z,.str (SX.S a)),v2,v3,some (.z,.int 4),none,none,none,none,none] st=_
   generalize tx (TL.joinL [10] ((rws a).take j ++ [(rws a)[j]]++(rws a).drop j))=R at *
   generalize ((rws a).take j ++ [(rws a)[j]]++(rws a).drop j).map tx=R1 at *
   generalize ((rws a).take j ++ [(rws a)[j]]).map tx=R4 at *
   generalize ((rws a).take j).map tx=R2 at *
   generalize ((rws a).drop j).map tx=R3 at *
   generalize tx (rws a)[j]=R5 at *
   generalize (rws a).map tx=RR at *
   generalize ((rws a).length:Int)=N at *
   generalize SX.S a=A at *
   simp[-oAdd,-Zq,-oLen,-oIx,-Wn,e1,hlen,e2,lka,lk5,c1,c2,c4,ad,ad2,jo,lr]
  ·rcases List.mem_append.mp hp with hp | hp
   ·rcases List.mem_append.mp hp with hp | hp
    ·exact hok p (List.mem_of_mem_take hp)
    ·rw[List.mem_singleton.mp hp];exact hok _ (List.getElem_mem hj)
   ·exact hok p (List.mem_of_mem_drop hp)
  ·have:=Vv (c:=10) ((rws a).take j ++ [(rws a)[j]]++(rws a).drop j)
   rw[Vu,Vu,Wr,show tot []=0 from rfl] at this
   omega
end
section
variable {st:Zd}{k c:Nat}
theorem wds_tot (a:List Nat):tot (wds a)=a.length+1:=by
 have:=ZbV (c:=32) a []
 rw[List.length_nil,Nat.zero_add] at this
 exact this
theorem sp_word {a:List Nat}{L:Nat}{v2 v3:Option (Fr × D)}{w:Int}(h:Tok L a)(hL:L<=100000)(hw:w=5∨w=6)(B:Bag k st c)(hk:k+10<2 ^ 100):
  ∃ b st',Wh (ES c (tx a) v2 v3 (some (.z,.int w)) none none none none none) st=.rt .z (tx b) st' ∧ Tok (2 * L+40) b∧Bag (k+3) st' c:=by
 have hln:=h.ln
 have hM:M6=900000:=rfl
 have hT:Tok M6 a:=h.mono (by omega)
 have e1:=ZbR hT
 have ht:tot (rws a)=a.length+1:=by have:=ZbV (c:=10) a [];rw[List.length_nil,Nat.zero_add] at this;exact this
 have hne:=rws_ne a
 have hrl:=ZbU a
 have hok:∀ p∈rws a,okC p=true:=λp hp=>(VN hT hp).ok
 have hc:=B.lt
 have B1:=B.app (x:=(.c .z,.con .lst ((rws a).map tx)))
 have hpos:0<(rws a).length:=List.length_pos_iff.mpr hne
 obtain⟨g,s5,e2,g0,g1,_,B2,f2⟩:=pull (n:=30) ((rws a).length:Int) B1 (by omega) (by omega) (by simp;omega) (by decide)
 obtain⟨j,rfl⟩:∃ j:Nat,g=(j:Int):=⟨g.toNat,by omega⟩
 have hj:j<(rws a).length:=by omega
 have hs5:s5[st.length]?=some (.c .z,.con .lst ((rws a).map tx)):=by
  rw[f2.at_ _ (by omega),List.getElem?_append_right (Nat.le_refl _)];simp
 have hsa:(st ++ [(Fr.c .z,D.con .lst ((rws a).map tx))])[st.length]?=some (.c .z,.con .lst ((rws a).map tx)):=by
  rw[List.getElem?_append_right (Nat.le_refl _)];simp
 have lka:lk (st ++ [(Fr.c .z,D.con .lst ((rws a).map tx))]) (.ref st.length)=.con .lst ((rws a).map tx):=by simp[lk,hsa,Fr.flat]
 have lk5:lk s5 (.ref st.length)=.con .lst ((rws a).map tx):=by simp[lk,hs5,Fr.flat]
 have hrm:((rws a).map tx).length=(rws a).length:=List.length_map _
 have hlen:oLen [.con .lst ((rws a).map tx)]=some (.z,.int ((rws a).length:Int)):=by
  have:((rws a).map tx).length<=16777216:=by rw[List.length_map];omega
  simp[hrm]
 have c4:=ix_ls hj
 have hrow:=List.getElem_mem hj
 have tm:=tot_mem hrow
 have hrT:Tok M6 (rws a)[j]:=VN hT hrow
 -- the words
 have e3:=Uc hrT
 have htw:=wds_tot (rws a)[j]
 have hwn:=Zbt (rws a)[j]
 have hwl:=VM (rws a)[j]
 have hwok:∀ p∈wds (rws a)[j],okC p=true:=λp hp=>(Vc hrT hp).ok
 have hwpos:0<(wds (rws a)[j]).length:=List.length_pos_iff.mpr hwn
 obtain⟨g2,s6,e4,g02,g12,_,B3,f3⟩:=pull (n:=30) ((wds (rws a)[j]).length:Int) B2 (by omega) (by omega) (by simp;omega) (by decide)
 obtain⟨i,rfl⟩:∃ i:Nat,g2=(i:Int):=⟨g2.toNat,by omega⟩
 obtain⟨g3,d,s7,e5,u1,u2,u3,B4,f4⟩:=f_l_one (n:=8) (ds:=oddL) B3 (by omega) (by simp) (by simp) (by decide)
 obtain⟨x,rfl,hx,hxl⟩:=odd_mem (List.mem_of_getElem? u2)
 have hs6:s6[st.length]?=some (.c .z,.con .lst ((rws a).map tx)):=by rw[f3.at_ _ (by omega)];exact hs5
 have hs7:s7[st.length]?=some (.c .z,.con .lst ((rws a).map tx)):=by rw[f4.at_ _ (by omega)];exact hs6
 generalize hrr:(rws a)[j]=row at *
 generalize hW:wds row=W at *
 have hwlen:oLen [.con .lst (W.map tx)]=some (.z,.int (W.length:Int)):=by
  have:(W.map tx).length<=16777216:=by rw[List.length_map];omega
  have h2:(W.map tx).length=W.length:=List.length_map _
  simp[h2]
 have c1:=slH_ls (ps:=W) (j:=i) (by omega)
 have c2:=slL_ls (ps:=W) (j:=i) (by omega)
 have c3:=slL_ls (ps:=W) (j:=i+1) (by omega)
 rw[show ((i+1:Nat):Int)=(i:Int)+1 by omega] at c3
 have tc:=tot_cut W i
 have td:=tot_drop W i
 have hix:ixN (rws a).length (j:Int)=some j:=by
  have:(j:Int)<((rws a).length:Int):=by omega
  simp[ixN,this]
 have lks:∀ st (x:List Nat),lk st (tx x)=tx x:=λ_ _=>rfl
 -- the row as it becomes
 have main:∀ nr:List Nat,okC nr=true->nr.length<=row.length+13->∀ (st':Zd),st'[st.length]?=some (.c .z,.con .lst ((rws a).map tx))->Bag (k+3) st' c ->
   ∃ b st2,Vr [some (.z,.ref c),some (.z,.str (SX.S a)),v2,v3,some (.z,.int w),some (.z,.ref st.length),some (.z,.int (j:Int)),some (.z,.con .lst (W.map tx)),some (.z,.int (i:Int)),some (.z,.con .lst oddL)] (st'.set st.length (.c .z,.con .lst (((rws a).map tx).set j (tx nr))))=.rt .z (tx b) st2∧Tok (2 * L+40) b∧Bag (k+3) st2 c:=λnr hnr hnl st' hst' Bs=>by
  have hset:((rws a).map tx).set j (tx nr)=((rws a).set j nr).map tx:=by rw[List.map_set]
  rw[hset]
  have ts:=tot_set (rws a) j nr
  have jo:=US (c:=10) (ps:=(rws a).set j nr) (k:=.lst) rfl (by omega)
  have jo:Wn (Str.ofString "\n") [.con .lst (((rws a).set j nr).map tx)]=some (.z,tx (TL.joinL [10] ((rws a).set j nr))):=jo
  have hlt:st.length<st'.length:=(List.getElem?_eq_some_iff.mp hst').1
  have lkn:lk (st'.set st.length (.c .z,.con .lst (((rws a).set j nr).map tx))) (.ref st.length)=.con .lst (((rws a).set j nr).map tx):=by simp[lk,List.getElem?_set_self hlt,Fr.flat]
  refine⟨TL.joinL [10] ((rws a).set j nr),st'.set st.length (.c .z,.con .lst (((rws a).set j nr).map tx)),?_,⟨Vy (by decide) λp hp=>?_,?_⟩,Bs.set (by omega)⟩
  ·generalize tx (TL.joinL [10] ((rws a).set j nr))=R at *
   generalize ((rws a).set j nr).map tx=R1 at *
   generalize st'.set st.length (.c .z,.con .lst R1)=S2 at *
   simp[-Wn,lkn,jo]
  ·rcases List.mem_or_eq_of_mem_set hp with hp | rfl
   ·exact hok p hp
   ·exact hnr
  ·have:=Vv (c:=10) ((rws a).set j nr)
   omega
 have hsetl:∀ {X:Fr × D} {S:Zd} {m:Nat},True:=λ{_ _ _}=>trivial
 have ok3:∀ {A B:List (List Nat)},(∀ p∈A,okC p=true)->(∀ p∈B,okC p=true)->∀ p∈A ++ [x]++B,okC p=true:=λ{A B} hA hB p hp=>by
  rcases List.mem_append.mp hp with hp | hp
  ·rcases List.mem_append.mp hp with hp | hp
   ·exact hA p hp
   ·rw[List.mem_singleton.mp hp];exact hx
  ·exact hB p hp
 have lx:=λst=>lks st x
 have hadd1:=Zbs (x:=(W.take i).map tx) (y:=[tx x]) (by rw[List.length_map,List.length_take];simp;omega)
 rw[show (W.take i).map tx ++ [tx x]=(W.take i ++ [x]).map tx from by rw[List.map_append];rfl] at hadd1
 show ∃ b st',Wh [some (.z,.ref c),some (.z,.str (SX.S a)),v2,v3,some (.z,.int w),none,none,none,none,none] st=.rt .z (tx b) st' ∧ Tok (2 * L+40) b∧Bag (k+3) st' c
 have e3:Zq (SX.S row) [.str (Str.ofString " ")]=some (.c .z,.con .lst (W.map tx)):=e3
 have c4:oIx [.con .lst ((rws a).map tx),.int (j:Int)]=some (.z,.str (SX.S row)):=c4
 have e5:Uh [(.z,.ref c),(.z,.con .lst oddL)] s6=.ok .z false (tx x) s7:=e5
 rcases hw with rfl | rfl
 ·have hadd2:=Zbs (x:=(W.take i ++ [x]).map tx) (y:=(W.drop i).map tx) (by rw[List.length_map,List.length_map,List.length_append,List.length_take,List.length_drop];simp;omega)
  rw[<- List.map_append] at hadd2
  have htt:tot (W.take i ++ [x]++W.drop i)<=row.length+13:=by rw[Vu,Vu,Wr,show tot []=0 from rfl];omega
  have jo:=US (c:=32) (ps:=W.take i ++ [x]++W.drop i) (k:=.lst) rfl (by omega)
  have jo:Wn (Str.ofString " ") [.con .lst ((W.take i ++ [x]++W.drop i).map tx)]=some (.z,tx (TL.joinL [32] (W.take i ++ [x]++W.drop i))):=jo
  obtain⟨b,st2,e6,hb,Bb⟩:=main (TL.joinL [32] (W.take i ++ [x]++W.drop i)) (Vy (by decide) (ok3 (λp hp=>hwok p (List.mem_of_mem_take hp)) (λp hp=>hwok p (List.mem_of_mem_drop hp)))) (by
   have:=Vv (c:=32) (W.take i ++ [x]++W.drop i)
   omega) s7 hs7 B4
  refine⟨b,st2,?_,hb,Bb⟩
  have lj:=λst=>lks st (TL.joinL [32] (W.take i ++ [x]++W.drop i))
  generalize tx (TL.joinL [32] (W.take i ++ [x]++W.drop i))=R at *
  generalize (W.take i ++ [x]++W.drop i).map tx=R1 at *
  generalize (W.take i ++ [x]).map tx=R2 at *
  generalize (W.take i).map tx=R3 at *
  generalize (W.drop i).map tx=R4 at *
  generalize hWT:W.map tx=WT at *
  generalize tx b=TB at *
  generalize tx x=TX at *
  generalize hRR:(rws a).map tx=RR at *
  generalize (W.length:Int)=N2 at *
  generalize SX.S a=A at *
  generalize SX.S row=RO at *
  rw[<- hrm] at hix
  generalize ((rws a).length:Int)=N at *
  have hlkw:∀ s,lk s (.con .lst WT)=.con .lst WT:=λ_=>rfl
  simp[-oAdd,-Zq,-oLen,-oIx,-Wn,-Vr,e1,hlen,e2,e3,hwlen,e4,e5,lka,lk5,c1,c2,c4,hadd1,hadd2,jo,lx,lj,hs7,hix,e6,add_int]
 ·have hadd2:=Zbs (x:=(W.take i ++ [x]).map tx) (y:=(W.drop (i+1)).map tx) (by rw[List.length_map,List.length_map,List.length_append,List.length_take,List.length_drop];simp;omega)
  rw[<- List.map_append] at hadd2
  have htt:tot (W.take i ++ [x]++W.drop (i+1))<=row.length+13:=by rw[Vu,Vu,Wr,show tot []=0 from rfl];omega
  have jo:=US (c:=32) (ps:=W.take i ++ [x]++W.drop (i+1)) (k:=.lst) rfl (by omega)
  have jo:Wn (Str.ofString " ") [.con .lst ((W.take i ++ [x]++W.drop (i+1)).map tx)]=some (.z,tx (TL.joinL [32] (W.take i ++ [x]++W.drop (i+1)))):=jo
  obtain⟨b,st2,e6,hb,Bb⟩:=main (TL.joinL [32] (W.take i ++ [x]++W.drop (i+1))) (Vy (by decide) (ok3 (λp hp=>hwok p (List.mem_of_mem_take hp)) (λp hp=>hwok p (List.mem_of_mem_drop hp)))) (by
   have:=Vv (c:=32) (W.take i ++ [x]++W.drop (i+1))
   omega) s7 hs7 B4
  refine⟨b,st2,?_,hb,Bb⟩
  have lj:=λst=>lks st (TL.joinL [32] (W.take i ++ [x]++W.drop (i+1)))
  generalize tx (TL.joinL [32] (W.take i ++ [x]++W.drop (i+1)))=R at *
  generalize (W.take i ++ [x]++W.drop (i+1)).map tx=R1 at *
  generalize (W.take i ++ [x]).map tx=R2 at *
  generalize (W.take i).map tx=R3 at *
  generalize (W.drop (i+1)).map tx=R4 at *
  generalize hWT:W.map tx=WT at *
  generalize tx b=TB at *
  generalize tx x=TX at *
  generalize hRR:(rws a).map tx=RR at *
  generalize (W.length:Int)=N2 at *
  generalize SX.S a=A at *
  generalize SX.S row=RO at *
  rw[<- hrm] at hix
  generalize ((rws a).length:Int)=N at *
  have hlkw:∀ s,lk s (.con .lst WT)=.con .lst WT:=λ_=>rfl
  simp[-oAdd,-Zq,-oLen,-oIx,-Wn,-Vr,e1,hlen,e2,e3,hwlen,e4,e5,lka,lk5,c1,c3,c4,hadd1,hadd2,jo,lx,lj,hs7,hix,e6,add_int]
theorem f_l_spoilt {a:List Nat}{L:Nat}(h:Tok L a)(hL:L<=100000)(B:Bag k st c)(hk:k+20<2 ^ 100):
  ∃ b st',VX [(.z,.ref c),(.z,tx a)] st=.ok .z false (tx b) st' ∧ Tok (2 * L+40) b∧Bag (k+6) st' c:=by
 have hln:=h.ln
 obtain⟨g1,s1,e1,a1,b1,_,B,_⟩:=pull (n:=30) ((a.length:Int)+1) B (by omega) (by omega) (by omega) (by decide)
 obtain⟨g2,s2,e2,a2,b2,_,B,_⟩:=pull (n:=8) 10 B (by omega) (by decide) (by decide) (by decide)
 obtain⟨g3,s3,e3,a3,b3,_,B,_⟩:=pull (n:=8) 7 B (by omega) (by decide) (by decide) (by decide)
 obtain⟨j,rfl⟩:∃ j:Nat,g1=(j:Int):=⟨g1.toNat,by omega⟩
 obtain⟨s,es,hs⟩:=sign10 a2 b2
 have hlen:oLen [tx a]=some (.z,.int (a.length:Int)):=by
  have h1:(SX.S a).length=a.length:=SX.S_len _
  have h2:(SX.S a).length<=16777216:=by omega
  show oLen [.str (SX.S a)]=_
  rw[<- h1]
  generalize SX.S a=A at *
  simp[h2]
 have key:∀ b st',Wh (ES c (tx a) (some (.z,.int (j:Int))) (some (.z,tx [s])) (some (.z,.int g3)) none none none none none) s3=.rt .z (tx b) st' -> VX [(.z,.ref c),(.z,tx a)] st=.ok .z false (tx b) st':=λb st' e4=>by
  unfold ES at e4
  have la:∀ s,lk s (tx a)=tx a:=λ_=>rfl
  generalize tx b=TB at *
  generalize tx a=A at *
  generalize tx [s]=S at *
  generalize (a.length:Int)=N at *
  simp[-oLen,-oIx,-Wh,VX,hlen,e1,e2,e3,es,e4,la]
 by_cases c3:g3<3
 ·obtain⟨b,e4,hb⟩:=sp_way (st:=s3) (c:=c) (s:=s) (j:=j) h hL hs (by omega) a3 c3
  exact⟨b,s3,key b s3 e4,hb,B.mono (by omega)⟩
 ·by_cases c5:g3<5
  ·obtain⟨b,st',e4,hb,B'⟩:=sp_row (v2:=some (.z,.int (j:Int))) (v3:=some (.z,tx [s])) (w:=g3) h hL (by omega) B (by omega)
   exact⟨b,st',key b st' e4,hb,B'.mono (by omega)⟩
  ·obtain⟨b,st',e4,hb,B'⟩:=sp_word (v2:=some (.z,.int (j:Int))) (v3:=some (.z,tx [s])) (w:=g3) h hL (by omega) B (by omega)
   exact⟨b,st',key b st' e4,hb,B'.mono (by omega)⟩
end
end Hx
namespace L54
open PySem PySem.Spec L2 Hx
theorem lc_drawB {α:Type}{p:Pat}{el:Den}{env:Hx.Env}{g:α->D}{P:α->Prop}{w c K:Nat}(hd:∀ k st d,k+w<=K->Bag k st c->∃ env1 x st',ZX p .z d env=some env1∧el env1 st=.ok .z false (g x) st' ∧ P x∧Bag (k+w) st' c):
  ∀ (items:List D) (k:Nat) (st:Zd) (acc:List D),Bag k st c->k+w * items.length<=K ->
  ∃ (xs:List α) (st':Zd),lcGo p dYes el items env st acc=.ok (.c .z) false (.con .lst (acc++xs.map g)) st' ∧ xs.length=items.length∧(∀ x∈xs,P x)∧Bag (k+w * items.length) st' c
 | [],k,st,acc,B,hk=>⟨[],st,by simp[lcGo],rfl,λ_ h=>absurd h (by simp),B⟩
 | d :: items,k,st,acc,B,hk=>by
  rw[List.length_cons,Nat.mul_succ] at hk
  obtain⟨env1,x,s1,e1,e2,px,B1⟩:=hd k st d (by omega) B
  obtain⟨xs,s2,e3,hl,pxs,B2⟩:=lc_drawB hd items (k+w) s1 (acc ++ [g x]) B1 (by omega)
  refine⟨x :: xs,s2,?_,by simp[hl],λy hy=>?_,?_⟩
  ·rw[lcGo,e1]
   simp[dYes,e2,e3]
  ·rcases List.mem_cons.mp hy with rfl | h
   ·exact px
   ·exact pxs y h
  ·rw[List.length_cons,Nat.mul_succ]
   rw[show k+(w * items.length+w)=k+w+w * items.length by omega]
   exact B2
abbrev O:=Option (Fr × D)
abbrev E54 (scr:D)(v2 v3 v4 v5 v6:O):Hx.Env:=[some (.z,scr),some (.z,.ref 0),v2,v3,v4,v5,v6,none]
section
variable {st:Zd}{k:Nat}{scr:D}
theorem wd_lk {d:WD}(s:Zd):lk s d.d=d.d:=by
 obtain⟨q,hq⟩:∃ q,d.d=.con .tup q:=by cases d<;>exact⟨_,rfl⟩
 rw[hq]<;>rfl
theorem draw_rowsT {env:Hx.Env}(h1:env[1]?=some (some (.z,.ref 0)))(h7:7<env.length)(n:Nat)(B:Bag k st 0)(hk:k+300 * n+800<2 ^ 100):
  ∃ (ts:List (List Nat)) (st':Zd),lcGo (.nm 7) dYes (Zu Wg [] (Za (Zu Zo [] (Za (Ze 1))))) (Zt 0 (n:Int)) env st []=.ok (.c .z) false (.con .lst (ts.map tx)) st' ∧ ts.length=n∧(∀ t∈ts,Tok 2000 t)∧Bag (k+300 * n) st' 0:=by
 have hl:(Zt 0 (n:Int)).length=n:=by rw[Zce];simp[NI]
 obtain⟨xs,s,e,l,p1,B1⟩:=lc_drawB (p:=.nm 7) (el:=Zu Wg [] (Za (Zu Zo [] (Za (Ze 1))))) (env:=env) (g:=tx) (P:=Tok 2000) (w:=300) (c:=0) (K:=k+300 * n) (λk' st' d hk' B'=>by
  obtain⟨x,s,e,hx,B2⟩:=Zbr B' (by omega)
  have e2:=Zcj hx.ok (st:=s)
  refine⟨env.set 7 (some (.z,d)),x.t,s,by simp[ZX,h7],?_,⟨hx.ok.okC,hx.ok.len⟩,B2⟩
  have hs:(env.set 7 (some (.z,d)))[1]?=some (some (.z,.ref 0)):=by
   rw[List.getElem?_set_ne (by decide)];exact h1
  have hlk:=wd_lk (d:=x) s
  generalize env.set 7 (some (.z,d))=E1 at *
  generalize tx x.t=X at *
  generalize x.d=Y at *
  simp[hs,e,e2,hlk]) (Zt 0 (n:Int)) k st [] B (by rw[hl];omega)
 rw[hl] at B1 l
 exact⟨xs,s,by rw[e];simp,l,p1,B1⟩
theorem many_add (n:Nat)(h:n<=1000):oAdd [.str (Str.ofString "many "),tx (numC (n:Int))]=some (.z,tx (Us n)):=by
 rw[cs_S]
 exact ZcJ (x:=cs "many ") (y:=numC (n:Int)) (by
  have:=ZaS (i:=(n:Int)) (by simp;omega)
  rw[show (cs "many ").length=5 from rfl];omega)
theorem bend1 {v2 v3 v4 v6:O}{a:List Nat}{L:Nat}(h:Tok L a)(hL:L<=100000)(B:Bag k st 0)(hk:k+100<2 ^ 100):
  ∃ b st',Uq (E54 scr v2 v3 v4 (some (.z,tx a)) v6) st=.nx (E54 scr v2 v3 v4 (some (.z,tx b)) v6) st' ∧ Tok (2 * L+40) b∧Bag (k+6) st' 0:=by
 obtain⟨b,st',e,hb,B'⟩:=f_l_spoilt h hL B (by omega)
 refine⟨b,st',?_,hb,B'⟩
 have hlk:∀ s,lk s (tx a)=tx a:=λ_=>rfl
 generalize tx a=A at *
 generalize tx b=R at *
 simp[Uq,e,hlk]
theorem bend {v2 v3 v4 v6:O}{a:List Nat}{g:Int}(h:Tok 10100 a)(h0:0<=g)(h1:g<3)(B:Bag k st 0)(hk:k+200<2 ^ 100):
  ∃ b w6 st',WK (.nm 6) Uq [] (Zt 0 g) (E54 scr v2 v3 v4 (some (.z,tx a)) v6) st=.nx (E54 scr v2 v3 v4 (some (.z,tx b)) w6) st' ∧ Tok M6 b∧Bag (k+12) st' 0:=by
 have hM:M6=900000:=rfl
 have:g=0∨g=1∨g=2:=by omega
 rcases this with rfl | rfl | rfl
 ·exact⟨a,v6,st,by rw[show Zt 0 0=[] from rfl];simp[WK],h.mono (by omega),B.mono (by omega)⟩
 ·obtain⟨b,s1,e1,hb,B1⟩:=bend1 (scr:=scr) (v2:=v2) (v3:=v3) (v4:=v4) (v6:=some (.z,.int 0)) h (by decide) B (by omega)
  refine⟨b,some (.z,.int 0),s1,?_,hb.mono (by omega),B1.mono (by omega)⟩
  rw[show Zt 0 1=[.int 0] from rfl]
  simp only[E54] at e1 ⊢
  generalize tx a=A at *
  generalize tx b=R at *
  simp only[WK,ZX,List.set_cons_succ,List.set_cons_zero,e1]
  simp[Uj]
 ·obtain⟨b,s1,e1,hb,B1⟩:=bend1 (scr:=scr) (v2:=v2) (v3:=v3) (v4:=v4) (v6:=some (.z,.int 0)) h (by decide) B (by omega)
  obtain⟨b2,s2,e2,hb2,B2⟩:=bend1 (scr:=scr) (v2:=v2) (v3:=v3) (v4:=v4) (v6:=some (.z,.int 1)) hb (by decide) B1 (by omega)
  refine⟨b2,some (.z,.int 1),s2,?_,hb2.mono (by omega),B2.mono (by omega)⟩
  rw[show Zt 0 2=[.int 0,.int 1] from rfl]
  simp only[E54] at e1 e2 ⊢
  generalize tx a=A at *
  generalize tx b=R at *
  generalize tx b2=R2 at *
  simp only[WK,ZX,List.set_cons_succ,List.set_cons_zero,e1]
  simp only[Uj,List.foldl_nil,WK,ZX,List.length_cons,List.length_nil,List.set_cons_succ,List.set_cons_zero,e2]
theorem due {v2 v3 v4 v6:O}{b:List Nat}(h:Tok M6 b):ZbE (E54 scr v2 v3 v4 (some (.z,tx b)) v6) st=.nx (E54 scr v2 v3 v4 (some (.z,tx b)) v6) st:=by
 have e1:=ZdI (st:=st) h
 have e2:=same_g (st:=st) h
 have e3:=tried_g (db:=Zu Wb [] (Za (Ze 0))) (cd:=[tx b]) (r:=VY b) (st:=st) (by
  have e:=Zbi (st:=st) h
  have hlk:∀ s,lk s (tx b)=tx b:=λ_=>rfl
  have hf:∀ r:D ⊕ Nat,(∃ d,finX r st=.ok .z false d st)∨∃ c d,finX r st=.exc c d st:=λr=>by cases r<;>simp[finX]
  rcases hf (VY b) with ⟨d,hd⟩ | ⟨c,d,hd⟩
  ·rw[hd] at e ⊢
   generalize tx b=R at *
   simp[e,hlk]
  ·rw[hd] at e ⊢
   generalize tx b=R at *
   simp[e,hlk])
 have hlk:∀ s,lk s (tx b)=tx b:=λ_=>rfl
 have hlr:∀ s,lk s (resD (VY b))=resD (VY b):=λ_=>by cases VY b<;>rfl
 simp only[E54]
 generalize tx b=R at *
 generalize resD (VY b)=X at *
 simp[-UM,e1,e2,e3,hlk,hlr,dLam,capt]
theorem rest {v2 v4 v5 v6:O}{ps:List (List Nat)}(hp:∀ p∈ps,okC p=true)(ht:tot ps<=10100)(B:Bag k st 0)(hk:k+400<2 ^ 100):
  ∃ w5 w6 st',Uo (E54 scr v2 (some (.z,.con .lst (ps.map tx))) v4 v5 v6) st=.nx (E54 scr v2 (some (.z,.con .lst (ps.map tx))) v4 w5 w6) st' ∧ Bag (k+20) st' 0:=by
 have jo:=US (c:=10) (ps:=ps) (k:=.lst) rfl (by omega)
 have jo:Wn (Str.ofString "\n") [.con .lst (ps.map tx)]=some (.z,tx (TL.joinL [10] ps)):=jo
 have h0:Tok 10100 (TL.joinL [10] ps):=⟨Vy (by decide) hp,by have:=Vv (c:=10) ps;omega⟩
 obtain⟨g,s1,e1,g0,g1,_,B1,_⟩:=pull (n:=8) 3 B (by omega) (by decide) (by decide) (by decide)
 obtain⟨b,w6,s2,e2,hb,B2⟩:=bend (scr:=scr) (v2:=v2) (v3:=some (.z,.con .lst (ps.map tx))) (v4:=v4) (v6:=v6) h0 g0 g1 B1 (by omega)
 have e3:=due (scr:=scr) (st:=s2) (v2:=v2) (v3:=some (.z,.con .lst (ps.map tx))) (v4:=v4) (v6:=w6) hb
 refine⟨some (.z,tx b),w6,s2,?_,B2.mono (by omega)⟩
 have hs:Wq g=true:=by unfold Wq;simp;omega
 have hlk:∀ s,lk s (tx (TL.joinL [10] ps))=tx (TL.joinL [10] ps):=λ_=>rfl
 simp only[E54] at e2 e3 ⊢
 generalize ps.map tx=PS at *
 generalize tx (TL.joinL [10] ps)=A at *
 generalize tx b=R at *
 simp[-Wn,-ZbE,dFor,jo,e1,e2,e3,hs,hlk]
theorem body {v2 v3 v4 v5 v6:O}(B:Bag k st 0)(hk:k+4000<2 ^ 100):∃ w3 w4 w5 w6 st',ZaB (E54 scr v2 v3 v4 v5 v6) st=.nx (E54 scr v2 w3 w4 w5 w6) st' ∧ Bag (k+2500) st' 0:=by
 obtain⟨d,s1,e1,g,B⟩:=Zbr B (by omega)
 have e2:=Zcj g.ok (st:=s1)
 obtain⟨n,s2,e3,n0,n1,_,B,f2⟩:=pull (n:=8) 3 B (by omega) (by decide) (by decide) (by decide)
 have hld:=wd_lk (d:=d)
 have hlt:∀ s,lk s (tx d.t)=tx d.t:=λ_=>rfl
 have hok:=g.ok.okC
 have hln:=g.ok.len
 by_cases c:n=0
 ·subst c
  obtain⟨m,s3,e4,m0,m1,_,B,f3⟩:=pull (n:=8) 5 B (by omega) (by decide) (by decide) (by decide)
  have hm:((m.toNat:Nat):Int)=m:=by omega
  obtain⟨ts,s4,e5,hl,gd,B⟩:=draw_rowsT (env:=E54 scr v2 (some (.z,.con .lst [tx d.t])) v4 v5 v6) rfl (by simp) m.toNat B (by omega)
  rw[hm] at e5
  have hs2:Wq m=true:=by unfold Wq;simp;omega
  have hl2:(Zt 0 m).length<=16777215:=by rw[<- hm,Zce];simp[NI];omega
  have htt:∀ l:List (List Nat),(∀ t∈l,Tok 2000 t)->tot l<=2001 * l.length:=λl=>by
   induction l with
   | nil=>intro _;simp[tot]
   | cons t l ih=>
    intro hh
    have h1:=ih λx hx=>hh x (by simp[hx])
    have h2:=(hh t (by simp)).ln
    rw[Wr,List.length_cons]
    omega
  have h3:=htt ts gd
  have h4:=manyC_len (n:=ts.length) (by omega)
  obtain⟨w5,w6,s5,e6,B⟩:=rest (scr:=scr) (v2:=v2) (v4:=some (.z,.con .lst (ts.map tx))) (v5:=v5) (v6:=v6) (ps:=Us ts.length :: ts) (λp hp=>by
   rcases List.mem_cons.mp hp with rfl | hp
   ·exact manyC_ok _
   ·exact (gd p hp).ok) (by rw[Wr];omega) B (by omega)
  refine⟨some (.z,.con .lst (tx (Us ts.length) :: ts.map tx)),some (.z,.con .lst (ts.map tx)),w5,w6,s5,?_,B.mono (by omega)⟩
  have e8:=str_num (i:=(ts.length:Int)) (by simp;omega)
  have e9:=many_add ts.length (by omega)
  have hT:(ts.map tx).length=ts.length:=by simp
  have hlen:oLen [.con .lst (ts.map tx)]=some (.z,.int (ts.length:Int)):=by
   have:(ts.map tx).length<=16777216:=by omega
   simp[hT]
  have e11:=Zbs (x:=[tx (Us ts.length)]) (y:=ts.map tx) (by rw[hT];simp;omega)
  have hlk:∀ s,lk s (tx (Us ts.length))=tx (Us ts.length):=λ_=>rfl
  have hlk2:∀ s,lk s (tx (numC (ts.length:Int)))=tx (numC (ts.length:Int)):=λ_=>rfl
  rw[List.map_cons] at e6
  rw[List.singleton_append] at e11
  simp only[E54] at e5 e6 ⊢
  generalize tx (Us ts.length)=M at *
  generalize tx (numC (ts.length:Int))=N at *
  generalize ts.map tx=TT at *
  generalize tx d.t=X at *
  generalize d.d=Y at *
  generalize (ts.length:Int)=NN at *
  simp[-oAdd,-oStr,-oLen,-Uo,ZaB,e1,e2,e3,e4,e5,e8,e9,e11,hld,hlt,hlen,dLc,Zy,hs2,hl2,hlk,hlk2,e6]
 ·obtain⟨w5,w6,s5,e6,B⟩:=rest (scr:=scr) (v2:=v2) (v4:=v4) (v5:=v5) (v6:=v6) (ps:=[d.t]) (λp hp=>by rw[List.mem_singleton.mp hp];exact hok) (by rw[Wr,show tot []=0 from rfl];omega) B (by omega)
  refine⟨some (.z,.con .lst [tx d.t]),v4,w5,w6,s5,?_,B.mono (by omega)⟩
  rw[List.map_cons,List.map_nil] at e6
  simp only[E54] at e6 ⊢
  generalize tx d.t=X at *
  generalize d.d=Y at *
  simp[-Uo,ZaB,e1,e2,e3,hld,hlt,c,e6]
theorem loop {scr:D}:∀ (items:List D) (k:Nat) (st:Zd) (v2 v3 v4 v5 v6:O),Bag k st 0->k+2500 * items.length+5000<2 ^ 100 ->
  ∃ w2 w3 w4 w5 w6 st',WK (.nm 2) ZaB [] items (E54 scr v2 v3 v4 v5 v6) st=.nx (E54 scr w2 w3 w4 w5 w6) st'
 | [],k,st,v2,v3,v4,v5,v6,B,_=>⟨v2,v3,v4,v5,v6,st,by simp[WK]⟩
 | x :: items,k,st,v2,v3,v4,v5,v6,B,hk=>by
  rw[List.length_cons] at hk
  obtain⟨w3,w4,w5,w6,s1,e1,B1⟩:=body (scr:=scr) (v2:=some (.z,x)) (v3:=v3) (v4:=v4) (v5:=v5) (v6:=v6) B (by omega)
  obtain⟨u2,u3,u4,u5,u6,s2,e2⟩:=loop items (k+2500) s1 (some (.z,x)) w3 w4 w5 w6 B1 (by omega)
  refine⟨u2,u3,u4,u5,u6,s2,?_⟩
  rw[<- e2]
  simp only[E54] at e1 ⊢
  simp only[WK,ZX,List.set_cons_succ,List.set_cons_zero,e1]
  simp[Uj]
theorem f_law (ns:List Int)(hl:ns.length<=63):∃ st,Zhp [(.z,.con .frl (ns.map D.int))] []=.ok .z false (.bl true) st:=by
 obtain⟨dd,e,B⟩:=law_bag ns hl
 obtain⟨w2,w3,w4,w5,w6,s1,e1⟩:=loop (scr:=.con .frl (ns.map D.int)) (Zt 0 8) 0 _ none none none none none B (by rw[show (Zt 0 8).length=8 from rfl];omega)
 have hr:Wb [(.z,.str (Str.ofString ""))] s1=.exc 15 [.str (Str.ofString "badtext"),.int 0] s1:=by
  have:=Zbi (a:=[]) (st:=s1) ⟨rfl,by decide⟩
  rw[read_empty,e_tx] at this
  exact this
 have e3:=tried_g (db:=Zu Wb [] (Za (dC (.str (Str.ofString ""))))) (cd:=[]) (r:=.inr 0) (st:=s1) (by
  show _=Res.exc 15 [.str (Str.ofString "badtext"),.int 0] s1
  simp[hr])
 have hq:oEq [.con .tup [.str (Str.ofString "badtext"),.int 0],.con .tup [.str (Str.ofString "badtext"),.int 0]]=some (.z,.bl true):=by
  have hn:nb 64 (.con .tup [.str (Str.ofString "badtext"),.int 0])=true:=by
   show (PyData.strOk (Str.ofString "badtext")&&true)=true
   rw[show PyData.strOk (Str.ofString "badtext")=true from ZM (a:=cs "badtext") (by decide)]<;>rfl
  obtain⟨b,e,h⟩:=eqD_nb hn hn
  rw[h.mpr rfl] at e
  exact ZaM e
 have e3:∀ f:Addr,Vw (oneL f 0 (UM (Zu Wb [] (Za (dC (.str (Str.ofString ""))))) [])) [(.z,.fnv f 0)] s1=.ok .z false (.con .tup [.str (Str.ofString "badtext"),.int 0]) s1:=e3
 have hs:Wq 8=true:=by decide
 refine⟨s1,?_⟩
 simp only[E54] at e1
 simp[-UM,-oEq,Zhp,e,dFor,hs,e1,dPub,dLam,capt,e3,hq]
end
end L54
open PySem PySem.W PySem.Calls PyProof.Rows
theorem PySem.Challenge.cw_hueshade_k54_texts_of_no_deed_holds : PySem.Challenge.rw_hueshade_k54_texts_of_no_deed.Holds := by
 w_on;refine L54.hSaid λ_=>?_
 refine Hx.head_seg (r:=OpenLaw.row PySem.Challenge.rw_hueshade_k54_texts_of_no_deed) (q:=view (OpenLaw.row PySem.Challenge.rw_hueshade_k54_texts_of_no_deed).prog [35]) (H:=L54.hH) (loose:=L54.hloose) (d:=HandSHeadRun.topDef (OpenLaw.row PySem.Challenge.rw_hueshade_k54_texts_of_no_deed).prog 35) (kwd:=[])
  (Hx.left_seg (T:=L54.Tp.fin) (n:=271) (life:={}) (d:={}) (k:=580) (by kernel_rfl) (λs=>by kernel_rfl) L54.Tp.size L54.Tp.run L54.hE1 L54.hE2 L54.hE34) (by kernel_rfl) (by kernel_rfl) (by kernel_rfl) (by rfl) (by first | assumption | decide +kernel) (by decide +kernel) (show PySem.Program.bare _ from L54.hBare) ?hw ?hc
 case hw=>w_witness2
 case hc=>
  refine Hx.law_endT ["law"] (l:=PySem.Challenge.rw_hueshade_k54_texts_of_no_deed) (n:=63) (k:=62) (x:="_law_script") rfl (by decide) (by kernel_rfl) ⟨rfl,by decide,by decide⟩ (by kernel_rfl) ?F
  intro w mg fa h Y Gn hmg0
  obtain⟨K,KX,c,cx,ht⟩:=Y
  have cx:=L54.cx_of cx
  have hmg:mg ("law":PySem.Str)=some (.ref fa):=by
   have e:(HandSHeadRun.topDef (OpenLaw.row PySem.Challenge.rw_hueshade_k54_texts_of_no_deed).prog 35).name=("law":PySem.Str):=by kernel_rfl
   rw[<- e]
   exact hmg0
  obtain⟨fd,hb,hF⟩:=L54.facts (P:=(PySem.Challenge.rw_hueshade_k54_texts_of_no_deed).prog) (w:=w) KX Gn hmg c ht cx
  exact⟨K,fd,Hx.SpF (Hx.S1 (PySem.Challenge.rw_hueshade_k54_texts_of_no_deed).prog w K mg h [0,1,2,15,18,19,22] ["law"]).G 1 L54.Zhp,KX,cx.2.2.1,hb,λH a ns hl hT hS=>by
   obtain⟨st,e⟩:=L54.f_law ns hl
   exact Hx.law_sp (G:=(Hx.S1 (PySem.Challenge.rw_hueshade_k54_texts_of_no_deed).prog w K mg h [0,1,2,15,18,19,22] ["law"]).G) hS hT (λ_=>rfl) e,hF⟩
